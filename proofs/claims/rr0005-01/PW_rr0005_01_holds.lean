import PyProof.Rows.All
import KE.KLam
import KE.KSuper
import Wide.FinOn
import OpenK.AllK
import Wide.All
import Lean
import PySem.Challenge.RW_rr0005_01
set_option Elab.async false
set_option linter.unusedVariables false
set_option maxRecDepth 100000
set_option bootstrap.genMatcherCode false
set_option compiler.extract_closed false
section
open PySem PySem.W PyProof.Rows
namespace Mine
noncomputable abbrev pw : Program := PySem.Challenge.pw_rr0005_01
noncomputable def st (i : Nat) : Stmt := (pw.main.body[i]?).getD (.Pass ⟨0, 0, 0, 0⟩)
noncomputable def sub (i j : Nat) : Stmt := match st i with
 | .ClassDef _ _ _ b _ _ _ _ _ _ _ => (b[j]?).getD (.Pass ⟨0, 0, 0, 0⟩)
 | s => s
noncomputable abbrev nn : Value := .none
noncomputable abbrev vs (s : Str) (t : Nat) : Value := .str s t
noncomputable def tl (l : List Value) : Obj := { cls := .type "tuple", data := .seq l.toArray }
noncomputable def fl (c : Value) (l : List Value) : Obj := { cls := c, data := .fields l.toArray }
noncomputable def en (P : Params) (s : Str) (t : Nat) (v : Value) : DictEntry := ⟨PyData.keyHash P s, .str s t, v⟩
noncomputable def tmF (s : Stmt) (qual : Str) : FuncData := match s with
 | .FunctionDef name p body _ _ _ scope _ _ _ => { name, qualname := qual, params := p, body := .stmts body, scope, globals := 0, closure := [], defaults := .none, kwdefaults := .none }
 | _ => default
noncomputable def fnF (s : Stmt) (qual : Str) (cl : List (Str × Addr)) (dv pm cd ct : Value) : FuncData :=
 { tmF s qual with globals := 3, closure := cl, defaults := dv, pyModule := pm, code := cd, closureTuple := ct }
noncomputable def tmpl (i j : Nat) (qual : Str) : Obj := { cls := .none, data := .func (tmF (sub i j) qual) }
noncomputable abbrev fnD (i j : Nat) (qual : Str) (cl : List (Str × Addr)) (dv pm cd ct : Value) : FuncData := fnF (sub i j) qual cl dv pm cd ct
noncomputable def nms : List Str → Nat → List Value
 | [], _ => []
 | x :: r, t => .str x t :: nms r (t + 1)
noncomputable def cls4 (P : Params) : List Obj := [
 tl [(.type "Exception")],
 fl (.type "builtin_function_or_method") [(.builtin "type.__prepare__"), (.type "type")],
 { cls := (.type "dict"), data := .dict #[en P "__module__" 207 (vs "basicplus.values" 194), en P "__qualname__" 209 (vs "BasicError" 208), en P "__firstlineno__" 211 (.int 7 210), en P "__init__" 222 (.ref 38), en P "__static_attributes__" 225 (.ref 39), en P "__classcell__" 226 (.ref 25)] 6 },
 { cls := (.type "cell"), data := .cell (some (.ref 41)) },
 tl [],
 fl nn [(rawInt 9), (rawInt 4), (.ref 37)],
 fl (.type "code") [(vs "BasicError" 202), (vs "BasicError" 203), (vs "/claim/cut.py" 204), (rawInt 7), (rawInt 0), (rawInt 0), (rawInt 0), (rawInt 0), (.ref 26), (.bool false), (rawInt 181), (.ref 27), nn, nn, nn, nn, (rawInt 205), (rawInt 7), (vs "/claim/cut.py" 206)],
 { cls := (.type "frame"), slots := #[some (.ref 28), some (.ref 3), some (.ref 24), none, some (vs "basicplus.values" 194), none, some (.ref 0)] },
 tl [(vs "" 212)],
 tl [(.ref 25)],
 tl [(vs "__class__" 216)],
 fl nn [],
 tl [(vs "self" 217), (vs "code" 218), (vs "told" 219)],
 tl [],
 tmpl 4 0 "BasicError.__init__",
 fl (.type "code") [(vs "__init__" 213), (vs "BasicError.__init__" 214), (vs "/claim/cut.py" 215), (rawInt 9), (rawInt 3), (rawInt 0), (rawInt 0), (rawInt 3), (.ref 32), (.bool true), (rawInt 181), (.ref 33), nn, (.ref 34), (.ref 35), (.ref 36), (rawInt 220), (rawInt 9), (vs "/claim/cut.py" 221)],
 { cls := .type "function", data := .func (fnD 4 0 "BasicError.__init__" [("__class__", 25)] (.ref 30) (vs "basicplus.values" 194) (.ref 37) (.ref 31)) },
 tl [(vs "code" 223), (vs "told" 224)],
 { cls := (.type "dict"), data := .dict #[en P "__module__" 207 (vs "basicplus.values" 194), en P "__firstlineno__" 211 (.int 7 210), en P "__init__" 222 (.ref 38), en P "__static_attributes__" 225 (.ref 39), en P "__weakref__" 228 (.ref 42), en P "__doc__" 229 nn] 4 },
 { cls := (.type "type"), slots := #[some (.ref 22), none, some (vs "BasicError" 200), some (vs "BasicError" 208), some (.builtin "Exception.__new__"), some (.bool true)], data := .cls { name := "BasicError", bases := [(.type "Exception")], mro := [(.ref 41), (.type "Exception"), (.type "BaseException"), (.type "object")], ns := 40, qualname := "BasicError", hasDict := true, slotNames := [], subclasses := [], abstract := false, collection := none, hasDel := false } },
 fl (.type "getset_descriptor") [(vs "__weakref__" 227), (.ref 41), (.builtin "ExceptionGroup.__weakref__"), nn],
 fl (.type "super") [(.ref 41), (.ref 41), (.ref 41)],
 fl (.type "builtin_function_or_method") [(.builtin "object.__init_subclass__"), (.ref 41)]]
noncomputable def cls23 (P : Params) : List Obj := [
 tl [],
 fl (.type "builtin_function_or_method") [(.builtin "type.__prepare__"), (.type "type")],
 { cls := (.type "dict"), data := .dict #[en P "__module__" 389 (vs "basicplus.world" 380), en P "__qualname__" 391 (vs "World" 390), en P "__firstlineno__" 393 (.int 107 392), en P "__init__" 410 (.ref 178), en P "__static_attributes__" 439 (.ref 179)] 5 },
 tl [],
 fl nn [(rawInt 109), (rawInt 4), (.ref 177)],
 fl (.type "code") [(vs "World" 384), (vs "World" 385), (vs "/claim/cut.py" 386), (rawInt 107), (rawInt 0), (rawInt 0), (rawInt 0), (rawInt 0), (.ref 167), (.bool false), (rawInt 181), (.ref 168), nn, nn, nn, nn, (rawInt 387), (rawInt 107), (vs "/claim/cut.py" 388)],
 { cls := (.type "frame"), slots := #[some (.ref 169), some (.ref 3), some (.ref 166), none, some (vs "basicplus.world" 380), none, some (.ref 0)] },
 tl [(.int 16 394), (.int 9 395), (.int 2000 396), (.int 20 397), (.int 2000 398)],
 tl [],
 fl nn [],
 tl [(vs "self" 402), (vs "bits" 403), (vs "digits" 404), (vs "most_steps" 405), (vs "most_depth" 406), (vs "room" 407)],
 tl [],
 tmpl 23 0 "World.__init__",
 fl (.type "code") [(vs "__init__" 399), (vs "World.__init__" 400), (vs "/claim/cut.py" 401), (rawInt 109), (rawInt 6), (rawInt 0), (rawInt 0), (rawInt 3), (.ref 172), (.bool true), (rawInt 181), (.ref 173), nn, (.ref 174), (.ref 175), (.ref 176), (rawInt 408), (rawInt 109), (vs "/claim/cut.py" 409)],
 { cls := .type "function", data := .func (fnD 23 0 "World.__init__" [] (.ref 171) (vs "basicplus.world" 380) (.ref 177) nn) },
 tl [(vs "arrays" 411), (vs "base" 412), (vs "bits" 413), (vs "common" 414), (vs "data" 415), (vs "depth" 416), (vs "digits" 417), (vs "error_code" 418), (vs "error_line" 419), (vs "fields" 420), (vs "files" 421), (vs "fns" 422), (vs "handler" 423), (vs "inputs" 424), (vs "is_handling" 425), (vs "is_traced" 426), (vs "kinds" 427), (vs "most_depth" 428), (vs "most_steps" 429), (vs "names" 430), (vs "open" 431), (vs "out" 432), (vs "room" 433), (vs "row" 434), (vs "seed" 435), (vs "spot" 436), (vs "steps" 437), (vs "traces" 438)],
 { cls := (.type "dict"), data := .dict #[en P "__module__" 389 (vs "basicplus.world" 380), en P "__firstlineno__" 393 (.int 107 392), en P "__init__" 410 (.ref 178), en P "__static_attributes__" 439 (.ref 179), en P "__dict__" 441 (.ref 182), en P "__weakref__" 443 (.ref 183), en P "__doc__" 444 nn] 4 },
 { cls := (.type "type"), slots := #[none, none, some (vs "World" 382), some (vs "World" 390), some (.builtin "object.__new__"), some (.bool true)], data := .cls { name := "World", bases := [(.type "object")], mro := [(.ref 181), (.type "object")], ns := 180, qualname := "World", hasDict := true, slotNames := [], subclasses := [], abstract := false, collection := none, hasDel := false } },
 fl (.type "getset_descriptor") [(vs "__dict__" 440), (.ref 181), (.builtin "function.__dict__"), (.builtin "function.__dict__#set")],
 fl (.type "getset_descriptor") [(vs "__weakref__" 442), (.ref 181), (.builtin "ExceptionGroup.__weakref__"), nn],
 fl (.type "super") [(.ref 181), (.ref 181), (.ref 181)],
 fl (.type "builtin_function_or_method") [(.builtin "object.__init_subclass__"), (.ref 181)]]
noncomputable def cls36 (P : Params) : List Obj := [
 tl [],
 fl (.type "builtin_function_or_method") [(.builtin "type.__prepare__"), (.type "type")],
 { cls := (.type "dict"), data := .dict #[en P "__module__" 541 (vs "basicplus.arrays" 530), en P "__qualname__" 543 (vs "Grid" 542), en P "__firstlineno__" 545 (.int 178 544), en P "__init__" 555 (.ref 260), en P "__static_attributes__" 561 (.ref 261)] 5 },
 tl [],
 fl nn [(rawInt 180), (rawInt 4), (.ref 259)],
 fl (.type "code") [(vs "Grid" 536), (vs "Grid" 537), (vs "/claim/cut.py" 538), (rawInt 178), (rawInt 0), (rawInt 0), (rawInt 0), (rawInt 0), (.ref 250), (.bool false), (rawInt 181), (.ref 251), nn, nn, nn, nn, (rawInt 539), (rawInt 178), (vs "/claim/cut.py" 540)],
 { cls := (.type "frame"), slots := #[some (.ref 252), some (.ref 3), some (.ref 249), none, some (vs "basicplus.arrays" 530), none, some (.ref 0)] },
 tl [],
 fl nn [],
 tl [(vs "self" 549), (vs "kind" 550), (vs "highs" 551), (vs "base" 552)],
 tl [],
 tmpl 36 0 "Grid.__init__",
 fl (.type "code") [(vs "__init__" 546), (vs "Grid.__init__" 547), (vs "/claim/cut.py" 548), (rawInt 180), (rawInt 4), (rawInt 0), (rawInt 0), (rawInt 3), (.ref 254), (.bool true), (rawInt 181), (.ref 255), nn, (.ref 256), (.ref 257), (.ref 258), (rawInt 553), (rawInt 180), (vs "/claim/cut.py" 554)],
 { cls := .type "function", data := .func (fnD 36 0 "Grid.__init__" [] nn (vs "basicplus.arrays" 530) (.ref 259) nn) },
 tl [(vs "base" 556), (vs "highs" 557), (vs "items" 558), (vs "kind" 559), (vs "room" 560)],
 { cls := (.type "dict"), data := .dict #[en P "__module__" 541 (vs "basicplus.arrays" 530), en P "__firstlineno__" 545 (.int 178 544), en P "__init__" 555 (.ref 260), en P "__static_attributes__" 561 (.ref 261), en P "__dict__" 563 (.ref 264), en P "__weakref__" 565 (.ref 265), en P "__doc__" 566 nn] 4 },
 { cls := (.type "type"), slots := #[none, none, some (vs "Grid" 534), some (vs "Grid" 542), some (.builtin "object.__new__"), some (.bool true)], data := .cls { name := "Grid", bases := [(.type "object")], mro := [(.ref 263), (.type "object")], ns := 262, qualname := "Grid", hasDict := true, slotNames := [], subclasses := [], abstract := false, collection := none, hasDel := false } },
 fl (.type "getset_descriptor") [(vs "__dict__" 562), (.ref 263), (.builtin "function.__dict__"), (.builtin "function.__dict__#set")],
 fl (.type "getset_descriptor") [(vs "__weakref__" 564), (.ref 263), (.builtin "ExceptionGroup.__weakref__"), nn],
 fl (.type "super") [(.ref 263), (.ref 263), (.ref 263)],
 fl (.type "builtin_function_or_method") [(.builtin "object.__init_subclass__"), (.ref 263)]]
noncomputable def cls80 (P : Params) : List Obj := [
 tl [],
 fl (.type "builtin_function_or_method") [(.builtin "type.__prepare__"), (.type "type")],
 { cls := (.type "dict"), data := .dict #[en P "__module__" 946 (vs "basicplus.control" 937), en P "__qualname__" 948 (vs "Control" 947), en P "__firstlineno__" 950 (.int 383 949), en P "__init__" 958 (.ref 528), en P "__static_attributes__" 962 (.ref 529)] 5 },
 tl [],
 fl nn [(rawInt 385), (rawInt 4), (.ref 527)],
 fl (.type "code") [(vs "Control" 941), (vs "Control" 942), (vs "/claim/cut.py" 943), (rawInt 383), (rawInt 0), (rawInt 0), (rawInt 0), (rawInt 0), (.ref 518), (.bool false), (rawInt 181), (.ref 519), nn, nn, nn, nn, (rawInt 944), (rawInt 383), (vs "/claim/cut.py" 945)],
 { cls := (.type "frame"), slots := #[some (.ref 520), some (.ref 3), some (.ref 517), none, some (vs "basicplus.control" 937), none, some (.ref 0)] },
 tl [],
 fl nn [],
 tl [(vs "self" 954), (vs "most" 955)],
 tl [],
 tmpl 80 0 "Control.__init__",
 fl (.type "code") [(vs "__init__" 951), (vs "Control.__init__" 952), (vs "/claim/cut.py" 953), (rawInt 385), (rawInt 2), (rawInt 0), (rawInt 0), (rawInt 3), (.ref 522), (.bool true), (rawInt 181), (.ref 523), nn, (.ref 524), (.ref 525), (.ref 526), (rawInt 956), (rawInt 385), (vs "/claim/cut.py" 957)],
 { cls := .type "function", data := .func (fnD 80 0 "Control.__init__" [] nn (vs "basicplus.control" 937) (.ref 527) nn) },
 tl [(vs "failed_at" 959), (vs "most" 960), (vs "pile" 961)],
 { cls := (.type "dict"), data := .dict #[en P "__module__" 946 (vs "basicplus.control" 937), en P "__firstlineno__" 950 (.int 383 949), en P "__init__" 958 (.ref 528), en P "__static_attributes__" 962 (.ref 529), en P "__dict__" 964 (.ref 532), en P "__weakref__" 966 (.ref 533), en P "__doc__" 967 nn] 4 },
 { cls := (.type "type"), slots := #[none, none, some (vs "Control" 939), some (vs "Control" 947), some (.builtin "object.__new__"), some (.bool true)], data := .cls { name := "Control", bases := [(.type "object")], mro := [(.ref 531), (.type "object")], ns := 530, qualname := "Control", hasDict := true, slotNames := [], subclasses := [], abstract := false, collection := none, hasDel := false } },
 fl (.type "getset_descriptor") [(vs "__dict__" 963), (.ref 531), (.builtin "function.__dict__"), (.builtin "function.__dict__#set")],
 fl (.type "getset_descriptor") [(vs "__weakref__" 965), (.ref 531), (.builtin "ExceptionGroup.__weakref__"), nn],
 fl (.type "super") [(.ref 531), (.ref 531), (.ref 531)],
 fl (.type "builtin_function_or_method") [(.builtin "object.__init_subclass__"), (.ref 531)]]
noncomputable def cls114 (P : Params) : List Obj := [
 tl [],
 fl (.type "builtin_function_or_method") [(.builtin "type.__prepare__"), (.type "type")],
 { cls := (.type "dict"), data := .dict #[en P "__module__" 1199 (vs "basicplus.workrun" 1188), en P "__qualname__" 1201 (vs "WorkRun" 1200), en P "__firstlineno__" 1203 (.int 548 1202), en P "__init__" 1213 (.ref 699), en P "worth" 1221 (.ref 706), en P "whole" 1229 (.ref 713), en P "value_of_name" 1237 (.ref 720), en P "item_of" 1243 (.ref 725), en P "call" 1252 (.ref 732), en P "fn" 1261 (.ref 739), en P "rows_worth" 1270 (.ref 746), en P "answered" 1279 (.ref 753), en P "assign" 1288 (.ref 760), en P "store" 1297 (.ref 767), en P "put" 1303 (.ref 772), en P "next_data" 1311 (.ref 779), en P "number_told" 1320 (.ref 786), en P "plus" 1329 (.ref 793), en P "__static_attributes__" 1337 (.ref 794)] 19 },
 tl [],
 fl nn [(rawInt 550), (rawInt 4), (.ref 698), (rawInt 559), (rawInt 4), (.ref 705), (rawInt 562), (rawInt 4), (.ref 712), (rawInt 565), (rawInt 4), (.ref 719), (rawInt 569), (rawInt 4), (.ref 724), (rawInt 574), (rawInt 4), (.ref 731), (rawInt 577), (rawInt 4), (.ref 738), (rawInt 582), (rawInt 4), (.ref 745), (rawInt 585), (rawInt 4), (.ref 752), (rawInt 591), (rawInt 4), (.ref 759), (rawInt 594), (rawInt 4), (.ref 766), (rawInt 597), (rawInt 4), (.ref 771), (rawInt 600), (rawInt 4), (.ref 778), (rawInt 603), (rawInt 4), (.ref 785), (rawInt 607), (rawInt 4), (.ref 792)],
 fl (.type "code") [(vs "WorkRun" 1194), (vs "WorkRun" 1195), (vs "/claim/cut.py" 1196), (rawInt 548), (rawInt 0), (rawInt 0), (rawInt 0), (rawInt 0), (.ref 689), (.bool false), (rawInt 181), (.ref 690), nn, nn, nn, nn, (rawInt 1197), (rawInt 548), (vs "/claim/cut.py" 1198)],
 { cls := (.type "frame"), slots := #[some (.ref 691), some (.ref 3), some (.ref 688), none, some (vs "basicplus.workrun" 1188), none, some (.ref 0)] },
 tl [],
 fl nn [],
 tl [(vs "self" 1207), (vs "world" 1208), (vs "flat" 1209), (vs "answers" 1210)],
 tl [],
 tmpl 114 0 "WorkRun.__init__",
 fl (.type "code") [(vs "__init__" 1204), (vs "WorkRun.__init__" 1205), (vs "/claim/cut.py" 1206), (rawInt 550), (rawInt 4), (rawInt 0), (rawInt 0), (rawInt 3), (.ref 693), (.bool true), (rawInt 181), (.ref 694), nn, (.ref 695), (.ref 696), (.ref 697), (rawInt 1211), (rawInt 550), (vs "/claim/cut.py" 1212)],
 { cls := .type "function", data := .func (fnD 114 0 "WorkRun.__init__" [] nn (vs "basicplus.workrun" 1188) (.ref 698) nn) },
 tl [],
 fl nn [],
 tl [(vs "self" 1217), (vs "tree" 1218)],
 tl [],
 tmpl 114 1 "WorkRun.worth",
 fl (.type "code") [(vs "worth" 1214), (vs "WorkRun.worth" 1215), (vs "/claim/cut.py" 1216), (rawInt 559), (rawInt 2), (rawInt 0), (rawInt 0), (rawInt 3), (.ref 700), (.bool true), (rawInt 181), (.ref 701), nn, (.ref 702), (.ref 703), (.ref 704), (rawInt 1219), (rawInt 559), (vs "/claim/cut.py" 1220)],
 { cls := .type "function", data := .func (fnD 114 1 "WorkRun.worth" [] nn (vs "basicplus.workrun" 1188) (.ref 705) nn) },
 tl [],
 fl nn [],
 tl [(vs "self" 1225), (vs "tree" 1226)],
 tl [],
 tmpl 114 2 "WorkRun.whole",
 fl (.type "code") [(vs "whole" 1222), (vs "WorkRun.whole" 1223), (vs "/claim/cut.py" 1224), (rawInt 562), (rawInt 2), (rawInt 0), (rawInt 0), (rawInt 3), (.ref 707), (.bool true), (rawInt 181), (.ref 708), nn, (.ref 709), (.ref 710), (.ref 711), (rawInt 1227), (rawInt 562), (vs "/claim/cut.py" 1228)],
 { cls := .type "function", data := .func (fnD 114 2 "WorkRun.whole" [] nn (vs "basicplus.workrun" 1188) (.ref 712) nn) },
 tl [],
 fl nn [],
 tl [(vs "self" 1233), (vs "word" 1234)],
 tl [],
 tmpl 114 3 "WorkRun.value_of_name",
 fl (.type "code") [(vs "value_of_name" 1230), (vs "WorkRun.value_of_name" 1231), (vs "/claim/cut.py" 1232), (rawInt 565), (rawInt 2), (rawInt 0), (rawInt 0), (rawInt 3), (.ref 714), (.bool true), (rawInt 181), (.ref 715), nn, (.ref 716), (.ref 717), (.ref 718), (rawInt 1235), (rawInt 565), (vs "/claim/cut.py" 1236)],
 { cls := .type "function", data := .func (fnD 114 3 "WorkRun.value_of_name" [] nn (vs "basicplus.workrun" 1188) (.ref 719) nn) },
 tl [],
 fl nn [],
 tmpl 114 4 "WorkRun.item_of",
 fl (.type "code") [(vs "item_of" 1238), (vs "WorkRun.item_of" 1239), (vs "/claim/cut.py" 1240), (rawInt 569), (rawInt 3), (rawInt 0), (rawInt 0), (rawInt 3), (.ref 721), (.bool true), (rawInt 181), (.ref 722), nn, nn, nn, (.ref 723), (rawInt 1241), (rawInt 569), (vs "/claim/cut.py" 1242)],
 { cls := .type "function", data := .func (fnD 114 4 "WorkRun.item_of" [] nn (vs "basicplus.workrun" 1188) (.ref 724) nn) },
 tl [],
 fl nn [],
 tl [(vs "self" 1247), (vs "word" 1248), (vs "args" 1249)],
 tl [],
 tmpl 114 5 "WorkRun.call",
 fl (.type "code") [(vs "call" 1244), (vs "WorkRun.call" 1245), (vs "/claim/cut.py" 1246), (rawInt 574), (rawInt 3), (rawInt 0), (rawInt 0), (rawInt 3), (.ref 726), (.bool true), (rawInt 181), (.ref 727), nn, (.ref 728), (.ref 729), (.ref 730), (rawInt 1250), (rawInt 574), (vs "/claim/cut.py" 1251)],
 { cls := .type "function", data := .func (fnD 114 5 "WorkRun.call" [] nn (vs "basicplus.workrun" 1188) (.ref 731) nn) },
 tl [],
 fl nn [],
 tl [(vs "self" 1256), (vs "word" 1257), (vs "args" 1258)],
 tl [],
 tmpl 114 6 "WorkRun.fn",
 fl (.type "code") [(vs "fn" 1253), (vs "WorkRun.fn" 1254), (vs "/claim/cut.py" 1255), (rawInt 577), (rawInt 3), (rawInt 0), (rawInt 0), (rawInt 3), (.ref 733), (.bool true), (rawInt 181), (.ref 734), nn, (.ref 735), (.ref 736), (.ref 737), (rawInt 1259), (rawInt 577), (vs "/claim/cut.py" 1260)],
 { cls := .type "function", data := .func (fnD 114 6 "WorkRun.fn" [] nn (vs "basicplus.workrun" 1188) (.ref 738) nn) },
 tl [],
 fl nn [],
 tl [(vs "self" 1265), (vs "word" 1266), (vs "row" 1267)],
 tl [],
 tmpl 114 7 "WorkRun.rows_worth",
 fl (.type "code") [(vs "rows_worth" 1262), (vs "WorkRun.rows_worth" 1263), (vs "/claim/cut.py" 1264), (rawInt 582), (rawInt 3), (rawInt 0), (rawInt 0), (rawInt 3), (.ref 740), (.bool true), (rawInt 181), (.ref 741), nn, (.ref 742), (.ref 743), (.ref 744), (rawInt 1268), (rawInt 582), (vs "/claim/cut.py" 1269)],
 { cls := .type "function", data := .func (fnD 114 7 "WorkRun.rows_worth" [] nn (vs "basicplus.workrun" 1188) (.ref 745) nn) },
 tl [],
 fl nn [],
 tl [(vs "self" 1274), (vs "word" 1275), (vs "args" 1276)],
 tl [],
 tmpl 114 8 "WorkRun.answered",
 fl (.type "code") [(vs "answered" 1271), (vs "WorkRun.answered" 1272), (vs "/claim/cut.py" 1273), (rawInt 585), (rawInt 3), (rawInt 0), (rawInt 0), (rawInt 3), (.ref 747), (.bool true), (rawInt 181), (.ref 748), nn, (.ref 749), (.ref 750), (.ref 751), (rawInt 1277), (rawInt 585), (vs "/claim/cut.py" 1278)],
 { cls := .type "function", data := .func (fnD 114 8 "WorkRun.answered" [] nn (vs "basicplus.workrun" 1188) (.ref 752) nn) },
 tl [],
 fl nn [],
 tl [(vs "self" 1283), (vs "target" 1284), (vs "value" 1285)],
 tl [],
 tmpl 114 9 "WorkRun.assign",
 fl (.type "code") [(vs "assign" 1280), (vs "WorkRun.assign" 1281), (vs "/claim/cut.py" 1282), (rawInt 591), (rawInt 3), (rawInt 0), (rawInt 0), (rawInt 3), (.ref 754), (.bool true), (rawInt 181), (.ref 755), nn, (.ref 756), (.ref 757), (.ref 758), (rawInt 1286), (rawInt 591), (vs "/claim/cut.py" 1287)],
 { cls := .type "function", data := .func (fnD 114 9 "WorkRun.assign" [] nn (vs "basicplus.workrun" 1188) (.ref 759) nn) },
 tl [],
 fl nn [],
 tl [(vs "self" 1292), (vs "word" 1293), (vs "value" 1294)],
 tl [],
 tmpl 114 10 "WorkRun.store",
 fl (.type "code") [(vs "store" 1289), (vs "WorkRun.store" 1290), (vs "/claim/cut.py" 1291), (rawInt 594), (rawInt 3), (rawInt 0), (rawInt 0), (rawInt 3), (.ref 761), (.bool true), (rawInt 181), (.ref 762), nn, (.ref 763), (.ref 764), (.ref 765), (rawInt 1295), (rawInt 594), (vs "/claim/cut.py" 1296)],
 { cls := .type "function", data := .func (fnD 114 10 "WorkRun.store" [] nn (vs "basicplus.workrun" 1188) (.ref 766) nn) },
 tl [],
 fl nn [],
 tmpl 114 11 "WorkRun.put",
 fl (.type "code") [(vs "put" 1298), (vs "WorkRun.put" 1299), (vs "/claim/cut.py" 1300), (rawInt 597), (rawInt 4), (rawInt 0), (rawInt 0), (rawInt 3), (.ref 768), (.bool true), (rawInt 181), (.ref 769), nn, nn, nn, (.ref 770), (rawInt 1301), (rawInt 597), (vs "/claim/cut.py" 1302)],
 { cls := .type "function", data := .func (fnD 114 11 "WorkRun.put" [] nn (vs "basicplus.workrun" 1188) (.ref 771) nn) },
 tl [],
 fl nn [],
 tl [(vs "self" 1307), (vs "kind" 1308)],
 tl [],
 tmpl 114 12 "WorkRun.next_data",
 fl (.type "code") [(vs "next_data" 1304), (vs "WorkRun.next_data" 1305), (vs "/claim/cut.py" 1306), (rawInt 600), (rawInt 2), (rawInt 0), (rawInt 0), (rawInt 3), (.ref 773), (.bool true), (rawInt 181), (.ref 774), nn, (.ref 775), (.ref 776), (.ref 777), (rawInt 1309), (rawInt 600), (vs "/claim/cut.py" 1310)],
 { cls := .type "function", data := .func (fnD 114 12 "WorkRun.next_data" [] nn (vs "basicplus.workrun" 1188) (.ref 778) nn) },
 tl [],
 fl nn [],
 tl [(vs "self" 1315), (vs "text" 1316), (vs "told" 1317)],
 tl [],
 tmpl 114 13 "WorkRun.number_told",
 fl (.type "code") [(vs "number_told" 1312), (vs "WorkRun.number_told" 1313), (vs "/claim/cut.py" 1314), (rawInt 603), (rawInt 2), (rawInt 0), (rawInt 0), (rawInt 3), (.ref 780), (.bool true), (rawInt 181), (.ref 781), nn, (.ref 782), (.ref 783), (.ref 784), (rawInt 1318), (rawInt 603), (vs "/claim/cut.py" 1319)],
 { cls := .type "function", data := .func (fnD 114 13 "WorkRun.number_told" [] nn (vs "basicplus.workrun" 1188) (.ref 785) nn) },
 tl [],
 fl nn [],
 tl [(vs "self" 1324), (vs "value" 1325), (vs "more" 1326)],
 tl [],
 tmpl 114 14 "WorkRun.plus",
 fl (.type "code") [(vs "plus" 1321), (vs "WorkRun.plus" 1322), (vs "/claim/cut.py" 1323), (rawInt 607), (rawInt 3), (rawInt 0), (rawInt 0), (rawInt 3), (.ref 787), (.bool true), (rawInt 181), (.ref 788), nn, (.ref 789), (.ref 790), (.ref 791), (rawInt 1327), (rawInt 607), (vs "/claim/cut.py" 1328)],
 { cls := .type "function", data := .func (fnD 114 14 "WorkRun.plus" [] nn (vs "basicplus.workrun" 1188) (.ref 792) nn) },
 tl [(vs "answers" 1330), (vs "asked" 1331), (vs "bits" 1332), (vs "control" 1333), (vs "digits" 1334), (vs "flat" 1335), (vs "world" 1336)],
 { cls := (.type "dict"), data := .dict #[en P "__module__" 1199 (vs "basicplus.workrun" 1188), en P "__firstlineno__" 1203 (.int 548 1202), en P "__init__" 1213 (.ref 699), en P "worth" 1221 (.ref 706), en P "whole" 1229 (.ref 713), en P "value_of_name" 1237 (.ref 720), en P "item_of" 1243 (.ref 725), en P "call" 1252 (.ref 732), en P "fn" 1261 (.ref 739), en P "rows_worth" 1270 (.ref 746), en P "answered" 1279 (.ref 753), en P "assign" 1288 (.ref 760), en P "store" 1297 (.ref 767), en P "put" 1303 (.ref 772), en P "next_data" 1311 (.ref 779), en P "number_told" 1320 (.ref 786), en P "plus" 1329 (.ref 793), en P "__static_attributes__" 1337 (.ref 794), en P "__dict__" 1339 (.ref 797), en P "__weakref__" 1341 (.ref 798), en P "__doc__" 1342 nn] 4 },
 { cls := (.type "type"), slots := #[none, none, some (vs "WorkRun" 1192), some (vs "WorkRun" 1200), some (.builtin "object.__new__"), some (.bool true)], data := .cls { name := "WorkRun", bases := [(.type "object")], mro := [(.ref 796), (.type "object")], ns := 795, qualname := "WorkRun", hasDict := true, slotNames := [], subclasses := [], abstract := false, collection := none, hasDel := false } },
 fl (.type "getset_descriptor") [(vs "__dict__" 1338), (.ref 796), (.builtin "function.__dict__"), (.builtin "function.__dict__#set")],
 fl (.type "getset_descriptor") [(vs "__weakref__" 1340), (.ref 796), (.builtin "ExceptionGroup.__weakref__"), nn],
 fl (.type "super") [(.ref 796), (.ref 796), (.ref 796)],
 fl (.type "builtin_function_or_method") [(.builtin "object.__init_subclass__"), (.ref 796)]]
noncomputable section
structure TS where
 tree : BT
 n : Nat
 toks : Nat
 mod : Value
 glob : List DictEntry
 ge : Nat
 tab : List Value
 sta : Obj
noncomputable def insAll : List Obj → BT → Nat → BT
 | [], t, _ => t
 | o :: r, t, n => insAll r (t.ins n o) (n + 1)
noncomputable def TS.add (x : TS) (os : List Obj) (k : Nat) : TS := { x with tree := insAll os x.tree x.n, n := x.n + k }
noncomputable def file (t : Nat) : Value := .str "/claim/cut.py" t
noncomputable def locs (sc : Scope) : List Str := (sc.names.filter fun (_, k) => k == .local).map (·.1)
noncomputable def defS (P : Params) (i : Nat) (many : Option Nat) (x : TS) : TS := match st i with
 | .FunctionDef name p _ _ _ _ scope _ _ pos =>
  let t := x.toks
  let n := x.n
  match many with
  | some k =>
   { x.add [tl [], fl nn [], tl (nms ((locs scope).take k) (t + 3)), tl [], { cls := nn, data := .func (tmF (st i) name) },
    fl (.type "code") [.str name t, .str name (t + 1), file (t + 2), rawInt pos.line, rawInt p.args.length, rawInt 0, rawInt 0, rawInt 3, .ref n, .bool true, rawInt 181, .ref (n + 1), nn, .ref (n + 2), .ref (n + 3), .ref (n + 4), rawInt (t + 3 + k : Nat), rawInt pos.line, file (t + 4 + k)],
    { cls := .type "function", data := .func (fnF (st i) name [] nn x.mod (.ref (n + 5)) nn) }] 7 with
    toks := t + 6 + k, glob := x.glob ++ [en P name (t + 5 + k) (.ref (n + 6))], ge := x.ge + 1, tab := x.tab ++ [rawInt pos.line, rawInt pos.col, .ref (n + 5)] }
  | none =>
   { x.add [tl [], fl nn [], { cls := nn, data := .func (tmF (st i) name) },
    fl (.type "code") [.str name t, .str name (t + 1), file (t + 2), rawInt pos.line, rawInt p.args.length, rawInt 0, rawInt 0, rawInt 3, .ref n, .bool true, rawInt 181, .ref (n + 1), nn, nn, nn, .ref (n + 2), rawInt (t + 3 : Nat), rawInt pos.line, file (t + 4)],
    { cls := .type "function", data := .func (fnF (st i) name [] nn x.mod (.ref (n + 3)) nn) }] 5 with
    toks := t + 6, glob := x.glob ++ [en P name (t + 5) (.ref (n + 4))], ge := x.ge + 1, tab := x.tab ++ [rawInt pos.line, rawInt pos.col, .ref (n + 3)] }
 | _ => x
noncomputable def asgS (P : Params) (i : Nat) (x : TS) : TS := match st i with
 | .Assign [.Name nm _] (.Constant c _ _) _ =>
  { x with toks := x.toks + 2, glob := x.glob ++ [en P nm (x.toks + 1) (match c with | .int k => .int k x.toks | .str s => .str s x.toks | _ => nn)], ge := x.ge + 1 }
 | .Assign [.Name nm _] (.Name _ _) _ => { x with toks := x.toks + 1, glob := x.glob ++ [en P nm x.toks (.ref 685)], ge := x.ge + 1 }
 | .Assign [.Name nm _] (.Tuple es _ _) _ =>
  let k := es.length
  { x.add [tl (go es x.toks)] 1 with toks := x.toks + k + 1, glob := x.glob ++ [en P nm (x.toks + k) (.ref x.n)], ge := x.ge + 1 }
 | _ => x
where go : List Expr → Nat → List Value
 | .Constant (.int k) _ _ :: r, t => .int k t :: go r (t + 1)
 | .Constant (.str s) _ _ :: r, t => .str s t :: go r (t + 1)
 | _, _ => []
noncomputable def modS (i : Nat) (x : TS) : TS := match st i with
 | .Assign _ (.Constant (.str s) _ _) _ =>
  let v : Value := .str s x.toks
  { x with toks := x.toks + 2, mod := v, glob := match x.glob with | e :: r => { e with val := v } :: r | [] => [] }
 | _ => x
noncomputable def clsS (P : Params) (os : List Obj) (k toks : Nat) (nm : Str) (t a line c : Nat) (x : TS) : TS :=
 { x.add os k with toks := toks, glob := x.glob ++ [en P nm t (.ref a)], ge := x.ge + 1, tab := x.tab ++ [rawInt line, rawInt 0, .ref c] }
noncomputable def boot (P : Params) : List Obj := [boot_o_0 P, boot_o_1 P, boot_o_2 P, boot_o_3 P, boot_o_4 P, boot_o_5 P, boot_o_6 P, boot_o_7 P, boot_o_8 P, boot_o_9 P, boot_o_10 P,
 tl [], fl nn [],
 fl (.type "code") [vs "<module>" 182, vs "<module>" 183, vs "/claim/cut.py" 184, rawInt 1, rawInt 0, rawInt 0, rawInt 0, rawInt 0, .ref 11, .bool false, rawInt 181, .ref 12, nn, nn, nn, nn, rawInt 185, rawInt 1, vs "/claim/cut.py" 186],
 { cls := .type "frame", slots := #[some (.ref 13), some (.ref 3), some (.ref 3), none, some (vs "__main__" 164), none, some (.ref 0)] }]
noncomputable def ents (o : Obj) : List DictEntry := match o.data with | .dict es _ => es.toList | _ => []
noncomputable def epo (o : Obj) : Nat := match o.data with | .dict _ n => n | _ => 0
noncomputable def start0 (P : Params) : TS := { tree := insAll (boot P) .nil 0, n := 15, toks := 187, mod := vs "__main__" 164, glob := ents (boot_o_3 P), ge := epo (boot_o_3 P), tab := [], sta := boot_o_2 P }
noncomputable def TS.fin (x : TS) : BT := ((x.tree.set 3 fun _ => { cls := .type "dict", data := .dict x.glob.toArray x.ge }).set 12 fun _ => fl nn x.tab).set 2 fun _ => x.sta
noncomputable def s0 (P : Params) : TS := start0 P
noncomputable def s1 (P : Params) : TS :=
 let x := defS P 0 (some 1) (s0 P)
 let x := modS 1 (x)
 let x := asgS P 2 (x)
 let x := asgS P 3 (x)
 let x := clsS P (cls4 P) 23 234 "BasicError" 233 41 7 28 (x)
 let x := { x with sta := { cls := nn, data := .dict #[en P "type.__subclasses__.Exception.0" 230 (rawInt 41), en P "type.__subclasses__.Exception.n" 231 (rawInt 1)] 2 } }
 x
noncomputable def s2 (P : Params) : TS :=
 let x := defS P 5 (some 1) (s1 P)
 let x := defS P 6 (some 4) (x)
 let x := defS P 7 (some 2) (x)
 let x := defS P 8 (some 1) (x)
 let x := defS P 9 (some 3) (x)
 let x := defS P 10 (some 1) (x)
 let x := defS P 11 (some 3) (x)
 let x := defS P 12 (some 5) (x)
 let x := defS P 13 (some 6) (x)
 let x := defS P 14 (some 4) (x)
 x
noncomputable def s3 (P : Params) : TS :=
 let x := defS P 15 (some 2) (s2 P)
 let x := defS P 16 (some 3) (x)
 let x := defS P 17 (some 2) (x)
 let x := defS P 18 (some 1) (x)
 let x := defS P 19 (some 1) (x)
 let x := defS P 20 (some 4) (x)
 let x := defS P 21 (some 1) (x)
 let x := modS 22 (x)
 x
noncomputable def s4 (P : Params) : TS :=
 let x := clsS P (cls23 P) 22 447 "World" 446 181 107 169 (s3 P)
 let x := defS P 24 (some 2) (x)
 let x := defS P 25 (some 2) (x)
 x
noncomputable def s5 (P : Params) : TS :=
 let x := defS P 26 (some 3) (s4 P)
 let x := modS 27 (x)
 let x := defS P 28 (some 3) (x)
 let x := defS P 29 (some 4) (x)
 let x := defS P 30 none (x)
 let x := defS P 31 (some 2) (x)
 let x := defS P 32 (some 3) (x)
 let x := defS P 33 (some 8) (x)
 let x := modS 34 (x)
 let x := asgS P 35 (x)
 x
noncomputable def s6 (P : Params) : TS :=
 let x := clsS P (cls36 P) 21 569 "Grid" 568 263 178 252 (s5 P)
 let x := defS P 37 (some 4) (x)
 let x := defS P 38 (some 2) (x)
 let x := defS P 39 (some 3) (x)
 x
noncomputable def s7 (P : Params) : TS :=
 let x := defS P 40 (some 3) (s6 P)
 let x := defS P 41 (some 3) (x)
 let x := defS P 42 (some 5) (x)
 let x := defS P 43 (some 4) (x)
 let x := defS P 44 (some 6) (x)
 let x := modS 45 (x)
 let x := asgS P 46 (x)
 let x := asgS P 47 (x)
 let x := asgS P 48 (x)
 let x := asgS P 49 (x)
 let x := asgS P 50 (x)
 let x := defS P 51 (some 1) (x)
 let x := defS P 52 (some 3) (x)
 let x := defS P 53 (some 6) (x)
 x
noncomputable def s8 (P : Params) : TS :=
 let x := defS P 54 (some 3) (s7 P)
 let x := defS P 55 (some 3) (x)
 let x := defS P 56 (some 3) (x)
 let x := defS P 57 (some 8) (x)
 let x := defS P 58 (some 5) (x)
 let x := defS P 59 (some 6) (x)
 let x := defS P 60 (some 2) (x)
 let x := defS P 61 (some 4) (x)
 let x := defS P 62 (some 7) (x)
 x
noncomputable def s9 (P : Params) : TS :=
 let x := defS P 63 (some 10) (s8 P)
 let x := defS P 64 (some 4) (x)
 let x := modS 65 (x)
 let x := defS P 66 (some 1) (x)
 let x := defS P 67 (some 3) (x)
 let x := defS P 68 (some 5) (x)
 let x := defS P 69 (some 3) (x)
 let x := defS P 70 (some 2) (x)
 let x := defS P 71 (some 1) (x)
 let x := defS P 72 (some 4) (x)
 let x := defS P 73 (some 5) (x)
 x
noncomputable def s10 (P : Params) : TS :=
 let x := defS P 74 (some 10) (s9 P)
 let x := defS P 75 (some 3) (x)
 let x := defS P 76 (some 2) (x)
 let x := defS P 77 (some 2) (x)
 let x := defS P 78 (some 6) (x)
 let x := modS 79 (x)
 x
noncomputable def s11 (P : Params) : TS :=
 let x := clsS P (cls80 P) 21 970 "Control" 969 531 383 520 (s10 P)
 let x := defS P 81 (some 1) (x)
 let x := modS 82 (x)
 let x := defS P 83 (some 5) (x)
 let x := defS P 84 (some 2) (x)
 x
noncomputable def s12 (P : Params) : TS :=
 let x := defS P 85 (some 4) (s11 P)
 let x := defS P 86 (some 4) (x)
 let x := modS 87 (x)
 let x := defS P 88 (some 3) (x)
 let x := defS P 89 (some 3) (x)
 let x := defS P 90 none (x)
 let x := modS 91 (x)
 let x := asgS P 92 (x)
 let x := defS P 93 (some 2) (x)
 let x := defS P 94 (some 3) (x)
 let x := defS P 95 (some 3) (x)
 let x := defS P 96 (some 3) (x)
 x
noncomputable def s13 (P : Params) : TS :=
 let x := defS P 97 (some 6) (s12 P)
 let x := modS 98 (x)
 let x := defS P 99 (some 1) (x)
 let x := modS 100 (x)
 let x := asgS P 101 (x)
 let x := asgS P 102 (x)
 let x := defS P 103 (some 2) (x)
 let x := defS P 104 (some 2) (x)
 let x := defS P 105 (some 3) (x)
 let x := defS P 106 none (x)
 let x := defS P 107 (some 4) (x)
 let x := defS P 108 (some 5) (x)
 let x := defS P 109 (some 4) (x)
 x
noncomputable def s14 (P : Params) : TS :=
 let x := defS P 110 none (s13 P)
 let x := asgS P 111 (x)
 let x := modS 112 (x)
 let x := asgS P 113 (x)
 x
noncomputable def s15 (P : Params) : TS :=
 let x := clsS P (cls114 P) 115 1345 "WorkRun" 1344 796 548 691 (s14 P)
 x
noncomputable def s16 (P : Params) : TS :=
 let x := modS 115 (s15 P)
 let x := defS P 116 (some 2) (x)
 let x := defS P 117 (some 2) (x)
 let x := defS P 118 (some 1) (x)
 let x := defS P 119 (some 5) (x)
 let x := defS P 120 (some 2) (x)
 let x := defS P 121 (some 1) (x)
 let x := defS P 122 (some 2) (x)
 let x := defS P 123 (some 9) (x)
 let x := defS P 124 (some 2) (x)
 let x := defS P 125 none (x)
 x
noncomputable def s17 (P : Params) : TS :=
 let x := defS P 126 none (s16 P)
 x
noncomputable def env : Env := { scope := pw.main.scope, locals := mainNs, globals := mainNs, cells := [], code := .ref 13, frame := some 14 }
noncomputable def cod : Code := .body (behindTheImports pw) env
noncomputable def grp (i k : Nat) : List Stmt := (pw.main.body.drop i).take k
noncomputable def SS (x : TS) (os : OsState) : SharedT := ⟨x.fin, x.n, {}, #[], boot_drawn, x.toks, os⟩
end
theorem piece1 (w : World) (os : OsState) : segRunT treeTable pw w 11 (some (.ref 6)) 1 305 (SS (s0 w.params) os) (piecesOf (grp 0 5) env cod ⟨0, 0, 0, 0⟩ [topFrame ⟨0, 0, 0, 0⟩]) = some (.next, SS (s1 w.params) os, cod, ⟨7, 0, 12, 24⟩) := by
 rw [PySem.W.Fast.te10110043849684766642, PySem.W.Fast.te14364793385576792824]
 kernel_rfl
theorem piece2 (w : World) (os : OsState) : segRunT treeTable pw w 11 (some (.ref 6)) 1 311 (SS (s1 w.params) os) (piecesOf (grp 5 10) env cod ⟨7, 0, 12, 24⟩ [topFrame ⟨0, 0, 0, 0⟩]) = some (.next, SS (s2 w.params) os, cod, ⟨73, 0, 78, 45⟩) := by
 rw [PySem.W.Fast.te10110043849684766642, PySem.W.Fast.te14364793385576792824]
 kernel_rfl
theorem piece3 (w : World) (os : OsState) : segRunT treeTable pw w 11 (some (.ref 6)) 1 220 (SS (s2 w.params) os) (piecesOf (grp 15 8) env cod ⟨73, 0, 78, 45⟩ [topFrame ⟨0, 0, 0, 0⟩]) = some (.next, SS (s3 w.params) os, cod, ⟨106, 0, 106, 8⟩) := by
 rw [PySem.W.Fast.te10110043849684766642, PySem.W.Fast.te14364793385576792824]
 kernel_rfl
theorem piece4 (w : World) (os : OsState) : segRunT treeTable pw w 11 (some (.ref 6)) 1 320 (SS (s3 w.params) os) (piecesOf (grp 23 3) env cod ⟨106, 0, 106, 8⟩ [topFrame ⟨0, 0, 0, 0⟩]) = some (.next, SS (s4 w.params) os, cod, ⟨140, 0, 141, 92⟩) := by
 rw [PySem.W.Fast.te10110043849684766642, PySem.W.Fast.te14364793385576792824]
 kernel_rfl
theorem piece5 (w : World) (os : OsState) : segRunT treeTable pw w 11 (some (.ref 6)) 1 245 (SS (s4 w.params) os) (piecesOf (grp 26 10) env cod ⟨140, 0, 141, 92⟩ [topFrame ⟨0, 0, 0, 0⟩]) = some (.next, SS (s5 w.params) os, cod, ⟨177, 0, 177, 10⟩) := by
 rw [PySem.W.Fast.te10110043849684766642, PySem.W.Fast.te14364793385576792824]
 kernel_rfl
theorem piece6 (w : World) (os : OsState) : segRunT treeTable pw w 11 (some (.ref 6)) 1 322 (SS (s5 w.params) os) (piecesOf (grp 36 4) env cod ⟨177, 0, 177, 10⟩ [topFrame ⟨0, 0, 0, 0⟩]) = some (.next, SS (s6 w.params) os, cod, ⟨193, 0, 200, 59⟩) := by
 rw [PySem.W.Fast.te10110043849684766642, PySem.W.Fast.te14364793385576792824]
 kernel_rfl
theorem piece7 (w : World) (os : OsState) : segRunT treeTable pw w 11 (some (.ref 6)) 1 316 (SS (s6 w.params) os) (piecesOf (grp 40 14) env cod ⟨193, 0, 200, 59⟩ [topFrame ⟨0, 0, 0, 0⟩]) = some (.next, SS (s7 w.params) os, cod, ⟨237, 0, 239, 46⟩) := by
 rw [PySem.W.Fast.te10110043849684766642, PySem.W.Fast.te14364793385576792824]
 kernel_rfl
theorem piece8 (w : World) (os : OsState) : segRunT treeTable pw w 11 (some (.ref 6)) 1 294 (SS (s7 w.params) os) (piecesOf (grp 54 9) env cod ⟨237, 0, 239, 46⟩ [topFrame ⟨0, 0, 0, 0⟩]) = some (.next, SS (s8 w.params) os, cod, ⟨279, 0, 289, 47⟩) := by
 rw [PySem.W.Fast.te10110043849684766642, PySem.W.Fast.te14364793385576792824]
 kernel_rfl
theorem piece9 (w : World) (os : OsState) : segRunT treeTable pw w 11 (some (.ref 6)) 1 328 (SS (s8 w.params) os) (piecesOf (grp 63 11) env cod ⟨279, 0, 289, 47⟩ [topFrame ⟨0, 0, 0, 0⟩]) = some (.next, SS (s9 w.params) os, cod, ⟨343, 0, 347, 52⟩) := by
 rw [PySem.W.Fast.te10110043849684766642, PySem.W.Fast.te14364793385576792824]
 kernel_rfl
theorem piece10 (w : World) (os : OsState) : segRunT treeTable pw w 11 (some (.ref 6)) 1 173 (SS (s9 w.params) os) (piecesOf (grp 74 6) env cod ⟨343, 0, 347, 52⟩ [topFrame ⟨0, 0, 0, 0⟩]) = some (.next, SS (s10 w.params) os, cod, ⟨382, 0, 382, 8⟩) := by
 rw [PySem.W.Fast.te10110043849684766642, PySem.W.Fast.te14364793385576792824]
 kernel_rfl
theorem piece11 (w : World) (os : OsState) : segRunT treeTable pw w 11 (some (.ref 6)) 1 326 (SS (s10 w.params) os) (piecesOf (grp 80 5) env cod ⟨382, 0, 382, 8⟩ [topFrame ⟨0, 0, 0, 0⟩]) = some (.next, SS (s11 w.params) os, cod, ⟨397, 0, 399, 30⟩) := by
 rw [PySem.W.Fast.te10110043849684766642, PySem.W.Fast.te14364793385576792824]
 kernel_rfl
theorem piece12 (w : World) (os : OsState) : segRunT treeTable pw w 11 (some (.ref 6)) 1 303 (SS (s11 w.params) os) (piecesOf (grp 85 12) env cod ⟨397, 0, 399, 30⟩ [topFrame ⟨0, 0, 0, 0⟩]) = some (.next, SS (s12 w.params) os, cod, ⟨461, 0, 465, 46⟩) := by
 rw [PySem.W.Fast.te10110043849684766642, PySem.W.Fast.te14364793385576792824]
 kernel_rfl
theorem piece13 (w : World) (os : OsState) : segRunT treeTable pw w 11 (some (.ref 6)) 1 327 (SS (s12 w.params) os) (piecesOf (grp 97 13) env cod ⟨461, 0, 465, 46⟩ [topFrame ⟨0, 0, 0, 0⟩]) = some (.next, SS (s13 w.params) os, cod, ⟨519, 0, 531, 102⟩) := by
 rw [PySem.W.Fast.te10110043849684766642, PySem.W.Fast.te14364793385576792824]
 kernel_rfl
theorem piece14 (w : World) (os : OsState) : segRunT treeTable pw w 11 (some (.ref 6)) 1 55 (SS (s13 w.params) os) (piecesOf (grp 110 4) env cod ⟨519, 0, 531, 102⟩ [topFrame ⟨0, 0, 0, 0⟩]) = some (.next, SS (s14 w.params) os, cod, ⟨547, 0, 547, 9⟩) := by
 rw [PySem.W.Fast.te10110043849684766642, PySem.W.Fast.te14364793385576792824]
 kernel_rfl
theorem piece15 (w : World) (os : OsState) : segRunT treeTable pw w 11 (some (.ref 6)) 1 679 (SS (s14 w.params) os) (piecesOf (grp 114 1) env cod ⟨547, 0, 547, 9⟩ [topFrame ⟨0, 0, 0, 0⟩]) = some (.next, SS (s15 w.params) os, cod, ⟨548, 0, 608, 16⟩) := by
 rw [PySem.W.Fast.te10110043849684766642, PySem.W.Fast.te14364793385576792824]
 kernel_rfl
theorem piece16 (w : World) (os : OsState) : segRunT treeTable pw w 11 (some (.ref 6)) 1 314 (SS (s15 w.params) os) (piecesOf (grp 115 11) env cod ⟨548, 0, 608, 16⟩ [topFrame ⟨0, 0, 0, 0⟩]) = some (.next, SS (s16 w.params) os, cod, ⟨662, 0, 667, 92⟩) := by
 rw [PySem.W.Fast.te10110043849684766642, PySem.W.Fast.te14364793385576792824]
 kernel_rfl
theorem piece17 (w : World) (os : OsState) : segRunT treeTable pw w 11 (some (.ref 6)) 1 27 (SS (s16 w.params) os) (piecesOf (grp 126 1) env cod ⟨662, 0, 667, 92⟩ [topFrame ⟨0, 0, 0, 0⟩]) = some (.next, SS (s17 w.params) os, cod, ⟨668, 0, 699, 15⟩) := by
 rw [PySem.W.Fast.te10110043849684766642, PySem.W.Fast.te14364793385576792824]
 kernel_rfl
end Mine
end
section
open PySem PySem.W PyProof.Rows PySem.Calls
namespace Mine
noncomputable def H₁ (P : Params) : Heap := absHeap (s17 P).fin 874 {}
theorem opens (w : World) : (fencedOpening treeTable pw w 10000).map (fun s => (s.heap, s.gens, s.drawn, s.toks)) = some (boot_heap w.params, Array.mk [], boot_drawn, boot_toks) :=
 boot_open (p := pw) (N := 10000) (by kernel_rfl) (by decide) (fun s => by kernel_rfl) w
theorem sizes (w : World) : ((boot_heap w.params).isNs mainGlobals && (Array.mk ([] : List GenState)).size == 0, (boot_heap w.params).objs.size, (boot_heap w.params).nsMap mainGlobals "__annotations__") = (true, 11, some (.ref 6)) := by kernel_rfl
theorem preGo (w : World) (os : OsState) : topGo treeTable pw w 11 (some (.ref 6)) 12 ⟨boot_heap w.params, Array.mk [], boot_drawn, boot_toks, os⟩ (topStub pw) = some ((SS (s0 w.params) os).abs, ⟨denote treeTable cod, cod, ⟨0, 0, 0, 0⟩, [topFrame ⟨0, 0, 0, 0⟩]⟩) := by kernel_rfl
theorem blockGo (w : World) (os : OsState) : segRun treeTable pw w 11 (some (.ref 6)) 1 1 (SS (s0 w.params) os).abs (blockOf (behindTheImports pw) env cod ⟨0, 0, 0, 0⟩ [topFrame ⟨0, 0, 0, 0⟩]) = some (.next, (SS (s0 w.params) os).abs, cod, ⟨0, 0, 0, 0⟩) := by kernel_rfl
theorem finGo (w : World) (os : OsState) : topRun treeTable pw w 11 (some (.ref 6)) 2 (SS (s17 w.params) os).abs ⟨doneF .next, cod, ⟨668, 0, 699, 15⟩, [topFrame ⟨0, 0, 0, 0⟩]⟩ = some (SS (s17 w.params) os).abs := by kernel_rfl
noncomputable def MM : Nat := 12 + (1 + (305 + (311 + (220 + (320 + (245 + (322 + (316 + (294 + (328 + (173 + (326 + (303 + (327 + (55 + (679 + (314 + (27 + 2))))))))))))))))))
theorem body_split : behindTheImports pw = grp 0 5 ++ (grp 5 10 ++ (grp 15 8 ++ (grp 23 3 ++ (grp 26 10 ++ (grp 36 4 ++ (grp 40 14 ++ (grp 54 9 ++ (grp 63 11 ++ (grp 74 6 ++ (grp 80 5 ++ (grp 85 12 ++ (grp 97 13 ++ (grp 110 4 ++ (grp 114 1 ++ (grp 115 11 ++ (grp 126 1 ++ [])))))))))))))))) := by kernel_rfl
theorem runs (w : World) (os : OsState) : topRun treeTable pw w 11 (some (.ref 6)) MM ⟨boot_heap w.params, Array.mk [], boot_drawn, boot_toks, os⟩ (topStub pw) = some (SS (s17 w.params) os).abs := by
 unfold MM
 refine go_top (preGo w os) (piece_block (blockGo w os) ?_)
 rw [body_split]
 refine piece_app (segRun_of (piece1 w os)) ?_
 refine piece_app (segRun_of (piece2 w os)) ?_
 refine piece_app (segRun_of (piece3 w os)) ?_
 refine piece_app (segRun_of (piece4 w os)) ?_
 refine piece_app (segRun_of (piece5 w os)) ?_
 refine piece_app (segRun_of (piece6 w os)) ?_
 refine piece_app (segRun_of (piece7 w os)) ?_
 refine piece_app (segRun_of (piece8 w os)) ?_
 refine piece_app (segRun_of (piece9 w os)) ?_
 refine piece_app (segRun_of (piece10 w os)) ?_
 refine piece_app (segRun_of (piece11 w os)) ?_
 refine piece_app (segRun_of (piece12 w os)) ?_
 refine piece_app (segRun_of (piece13 w os)) ?_
 refine piece_app (segRun_of (piece14 w os)) ?_
 refine piece_app (segRun_of (piece15 w os)) ?_
 refine piece_app (segRun_of (piece16 w os)) ?_
 refine piece_app (segRun_of (piece17 w os)) ?_
 exact piece_nil (finGo w os)
noncomputable section
noncomputable def qv : Program := { pw with main := { pw.main with body := [st 126] } }
noncomputable def bound : List Stmt → List Str
 | [] => []
 | s :: r => (match s with | .FunctionDef n .. => [n] | .ClassDef n .. => [n] | .Assign [.Name n _] _ _ => [n] | _ => []) ++ bound r
noncomputable def loose : List Str := (bound (pw.main.body.take 126)).filter fun n => !(n == "__name__")
noncomputable def HS (P : Params) (os : OsState) : Shared := ⟨H₁ P, #[], boot_drawn, 1439, os⟩
theorem look1 (w : World) : staticsOk (importedModules pw.main.body) (boot_heap w.params) (H₁ w.params) = true := by kernel_rfl
theorem look2 (w : World) : namesBound pw (H₁ w.params) = true := by kernel_rfl
theorem look3 (w : World) (os : OsState) : gensDone (HS w.params os) = true := by kernel_rfl
theorem look4 (w : World) : laidKept (boot_heap w.params) (H₁ w.params) = true := by kernel_rfl
end
theorem seenOk (w : World) (os : OsState) : openSeen qv loose (importedModules pw.main.body) (fun _ => true) true (HS w.params os) = openGood qv loose := by kernel_rfl
noncomputable section
noncomputable abbrev rw0 : OpenLaw := PySem.Challenge.rw_rr0005_01
noncomputable def lawD : DefRec := match st 126 with
 | .FunctionDef n p b _ _ _ sc _ _ pos => ⟨n, p, b, sc, pos⟩
 | _ => ⟨Str.empty, default, [], default, default⟩
theorem endS (w : World) (os : OsState) : (SS (s17 w.params) os).abs = HS w.params os := by kernel_rfl
theorem runsF (w : World) (os : OsState) : topRun treeTable pw w 11 (some (.ref 6)) MM ⟨boot_heap w.params, Array.mk [], boot_drawn, boot_toks, os⟩ (topStub pw) = some (HS w.params os) := (runs w os).trans (congrArg some (endS w os))
theorem looksF (w : World) : (fun os => ((staticsOk (importedModules pw.main.body) (boot_heap w.params) (H₁ w.params) && namesBound pw (H₁ w.params) && gensDone ⟨H₁ w.params, #[], boot_drawn, 1439, os⟩ && laidKept (boot_heap w.params) (H₁ w.params)),
 openSeen qv loose (importedModules pw.main.body) (fun _ => true) true ⟨H₁ w.params, #[], boot_drawn, 1439, os⟩, (fun s : Shared => s.heap) ⟨H₁ w.params, #[], boot_drawn, 1439, os⟩)) = fun _ => (true, openGood qv loose, (fun w : World => H₁ w.params) w) := funext fun os => by
 have a := look1 w
 have b := look2 w
 have c := look3 w os
 have d := look4 w
 have e := seenOk w os
 unfold HS at c e
 exact Prod.ext (by dsimp only; rw [a, b, c, d]; rfl) (Prod.ext (by dsimp only; exact e) rfl)
theorem lefts : LeftO pw qv loose (fun _ => true) (fun s => s.heap) (fun w => H₁ w.params) 10000 :=
 LeftO.of_pieces (p := pw) (q := qv) (H₀ := boot_heap) (H₁ := H₁) (gs₀ := Array.mk []) (gs₁ := #[]) (d₀ := boot_drawn) (d₁ := boot_drawn) (k₀ := boot_toks) (k₁ := 1439) (m₀ := 11) (ann := some (.ref 6)) (M := MM) opens sizes
  runsF (by kernel_rfl) looksF
end
theorem a1 : sreFenced pw.main = true := by kernel_rfl
theorem a2 : ((moduleNames pw.main.body).isEmpty || lookedIntoSs (moduleNames pw.main.body) pw.main.body) = true := by kernel_rfl
theorem a3 : namesResolve pw = true := by kernel_rfl
theorem a4 : pw.boundNames.all (fun n => !worldNames.contains n) = true := by kernel_rfl
theorem a5 : noRoadLSs { strict := !(importedModules pw.main.body).all cThrough.contains, foot := none, bare := (["vars", "dir", "locals"] : List Str).filter (readsOut pw pw.main.body) } pw.main.body = true := by kernel_rfl
theorem a6 : namesMeet pw pw.main.body (fun _ n => attrL n) = true := by kernel_rfl
noncomputable abbrev l : OpenLaw := PySem.Challenge.rw_rr0005_01
theorem b2 : decide (l.foot ≤ (behindTheImports l.prog).length) = true := by kernel_rfl
theorem b3 : l.footing.all footLine = true := by kernel_rfl
theorem b4 : noClassBlock l.prog l.footing = true := by kernel_rfl
theorem b5 : l.most.all (fun n => decide (63 ≤ n)) = true := by kernel_rfl
theorem b6 : l.bound.all (fun n => decide (2 ^ 63 ≤ n)) = true := by kernel_rfl
theorem b7 : noRoadLSs { strict := true, foot := some l.bound', writes := l.writes, may := l.may } l.footing = true := by kernel_rfl
theorem b8 : defStands l.about l.above = true := by kernel_rfl
theorem b9 : l.namesIt = true := by kernel_rfl
theorem b10 : (["type", "isinstance", "issubclass", "getattr", "hasattr"] : List Str).all (fun n => l.about != [n]) = true := by kernel_rfl
theorem b11 : l.bound'.all (fun n => !builtinNamed n || l.about == [n] || !l.reads n) = true := by kernel_rfl
theorem b12 : (!l.writes || (l.prog.main.body.flatMap importedNames).all fun n => !l.reads n) = true := by kernel_rfl
theorem b13 : (l.prog.main.body.flatMap importedNames).all (fun n => !l.reads n || (drawsOf n l.prog.main.body).all fun mn => mn.2 != ("attrgetter" : Str) && mn.2 != ("methodcaller" : Str)) = true := by kernel_rfl
theorem b14 : namesMeet l.prog l.footing (fun sc n => (!(["type", "isinstance", "issubclass", "getattr", "hasattr"] : List Str).contains n || sc.names.lookup n == some .globalImplicit) &&
 (l.may != some n || sc.kind == .module || sc.names.lookup n == some .globalImplicit)) = true := by kernel_rfl
theorem b15 : l.own.contains l.name = true := by kernel_rfl
theorem b16 : (l.own.eraseDups.length == l.own.length) = true := by kernel_rfl
theorem b17 : l.own.all (fun n => !builtinNamed n) = true := by kernel_rfl
theorem b18 : namesMeet l.prog l.above (fun _ n => !l.own.contains n) = true := by kernel_rfl
theorem b19 : namesMeet l.prog l.footing (fun sc n => sc.kind == .module || sc.names.lookup n != some .globalExplicit) = true := by kernel_rfl
theorem looksO : looksOpen pw = true := by
 unfold looksOpen
 rw [a1, a2, a3, a4, a5, a6]; rfl
theorem part : rw0.row.partSaid = true := by
 unfold OpenRow.partSaid
 rw [show looksOpen rw0.row.prog = true from looksO]
 kernel_rfl
theorem rowSaid : rw0.row.wellSaid = true := by
 unfold OpenRow.wellSaid
 rw [part]
 kernel_rfl
theorem said : rw0.wellSaid = true := by
 unfold OpenLaw.wellSaid
 rw [rowSaid, b2, b3, b4, b5, b6, b7, b8, b9, b10, b11, b12, b13, b14, b15, b16, b17, b18, b19]
 rfl
theorem defLaw : defOf qv rw0.row.name = some (lawD, []) := by kernel_rfl
theorem theLaw : rw0.row.prog.theDef rw0.row.name = some (lawD.params, lawD.body, lawD.scope) := by kernel_rfl
theorem kwLaw : kwWritten? lawD.params.kwonlyargs lawD.params.kw_defaults = some [] := by kernel_rfl
theorem okLaw : (chainsOk qv && opensWell rw0.row.prog && (frees rw0.row.toRowW && rw0.row.within.isEmpty)) = true := by kernel_rfl
theorem bareLaw : rw0.row.prog.bare := ⟨rfl, rfl, rfl, rfl, rfl, by kernel_rfl⟩
theorem prom : rw0.row.toRowW.promised := ⟨[.list []], by decide +kernel, by decide +kernel⟩
theorem head (walk : WalkO qv loose (fun _ _ => True) (fun w h => ∀ b o, (H₁ w.params).get? b = some o → h.get? b = some o) rw0.row.toRowW lawD [] (fun f vs => PySem.call f vs)) : rw0.Holds :=
 ⟨said, holds_open (r := rw0.row) (q := qv) (loose := loose) (Xt := fun _ => true) (XP := fun _ _ => True) (Yf := fun s => s.heap) (Ya := fun w => H₁ w.params) (YP := fun w h => ∀ b o, (H₁ w.params).get? b = some o → h.get? b = some o) (N := 10000)
  lefts (fun w s e b o h => by rw [show s.heap = H₁ w.params from e]; exact h) (fun w h h' y k b o e => k b o (y b o e)) (fun _ _ => trivial) (fun _ _ _ _ _ => trivial)
  defLaw theLaw kwLaw (fun s _ => recFacts_nil rfl) rfl rowSaid okLaw bareLaw prom walk⟩
end Mine
end
section
namespace Mine
theorem ob03 {A0 A1 A2 : Prop} {P : Prop} (h : A0 ∧ A1 ∧ A2) (k : A0 → A1 → A2 → P) : P := k h.1 h.2.1 h.2.2
theorem ob04 {A0 A1 A2 A3 : Prop} {P : Prop} (h : A0 ∧ A1 ∧ A2 ∧ A3) (k : A0 → A1 → A2 → A3 → P) : P := k h.1 h.2.1 h.2.2.1 h.2.2.2
theorem ob05 {A0 A1 A2 A3 A4 : Prop} {P : Prop} (h : A0 ∧ A1 ∧ A2 ∧ A3 ∧ A4) (k : A0 → A1 → A2 → A3 → A4 → P) : P := k h.1 h.2.1 h.2.2.1 h.2.2.2.1 h.2.2.2.2
theorem ob07 {A0 A1 A2 A3 A4 A5 A6 : Prop} {P : Prop} (h : A0 ∧ A1 ∧ A2 ∧ A3 ∧ A4 ∧ A5 ∧ A6) (k : A0 → A1 → A2 → A3 → A4 → A5 → A6 → P) : P := k h.1 h.2.1 h.2.2.1 h.2.2.2.1 h.2.2.2.2.1 h.2.2.2.2.2.1 h.2.2.2.2.2.2
theorem ob12 {α0 : Sort _} {A0 A1 : α0 → Prop} {P : Prop} (h : ∃ (x0 : α0), A0 x0 ∧ A1 x0) (k : ∀ x0, A0 x0 → A1 x0 → P) : P := h.elim fun x0 h => k x0 h.1 h.2
theorem ob13 {α0 : Sort _} {A0 A1 A2 : α0 → Prop} {P : Prop} (h : ∃ (x0 : α0), A0 x0 ∧ A1 x0 ∧ A2 x0) (k : ∀ x0, A0 x0 → A1 x0 → A2 x0 → P) : P := h.elim fun x0 h => k x0 h.1 h.2.1 h.2.2
theorem ob21 {α0 : Sort _} {α1 : Sort _} {A0 : α0 → α1 → Prop} {P : Prop} (h : ∃ (x0 : α0) (x1 : α1), A0 x0 x1) (k : ∀ x0 x1, A0 x0 x1 → P) : P := h.elim fun x0 h => h.elim fun x1 h => k x0 x1 h
theorem ob22 {α0 : Sort _} {α1 : Sort _} {A0 A1 : α0 → α1 → Prop} {P : Prop} (h : ∃ (x0 : α0) (x1 : α1), A0 x0 x1 ∧ A1 x0 x1) (k : ∀ x0 x1, A0 x0 x1 → A1 x0 x1 → P) : P := h.elim fun x0 h => h.elim fun x1 h => k x0 x1 h.1 h.2
theorem ob23 {α0 : Sort _} {α1 : Sort _} {A0 A1 A2 : α0 → α1 → Prop} {P : Prop} (h : ∃ (x0 : α0) (x1 : α1), A0 x0 x1 ∧ A1 x0 x1 ∧ A2 x0 x1) (k : ∀ x0 x1, A0 x0 x1 → A1 x0 x1 → A2 x0 x1 → P) : P := h.elim fun x0 h => h.elim fun x1 h => k x0 x1 h.1 h.2.1 h.2.2
theorem ob24 {α0 : Sort _} {α1 : Sort _} {A0 A1 A2 A3 : α0 → α1 → Prop} {P : Prop} (h : ∃ (x0 : α0) (x1 : α1), A0 x0 x1 ∧ A1 x0 x1 ∧ A2 x0 x1 ∧ A3 x0 x1) (k : ∀ x0 x1, A0 x0 x1 → A1 x0 x1 → A2 x0 x1 → A3 x0 x1 → P) : P := h.elim fun x0 h => h.elim fun x1 h => k x0 x1 h.1 h.2.1 h.2.2.1 h.2.2.2
theorem ob25 {α0 : Sort _} {α1 : Sort _} {A0 A1 A2 A3 A4 : α0 → α1 → Prop} {P : Prop} (h : ∃ (x0 : α0) (x1 : α1), A0 x0 x1 ∧ A1 x0 x1 ∧ A2 x0 x1 ∧ A3 x0 x1 ∧ A4 x0 x1) (k : ∀ x0 x1, A0 x0 x1 → A1 x0 x1 → A2 x0 x1 → A3 x0 x1 → A4 x0 x1 → P) : P := h.elim fun x0 h => h.elim fun x1 h => k x0 x1 h.1 h.2.1 h.2.2.1 h.2.2.2.1 h.2.2.2.2
theorem ob31 {α0 : Sort _} {α1 : Sort _} {α2 : Sort _} {A0 : α0 → α1 → α2 → Prop} {P : Prop} (h : ∃ (x0 : α0) (x1 : α1) (x2 : α2), A0 x0 x1 x2) (k : ∀ x0 x1 x2, A0 x0 x1 x2 → P) : P := h.elim fun x0 h => h.elim fun x1 h => h.elim fun x2 h => k x0 x1 x2 h
theorem ob32 {α0 : Sort _} {α1 : Sort _} {α2 : Sort _} {A0 A1 : α0 → α1 → α2 → Prop} {P : Prop} (h : ∃ (x0 : α0) (x1 : α1) (x2 : α2), A0 x0 x1 x2 ∧ A1 x0 x1 x2) (k : ∀ x0 x1 x2, A0 x0 x1 x2 → A1 x0 x1 x2 → P) : P := h.elim fun x0 h => h.elim fun x1 h => h.elim fun x2 h => k x0 x1 x2 h.1 h.2
theorem ob33 {α0 : Sort _} {α1 : Sort _} {α2 : Sort _} {A0 A1 A2 : α0 → α1 → α2 → Prop} {P : Prop} (h : ∃ (x0 : α0) (x1 : α1) (x2 : α2), A0 x0 x1 x2 ∧ A1 x0 x1 x2 ∧ A2 x0 x1 x2) (k : ∀ x0 x1 x2, A0 x0 x1 x2 → A1 x0 x1 x2 → A2 x0 x1 x2 → P) : P := h.elim fun x0 h => h.elim fun x1 h => h.elim fun x2 h => k x0 x1 x2 h.1 h.2.1 h.2.2
theorem ob34 {α0 : Sort _} {α1 : Sort _} {α2 : Sort _} {A0 A1 A2 A3 : α0 → α1 → α2 → Prop} {P : Prop} (h : ∃ (x0 : α0) (x1 : α1) (x2 : α2), A0 x0 x1 x2 ∧ A1 x0 x1 x2 ∧ A2 x0 x1 x2 ∧ A3 x0 x1 x2) (k : ∀ x0 x1 x2, A0 x0 x1 x2 → A1 x0 x1 x2 → A2 x0 x1 x2 → A3 x0 x1 x2 → P) : P := h.elim fun x0 h => h.elim fun x1 h => h.elim fun x2 h => k x0 x1 x2 h.1 h.2.1 h.2.2.1 h.2.2.2
theorem ob42 {α0 : Sort _} {α1 : Sort _} {α2 : Sort _} {α3 : Sort _} {A0 A1 : α0 → α1 → α2 → α3 → Prop} {P : Prop} (h : ∃ (x0 : α0) (x1 : α1) (x2 : α2) (x3 : α3), A0 x0 x1 x2 x3 ∧ A1 x0 x1 x2 x3) (k : ∀ x0 x1 x2 x3, A0 x0 x1 x2 x3 → A1 x0 x1 x2 x3 → P) : P := h.elim fun x0 h => h.elim fun x1 h => h.elim fun x2 h => h.elim fun x3 h => k x0 x1 x2 x3 h.1 h.2
theorem ob44 {α0 : Sort _} {α1 : Sort _} {α2 : Sort _} {α3 : Sort _} {A0 A1 A2 A3 : α0 → α1 → α2 → α3 → Prop} {P : Prop} (h : ∃ (x0 : α0) (x1 : α1) (x2 : α2) (x3 : α3), A0 x0 x1 x2 x3 ∧ A1 x0 x1 x2 x3 ∧ A2 x0 x1 x2 x3 ∧ A3 x0 x1 x2 x3) (k : ∀ x0 x1 x2 x3, A0 x0 x1 x2 x3 → A1 x0 x1 x2 x3 → A2 x0 x1 x2 x3 → A3 x0 x1 x2 x3 → P) : P := h.elim fun x0 h => h.elim fun x1 h => h.elim fun x2 h => h.elim fun x3 h => k x0 x1 x2 x3 h.1 h.2.1 h.2.2.1 h.2.2.2
end Mine
end
section
open PySem
namespace Mine
set_option genSizeOf false
set_option genInjectivity false
inductive BI | len | abs | int | isinst | ord | repr | list | str | tuple | range | zip | other
inductive AV where
 | none
 | bool (b : Bool)
 | int (i : Int)
 | str (s : List Nat)
 | tup (l : List AV)
 | obj (i : Nat)
 | fn (a : Nat)
 | bi (k : BI)
 | meth (f i : Nat)
 | lst (l : List AV)
 | rpr (v : AV)
 deriving Inhabited
inductive AO where
 | list (l : List AV)
 | junk (b : Nat)
 | dict (es : List (AV × AV))
 | book (es : List (AV × AV))
 | inst (c : Nat) (at_ : List (Nat × AV))
 | fix (l : List AV) (o : Obj)
abbrev AH := List AO
abbrev Fr := List (Nat × AV)
inductive BOp | add | sub | mul | fdiv | fmod | pow | shl
inductive COp | eq | ne | lt | le | gt | ge | isin | notin | is | isnot
noncomputable def BOp.py : BOp → Operator
 | .add => .Add | .sub => .Sub | .mul => .Mult | .fdiv => .FloorDiv | .fmod => .Mod | .pow => .Pow | .shl => .LShift
noncomputable def COp.py : COp → CmpOp
 | .eq => .Eq | .ne => .NotEq | .lt => .Lt | .le => .LtE | .gt => .Gt | .ge => .GtE | .isin => .In | .notin => .NotIn | .is => .Is | .isnot => .IsNot
abbrev Nms := List (Nat × NameKind)
inductive E where
 | c (v : AV) (k : Nat) (p : Pos)
 | loc (x : Nat) (p : Pos)
 | gl (x : Nat) (p : Pos)
 | bin (op : BOp) (a b : E) (p : Pos)
 | neg (a : E) (p : Pos)
 | cmp (op : COp) (a b : E) (p : Pos)
 | cmp2 (o1 o2 : COp) (a b c : E) (p : Pos)
 | ife (t a b : E) (p : Pos)
 | tup (l : List E) (k : Nat) (p : Pos)
 | lst (l : List E) (p : Pos)
 | dct (p : Pos)
 | idx (e i : E) (p : Pos)
 | slc (e : E) (lo hi : Option E) (ps p : Pos)
 | att (e : E) (a : Nat) (p : Pos)
 | call (f : E) (l : List E) (p : Pos)
 | mth (e : E) (a : Nat) (l : List E) (pa p : Pos)
 | comp (x : Nat) (px : Pos) (el it : E) (sc : Nms) (p : Pos)
 | compR (x : Nat) (px : Pos) (el : E) (rg : Nat) (pr : Pos) (hi : E) (pi : Pos) (sc : Nms) (p : Pos)
 | tryc (f : Nat) (pn : Pos) (b : E) (sc : Nms) (pl p : Pos)
 | not (t : E) (p : Pos)
 | and (l : List E) (p : Pos)
 | or (l : List E) (p : Pos)
 | raw (e : Expr)
inductive Tg where
 | name (x : Nat) (p : Pos)
 | att (e : E) (a : Nat) (p : Pos)
 | sub (e i : E) (p : Pos)
inductive S where
 | asg (t : Tg) (e : E) (p : Pos)
 | asgT (l : List Tg) (k : Nat) (pt : Pos) (e : E) (p : Pos)
 | asgS (l : List (Nat × Pos)) (k : Nat) (pt : Pos) (es : List E) (ke : Nat) (pe p : Pos)
 | augn (x : Nat) (px : Pos) (op : BOp) (e : E) (p : Pos)
 | auga (o : E) (a : Nat) (pa : Pos) (op : BOp) (e : E) (p : Pos)
 | ret (e : E) (p : Pos)
 | ife (t : E) (a b : List S) (p : Pos)
 | whl (t : E) (b : List S) (p : Pos)
 | for_ (t : Tg) (it : E) (b : List S) (p : Pos)
 | forR (t : Tg) (rg : Nat) (pr : Pos) (hi : E) (pi : Pos) (b : List S) (p : Pos)
 | forZ (x : Nat) (px : Pos) (y : Nat) (py : Pos) (k : Nat) (pt : Pos) (z : Nat) (pz : Pos) (a c : E) (pi : Pos) (b : List S) (p : Pos)
 | rse (code : List Nat) (x : Nat) (px : Pos) (args : List E) (pc p : Pos)
 | exp (e : E) (p : Pos)
 | raw (s : Stmt)
section
variable (nm : Nat → Str)
noncomputable def strOf (l : List Nat) : Str := ⟨l.toArray⟩
noncomputable def AV.const : AV → Const
 | .bool b => .bool b
 | .int i => .int i
 | .str s => .str (strOf s)
 | _ => .none
noncomputable def scO (sc : Nms) : Scope := { kind := .function, names := sc.map fun y => (nm y.1, y.2), isGenerator := false, isCoroutine := false }
mutual
noncomputable def E.py : E → Expr
 | .c v k p => .Constant v.const k p
 | .loc x p => .Name (nm x) p
 | .gl x p => .Name (nm x) p
 | .bin op a b p => .BinOp a.py op.py b.py p
 | .neg a p => .UnaryOp .USub a.py p
 | .cmp op a b p => .Compare a.py [op.py] [b.py] p
 | .cmp2 o1 o2 a b z p => .Compare a.py [o1.py, o2.py] [b.py, z.py] p
 | .ife t a b p => .IfExp t.py a.py b.py p
 | .tup l k p => .Tuple (E.pys l) k p
 | .lst l p => .List (E.pys l) p
 | .dct p => .Dict [] [] p
 | .idx e i p => .Subscript e.py i.py p
 | .slc e lo hi ps p => .Subscript e.py (.Slice (E.pyo lo) (E.pyo hi) none ps) p
 | .att e a p => .Attribute e.py (nm a) p
 | .call f l p => .Call f.py (E.pys l) [] p
 | .mth e a l pa p => .Call (.Attribute e.py (nm a) pa) (E.pys l) [] p
 | .comp x px el it sc p => .ListComp el.py [⟨.Name (nm x) px, it.py, [], 0⟩] (scO nm sc) p
 | .compR x px el rg pr hi pi sc p => .ListComp el.py [⟨.Name (nm x) px, .Call (.Name (nm rg) pr) [hi.py] [] pi, [], 0⟩] (scO nm sc) p
 | .tryc f pn b sc pl p => .Call (.Name (nm f) pn) [.Lambda ⟨[], [], none, [], [], none, []⟩ b.py (scO nm sc) pl] [] p
 | .not t p => .UnaryOp .Not t.py p
 | .and l p => .BoolOp .And (E.pys l) p
 | .or l p => .BoolOp .Or (E.pys l) p
 | .raw e => e
noncomputable def E.pys : List E → List Expr
 | [] => []
 | e :: l => e.py :: E.pys l
noncomputable def E.pyo : Option E → Option Expr
 | none => none
 | some e => some e.py
end
noncomputable def Tg.py : Tg → Expr
 | .name x p => .Name (nm x) p
 | .att e a p => .Attribute (e.py nm) (nm a) p
 | .sub e i p => .Subscript (e.py nm) (i.py nm) p
noncomputable def Tg.pys : List Tg → List Expr
 | [] => []
 | e :: l => e.py nm :: Tg.pys l
noncomputable def nmsPy : List (Nat × Pos) → List Expr
 | [] => []
 | y :: l => .Name (nm y.1) y.2 :: nmsPy l
mutual
noncomputable def S.py : S → Stmt
 | .asg t e p => .Assign [t.py nm] (e.py nm) p
 | .asgT l k pt e p => .Assign [.Tuple (Tg.pys nm l) k pt] (e.py nm) p
 | .asgS l k pt es ke pe p => .Assign [.Tuple (nmsPy nm l) k pt] (.Tuple (E.pys nm es) ke pe) p
 | .augn x px op e p => .AugAssign (.Name (nm x) px) op.py (e.py nm) p
 | .auga o a pa op e p => .AugAssign (.Attribute (o.py nm) (nm a) pa) op.py (e.py nm) p
 | .ret e p => .Return (some (e.py nm)) p
 | .ife t a b p => .If (t.py nm) (S.pys a) (S.pys b) p
 | .whl t b p => .While (t.py nm) (S.pys b) [] p
 | .for_ t it b p => .For (t.py nm) (it.py nm) (S.pys b) [] p
 | .forR t rg pr hi pi b p => .For (t.py nm) (.Call (.Name (nm rg) pr) [hi.py nm] [] pi) (S.pys b) [] p
 | .forZ x px y py k pt z pz a c pi b p => .For (.Tuple [.Name (nm x) px, .Name (nm y) py] k pt) (.Call (.Name (nm z) pz) [a.py nm, c.py nm] [] pi) (S.pys b) [] p
 | .rse _ x px args pc p => .Raise (some (.Call (.Name (nm x) px) (E.pys nm args) [] pc)) none p
 | .exp e p => .Expr (e.py nm) p
 | .raw s => s
noncomputable def S.pys : List S → List Stmt
 | [] => []
 | s :: l => s.py :: S.pys l
end
end
inductive R (α : Type) where
 | ok (a : α) (H : AH)
 | exc (c : List Nat) (H : AH)
 | bad
noncomputable def R.bind {α β : Type} (r : R α) (f : α → AH → R β) : R β := match r with
 | .ok a H => f a H
 | .exc c H => .exc c H
 | .bad => .bad
noncomputable def nth {α : Type} : List α → Nat → Option α
 | [], _ => none
 | a :: _, 0 => some a
 | _ :: l, n + 1 => nth l n
noncomputable def put {α : Type} : List α → Nat → α → List α
 | [], _, _ => []
 | _ :: l, 0, b => b :: l
 | a :: l, n + 1, b => a :: put l n b
noncomputable def look : List (Nat × AV) → Nat → Option AV
 | [], _ => none
 | (y, v) :: l, x => match Nat.beq y x with | true => some v | false => look l x
noncomputable def upd : List (Nat × AV) → Nat → AV → List (Nat × AV)
 | [], x, v => [(x, v)]
 | (y, u) :: l, x, v => match Nat.beq y x with | true => (y, v) :: l | false => (y, u) :: upd l x v
noncomputable def eqN : List Nat → List Nat → Bool
 | [], [] => true
 | a :: l, b :: r => match Nat.beq a b with | true => eqN l r | false => false
 | _, _ => false
noncomputable def beqI : Int → Int → Bool
 | .ofNat a, .ofNat b => Nat.beq a b
 | .negSucc a, .negSucc b => Nat.beq a b
 | _, _ => false
mutual
noncomputable def eqV (x y : AV) : Bool := match x with
 | .none => match y with | .none => true | _ => false
 | .bool a => match y with | .bool b => a == b | _ => false
 | .int a => match y with | .int b => beqI a b | _ => false
 | .str a => match y with | .str b => eqN a b | _ => false
 | .tup a => match y with | .tup b => eqVs a b | _ => false
 | .lst a => match y with | .lst b => eqVs a b | _ => false
 | .obj a => match y with | .obj b => Nat.beq a b | _ => false
 | .fn a => match y with | .fn b => Nat.beq a b | _ => false
 | .meth f i => match y with | .meth g j => Nat.beq f g && Nat.beq i j | _ => false
 | .rpr a => match y with | .rpr b => eqV a b | _ => false
 | .bi _ => false
noncomputable def eqVs (x y : List AV) : Bool := match x with
 | [] => match y with | [] => true | _ => false
 | a :: l => match y with | b :: r => (match eqV a b with | true => eqVs l r | false => false) | _ => false
end
noncomputable def isKey : AV → Bool
 | .str _ => true
 | .tup [.str _, .int _] => true
 | _ => false
noncomputable def dget : List (AV × AV) → AV → Option AV
 | [], _ => none
 | (k, v) :: l, x => match eqV k x with | true => some v | false => dget l x
noncomputable def dput : List (AV × AV) → AV → AV → List (AV × AV)
 | [], x, v => [(x, v)]
 | (k, u) :: l, x, v => match eqV k x with | true => (k, v) :: l | false => (k, u) :: dput l x v
noncomputable def allStr : List (AV × AV) → Bool
 | [] => true
 | (.str _, _) :: l => allStr l
 | _ => false
noncomputable def small (i : Int) : Bool := match i with | .ofNat n => Nat.blt n 18446744073709551616 | .negSucc n => Nat.blt n 18446744073709551615
noncomputable def sm (i : Int) (H : AH) : R AV := match small i with | true => .ok (.int i) H | false => .bad
noncomputable def bopN (op : BOp) (x y : Int) (H : AH) : R AV := match op with
 | .add => match small x, small y with | true, true => sm (x + y) H | _, _ => .bad
 | .sub => match small x, small y with | true, true => sm (x - y) H | _, _ => .bad
 | .mul => match small x, small y with | true, true => sm (x * y) H | _, _ => .bad
 | .fdiv => match y with
  | .ofNat (k + 1) => match small x with | true => (match Nat.blt k 1000000 with | true => sm (Int.fdiv x (.ofNat (k + 1))) H | false => .bad) | false => .bad
  | _ => .bad
 | .fmod => match y with
  | .ofNat (k + 1) => match Nat.blt k 1000000 with | true => .ok (.int (Int.fmod x (.ofNat (k + 1)))) H | false => .bad
  | _ => .bad
 | .pow => match y with
  | .ofNat k => match small x, Nat.blt k 20 with | true, true => sm (x ^ k) H | _, _ => .bad
  | _ => .bad
 | .shl => match y with
  | .ofNat k => match small x, Nat.blt k 40 with | true, true => sm (x * 2 ^ k) H | _, _ => .bad
  | _ => .bad
noncomputable def bopL (op : BOp) (i j : Nat) (H : AH) : R AV := match op with
 | .add => match nth H i, nth H j with
  | some (.list l), some (.list r) => match Nat.blt l.length 1000, Nat.blt r.length 1000 with
   | true, true => .ok (.obj H.length) (H ++ [.list (l ++ r)])
   | _, _ => .bad
  | _, _ => .bad
 | _ => .bad
noncomputable def bopM (op : BOp) (i : Nat) (y : Int) (H : AH) : R AV := match op with
 | .mul => match y with
  | .ofNat k => match nth H i, Nat.blt k 100 with
   | some (.list [v]), true => .ok (.obj H.length) (H ++ [.list (List.replicate k v)])
   | _, _ => .bad
  | _ => .bad
 | _ => .bad
noncomputable def bop (op : BOp) (a b : AV) (H : AH) : R AV := match a with
 | .int x => match b with | .int y => bopN op x y H | _ => .bad
 | .obj i => match b with
  | .obj j => bopL op i j H
  | .int y => bopM op i y H
  | _ => .bad
 | _ => .bad
noncomputable def ltI (a b : Int) : Bool := match a, b with
 | .ofNat m, .ofNat n => Nat.blt m n
 | .ofNat _, .negSucc _ => false
 | .negSucc _, .ofNat _ => true
 | .negSucc m, .negSucc n => Nat.blt n m
noncomputable def hasN : List Nat → Nat → Bool
 | [], _ => false
 | a :: l, b => match Nat.beq a b with | true => true | false => hasN l b
noncomputable def anyEq : List AV → List Nat → Option Bool
 | [], _ => some false
 | .str a :: l, s => match anyEq l s with | some b => some (eqN a s || b) | none => none
 | _, _ => none
noncomputable def cmpEq (a b : AV) : Option Bool := match a with
 | .int x => match b with | .int y => some (beqI x y) | _ => none
 | .str x => match b with | .str y => some (eqN x y) | _ => none
 | .tup _ => match b with | .str _ => some false | _ => none
 | .rpr x => match b with | .rpr y => (match eqV x y with | true => some true | false => none) | _ => none
 | _ => none
noncomputable def cmpNe (a b : AV) : Option Bool := match a with
 | .int x => match b with | .int y => some (!beqI x y) | _ => none
 | .str x => match b with | .str y => some (!eqN x y) | _ => none
 | .bool x => match b with | .bool y => some (x != y) | _ => none
 | .rpr x => match b with | .rpr y => (match eqV x y with | true => some false | false => none) | _ => none
 | _ => none
noncomputable def cmpII (f : Int → Int → Bool) (a b : AV) : Option Bool := match a with
 | .int x => match b with | .int y => some (f x y) | _ => none
 | _ => none
noncomputable def cmpLe (a b : AV) : Option Bool := match a with
 | .int x => match b with | .int y => some (!ltI y x) | _ => none
 | .str [x] => match b with | .str [y] => some (Nat.ble x y) | _ => none
 | _ => none
noncomputable def cmpIn (a b : AV) (H : AH) : Option Bool := match a with
 | .str x => match b with
  | .tup l => anyEq l x
  | .str s => match x with | [c] => some (hasN s c) | _ => none
  | .obj i => match nth H i with
   | some (.dict es) => some (dget es (.str x)).isSome
   | _ => none
  | _ => none
 | _ => none
noncomputable def cmpNotin (a b : AV) (H : AH) : Option Bool := match a with
 | .str x => match b with
  | .str s => match x with | [c] => some (!hasN s c) | _ => none
  | .obj i => match nth H i with
   | some (.dict es) => some (dget es (.str x)).isNone
   | _ => none
  | _ => none
 | _ => none
noncomputable def cmpIs (a b : AV) : Option Bool := match b with
 | .none => match a with
  | .none => some true
  | .str _ => some false
  | .obj _ => some false
  | .tup _ => some false
  | .int _ => some false
  | _ => none
 | _ => none
noncomputable def cmpIsnot (a b : AV) : Option Bool := match b with
 | .none => match a with
  | .none => some false
  | .tup _ => some true
  | _ => none
 | _ => none
noncomputable def cmpV (op : COp) (a b : AV) (H : AH) : Option Bool := match op with
 | .eq => cmpEq a b
 | .ne => cmpNe a b
 | .lt => cmpII (fun x y => ltI x y) a b
 | .gt => cmpII (fun x y => ltI y x) a b
 | .le => cmpLe a b
 | .ge => cmpII (fun x y => !ltI x y) a b
 | .isin => cmpIn a b H
 | .notin => cmpNotin a b H
 | .is => cmpIs a b
 | .isnot => cmpIsnot a b
noncomputable def idxV (a i : AV) (H : AH) : Option AV := match a, i with
 | .str s, .int (.ofNat k) => (nth s k).map fun c => .str [c]
 | .tup l, .int (.ofNat k) => match Nat.blt k 1000 with | true => nth l k | false => none
 | .obj o, x => match nth H o, x with
  | some (.list l), .int (.ofNat k) => nth l k
  | some (.dict es), .str x => dget es (.str x)
  | some (.book es), x => match isKey x with | true => dget es x | false => none
  | _, _ => none
 | _, _ => none
noncomputable def oneSide (lo hi : Option Nat) : Bool := match lo, hi with | some _, none => true | none, some _ => true | _, _ => false
noncomputable def lstAt : Option AO → Option (List AV)
 | some (.list l) => some l
 | some (.fix l _) => some l
 | _ => none
noncomputable def slcL {α : Type} (l : List α) (lo hi : Option Nat) : List α := (l.take (hi.getD l.length)).drop (lo.getD 0)
noncomputable def attV (a : AV) (x : Nat) (H : AH) : Option AV := match a with
 | .obj o => match nth H o with
  | some (.inst _ at_) => look at_ x
  | _ => none
 | _ => none
noncomputable def snap : Nat → AH → AV → Option AV
 | 0, _, _ => none
 | n + 1, H, v => match v with
  | .int i => some (.int i)
  | .str s => some (.str s)
  | .tup l => some (.tup l)
  | .obj i => match nth H i with
   | some (.list l) => (snaps n H l).map .lst
   | _ => none
  | _ => none
where snaps : Nat → AH → List AV → Option (List AV)
 | 0, _, _ => none
 | _ + 1, _, [] => some []
 | n + 1, H, v :: l => match snap n H v, snaps n H l with
  | some a, some b => some (a :: b)
  | _, _ => none
noncomputable def asciiL : List Nat → Bool
 | [] => true
 | c :: l => match Nat.blt c 128 with | true => asciiL l | false => false
noncomputable def okL : AV → Bool
 | .int i => small i
 | .str s => match Nat.ble s.length 20 with | true => asciiL s | false => false
 | .tup [.int a, .int b] => match small a with | true => small b | false => false
 | _ => false
noncomputable def okLs : List AV → Bool
 | [] => true
 | x :: l => match okL x with | true => okLs l | false => false
noncomputable def okM : AV → Bool
 | .lst l => match Nat.ble l.length 10 with | true => okLs l | false => false
 | x => okL x
noncomputable def okMs : List AV → Bool
 | [] => true
 | x :: l => match okM x with | true => okMs l | false => false
noncomputable def okR : AV → Bool
 | .lst l => match Nat.ble l.length 10 with | true => okMs l | false => false
 | _ => false
noncomputable def instS : AV → Option Bool
 | .str _ => some true | .int _ => some false | .tup _ => some false | _ => none
noncomputable def instT : AV → Option Bool
 | .str _ => some false | .int _ => some false | .tup _ => some true | _ => none
noncomputable def instI : AV → Option Bool
 | .str _ => some false | .int _ => some true | .tup _ => some false | _ => none
noncomputable def instB (a : AV) (k : BI) : Option Bool := match k with
 | .str => instS a
 | .tuple => instT a
 | .int => instI a
 | _ => none
noncomputable def instOf (a k : AV) : Option Bool := match k with
 | .bi k => instB a k
 | _ => none
noncomputable def absI : Int → Int
 | .ofNat n => .ofNat n
 | .negSucc n => .ofNat (n + 1)
noncomputable def biLen (v : AV) (H : AH) : R AV := match v with
 | .str s => .ok (.int (.ofNat s.length)) H
 | .obj i => match nth H i with
  | some (.list l) => .ok (.int (.ofNat l.length)) H
  | _ => .bad
 | _ => .bad
noncomputable def biLst (v : AV) (H : AH) : R AV := match v with
 | .obj i => match nth H i with
  | some (.list l) => .ok (.obj H.length) (H ++ [.list l])
  | _ => .bad
 | _ => .bad
noncomputable def bi1 (k : BI) (v : AV) (H : AH) : R AV := match k with
 | .len => biLen v H
 | .abs => match v with | .int i => .ok (.int (absI i)) H | _ => .bad
 | .int => match v with | .int i => .ok (.int i) H | _ => .bad
 | .ord => match v with | .str [c] => .ok (.int (.ofNat c)) H | _ => .bad
 | .repr => match snap 10 H v with | some x => (match okR x with | true => .ok (.rpr x) H | false => .bad) | none => .bad
 | .list => biLst v H
 | _ => .bad
noncomputable def bi2 (k : BI) (a t : AV) (H : AH) : R AV := match k with
 | .isinst => match instOf a t with | some b => .ok (.bool b) H | none => .bad
 | _ => .bad
noncomputable def biCall (k : BI) (l : List AV) (H : AH) : R AV := match l with
 | [v] => bi1 k v H
 | [a, t] => bi2 k a t H
 | _ => .bad
noncomputable def rstripV (s : List Nat) (l : List AV) : Option (List Nat) := match s, l with
 | [c], [.str [e]] => match Nat.beq e 32, Nat.beq c 32 with | true, false => some [c] | _, _ => none
 | _, _ => none
inductive MK | append | pop | get | rstrip
noncomputable def mkOk (m : MK) (o : AO) : Bool := match m, o with
 | .append, .list _ => true
 | .append, .junk _ => true
 | .pop, .list _ => true
 | .get, .dict _ => true
 | _, _ => false
noncomputable def mthV (m : MK) (a : AV) (l : List AV) (H : AH) : R AV := match m, a, l with
 | .append, .obj i, [v] => match nth H i with
  | some (.list xs) => match Nat.blt xs.length 1000 with | true => .ok .none (put H i (.list (xs ++ [v]))) | false => .bad
  | some (.junk b) => match Nat.blt b 1000 with | true => .ok .none (put H i (.junk (b + 1))) | false => .bad
  | _ => .bad
 | .pop, .obj i, [] => match nth H i with
  | some (.list xs) => match xs.reverse with
   | x :: r => .ok x (put H i (.list r.reverse))
   | [] => .bad
  | _ => .bad
 | .get, .obj i, [k] => match nth H i with
  | some (.dict es) => match k with
   | .str s => .ok ((dget es (.str s)).getD .none) H
   | _ => .bad
  | _ => .bad
 | .get, .obj i, [k, d] => match nth H i with
  | some (.dict es) => match k with
   | .str s => .ok ((dget es (.str s)).getD d) H
   | _ => .bad
  | _ => .bad
 | .rstrip, .str s, l => match rstripV s l with | some s => .ok (.str s) H | none => .bad
 | _, _, _ => .bad
noncomputable def setI (a i v : AV) (H : AH) : Option AH := match a with
 | .obj o => match nth H o, i with
  | some (.list l), .int (.ofNat k) => match Nat.blt k l.length with | true => some (put H o (.list (put l k v))) | false => none
  | some (.dict es), .str x => match Nat.blt es.length 1000 with | true => some (put H o (.dict (dput es (.str x) v))) | false => none
  | some (.book es), x => match isKey x, Nat.blt es.length 1000 with | true, true => some (put H o (.book (dput es x v))) | _, _ => none
  | _, _ => none
 | _ => none
noncomputable def setA (a : AV) (x : Nat) (v : AV) (H : AH) : Option AH := match a with
 | .obj o => match nth H o with
  | some (.inst c at_) => match Nat.blt at_.length 100 with | true => some (put H o (.inst c (upd at_ x v))) | false => none
  | _ => none
 | _ => none
noncomputable def isBook (p : Pos) : Bool := Nat.beq p.line 669 && Nat.beq p.col 80
noncomputable def natOf : AV → Option (Option Nat)
 | .int (.ofNat k) => match Nat.blt k 1000000 with | true => some (some k) | false => none
 | .none => some none
 | _ => none
noncomputable def lookA {α : Type} : List (Nat × α) → Nat → Option α
 | [], _ => none
 | (a, v) :: l, x => match Nat.beq a x with | true => some v | false => lookA l x
noncomputable def capt (sc : Nms) : Fr → Fr
 | [] => []
 | (x, v) :: l => match lookA sc x with | some .free => (x, v) :: capt sc l | _ => capt sc l
inductive Src | fix | lst (i : Nat) (l : List AV)
noncomputable def srcOk (q : Src) (H : AH) : Bool := match q with
 | .fix => true
 | .lst i l => match nth H i with
  | some (.list l') => eqVs l l'
  | _ => false
structure Fn where
 params : List Nat
 names : Nms
 fast : List Nat
 body : List S
structure Tab where
 fn : Nat → Option Fn
 glob : Nat → Option AV
 cls : Nat → Option (Nat × List AV)
 meth : Nat → Nat → Option Nat
 kind : Nat → Option MK
inductive Fl | next | ret (v : AV)
noncomputable def zipP : List Nat → List AV → Option Fr
 | [], [] => some []
 | x :: l, v :: r => (zipP l r).map ((x, v) :: ·)
 | _, _ => none
noncomputable def asgN : Fr → List Nat → List AV → Option Fr
 | fr, [], [] => some fr
 | fr, x :: l, v :: r => asgN (upd fr x v) l r
 | _, _, _ => none
section
variable (tb : Tab)
mutual
noncomputable def ev : Nat → Nat → Fr → AH → E → R AV
 | 0, _, _, _, _ => .bad
 | n + 1, d, fr, H, e => match e with
  | .c v _ _ => .ok v H
  | .loc x _ => match look fr x with | some v => .ok v H | none => .bad
  | .gl x _ => match tb.glob x with | some v => .ok v H | none => .bad
  | .bin op a b _ => (ev n d fr H a).bind fun x H => (ev n d fr H b).bind fun y H => bop op x y H
  | .neg a _ => (ev n d fr H a).bind fun x H => match x with | .int i => sm (-i) H | _ => .bad
  | .cmp op a b _ => (ev n d fr H a).bind fun x H => (ev n d fr H b).bind fun y H => match cmpV op x y H with | some r => .ok (.bool r) H | none => .bad
  | .cmp2 o1 o2 a b c _ => (ev n d fr H a).bind fun x H => (ev n d fr H b).bind fun y H => match cmpV o1 x y H with
   | some false => .ok (.bool false) H
   | some true => (ev n d fr H c).bind fun z H => match cmpV o2 y z H with | some r => .ok (.bool r) H | none => .bad
   | none => .bad
  | .ife t a b _ => (te n d fr H t).bind fun c H => match c with | true => ev n d fr H a | false => ev n d fr H b
  | .tup l _ _ => (evs n d fr H l).bind fun vs H => match Nat.ble vs.length 1000 with | true => .ok (.tup vs) H | false => .bad
  | .lst l _ => (evs n d fr H l).bind fun vs H => match Nat.ble vs.length 1000 with | true => .ok (.obj H.length) (H ++ [.list vs]) | false => .bad
  | .dct p => match isBook p with | true => .ok (.obj H.length) (H ++ [.book []]) | false => .ok (.obj H.length) (H ++ [.dict []])
  | .idx e i _ => (ev n d fr H e).bind fun x H => (ev n d fr H i).bind fun y H => match idxV x y H with | some v => .ok v H | none => .bad
  | .slc e lo hi _ _ => (ev n d fr H e).bind fun x H => (evo n d fr H lo).bind fun a H => (evo n d fr H hi).bind fun b H => match natOf a, natOf b, x with
   | some lo, some hi, .str s => match Nat.ble s.length 1 with | true => .ok (.str (slcL s lo hi)) H | false => .bad
   | some lo, some hi, .obj i => match lstAt (nth H i) with
    | some l => match oneSide lo hi with | true => .ok (.obj H.length) (H ++ [.list (slcL l lo hi)]) | false => .bad
    | none => .bad
   | _, _, _ => .bad
  | .att e a _ => (ev n d fr H e).bind fun x H => match attV x a H with
   | some v => .ok v H
   | none => match x with
    | .obj i => match nth H i with
     | some (.inst c at_) => match look at_ a, tb.meth c a with
      | none, some f => .ok (.meth f i) H
      | _, _ => .bad
     | _ => .bad
    | _ => .bad
  | .call f l _ => (ev n d fr H f).bind fun g H => (evs n d fr H l).bind fun vs H => callF n d H g vs
  | .mth e a l _ _ => (ev n d fr H e).bind fun x H => match x, tb.kind a with
   | .obj i, k => match nth H i with
    | some (.inst c at_) => match look at_ a, tb.meth c a with
     | none, some f => (evs n d fr H l).bind fun vs H => callF n d H (.fn f) (.obj i :: vs)
     | _, _ => .bad
    | some o => match k with
     | some k => match mkOk k o with
      | true => (evs n d fr H l).bind fun vs H => mthV k (.obj i) vs H
      | false => .bad
     | none => .bad
    | none => .bad
   | .str s, some .rstrip => (evs n d fr H l).bind fun vs H => mthV .rstrip (.str s) vs H
   | _, _ => .bad
  | .comp x _ el it sc _ => (ev n d fr H it).bind fun v H => match d with
   | 0 => .bad
   | d + 1 => match v with
    | .tup l => match Nat.ble l.length 1000 with
     | true => (cmpL n d (capt sc fr) H .fix x el l []).bind fun vs H => .ok (.obj H.length) (H ++ [.list vs])
     | false => .bad
    | .obj i => match nth H i with
     | some (.list l) => (cmpL n d (capt sc fr) H (.lst i l) x el l []).bind fun vs H => .ok (.obj H.length) (H ++ [.list vs])
     | _ => .bad
    | _ => .bad
  | .compR x _ el _ _ hi _ sc _ => (ev n d fr H hi).bind fun v H => match d, v with
   | d + 1, .int (.ofNat k) => match Nat.blt k 10 with
    | true => (cmpL n d (capt sc fr) H .fix x el ((List.range k).map fun i => .int (.ofNat i)) []).bind fun vs H => .ok (.obj H.length) (H ++ [.list vs])
    | false => .bad
   | _, _ => .bad
  | .tryc _ _ b sc _ _ => match d with
   | d + 3 => match ev n d (capt sc fr) H b with
    | .ok _ H => .ok (.str []) H
    | .exc c H => match Nat.ble c.length 1000 with | true => .ok (.str c) H | false => .bad
    | .bad => .bad
   | _ => .bad
  | .not _ _ => .bad
  | .and _ _ => .bad
  | .or _ _ => .bad
  | .raw _ => .bad
termination_by structural x => x
noncomputable def te : Nat → Nat → Fr → AH → E → R Bool
 | 0, _, _, _, _ => .bad
 | n + 1, d, fr, H, e => match e with
  | .not t _ => (te n d fr H t).bind fun b H => .ok (!b) H
  | .and l _ => teA n d fr H l
  | .or l _ => teO n d fr H l
  | .cmp op a b _ => (ev n d fr H a).bind fun x H => (ev n d fr H b).bind fun y H => match cmpV op x y H with | some r => .ok r H | none => .bad
  | .cmp2 o1 o2 a b c _ => (ev n d fr H a).bind fun x H => (ev n d fr H b).bind fun y H => match cmpV o1 x y H with
   | some false => .ok false H
   | some true => (ev n d fr H c).bind fun z H => match cmpV o2 y z H with | some r => .ok r H | none => .bad
   | none => .bad
  | .ife _ _ _ _ => .bad
  | .raw _ => .bad
  | e => (ev n d fr H e).bind fun v H => match v with | .bool b => .ok b H | _ => .bad
termination_by structural x => x
noncomputable def teA : Nat → Nat → Fr → AH → List E → R Bool
 | 0, _, _, _, _ => .bad
 | n + 1, d, fr, H, l => match l with
  | [] => .ok true H
  | t :: r => (te n d fr H t).bind fun b H => match b with | true => teA n d fr H r | false => .ok false H
termination_by structural x => x
noncomputable def teO : Nat → Nat → Fr → AH → List E → R Bool
 | 0, _, _, _, _ => .bad
 | n + 1, d, fr, H, l => match l with
  | [] => .ok false H
  | t :: r => (te n d fr H t).bind fun b H => match b with | false => teO n d fr H r | true => .ok true H
termination_by structural x => x
noncomputable def evs : Nat → Nat → Fr → AH → List E → R (List AV)
 | 0, _, _, _, _ => .bad
 | n + 1, d, fr, H, l => match l with
  | [] => .ok [] H
  | e :: r => (ev n d fr H e).bind fun v H => (evs n d fr H r).bind fun vs H => .ok (v :: vs) H
termination_by structural x => x
noncomputable def evo : Nat → Nat → Fr → AH → Option E → R AV
 | 0, _, _, _, _ => .bad
 | n + 1, d, fr, H, o => match o with
  | none => .ok .none H
  | some e => ev n d fr H e
termination_by structural x => x
noncomputable def cmpL : Nat → Nat → Fr → AH → Src → Nat → E → List AV → List AV → R (List AV)
 | 0, _, _, _, _, _, _, _, _ => .bad
 | n + 1, d, fr, H, q, x, el, l, acc => match srcOk q H with
  | false => .bad
  | true => match l with
   | [] => .ok acc H
   | v :: r => match ev n d (upd fr x v) H el with
    | .ok u H => cmpL n d (upd fr x v) H q x el r (acc ++ [u])
    | _ => .bad
termination_by structural x => x
noncomputable def callF : Nat → Nat → AH → AV → List AV → R AV
 | 0, _, _, _, _ => .bad
 | n + 1, d, H, g, vs => match g with
  | .fn a => match tb.fn a with
   | some f => runF n d H f vs
   | none => match tb.cls a with
    | some (f, ds) => match d, tb.fn f with
     | d + 1, some f => (runF n d (H ++ [.inst a []]) f (.obj H.length :: (vs ++ ds.drop vs.length))).bind fun r H' => match r with | .none => .ok (.obj H.length) H' | _ => .bad
     | _, _ => .bad
    | none => .bad
  | .meth f i => match tb.fn f with
   | some f => match d with | d + 1 => runF n d H f (.obj i :: vs) | 0 => .bad
   | none => .bad
  | .bi k => biCall k vs H
  | _ => .bad
termination_by structural x => x
noncomputable def runF : Nat → Nat → AH → Fn → List AV → R AV
 | 0, _, _, _, _ => .bad
 | n + 1, d, H, f, vs => match d, asgN [] f.params vs with
  | d + 1, some fr => match exs n d fr H f.body with
   | .ok (.ret v, _) H => .ok v H
   | .ok (.next, _) H => .ok .none H
   | .exc c H => .exc c H
   | .bad => .bad
  | _, _ => .bad
termination_by structural x => x
noncomputable def asg : Nat → Nat → Fr → AH → Tg → AV → R Fr
 | 0, _, _, _, _, _ => .bad
 | n + 1, d, fr, H, t, v => match t with
  | .name x _ => .ok (upd fr x v) H
  | .att e a _ => match ev n d fr H e with
   | .ok x H => match setA x a v H with | some H => .ok fr H | none => .bad
   | _ => .bad
  | .sub e i _ => match ev n d fr H e with
   | .ok x H => match ev n d fr H i with
    | .ok y H => match setI x y v H with | some H => .ok fr H | none => .bad
    | _ => .bad
   | _ => .bad
termination_by structural x => x
noncomputable def asgs : Nat → Nat → Fr → AH → List Tg → List AV → R Fr
 | 0, _, _, _, _, _ => .bad
 | n + 1, d, fr, H, l, vs => match l, vs with
  | [], [] => .ok fr H
  | t :: l, v :: vs => match asg n d fr H t v with
   | .ok fr H => asgs n d fr H l vs
   | _ => .bad
  | _, _ => .bad
termination_by structural x => x
noncomputable def ex : Nat → Nat → Fr → AH → S → R (Fl × Fr)
 | 0, _, _, _, _ => .bad
 | n + 1, d, fr, H, s => match s with
  | .asg t e _ => (ev n d fr H e).bind fun v H => match asg n d fr H t v with
   | .ok fr H => .ok (.next, fr) H
   | _ => .bad
  | .asgT l _ _ e _ => (ev n d fr H e).bind fun v H => match v with
   | .tup vs => match asgs n d fr H l vs with
    | .ok fr H => .ok (.next, fr) H
    | _ => .bad
   | _ => .bad
  | .asgS l _ _ es _ _ _ => (evs n d fr H es).bind fun vs H => match asgN fr (l.map (·.1)).reverse vs.reverse with
   | some fr => .ok (.next, fr) H
   | none => .bad
  | .augn x _ op e _ => match look fr x with
   | some v => (ev n d fr H e).bind fun u H => match v with
    | .int _ => match bop op v u H with
     | .ok r H => .ok (.next, upd fr x r) H
     | _ => .bad
    | _ => .bad
   | none => .bad
  | .auga o a _ op e _ => (ev n d fr H o).bind fun x H => match attV x a H with
   | some v => (ev n d fr H e).bind fun u H => match v with
    | .int _ => match bop op v u H with
     | .ok r H => match setA x a r H with | some H => .ok (.next, fr) H | none => .bad
     | _ => .bad
    | _ => .bad
   | none => .bad
  | .ret e _ => (ev n d fr H e).bind fun v H => .ok (.ret v, fr) H
  | .ife t a b _ => (te n d fr H t).bind fun c H => match c with | true => exs n d fr H a | false => exs n d fr H b
  | .whl t b _ => match d with | d + 1 => whl n d fr H t b | 0 => .bad
  | .for_ t it b _ => (ev n d fr H it).bind fun v H => match d with
   | 0 => .bad
   | d + 1 => match v with
    | .tup l => forL n d fr H .fix t l b
    | .obj i => match nth H i with
     | some (.list l) => forL n d fr H (.lst i l) t l b
     | _ => .bad
    | _ => .bad
  | .forR t _ _ hi _ b _ => (ev n d fr H hi).bind fun v H => match d, v with
   | d + 1, .int (.ofNat k) => match Nat.blt k 10 with
    | true => forL n d fr H .fix t ((List.range k).map fun i => .int (.ofNat i)) b
    | false => .bad
   | _, _ => .bad
  | .forZ x _ y _ _ _ _ _ a c _ b _ => (ev n d fr H a).bind fun u H => (ev n d fr H c).bind fun v H => match d, u, v with
   | d + 1, .obj i, .obj j => match nth H i, nth H j with
    | some (.list [p]), some (.list [q]) => match exs n d (upd (upd fr x p) y q) H b with
     | .ok (.next, fr) H => match nth H i, nth H j with
      | some (.list [_]), some (.list _) => .ok (.next, fr) H
      | _, _ => .bad
     | .ok (.ret v, fr) H => .ok (.ret v, fr) H
     | _ => .bad
    | _, _ => .bad
   | _, _, _ => .bad
  | .rse c _ _ l _ _ => match d with
   | _ + 4 => match l with
    | [.c (.str s) _ _] => match eqN s c with | true => .exc c H | false => .bad
    | _ => .bad
   | _ => .bad
  | .exp e _ => (ev n d fr H e).bind fun _ H => .ok (.next, fr) H
  | .raw _ => .bad
termination_by structural x => x
noncomputable def exs : Nat → Nat → Fr → AH → List S → R (Fl × Fr)
 | 0, _, _, _, _ => .bad
 | n + 1, d, fr, H, l => match l with
  | [] => .ok (.next, fr) H
  | s :: r => match ex n d fr H s with
   | .ok (.next, fr) H => exs n d fr H r
   | .ok (.ret v, fr) H => .ok (.ret v, fr) H
   | .exc c H => .exc c H
   | .bad => .bad
termination_by structural x => x
noncomputable def whl : Nat → Nat → Fr → AH → E → List S → R (Fl × Fr)
 | 0, _, _, _, _, _ => .bad
 | n + 1, d, fr, H, t, b => match te n d fr H t with
  | .ok true H => match exs n d fr H b with
   | .ok (.next, fr) H => whl n d fr H t b
   | .ok (.ret v, fr) H => .ok (.ret v, fr) H
   | _ => .bad
  | .ok false H => .ok (.next, fr) H
  | _ => .bad
termination_by structural x => x
noncomputable def forL : Nat → Nat → Fr → AH → Src → Tg → List AV → List S → R (Fl × Fr)
 | 0, _, _, _, _, _, _, _ => .bad
 | n + 1, d, fr, H, q, t, l, b => match srcOk q H with
  | false => .bad
  | true => match l with
   | [] => .ok (.next, fr) H
   | v :: r => match asg n d fr H t v with
    | .ok fr H => match exs n d fr H b with
     | .ok (.next, fr) H => forL n d fr H q t r b
     | .ok (.ret v, fr) H => .ok (.ret v, fr) H
     | _ => .bad
    | _ => .bad
termination_by structural x => x
end
end
noncomputable def nmL : List Str := [Str.ofString "name",Str.ofString "kinds",Str.ofString "last",Str.ofString "len",Str.ofString "get",Str.ofString "kind",Str.ofString "number",Str.ofString "many",Str.ofString "bound",Str.ofString "places",Str.ofString "unit",Str.ofString "found",Str.ofString "rest",Str.ofString "figures_of",Str.ofString "coefficient",Str.ofString "exponent",Str.ofString "digits",Str.ofString "size",Str.ofString "more",Str.ofString "first",Str.ofString "abs",Str.ofString "rounded_by",Str.ofString "MOST_EXPONENT",Str.ofString "BasicError",Str.ofString "value",Str.ofString "bits",Str.ofString "isinstance",Str.ofString "str",Str.ofString "tuple",Str.ofString "whole_near",Str.ofString "fits",Str.ofString "made",Str.ofString "text",Str.ofString "MOST_TEXT",Str.ofString "checked_text",Str.ofString "text_of",Str.ofString "whole_of",Str.ofString "decimal_of",Str.ofString "self",Str.ofString "most_steps",Str.ofString "most_depth",Str.ofString "room",Str.ofString "names",Str.ofString "arrays",Str.ofString "fns",Str.ofString "out",Str.ofString "row",Str.ofString "inputs",Str.ofString "files",Str.ofString "open",Str.ofString "fields",Str.ofString "data",Str.ofString "spot",Str.ofString "base",Str.ofString "seed",Str.ofString "steps",Str.ofString "depth",Str.ofString "handler",Str.ofString "is_handling",Str.ofString "error_line",Str.ofString "error_code",Str.ofString "is_traced",Str.ofString "traces",Str.ofString "common",Str.ofString "world",Str.ofString "kind_of_name",Str.ofString "first_value",Str.ofString "kind_here",Str.ofString "suited",Str.ofString "run",Str.ofString "target",Str.ofString "grid",Str.ofString "targets",Str.ofString "place",Str.ofString "place_told",Str.ofString "put_at",Str.ofString "kind_of_target",Str.ofString "next_data",Str.ofString "subs",Str.ofString "sub",Str.ofString "worth",Str.ofString ".0",Str.ofString "item_of",Str.ofString "value_of_name",Str.ofString "store",Str.ofString "put",Str.ofString "statement",Str.ofString "one",Str.ofString "other",Str.ofString "here",Str.ofString "there",Str.ofString "value_at",Str.ofString "highs",Str.ofString "list",Str.ofString "count_of",Str.ofString "items",Str.ofString "high",Str.ofString "word",Str.ofString "check_highs",Str.ofString "Grid",Str.ofString "kind_in",Str.ofString "dim",Str.ofString "USUAL_HIGH",Str.ofString "zip",Str.ofString "grid_of",Str.ofString "place_of",Str.ofString "at",Str.ofString "begin",Str.ofString "MOST_FIGURES",Str.ofString "ord",Str.ofString "sign",Str.ofString "end",Str.ofString "run_of_figures",Str.ofString "min",Str.ofString "MOST_POWER",Str.ofString "is_below",Str.ofString "ahead",Str.ofString "behind",Str.ofString "BLANKS_decimals",Str.ofString "exponent_at",Str.ofString "told_decimal",Str.ofString "top",Str.ofString "NOUGHT",Str.ofString "most",Str.ofString "pile",Str.ofString "failed_at",Str.ofString "channel",Str.ofString "pop",Str.ofString "told",Str.ofString "error_number",Str.ofString "field_text",Str.ofString "get_name",Str.ofString "set_name",Str.ofString "no_field",Str.ofString "field",Str.ofString "read_number",Str.ofString "item",Str.ofString "quoted_field",Str.ofString "line",Str.ofString "text_of_item",Str.ofString "value_of_field",Str.ofString "tree",Str.ofString "parts",Str.ofString "hooks",Str.ofString "worth_of_two",Str.ofString "worth_of_one",Str.ofString "worth_of_leaf",Str.ofString "call",Str.ofString "fn",Str.ofString "waiting",Str.ofString "values",Str.ofString "is_ready",Str.ofString "parts_of_tree",Str.ofString "worth_of_tree",Str.ofString "reversed",Str.ofString "part",Str.ofString "append",Str.ofString "extend",Str.ofString "flat",Str.ofString "answers",Str.ofString "Control",Str.ofString "MOST_PILE",Str.ofString "control",Str.ofString "asked",Str.ofString "worth_worth",Str.ofString "variable_value",Str.ofString "get_item",Str.ofString "give_variable",Str.ofString "set_item",Str.ofString "read_item",Str.ofString "number_told",Str.ofString "d_of_text",Str.ofString "rstrip",Str.ofString "purse",Str.ofString "tenths",Str.ofString "int",Str.ofString "whole",Str.ofString "_law_tenths",Str.ofString "_law_decimal",Str.ofString "form",Str.ofString "_law_got",Str.ofString "goal",Str.ofString "book",Str.ofString "_law_kind",Str.ofString "_law_key",Str.ofString "_law_kept",Str.ofString "repr",Str.ofString "range",Str.ofString "script",Str.ofString "turn",Str.ofString "code",Str.ofString "due",Str.ofString "World",Str.ofString "WorkRun",Str.ofString "_law_place",Str.ofString "_law_code",Str.ofString "_law_stands",Str.ofString "do_read",Str.ofString "_law_swapped",Str.ofString "do_swap",Str.ofString "work",Str.ofString "wrong"]
noncomputable def nthS : List Str → Nat → Str
 | [],_ => Str.empty
 | s :: _,0 => s
 | _ :: l,n + 1 => nthS l n
noncomputable def nm (i : Nat) : Str := nthS nmL i
abbrev gI : NameKind := .globalImplicit
abbrev q (a b c d : Nat) : Pos := ⟨a, b, c, d⟩
abbrev u (a b d : Nat) : Pos := ⟨a, b, a, d⟩
noncomputable def cx18 : Fn := { params := [0,1],names := [(0,.local),(1,.local),(2,.local),(3,gI)],fast := [],body := [(.asg (.name 2 (u 32 4 8)) (.idx (.loc 0 (u 32 11 15)) (.bin .sub (.call (.gl 3 (u 32 16 19)) [(.loc 0 (u 32 20 24))] (u 32 16 25)) (.c (.int 1) 0 (u 32 28 29)) (u 32 16 29)) (u 32 11 30)) (u 32 4 30)),(.ife (.cmp .eq (.loc 2 (u 33 7 11)) (.c (.str [36]) 0 (u 33 15 18)) (u 33 7 18)) [(.ret (.c (.str [116,101,120,116]) 0 (u 34 15 21)) (u 34 8 21))] [] (q 33 4 34 21)),(.ife (.cmp .eq (.loc 2 (u 35 7 11)) (.c (.str [37]) 0 (u 35 15 18)) (u 35 7 18)) [(.ret (.c (.str [119,104,111,108,101]) 0 (u 36 15 22)) (u 36 8 22))] [] (q 35 4 36 22)),(.ret (.ife (.cmp .eq (.loc 2 (u 37 24 28)) (.c (.str [33]) 0 (u 37 32 35)) (u 37 24 35)) (.c (.str [100,101,99,105,109,97,108]) 0 (u 37 11 20)) (.mth (.loc 1 (u 37 41 46)) 4 [(.idx (.loc 0 (u 37 51 55)) (.c (.int 0) 0 (u 37 56 57)) (u 37 51 58)),(.c (.str [100,101,99,105,109,97,108]) 0 (u 37 60 69))] (u 37 41 50) (u 37 41 70)) (u 37 11 70)) (u 37 4 70))] }
noncomputable def cx26 : Fn := { params := [5],names := [(5,.local)],fast := [],body := [(.ife (.cmp .eq (.loc 5 (u 39 7 11)) (.c (.str [116,101,120,116]) 0 (u 39 15 21)) (u 39 7 21)) [(.ret (.c (.str []) 0 (u 40 15 17)) (u 40 8 17))] [] (q 39 4 40 17)),(.ret (.ife (.cmp .eq (.loc 5 (u 41 16 20)) (.c (.str [119,104,111,108,101]) 0 (u 41 24 31)) (u 41 16 31)) (.c (.int 0) 0 (u 41 11 12)) (.tup [(.c (.int 0) 0 (u 41 38 39)),(.c (.int 0) 0 (u 41 41 42))] 0 (u 41 37 43)) (u 41 11 43)) (u 41 4 43))] }
noncomputable def cx32 : Fn := { params := [6],names := [(6,.local),(7,.local),(8,.local)],fast := [],body := [(.asgT [(.name 7 (u 43 4 8)),(.name 8 (u 43 10 15))] 0 (u 43 4 15) (.tup [(.c (.int 1) 0 (u 43 19 20)),(.c (.int 10) 0 (u 43 22 24))] 0 (u 43 18 25)) (u 43 4 25)),(.whl (.cmp .le (.loc 8 (u 44 10 15)) (.loc 6 (u 44 19 25)) (u 44 10 25)) [(.augn 8 (u 45 8 13) .mul (.c (.int 10) 0 (u 45 17 19)) (u 45 8 19)),(.augn 7 (u 46 8 12) .add (.c (.int 1) 0 (u 46 16 17)) (u 46 8 17))] (q 44 4 46 17)),(.ret (.loc 7 (u 47 11 15)) (u 47 4 15))] }
noncomputable def cx28 : Fn := { params := [6,9],names := [(6,.local),(9,.local),(10,.local),(11,.local),(12,.local),(13,gI)],fast := [],body := [(.ife (.cmp .le (.loc 9 (u 49 7 13)) (.c (.int 0) 0 (u 49 17 18)) (u 49 7 18)) [(.ret (.loc 6 (u 50 15 21)) (u 50 8 21))] [] (q 49 4 50 21)),(.ife (.cmp .gt (.loc 9 (u 51 7 13)) (.bin .add (.call (.gl 13 (u 51 16 26)) [(.loc 6 (u 51 27 33))] (u 51 16 34)) (.c (.int 1) 0 (u 51 37 38)) (u 51 16 38)) (u 51 7 38)) [(.ret (.c (.int 0) 0 (u 52 15 16)) (u 52 8 16))] [] (q 51 4 52 16)),(.asg (.name 10 (u 53 4 8)) (.bin .pow (.c (.int 10) 0 (u 53 11 13)) (.loc 9 (u 53 17 23)) (u 53 11 23)) (u 53 4 23)),(.asgS [(11,(u 54 4 9)),(12,(u 54 11 15))] 0 (u 54 4 15) [(.bin .fdiv (.loc 6 (u 54 19 25)) (.loc 10 (u 54 29 33)) (u 54 19 33)),(.bin .fmod (.loc 6 (u 54 35 41)) (.loc 10 (u 54 44 48)) (u 54 35 48))] 0 (u 54 18 49) (u 54 4 49)),(.ife (.or [(.cmp .gt (.bin .mul (.c (.int 2) 0 (u 55 7 8)) (.loc 12 (u 55 11 15)) (u 55 7 15)) (.loc 10 (u 55 18 22)) (u 55 7 22)),(.and [(.cmp .eq (.bin .mul (.c (.int 2) 0 (u 55 27 28)) (.loc 12 (u 55 31 35)) (u 55 27 35)) (.loc 10 (u 55 39 43)) (u 55 27 43)),(.cmp .eq (.bin .fmod (.loc 11 (u 55 48 53)) (.c (.int 2) 0 (u 55 56 57)) (u 55 48 57)) (.c (.int 1) 0 (u 55 61 62)) (u 55 48 62))] (u 55 27 62))] (u 55 7 63)) [(.augn 11 (u 56 8 13) .add (.c (.int 1) 0 (u 56 17 18)) (u 56 8 18))] [] (q 55 4 56 18)),(.ret (.loc 11 (u 57 11 16)) (u 57 4 16))] }
noncomputable def cx61 : Fn := { params := [14,15,16],names := [(14,.local),(15,.local),(16,.local),(17,.local),(18,.local),(19,.local),(20,gI),(13,gI),(21,gI),(22,gI),(23,gI)],fast := [],body := [(.asg (.name 17 (u 59 4 8)) (.call (.gl 20 (u 59 11 14)) [(.loc 14 (u 59 15 26))] (u 59 11 27)) (u 59 4 27)),(.asg (.name 18 (u 60 4 8)) (.bin .sub (.call (.gl 13 (u 60 11 21)) [(.loc 17 (u 60 22 26))] (u 60 11 27)) (.loc 16 (u 60 30 36)) (u 60 11 36)) (u 60 4 36)),(.ife (.cmp .gt (.loc 18 (u 61 7 11)) (.c (.int 0) 0 (u 61 14 15)) (u 61 7 15)) [(.asgS [(17,(u 62 8 12)),(15,(u 62 14 22))] 0 (u 62 8 22) [(.call (.gl 21 (u 62 26 36)) [(.loc 17 (u 62 37 41)),(.loc 18 (u 62 43 47))] (u 62 26 48)),(.bin .add (.loc 15 (u 62 50 58)) (.loc 18 (u 62 61 65)) (u 62 50 65))] 0 (u 62 25 66) (u 62 8 66))] [] (q 61 4 62 66)),(.ife (.cmp .eq (.loc 17 (u 63 7 11)) (.c (.int 0) 0 (u 63 15 16)) (u 63 7 16)) [(.ret (.tup [(.c (.int 0) 0 (u 64 16 17)),(.c (.int 0) 0 (u 64 19 20))] 0 (u 64 15 21)) (u 64 8 21))] [] (q 63 4 64 21)),(.whl (.cmp .eq (.bin .fmod (.loc 17 (u 65 10 14)) (.c (.int 10) 0 (u 65 17 19)) (u 65 10 19)) (.c (.int 0) 0 (u 65 23 24)) (u 65 10 24)) [(.asgS [(17,(u 66 8 12)),(15,(u 66 14 22))] 0 (u 66 8 22) [(.bin .fdiv (.loc 17 (u 66 26 30)) (.c (.int 10) 0 (u 66 34 36)) (u 66 26 36)),(.bin .add (.loc 15 (u 66 38 46)) (.c (.int 1) 0 (u 66 49 50)) (u 66 38 50))] 0 (u 66 25 51) (u 66 8 51))] (q 65 4 66 51)),(.asg (.name 19 (u 67 4 9)) (.bin .sub (.bin .add (.loc 15 (u 67 12 20)) (.call (.gl 13 (u 67 23 33)) [(.loc 17 (u 67 34 38))] (u 67 23 39)) (u 67 12 39)) (.c (.int 1) 0 (u 67 42 43)) (u 67 12 43)) (u 67 4 43)),(.ife (.cmp .gt (.loc 19 (u 68 7 12)) (.gl 22 (u 68 15 28)) (u 68 7 28)) [(.rse [79,86] 23 (u 69 14 24) [(.c (.str [79,86]) 0 (u 69 25 29))] (u 69 14 30) (u 69 8 30))] [] (q 68 4 69 30)),(.ife (.cmp .lt (.loc 19 (u 70 7 12)) (.neg (.gl 22 (u 70 16 29)) (u 70 15 29)) (u 70 7 29)) [(.ret (.tup [(.c (.int 0) 0 (u 71 16 17)),(.c (.int 0) 0 (u 71 19 20))] 0 (u 71 15 21)) (u 71 8 21))] [] (q 70 4 71 21)),(.ret (.tup [(.ife (.cmp .lt (.loc 14 (u 72 21 32)) (.c (.int 0) 0 (u 72 35 36)) (u 72 21 36)) (.neg (.loc 17 (u 72 13 17)) (u 72 12 17)) (.loc 17 (u 72 42 46)) (u 72 12 46)),(.loc 15 (u 72 48 56))] 0 (u 72 11 57)) (u 72 4 57))] }
noncomputable def cx34 : Fn := { params := [24],names := [(24,.local),(14,.local),(15,.local),(17,.local),(21,gI),(20,gI)],fast := [],body := [(.asgT [(.name 14 (u 74 4 15)),(.name 15 (u 74 17 25))] 0 (u 74 4 25) (.loc 24 (u 74 28 33)) (u 74 4 33)),(.ife (.cmp .ge (.loc 15 (u 75 7 15)) (.c (.int 0) 0 (u 75 19 20)) (u 75 7 20)) [(.ret (.bin .mul (.loc 14 (u 76 15 26)) (.bin .pow (.c (.int 10) 0 (u 76 29 31)) (.loc 15 (u 76 35 43)) (u 76 29 43)) (u 76 15 43)) (u 76 8 43))] [] (q 75 4 76 43)),(.asg (.name 17 (u 77 4 8)) (.call (.gl 21 (u 77 11 21)) [(.call (.gl 20 (u 77 22 25)) [(.loc 14 (u 77 26 37))] (u 77 22 38)),(.neg (.loc 15 (u 77 41 49)) (u 77 40 49))] (u 77 11 50)) (u 77 4 50)),(.ret (.ife (.cmp .lt (.loc 14 (u 78 20 31)) (.c (.int 0) 0 (u 78 34 35)) (u 78 20 35)) (.neg (.loc 17 (u 78 12 16)) (u 78 11 16)) (.loc 17 (u 78 41 45)) (u 78 11 45)) (u 78 4 45))] }
noncomputable def cx62 : Fn := { params := [6,25],names := [(6,.local),(25,.local)],fast := [],body := [(.ret (.cmp2 .le .lt (.neg (.bin .shl (.c (.int 1) 0 (u 80 13 14)) (.bin .sub (.loc 25 (u 80 18 22)) (.c (.int 1) 0 (u 80 25 26)) (u 80 18 26)) (u 80 13 26)) (u 80 11 27)) (.loc 6 (u 80 31 37)) (.bin .shl (.c (.int 1) 0 (u 80 40 41)) (.bin .sub (.loc 25 (u 80 45 49)) (.c (.int 1) 0 (u 80 52 53)) (u 80 45 53)) (u 80 40 53)) (u 80 11 53)) (u 80 4 53))] }
noncomputable def cx50 : Fn := { params := [24,25],names := [(24,.local),(25,.local),(6,.local),(26,gI),(27,gI),(23,gI),(28,gI),(29,gI),(30,gI)],fast := [],body := [(.ife (.call (.gl 26 (u 82 7 17)) [(.loc 24 (u 82 18 23)),(.gl 27 (u 82 25 28))] (u 82 7 29)) [(.rse [84,77] 23 (u 83 14 24) [(.c (.str [84,77]) 0 (u 83 25 29))] (u 83 14 30) (u 83 8 30))] [] (q 82 4 83 30)),(.asg (.name 6 (u 84 4 10)) (.ife (.call (.gl 26 (u 84 34 44)) [(.loc 24 (u 84 45 50)),(.gl 28 (u 84 52 57))] (u 84 34 58)) (.call (.gl 29 (u 84 13 23)) [(.loc 24 (u 84 24 29))] (u 84 13 30)) (.loc 24 (u 84 64 69)) (u 84 13 69)) (u 84 4 69)),(.ife (.not (.call (.gl 30 (u 85 11 15)) [(.loc 6 (u 85 16 22)),(.loc 25 (u 85 24 28))] (u 85 11 29)) (u 85 7 29)) [(.rse [79,86] 23 (u 86 14 24) [(.c (.str [79,86]) 0 (u 86 25 29))] (u 86 14 30) (u 86 8 30))] [] (q 85 4 86 30)),(.ret (.loc 6 (u 87 11 17)) (u 87 4 17))] }
noncomputable def cx29 : Fn := { params := [24,16],names := [(24,.local),(16,.local),(26,gI),(27,gI),(23,gI),(28,gI),(31,gI)],fast := [],body := [(.ife (.call (.gl 26 (u 89 7 17)) [(.loc 24 (u 89 18 23)),(.gl 27 (u 89 25 28))] (u 89 7 29)) [(.rse [84,77] 23 (u 90 14 24) [(.c (.str [84,77]) 0 (u 90 25 29))] (u 90 14 30) (u 90 8 30))] [] (q 89 4 90 30)),(.ret (.ife (.call (.gl 26 (u 91 47 57)) [(.loc 24 (u 91 58 63)),(.gl 28 (u 91 65 70))] (u 91 47 71)) (.call (.gl 31 (u 91 11 15)) [(.idx (.loc 24 (u 91 16 21)) (.c (.int 0) 0 (u 91 22 23)) (u 91 16 24)),(.idx (.loc 24 (u 91 26 31)) (.c (.int 1) 0 (u 91 32 33)) (u 91 26 34)),(.loc 16 (u 91 36 42))] (u 91 11 43)) (.call (.gl 31 (u 91 77 81)) [(.loc 24 (u 91 82 87)),(.c (.int 0) 0 (u 91 89 90)),(.loc 16 (u 91 92 98))] (u 91 77 99)) (u 91 11 99)) (u 91 4 99))] }
noncomputable def cx53 : Fn := { params := [24],names := [(24,.local),(26,gI),(27,gI),(23,gI)],fast := [],body := [(.ife (.not (.call (.gl 26 (u 93 11 21)) [(.loc 24 (u 93 22 27)),(.gl 27 (u 93 29 32))] (u 93 11 33)) (u 93 7 33)) [(.rse [84,77] 23 (u 94 14 24) [(.c (.str [84,77]) 0 (u 94 25 29))] (u 94 14 30) (u 94 8 30))] [] (q 93 4 94 30)),(.ret (.loc 24 (u 95 11 16)) (u 95 4 16))] }
noncomputable def cx17 : Fn := { params := [32],names := [(32,.local),(3,gI),(33,gI),(23,gI)],fast := [],body := [(.ife (.cmp .gt (.call (.gl 3 (u 97 7 10)) [(.loc 32 (u 97 11 15))] (u 97 7 16)) (.gl 33 (u 97 19 28)) (u 97 7 28)) [(.rse [76,83] 23 (u 98 14 24) [(.c (.str [76,83]) 0 (u 98 25 29))] (u 98 14 30) (u 98 8 30))] [] (q 97 4 98 30)),(.ret (.loc 32 (u 99 11 15)) (u 99 4 15))] }
noncomputable def cx59 : Fn := { params := [24,5,25,16],names := [(24,.local),(5,.local),(25,.local),(16,.local),(34,gI),(35,gI),(36,gI),(37,gI)],fast := [],body := [(.ife (.cmp .eq (.loc 5 (u 101 7 11)) (.c (.str [116,101,120,116]) 0 (u 101 15 21)) (u 101 7 21)) [(.ret (.call (.gl 34 (u 102 15 27)) [(.call (.gl 35 (u 102 28 35)) [(.loc 24 (u 102 36 41))] (u 102 28 42))] (u 102 15 43)) (u 102 8 43))] [] (q 101 4 102 43)),(.ret (.ife (.cmp .eq (.loc 5 (u 103 36 40)) (.c (.str [119,104,111,108,101]) 0 (u 103 44 51)) (u 103 36 51)) (.call (.gl 36 (u 103 11 19)) [(.loc 24 (u 103 20 25)),(.loc 25 (u 103 27 31))] (u 103 11 32)) (.call (.gl 37 (u 103 57 67)) [(.loc 24 (u 103 68 73)),(.loc 16 (u 103 75 81))] (u 103 57 82)) (u 103 11 82)) (u 103 4 82))] }
noncomputable def cx31 : Fn := { params := [38,25,16,39,40,41],names := [(38,.local),(25,.local),(16,.local),(39,.local),(40,.local),(41,.local)],fast := [],body := [(.asg (.att (.loc 38 (u 110 8 12)) 25 (u 110 8 17)) (.loc 25 (u 110 20 24)) (u 110 8 24)),(.asg (.att (.loc 38 (u 111 8 12)) 16 (u 111 8 19)) (.loc 16 (u 111 22 28)) (u 111 8 28)),(.asg (.att (.loc 38 (u 112 8 12)) 39 (u 112 8 23)) (.loc 39 (u 112 26 36)) (u 112 8 36)),(.asg (.att (.loc 38 (u 113 8 12)) 40 (u 113 8 23)) (.loc 40 (u 113 26 36)) (u 113 8 36)),(.asg (.att (.loc 38 (u 114 8 12)) 41 (u 114 8 17)) (.loc 41 (u 114 20 24)) (u 114 8 24)),(.asg (.att (.loc 38 (u 115 8 12)) 42 (u 115 8 18)) (.dct (u 115 21 23)) (u 115 8 23)),(.asg (.att (.loc 38 (u 116 8 12)) 43 (u 116 8 19)) (.dct (u 116 22 24)) (u 116 8 24)),(.asg (.att (.loc 38 (u 117 8 12)) 1 (u 117 8 18)) (.dct (u 117 21 23)) (u 117 8 23)),(.asg (.att (.loc 38 (u 118 8 12)) 44 (u 118 8 16)) (.dct (u 118 19 21)) (u 118 8 21)),(.asg (.att (.loc 38 (u 119 8 12)) 45 (u 119 8 16)) (.lst [] (u 119 19 21)) (u 119 8 21)),(.asg (.att (.loc 38 (u 120 8 12)) 46 (u 120 8 16)) (.c (.str []) 0 (u 120 19 21)) (u 120 8 21)),(.asg (.att (.loc 38 (u 121 8 12)) 47 (u 121 8 19)) (.lst [] (u 121 22 24)) (u 121 8 24)),(.asg (.att (.loc 38 (u 122 8 12)) 48 (u 122 8 18)) (.dct (u 122 21 23)) (u 122 8 23)),(.asg (.att (.loc 38 (u 123 8 12)) 49 (u 123 8 17)) (.dct (u 123 20 22)) (u 123 8 22)),(.asg (.att (.loc 38 (u 124 8 12)) 50 (u 124 8 19)) (.dct (u 124 22 24)) (u 124 8 24)),(.asg (.att (.loc 38 (u 125 8 12)) 51 (u 125 8 17)) (.lst [] (u 125 20 22)) (u 125 8 22)),(.asg (.att (.loc 38 (u 126 8 12)) 52 (u 126 8 17)) (.c (.int 0) 0 (u 126 20 21)) (u 126 8 21)),(.asg (.att (.loc 38 (u 127 8 12)) 53 (u 127 8 17)) (.c (.int 0) 0 (u 127 20 21)) (u 127 8 21)),(.asg (.att (.loc 38 (u 128 8 12)) 54 (u 128 8 17)) (.c (.int 1) 0 (u 128 20 21)) (u 128 8 21)),(.asg (.att (.loc 38 (u 129 8 12)) 55 (u 129 8 18)) (.c (.int 0) 0 (u 129 21 22)) (u 129 8 22)),(.asg (.att (.loc 38 (u 130 8 12)) 56 (u 130 8 18)) (.c (.int 0) 0 (u 130 21 22)) (u 130 8 22)),(.asg (.att (.loc 38 (u 131 8 12)) 57 (u 131 8 20)) (.c (.int 0) 0 (u 131 23 24)) (u 131 8 24)),(.asg (.att (.loc 38 (u 132 8 12)) 58 (u 132 8 24)) (.c (.bool false) 0 (u 132 27 32)) (u 132 8 32)),(.asg (.att (.loc 38 (u 133 8 12)) 59 (u 133 8 23)) (.c (.int 0) 0 (u 133 26 27)) (u 133 8 27)),(.asg (.att (.loc 38 (u 134 8 12)) 60 (u 134 8 23)) (.c (.str []) 0 (u 134 26 28)) (u 134 8 28)),(.asg (.att (.loc 38 (u 135 8 12)) 61 (u 135 8 22)) (.c (.bool false) 0 (u 135 25 30)) (u 135 8 30)),(.asg (.att (.loc 38 (u 136 8 12)) 62 (u 136 8 19)) (.lst [] (u 136 22 24)) (u 136 8 24)),(.asg (.att (.loc 38 (u 137 8 12)) 63 (u 137 8 19)) (.lst [] (u 137 22 24)) (u 137 8 24))] }
noncomputable def cx36 : Fn := { params := [64,0],names := [(64,.local),(0,.local),(65,gI)],fast := [],body := [(.ret (.call (.gl 65 (u 139 11 23)) [(.loc 0 (u 139 24 28)),(.att (.loc 64 (u 139 30 35)) 1 (u 139 30 41))] (u 139 11 42)) (u 139 4 42))] }
noncomputable def cx51 : Fn := { params := [64,0],names := [(64,.local),(0,.local),(66,gI),(67,gI)],fast := [],body := [(.ret (.ife (.cmp .isin (.loc 0 (u 141 32 36)) (.att (.loc 64 (u 141 40 45)) 42 (u 141 40 51)) (u 141 32 51)) (.idx (.att (.loc 64 (u 141 11 16)) 42 (u 141 11 22)) (.loc 0 (u 141 23 27)) (u 141 11 28)) (.call (.gl 66 (u 141 57 68)) [(.call (.gl 67 (u 141 69 78)) [(.loc 64 (u 141 79 84)),(.loc 0 (u 141 86 90))] (u 141 69 91))] (u 141 57 92)) (u 141 11 92)) (u 141 4 92))] }
noncomputable def cx46 : Fn := { params := [64,0,24],names := [(64,.local),(0,.local),(24,.local),(68,gI),(67,gI)],fast := [],body := [(.asg (.sub (.att (.loc 64 (u 143 4 9)) 42 (u 143 4 15)) (.loc 0 (u 143 16 20)) (u 143 4 21)) (.call (.gl 68 (u 143 24 30)) [(.loc 24 (u 143 31 36)),(.call (.gl 67 (u 143 38 47)) [(.loc 64 (u 143 48 53)),(.loc 0 (u 143 55 59))] (u 143 38 60)),(.att (.loc 64 (u 143 62 67)) 25 (u 143 62 72)),(.att (.loc 64 (u 143 74 79)) 16 (u 143 74 86))] (u 143 24 87)) (u 143 4 87))] }
noncomputable def cx4 : Fn := { params := [69,70],names := [(69,.local),(70,.local),(71,.local),(67,gI)],fast := [],body := [(.asg (.name 71 (u 146 4 8)) (.ife (.cmp .eq (.idx (.loc 70 (u 146 46 52)) (.c (.int 0) 0 (u 146 53 54)) (u 146 46 55)) (.c (.str [105,116,101,109]) 0 (u 146 59 65)) (u 146 46 65)) (.mth (.att (.att (.loc 69 (u 146 11 14)) 64 (u 146 11 20)) 43 (u 146 11 27)) 4 [(.idx (.loc 70 (u 146 32 38)) (.c (.int 1) 0 (u 146 39 40)) (u 146 32 41))] (u 146 11 31) (u 146 11 42)) (.c .none 0 (u 146 71 75)) (u 146 11 75)) (u 146 4 75)),(.ret (.ife (.cmp .is (.loc 71 (u 147 46 50)) (.c .none 0 (u 147 54 58)) (u 147 46 58)) (.call (.gl 67 (u 147 11 20)) [(.att (.loc 69 (u 147 21 24)) 64 (u 147 21 30)),(.idx (.loc 70 (u 147 32 38)) (.c (.int 1) 0 (u 147 39 40)) (u 147 32 41))] (u 147 11 42)) (.att (.loc 71 (u 147 64 68)) 5 (u 147 64 73)) (u 147 11 73)) (u 147 4 73))] }
noncomputable def cx55 : Fn := { params := [69,72],names := [(69,.local),(72,.local),(70,.local),(73,.local),(74,gI),(75,gI),(76,gI)],fast := [],body := [(.for_ (.name 70 (u 149 8 14)) (.loc 72 (u 149 18 25)) [(.asg (.name 73 (u 150 8 13)) (.call (.gl 74 (u 150 16 26)) [(.loc 69 (u 150 27 30)),(.loc 70 (u 150 32 38))] (u 150 16 39)) (u 150 8 39)),(.exp (.call (.gl 75 (u 151 8 14)) [(.loc 69 (u 151 15 18)),(.loc 73 (u 151 20 25)),(.mth (.loc 69 (u 151 27 30)) 77 [(.call (.gl 76 (u 151 41 55)) [(.loc 69 (u 151 56 59)),(.loc 70 (u 151 61 67))] (u 151 41 68))] (u 151 27 40) (u 151 27 69))] (u 151 8 70)) (u 151 8 70))] (q 149 4 151 70))] }
noncomputable def cx30 : Fn := { params := [69,70],names := [(69,.cell),(70,.local),(78,.local)],fast := [69,70,79,78],body := [(.ife (.cmp .eq (.idx (.loc 70 (u 153 7 13)) (.c (.int 0) 0 (u 153 14 15)) (u 153 7 16)) (.c (.str [110,97,109,101]) 0 (u 153 20 26)) (u 153 7 26)) [(.ret (.loc 70 (u 154 15 21)) (u 154 8 21))] [] (q 153 4 154 21)),(.asg (.name 78 (u 155 4 8)) (.comp 79 (u 155 31 34) (.mth (.loc 69 (u 155 12 15)) 80 [(.loc 79 (u 155 22 25))] (u 155 12 21) (u 155 12 26)) (.idx (.loc 70 (u 155 38 44)) (.c (.int 2) 0 (u 155 45 46)) (u 155 38 47)) [(81,.local),(79,.local),(69,.free)] (u 155 11 48)) (u 155 4 48)),(.exp (.mth (.loc 69 (u 156 4 7)) 82 [(.idx (.loc 70 (u 156 16 22)) (.c (.int 1) 0 (u 156 23 24)) (u 156 16 25)),(.loc 78 (u 156 27 31))] (u 156 4 15) (u 156 4 32)) (u 156 4 32)),(.ret (.tup [(.c (.str [105,116,101,109]) 0 (u 157 12 18)),(.idx (.loc 70 (u 157 20 26)) (.c (.int 1) 0 (u 157 27 28)) (u 157 20 29)),(.loc 78 (u 157 31 35))] 0 (u 157 11 36)) (u 157 4 36))] }
noncomputable def cx45 : Fn := { params := [69,73],names := [(69,.local),(73,.local)],fast := [],body := [(.ret (.ife (.cmp .eq (.idx (.loc 73 (u 159 42 47)) (.c (.int 0) 0 (u 159 48 49)) (u 159 42 50)) (.c (.str [110,97,109,101]) 0 (u 159 54 60)) (u 159 42 60)) (.mth (.loc 69 (u 159 11 14)) 83 [(.idx (.loc 73 (u 159 29 34)) (.c (.int 1) 0 (u 159 35 36)) (u 159 29 37))] (u 159 11 28) (u 159 11 38)) (.mth (.loc 69 (u 159 66 69)) 82 [(.idx (.loc 73 (u 159 78 83)) (.c (.int 1) 0 (u 159 84 85)) (u 159 78 86)),(.idx (.loc 73 (u 159 88 93)) (.c (.int 2) 0 (u 159 94 95)) (u 159 88 96))] (u 159 66 77) (u 159 66 97)) (u 159 11 97)) (u 159 4 97))] }
noncomputable def cx58 : Fn := { params := [69,73,24],names := [(69,.local),(73,.local),(24,.local)],fast := [],body := [(.ife (.cmp .eq (.idx (.loc 73 (u 161 7 12)) (.c (.int 0) 0 (u 161 13 14)) (u 161 7 15)) (.c (.str [110,97,109,101]) 0 (u 161 19 25)) (u 161 7 25)) [(.exp (.mth (.loc 69 (u 162 8 11)) 84 [(.idx (.loc 73 (u 162 18 23)) (.c (.int 1) 0 (u 162 24 25)) (u 162 18 26)),(.loc 24 (u 162 28 33))] (u 162 8 17) (u 162 8 34)) (u 162 8 34))] [(.exp (.mth (.loc 69 (u 164 8 11)) 85 [(.idx (.loc 73 (u 164 16 21)) (.c (.int 1) 0 (u 164 22 23)) (u 164 16 24)),(.idx (.loc 73 (u 164 26 31)) (.c (.int 2) 0 (u 164 32 33)) (u 164 26 34)),(.loc 24 (u 164 36 41))] (u 164 8 15) (u 164 8 42)) (u 164 8 42))] (q 161 4 164 42))] }
noncomputable def cx57 : Fn := { params := [69,86],names := [(69,.local),(86,.local),(87,.local),(88,.local),(64,.local),(5,.local),(89,.local),(90,.local),(76,gI),(23,gI),(74,gI),(91,gI),(68,gI),(75,gI)],fast := [],body := [(.asgS [(87,(u 166 4 7)),(88,(u 166 9 14)),(64,(u 166 16 21))] 0 (u 166 4 21) [(.idx (.loc 86 (u 166 25 34)) (.c (.int 1) 0 (u 166 35 36)) (u 166 25 37)),(.idx (.loc 86 (u 166 39 48)) (.c (.int 2) 0 (u 166 49 50)) (u 166 39 51)),(.att (.loc 69 (u 166 53 56)) 64 (u 166 53 62))] 0 (u 166 24 63) (u 166 4 63)),(.asg (.name 5 (u 167 4 8)) (.call (.gl 76 (u 167 11 25)) [(.loc 69 (u 167 26 29)),(.loc 87 (u 167 31 34))] (u 167 11 35)) (u 167 4 35)),(.ife (.cmp .ne (.loc 5 (u 168 7 11)) (.call (.gl 76 (u 168 15 29)) [(.loc 69 (u 168 30 33)),(.loc 88 (u 168 35 40))] (u 168 15 41)) (u 168 7 41)) [(.rse [84,77] 23 (u 169 14 24) [(.c (.str [84,77]) 0 (u 169 25 29))] (u 169 14 30) (u 169 8 30))] [] (q 168 4 169 30)),(.asgS [(87,(u 170 4 7)),(88,(u 170 9 14))] 0 (u 170 4 14) [(.call (.gl 74 (u 170 18 28)) [(.loc 69 (u 170 29 32)),(.loc 87 (u 170 34 37))] (u 170 18 38)),(.call (.gl 74 (u 170 40 50)) [(.loc 69 (u 170 51 54)),(.loc 88 (u 170 56 61))] (u 170 40 62))] 0 (u 170 17 63) (u 170 4 63)),(.asgS [(89,(u 171 4 8)),(90,(u 171 10 15))] 0 (u 171 4 15) [(.call (.gl 91 (u 171 19 27)) [(.loc 69 (u 171 28 31)),(.loc 87 (u 171 33 36))] (u 171 19 37)),(.call (.gl 91 (u 171 39 47)) [(.loc 69 (u 171 48 51)),(.loc 88 (u 171 53 58))] (u 171 39 59))] 0 (u 171 18 60) (u 171 4 60)),(.exp (.call (.gl 68 (u 172 4 10)) [(.loc 90 (u 172 11 16)),(.loc 5 (u 172 18 22)),(.att (.loc 64 (u 172 24 29)) 25 (u 172 24 34)),(.att (.loc 64 (u 172 36 41)) 16 (u 172 36 48))] (u 172 4 49)) (u 172 4 49)),(.exp (.call (.gl 68 (u 173 4 10)) [(.loc 89 (u 173 11 15)),(.loc 5 (u 173 17 21)),(.att (.loc 64 (u 173 23 28)) 25 (u 173 23 33)),(.att (.loc 64 (u 173 35 40)) 16 (u 173 35 47))] (u 173 4 48)) (u 173 4 48)),(.exp (.call (.gl 75 (u 174 4 10)) [(.loc 69 (u 174 11 14)),(.loc 87 (u 174 16 19)),(.loc 90 (u 174 21 26))] (u 174 4 27)) (u 174 4 27)),(.exp (.call (.gl 75 (u 175 4 10)) [(.loc 69 (u 175 11 14)),(.loc 88 (u 175 16 21)),(.loc 89 (u 175 23 27))] (u 175 4 28)) (u 175 4 28))] }
noncomputable def cx39 : Fn := { params := [38,5,92,53],names := [(38,.local),(5,.local),(92,.local),(53,.local),(93,gI),(66,gI),(94,gI),(3,gI)],fast := [],body := [(.asg (.att (.loc 38 (u 181 8 12)) 5 (u 181 8 17)) (.loc 5 (u 181 20 24)) (u 181 8 24)),(.asg (.att (.loc 38 (u 182 8 12)) 92 (u 182 8 18)) (.call (.gl 93 (u 182 21 25)) [(.loc 92 (u 182 26 31))] (u 182 21 32)) (u 182 8 32)),(.asg (.att (.loc 38 (u 183 8 12)) 53 (u 183 8 17)) (.loc 53 (u 183 20 24)) (u 183 8 24)),(.asg (.att (.loc 38 (u 184 8 12)) 95 (u 184 8 18)) (.bin .mul (.lst [(.call (.gl 66 (u 184 22 33)) [(.loc 5 (u 184 34 38))] (u 184 22 39))] (u 184 21 40)) (.call (.gl 94 (u 184 43 51)) [(.loc 92 (u 184 52 57)),(.loc 53 (u 184 59 63))] (u 184 43 64)) (u 184 21 64)) (u 184 8 64)),(.asg (.att (.loc 38 (u 185 8 12)) 41 (u 185 8 17)) (.call (.gl 3 (u 185 20 23)) [(.att (.loc 38 (u 185 24 28)) 95 (u 185 24 34))] (u 185 20 35)) (u 185 8 35))] }
noncomputable def cx48 : Fn := { params := [92,53],names := [(92,.local),(53,.local),(11,.local),(96,.local)],fast := [],body := [(.asg (.name 11 (u 187 4 9)) (.c (.int 1) 0 (u 187 12 13)) (u 187 4 13)),(.for_ (.name 96 (u 188 8 12)) (.loc 92 (u 188 16 21)) [(.asg (.name 11 (u 189 8 13)) (.bin .mul (.loc 11 (u 189 16 21)) (.bin .add (.bin .sub (.loc 96 (u 189 25 29)) (.loc 53 (u 189 32 36)) (u 189 25 36)) (.c (.int 1) 0 (u 189 39 40)) (u 189 25 40)) (u 189 16 41)) (u 189 8 41))] (q 188 4 189 41)),(.ret (.loc 11 (u 190 11 16)) (u 190 4 16))] }
noncomputable def cx54 : Fn := { params := [64,97],names := [(64,.local),(97,.local),(65,gI)],fast := [],body := [(.ret (.call (.gl 65 (u 192 11 23)) [(.loc 97 (u 192 24 28)),(.att (.loc 64 (u 192 30 35)) 1 (u 192 30 41))] (u 192 11 42)) (u 192 4 42))] }
noncomputable def cx27 : Fn := { params := [64,92],names := [(64,.local),(92,.local),(96,.local),(3,gI),(23,gI),(94,gI)],fast := [],body := [(.ife (.cmp .eq (.call (.gl 3 (u 194 7 10)) [(.loc 92 (u 194 11 16))] (u 194 7 17)) (.c (.int 0) 0 (u 194 21 22)) (u 194 7 22)) [(.rse [83,78] 23 (u 195 14 24) [(.c (.str [83,78]) 0 (u 195 25 29)),(.c (.str [68,73,77]) 0 (u 195 31 36))] (u 195 14 37) (u 195 8 37))] [] (q 194 4 195 37)),(.for_ (.name 96 (u 196 8 12)) (.loc 92 (u 196 16 21)) [(.ife (.cmp .lt (.loc 96 (u 197 11 15)) (.att (.loc 64 (u 197 18 23)) 53 (u 197 18 28)) (u 197 11 28)) [(.rse [70,67] 23 (u 198 18 28) [(.c (.str [70,67]) 0 (u 198 29 33)),(.loc 96 (u 198 35 39))] (u 198 18 40) (u 198 12 40))] [] (q 197 8 198 40))] (q 196 4 198 40)),(.ife (.cmp .gt (.call (.gl 94 (u 199 7 15)) [(.loc 92 (u 199 16 21)),(.att (.loc 64 (u 199 23 28)) 53 (u 199 23 33))] (u 199 7 34)) (.att (.loc 64 (u 199 37 42)) 41 (u 199 37 47)) (u 199 7 47)) [(.rse [79,77] 23 (u 200 14 24) [(.c (.str [79,77]) 0 (u 200 25 29)),(.call (.gl 94 (u 200 31 39)) [(.loc 92 (u 200 40 45)),(.att (.loc 64 (u 200 47 52)) 53 (u 200 47 57))] (u 200 31 58))] (u 200 14 59) (u 200 8 59))] [] (q 199 4 200 59))] }
noncomputable def cx64 : Fn := { params := [64,97,92],names := [(64,.local),(97,.local),(92,.local),(23,gI),(98,gI),(99,gI),(100,gI)],fast := [],body := [(.ife (.cmp .isin (.loc 97 (u 202 7 11)) (.att (.loc 64 (u 202 15 20)) 43 (u 202 15 27)) (u 202 7 27)) [(.rse [68,68] 23 (u 203 14 24) [(.c (.str [68,68]) 0 (u 203 25 29)),(.loc 97 (u 203 31 35))] (u 203 14 36) (u 203 8 36))] [] (q 202 4 203 36)),(.exp (.call (.gl 98 (u 204 4 15)) [(.loc 64 (u 204 16 21)),(.loc 92 (u 204 23 28))] (u 204 4 29)) (u 204 4 29)),(.asg (.sub (.att (.loc 64 (u 205 4 9)) 43 (u 205 4 16)) (.loc 97 (u 205 17 21)) (u 205 4 22)) (.call (.gl 99 (u 205 25 29)) [(.call (.gl 100 (u 205 30 37)) [(.loc 64 (u 205 38 43)),(.loc 97 (u 205 45 49))] (u 205 30 50)),(.loc 92 (u 205 52 57)),(.att (.loc 64 (u 205 59 64)) 53 (u 205 59 69))] (u 205 25 70)) (u 205 4 70))] }
noncomputable def cx56 : Fn := { params := [64,97,7],names := [(64,.local),(97,.local),(7,.local),(101,gI),(102,gI)],fast := [],body := [(.ife (.cmp .notin (.loc 97 (u 207 7 11)) (.att (.loc 64 (u 207 19 24)) 43 (u 207 19 31)) (u 207 7 31)) [(.exp (.call (.gl 101 (u 208 8 11)) [(.loc 64 (u 208 12 17)),(.loc 97 (u 208 19 23)),(.bin .mul (.lst [(.gl 102 (u 208 26 36))] (u 208 25 37)) (.loc 7 (u 208 40 44)) (u 208 25 44))] (u 208 8 45)) (u 208 8 45))] [] (q 207 4 208 45)),(.ret (.idx (.att (.loc 64 (u 209 11 16)) 43 (u 209 11 23)) (.loc 97 (u 209 24 28)) (u 209 11 29)) (u 209 4 29))] }
noncomputable def cx44 : Fn := { params := [71,78],names := [(71,.local),(78,.local),(11,.local),(79,.local),(96,.local),(3,gI),(23,gI),(103,gI)],fast := [],body := [(.ife (.cmp .ne (.call (.gl 3 (u 211 7 10)) [(.loc 78 (u 211 11 15))] (u 211 7 16)) (.call (.gl 3 (u 211 20 23)) [(.att (.loc 71 (u 211 24 28)) 92 (u 211 24 34))] (u 211 20 35)) (u 211 7 35)) [(.rse [66,83] 23 (u 212 14 24) [(.c (.str [66,83]) 0 (u 212 25 29)),(.call (.gl 3 (u 212 31 34)) [(.loc 78 (u 212 35 39))] (u 212 31 40))] (u 212 14 41) (u 212 8 41))] [] (q 211 4 212 41)),(.asg (.name 11 (u 213 4 9)) (.c (.int 0) 0 (u 213 12 13)) (u 213 4 13)),(.forZ 79 (u 214 8 11) 96 (u 214 13 17) 0 (u 214 8 17) 103 (u 214 21 24) (.loc 78 (u 214 25 29)) (.att (.loc 71 (u 214 31 35)) 92 (u 214 31 41)) (u 214 21 42) [(.ife (.not (.cmp2 .le .le (.att (.loc 71 (u 215 15 19)) 53 (u 215 15 24)) (.loc 79 (u 215 28 31)) (.loc 96 (u 215 35 39)) (u 215 15 39)) (u 215 11 39)) [(.rse [66,83] 23 (u 216 18 28) [(.c (.str [66,83]) 0 (u 216 29 33)),(.loc 79 (u 216 35 38))] (u 216 18 39) (u 216 12 39))] [] (q 215 8 216 39)),(.asg (.name 11 (u 217 8 13)) (.bin .sub (.bin .add (.bin .mul (.loc 11 (u 217 16 21)) (.bin .add (.bin .sub (.loc 96 (u 217 25 29)) (.att (.loc 71 (u 217 32 36)) 53 (u 217 32 41)) (u 217 25 41)) (.c (.int 1) 0 (u 217 44 45)) (u 217 25 45)) (u 217 16 46)) (.loc 79 (u 217 49 52)) (u 217 16 52)) (.att (.loc 71 (u 217 55 59)) 53 (u 217 55 64)) (u 217 16 64)) (u 217 8 64))] (q 214 4 217 64)),(.ret (.loc 11 (u 218 11 16)) (u 218 4 16))] }
noncomputable def cx42 : Fn := { params := [64,97,78],names := [(64,.local),(97,.local),(78,.local),(71,.local),(104,gI),(3,gI),(105,gI)],fast := [],body := [(.asg (.name 71 (u 220 4 8)) (.call (.gl 104 (u 220 11 18)) [(.loc 64 (u 220 19 24)),(.loc 97 (u 220 26 30)),(.call (.gl 3 (u 220 32 35)) [(.loc 78 (u 220 36 40))] (u 220 32 41))] (u 220 11 42)) (u 220 4 42)),(.ret (.idx (.att (.loc 71 (u 221 11 15)) 95 (u 221 11 21)) (.call (.gl 105 (u 221 22 30)) [(.loc 71 (u 221 31 35)),(.loc 78 (u 221 37 41))] (u 221 22 42)) (u 221 11 43)) (u 221 4 43))] }
noncomputable def cx47 : Fn := { params := [64,97,78,24],names := [(64,.local),(97,.local),(78,.local),(24,.local),(71,.local),(73,.local),(104,gI),(3,gI),(105,gI),(68,gI)],fast := [],body := [(.asg (.name 71 (u 223 4 8)) (.call (.gl 104 (u 223 11 18)) [(.loc 64 (u 223 19 24)),(.loc 97 (u 223 26 30)),(.call (.gl 3 (u 223 32 35)) [(.loc 78 (u 223 36 40))] (u 223 32 41))] (u 223 11 42)) (u 223 4 42)),(.asg (.name 73 (u 224 4 9)) (.call (.gl 105 (u 224 12 20)) [(.loc 71 (u 224 21 25)),(.loc 78 (u 224 27 31))] (u 224 12 32)) (u 224 4 32)),(.asg (.sub (.att (.loc 71 (u 225 4 8)) 95 (u 225 4 14)) (.loc 73 (u 225 15 20)) (u 225 4 21)) (.call (.gl 68 (u 225 24 30)) [(.loc 24 (u 225 31 36)),(.att (.loc 71 (u 225 38 42)) 5 (u 225 38 47)),(.att (.loc 64 (u 225 49 54)) 25 (u 225 49 59)),(.att (.loc 64 (u 225 61 66)) 16 (u 225 61 73))] (u 225 24 74)) (u 225 4 74))] }
noncomputable def cx5 : Fn := { params := [32,106],names := [(32,.local),(106,.local),(11,.local),(107,.local),(3,gI),(108,gI),(109,gI)],fast := [],body := [(.asgS [(11,(u 274 4 9)),(107,(u 274 11 16))] 0 (u 274 4 16) [(.c (.int 0) 0 (u 274 20 21)),(.loc 106 (u 274 23 25))] 0 (u 274 19 26) (u 274 4 26)),(.whl (.and [(.cmp .lt (.loc 106 (u 275 10 12)) (.call (.gl 3 (u 275 15 18)) [(.loc 32 (u 275 19 23))] (u 275 15 24)) (u 275 10 24)),(.cmp2 .le .le (.c (.str [48]) 0 (u 275 29 32)) (.idx (.loc 32 (u 275 36 40)) (.loc 106 (u 275 41 43)) (u 275 36 44)) (.c (.str [57]) 0 (u 275 48 51)) (u 275 29 51)),(.cmp .lt (.bin .sub (.loc 106 (u 275 57 59)) (.loc 107 (u 275 62 67)) (u 275 57 67)) (.gl 108 (u 275 70 82)) (u 275 57 82))] (u 275 10 83)) [(.asg (.name 11 (u 276 8 13)) (.bin .sub (.bin .add (.bin .mul (.c (.int 10) 0 (u 276 16 18)) (.loc 11 (u 276 21 26)) (u 276 16 26)) (.call (.gl 109 (u 276 29 32)) [(.idx (.loc 32 (u 276 33 37)) (.loc 106 (u 276 38 40)) (u 276 33 41))] (u 276 29 42)) (u 276 16 42)) (.c (.int 48) 0 (u 276 45 47)) (u 276 16 47)) (u 276 8 47)),(.augn 106 (u 277 8 10) .add (.c (.int 1) 0 (u 277 14 15)) (u 277 8 15))] (q 275 4 277 15)),(.ret (.tup [(.loc 11 (u 278 12 17)),(.bin .sub (.loc 106 (u 278 19 21)) (.loc 107 (u 278 24 29)) (u 278 19 29)),(.loc 106 (u 278 31 33))] 0 (u 278 11 34)) (u 278 4 34))] }
noncomputable def cx22 : Fn := { params := [32,106],names := [(32,.local),(106,.local),(107,.local),(110,.local),(11,.local),(7,.local),(111,.local),(3,gI),(112,gI),(113,gI),(114,gI)],fast := [],body := [(.ife (.or [(.cmp .ge (.loc 106 (u 280 7 9)) (.call (.gl 3 (u 280 13 16)) [(.loc 32 (u 280 17 21))] (u 280 13 22)) (u 280 7 22)),(.cmp .notin (.idx (.loc 32 (u 280 26 30)) (.loc 106 (u 280 31 33)) (u 280 26 34)) (.c (.str [69,101,68,100]) 0 (u 280 42 48)) (u 280 26 48))] (u 280 7 48)) [(.ret (.tup [(.c (.int 0) 0 (u 281 16 17)),(.loc 106 (u 281 19 21))] 0 (u 281 15 22)) (u 281 8 22))] [] (q 280 4 281 22)),(.asg (.name 107 (u 282 4 9)) (.bin .add (.loc 106 (u 282 12 14)) (.c (.int 1) 0 (u 282 17 18)) (u 282 12 18)) (u 282 4 18)),(.asg (.name 110 (u 283 4 8)) (.ife (.cmp .eq (.slc (.loc 32 (u 283 17 21)) (some (.loc 107 (u 283 22 27))) (some (.bin .add (.loc 107 (u 283 28 33)) (.c (.int 1) 0 (u 283 36 37)) (u 283 28 37))) (u 283 22 37) (u 283 17 38)) (.c (.str [45]) 0 (u 283 42 45)) (u 283 17 45)) (.neg (.c (.int 1) 0 (u 283 12 13)) (u 283 11 13)) (.c (.int 1) 0 (u 283 51 52)) (u 283 11 52)) (u 283 4 52)),(.ife (.cmp .isin (.slc (.loc 32 (u 284 7 11)) (some (.loc 107 (u 284 12 17))) (some (.bin .add (.loc 107 (u 284 18 23)) (.c (.int 1) 0 (u 284 26 27)) (u 284 18 27))) (u 284 12 27) (u 284 7 28)) (.tup [(.c (.str [43]) 0 (u 284 33 36)),(.c (.str [45]) 0 (u 284 38 41))] 0 (u 284 32 42)) (u 284 7 42)) [(.augn 107 (u 285 8 13) .add (.c (.int 1) 0 (u 285 17 18)) (u 285 8 18))] [] (q 284 4 285 18)),(.asgT [(.name 11 (u 286 4 9)),(.name 7 (u 286 11 15)),(.name 111 (u 286 17 20))] 0 (u 286 4 20) (.call (.gl 112 (u 286 23 37)) [(.loc 32 (u 286 38 42)),(.loc 107 (u 286 44 49))] (u 286 23 50)) (u 286 4 50)),(.ife (.cmp .eq (.loc 7 (u 287 7 11)) (.c (.int 0) 0 (u 287 15 16)) (u 287 7 16)) [(.ret (.tup [(.c (.int 0) 0 (u 288 16 17)),(.loc 106 (u 288 19 21))] 0 (u 288 15 22)) (u 288 8 22))] [] (q 287 4 288 22)),(.ret (.tup [(.bin .mul (.loc 110 (u 289 12 16)) (.call (.gl 113 (u 289 19 22)) [(.loc 11 (u 289 23 28)),(.gl 114 (u 289 30 40))] (u 289 19 41)) (u 289 12 41)),(.loc 111 (u 289 43 46))] 0 (u 289 11 47)) (u 289 4 47))] }
noncomputable def cx41 : Fn := { params := [32,16],names := [(32,.local),(16,.local),(106,.local),(115,.local),(11,.local),(116,.local),(117,.local),(18,.local),(111,.local),(15,.local),(3,gI),(118,gI),(112,gI),(119,gI),(120,gI)],fast := [],body := [(.asg (.name 106 (u 291 4 6)) (.c (.int 0) 0 (u 291 9 10)) (u 291 4 10)),(.whl (.and [(.cmp .lt (.loc 106 (u 292 10 12)) (.call (.gl 3 (u 292 15 18)) [(.loc 32 (u 292 19 23))] (u 292 15 24)) (u 292 10 24)),(.cmp .isin (.idx (.loc 32 (u 292 29 33)) (.loc 106 (u 292 34 36)) (u 292 29 37)) (.gl 118 (u 292 41 56)) (u 292 29 56))] (u 292 10 56)) [(.augn 106 (u 293 8 10) .add (.c (.int 1) 0 (u 293 14 15)) (u 293 8 15))] (q 292 4 293 15)),(.asg (.name 115 (u 294 4 12)) (.cmp .eq (.slc (.loc 32 (u 294 15 19)) (some (.loc 106 (u 294 20 22))) (some (.bin .add (.loc 106 (u 294 23 25)) (.c (.int 1) 0 (u 294 28 29)) (u 294 23 29))) (u 294 20 29) (u 294 15 30)) (.c (.str [45]) 0 (u 294 34 37)) (u 294 15 37)) (u 294 4 37)),(.ife (.cmp .isin (.slc (.loc 32 (u 295 7 11)) (some (.loc 106 (u 295 12 14))) (some (.bin .add (.loc 106 (u 295 15 17)) (.c (.int 1) 0 (u 295 20 21)) (u 295 15 21))) (u 295 12 21) (u 295 7 22)) (.tup [(.c (.str [43]) 0 (u 295 27 30)),(.c (.str [45]) 0 (u 295 32 35))] 0 (u 295 26 36)) (u 295 7 36)) [(.augn 106 (u 296 8 10) .add (.c (.int 1) 0 (u 296 14 15)) (u 296 8 15))] [] (q 295 4 296 15)),(.asgT [(.name 11 (u 297 4 9)),(.name 116 (u 297 11 16)),(.name 106 (u 297 18 20))] 0 (u 297 4 20) (.call (.gl 112 (u 297 23 37)) [(.loc 32 (u 297 38 42)),(.loc 106 (u 297 44 46))] (u 297 23 47)) (u 297 4 47)),(.asg (.name 117 (u 298 4 10)) (.c (.int 0) 0 (u 298 13 14)) (u 298 4 14)),(.ife (.cmp .eq (.slc (.loc 32 (u 299 7 11)) (some (.loc 106 (u 299 12 14))) (some (.bin .add (.loc 106 (u 299 15 17)) (.c (.int 1) 0 (u 299 20 21)) (u 299 15 21))) (u 299 12 21) (u 299 7 22)) (.c (.str [46]) 0 (u 299 26 29)) (u 299 7 29)) [(.asgT [(.name 18 (u 300 8 12)),(.name 117 (u 300 14 20)),(.name 111 (u 300 22 25))] 0 (u 300 8 25) (.call (.gl 112 (u 300 28 42)) [(.loc 32 (u 300 43 47)),(.bin .add (.loc 106 (u 300 49 51)) (.c (.int 1) 0 (u 300 54 55)) (u 300 49 55))] (u 300 28 56)) (u 300 8 56)),(.asgS [(11,(u 301 8 13)),(106,(u 301 15 17))] 0 (u 301 8 17) [(.bin .add (.bin .mul (.loc 11 (u 301 21 26)) (.bin .pow (.c (.int 10) 0 (u 301 29 31)) (.loc 117 (u 301 35 41)) (u 301 29 41)) (u 301 21 41)) (.loc 18 (u 301 44 48)) (u 301 21 48)),(.ife (.cmp .gt (.bin .add (.loc 116 (u 301 57 62)) (.loc 117 (u 301 65 71)) (u 301 57 71)) (.c (.int 0) 0 (u 301 74 75)) (u 301 57 75)) (.loc 111 (u 301 50 53)) (.loc 106 (u 301 81 83)) (u 301 50 83))] 0 (u 301 20 84) (u 301 8 84))] [] (q 299 4 301 84)),(.ife (.cmp .eq (.bin .add (.loc 116 (u 302 7 12)) (.loc 117 (u 302 15 21)) (u 302 7 21)) (.c (.int 0) 0 (u 302 25 26)) (u 302 7 26)) [(.ret (.c .none 0 (u 303 15 19)) (u 303 8 19))] [] (q 302 4 303 19)),(.asgT [(.name 15 (u 304 4 12)),(.name 106 (u 304 14 16))] 0 (u 304 4 16) (.call (.gl 119 (u 304 19 30)) [(.loc 32 (u 304 31 35)),(.loc 106 (u 304 37 39))] (u 304 19 40)) (u 304 4 40)),(.ret (.tup [(.call (.gl 120 (u 305 12 24)) [(.ife (.loc 115 (u 305 38 46)) (.bin .sub (.c (.int 0) 0 (u 305 25 26)) (.loc 11 (u 305 29 34)) (u 305 25 34)) (.loc 11 (u 305 52 57)) (u 305 25 57)),(.bin .sub (.loc 15 (u 305 59 67)) (.loc 117 (u 305 70 76)) (u 305 59 76)),(.loc 16 (u 305 78 84))] (u 305 12 85)),(.loc 106 (u 305 87 89))] 0 (u 305 11 90)) (u 305 4 90))] }
noncomputable def cx21 : Fn := { params := [14,15,16],names := [(14,.local),(15,.local),(16,.local),(121,.local),(13,gI),(20,gI),(22,gI),(122,gI),(23,gI),(31,gI)],fast := [],body := [(.asg (.name 121 (u 307 4 7)) (.bin .sub (.bin .add (.loc 15 (u 307 10 18)) (.call (.gl 13 (u 307 21 31)) [(.call (.gl 20 (u 307 32 35)) [(.loc 14 (u 307 36 47))] (u 307 32 48))] (u 307 21 49)) (u 307 10 49)) (.c (.int 1) 0 (u 307 52 53)) (u 307 10 53)) (u 307 4 53)),(.ife (.or [(.cmp .eq (.loc 14 (u 308 7 18)) (.c (.int 0) 0 (u 308 22 23)) (u 308 7 23)),(.cmp .lt (.loc 121 (u 308 27 30)) (.bin .mul (.neg (.c (.int 2) 0 (u 308 34 35)) (u 308 33 35)) (.gl 22 (u 308 38 51)) (u 308 33 51)) (u 308 27 51))] (u 308 7 51)) [(.ret (.gl 122 (u 309 15 21)) (u 309 8 21))] [] (q 308 4 309 21)),(.ife (.cmp .gt (.loc 121 (u 310 7 10)) (.bin .mul (.c (.int 2) 0 (u 310 13 14)) (.gl 22 (u 310 17 30)) (u 310 13 30)) (u 310 7 30)) [(.rse [79,86] 23 (u 311 14 24) [(.c (.str [79,86]) 0 (u 311 25 29))] (u 311 14 30) (u 311 8 30))] [] (q 310 4 311 30)),(.ret (.call (.gl 31 (u 312 11 15)) [(.loc 14 (u 312 16 27)),(.loc 15 (u 312 29 37)),(.loc 16 (u 312 39 45))] (u 312 11 46)) (u 312 4 46))] }
noncomputable def cx20 : Fn := { params := [38,123],names := [(38,.local),(123,.local)],fast := [],body := [(.asg (.att (.loc 38 (u 386 8 12)) 124 (u 386 8 17)) (.lst [] (u 386 20 22)) (u 386 8 22)),(.asg (.att (.loc 38 (u 387 8 12)) 123 (u 387 8 17)) (.loc 123 (u 387 20 24)) (u 387 8 24)),(.asg (.att (.loc 38 (u 388 8 12)) 125 (u 388 8 22)) (.neg (.c (.int 1) 0 (u 388 26 27)) (u 388 25 27)) (u 388 8 27))] }
noncomputable def cx35 : Fn := { params := [64,0],names := [(64,.local),(0,.local),(126,.local),(106,.local),(7,.local)],fast := [],body := [(.ife (.cmp .notin (.loc 0 (u 393 7 11)) (.att (.loc 64 (u 393 19 24)) 50 (u 393 19 31)) (u 393 7 31)) [(.ret (.c .none 0 (u 394 15 19)) (u 394 8 19))] [] (q 393 4 394 19)),(.asgT [(.name 126 (u 395 4 11)),(.name 106 (u 395 13 15)),(.name 7 (u 395 17 21))] 0 (u 395 4 21) (.idx (.att (.loc 64 (u 395 24 29)) 50 (u 395 24 36)) (.loc 0 (u 395 37 41)) (u 395 24 42)) (u 395 4 42)),(.ret (.slc (.idx (.idx (.att (.loc 64 (u 396 11 16)) 49 (u 396 11 21)) (.loc 126 (u 396 22 29)) (u 396 11 30)) (.c (.str [98,117,102,102,101,114]) 0 (u 396 31 39)) (u 396 11 40)) (some (.loc 106 (u 396 41 43))) (some (.bin .add (.loc 106 (u 396 44 46)) (.loc 7 (u 396 49 53)) (u 396 44 53))) (u 396 41 53) (u 396 11 54)) (u 396 4 54))] }
noncomputable def cx52 : Fn := { params := [64,0],names := [(64,.local),(0,.local)],fast := [],body := [(.ife (.cmp .isin (.loc 0 (u 398 7 11)) (.att (.loc 64 (u 398 15 20)) 50 (u 398 15 27)) (u 398 7 27)) [(.exp (.mth (.att (.loc 64 (u 399 8 13)) 50 (u 399 8 20)) 127 [(.loc 0 (u 399 25 29))] (u 399 8 24) (u 399 8 30)) (u 399 8 30))] [] (q 398 4 399 30))] }
noncomputable def cx6 : Fn := { params := [64,97],names := [(64,.local),(97,.local),(128,.local),(129,gI),(130,gI),(131,gI)],fast := [],body := [(.ife (.cmp .eq (.loc 97 (u 412 7 11)) (.c (.str [69,82,82]) 0 (u 412 15 20)) (u 412 7 20)) [(.ret (.call (.gl 129 (u 413 15 27)) [(.loc 64 (u 413 28 33))] (u 413 15 34)) (u 413 8 34))] [] (q 412 4 413 34)),(.ife (.cmp .eq (.loc 97 (u 414 7 11)) (.c (.str [69,82,76]) 0 (u 414 15 20)) (u 414 7 20)) [(.ret (.att (.loc 64 (u 415 15 20)) 59 (u 415 15 31)) (u 415 8 31))] [] (q 414 4 415 31)),(.asg (.name 128 (u 416 4 8)) (.call (.gl 130 (u 416 11 21)) [(.loc 64 (u 416 22 27)),(.loc 97 (u 416 29 33))] (u 416 11 34)) (u 416 4 34)),(.ret (.ife (.cmp .is (.loc 128 (u 417 36 40)) (.c .none 0 (u 417 44 48)) (u 417 36 48)) (.call (.gl 131 (u 417 11 19)) [(.loc 64 (u 417 20 25)),(.loc 97 (u 417 27 31))] (u 417 11 32)) (.loc 128 (u 417 54 58)) (u 417 11 58)) (u 417 4 58))] }
noncomputable def cx10 : Fn := { params := [64,97,24],names := [(64,.local),(97,.local),(24,.local),(132,gI),(133,gI)],fast := [],body := [(.exp (.call (.gl 132 (u 419 4 12)) [(.loc 64 (u 419 13 18)),(.loc 97 (u 419 20 24)),(.loc 24 (u 419 26 31))] (u 419 4 32)) (u 419 4 32)),(.exp (.call (.gl 133 (u 420 4 12)) [(.loc 64 (u 420 13 18)),(.loc 97 (u 420 20 24))] (u 420 4 25)) (u 420 4 25))] }
noncomputable def cx7 : Fn := { params := [134,5,135],names := [(134,.local),(5,.local),(135,.local)],fast := [],body := [(.ife (.cmp .eq (.loc 5 (u 458 7 11)) (.c (.str [116,101,120,116]) 0 (u 458 15 21)) (u 458 7 21)) [(.ret (.loc 134 (u 459 15 20)) (u 459 8 20))] [] (q 458 4 459 20)),(.ret (.ife (.cmp .eq (.loc 134 (u 460 16 21)) (.c (.str []) 0 (u 460 25 27)) (u 460 16 27)) (.c (.int 0) 0 (u 460 11 12)) (.call (.loc 135 (u 460 33 44)) [(.loc 134 (u 460 45 50))] (u 460 33 51)) (u 460 11 51)) (u 460 4 51))] }
noncomputable def cx15 : Fn := { params := [136],names := [(136,.local),(11,.local),(111,.local),(137,gI),(3,gI)],fast := [],body := [(.ife (.cmp .ne (.slc (.loc 136 (u 462 7 11)) none (some (.c (.int 1) 0 (u 462 13 14))) (u 462 12 14) (u 462 7 15)) (.c (.str [34]) 0 (u 462 19 22)) (u 462 7 22)) [(.ret (.loc 136 (u 463 15 19)) (u 463 8 19))] [] (q 462 4 463 19)),(.asgT [(.name 11 (u 464 4 9)),(.name 111 (u 464 11 14))] 0 (u 464 4 14) (.call (.gl 137 (u 464 17 29)) [(.loc 136 (u 464 30 34)),(.c (.int 0) 0 (u 464 36 37))] (u 464 17 38)) (u 464 4 38)),(.ret (.ife (.cmp .eq (.loc 111 (u 465 20 23)) (.call (.gl 3 (u 465 27 30)) [(.loc 136 (u 465 31 35))] (u 465 27 36)) (u 465 20 36)) (.loc 11 (u 465 11 16)) (.c .none 0 (u 465 42 46)) (u 465 11 46)) (u 465 4 46))] }
noncomputable def cx37 : Fn := { params := [64,5,135],names := [(64,.local),(5,.local),(135,.local),(138,.local),(136,.local),(24,.local),(3,gI),(23,gI),(139,gI),(140,gI)],fast := [],body := [(.ife (.cmp .ge (.att (.loc 64 (u 467 7 12)) 52 (u 467 7 17)) (.call (.gl 3 (u 467 21 24)) [(.att (.loc 64 (u 467 25 30)) 51 (u 467 25 35))] (u 467 21 36)) (u 467 7 36)) [(.rse [79,68] 23 (u 468 14 24) [(.c (.str [79,68]) 0 (u 468 25 29))] (u 468 14 30) (u 468 8 30))] [] (q 467 4 468 30)),(.asgT [(.name 138 (u 469 4 8)),(.name 136 (u 469 10 14))] 0 (u 469 4 14) (.idx (.att (.loc 64 (u 469 17 22)) 51 (u 469 17 27)) (.att (.loc 64 (u 469 28 33)) 52 (u 469 28 38)) (u 469 17 39)) (u 469 4 39)),(.asg (.name 24 (u 470 4 9)) (.ife (.cmp .eq (.loc 5 (u 470 34 38)) (.c (.str [116,101,120,116]) 0 (u 470 42 48)) (u 470 34 48)) (.call (.gl 139 (u 470 12 24)) [(.loc 136 (u 470 25 29))] (u 470 12 30)) (.call (.gl 140 (u 470 54 68)) [(.loc 136 (u 470 69 73)),(.loc 5 (u 470 75 79)),(.loc 135 (u 470 81 92))] (u 470 54 93)) (u 470 12 93)) (u 470 4 93)),(.ife (.cmp .is (.loc 24 (u 471 7 12)) (.c .none 0 (u 471 16 20)) (u 471 7 20)) [(.rse [83,78] 23 (u 472 14 24) [(.c (.str [83,78]) 0 (u 472 25 29)),(.loc 138 (u 472 31 35))] (u 472 14 36) (u 472 8 36))] [] (q 471 4 472 36)),(.auga (.loc 64 (u 473 4 9)) 52 (u 473 4 14) .add (.c (.int 1) 0 (u 473 18 19)) (u 473 4 19)),(.ret (.loc 24 (u 474 11 16)) (u 474 4 16))] }
noncomputable def cx11 : Fn := { params := [141],names := [(141,.local)],fast := [],body := [(.ife (.cmp .isin (.idx (.loc 141 (u 477 7 11)) (.c (.int 0) 0 (u 477 12 13)) (u 477 7 14)) (.tup [(.c (.str [105,116,101,109]) 0 (u 477 19 25)),(.c (.str [99,97,108,108]) 0 (u 477 27 33)),(.c (.str [102,110]) 0 (u 477 35 39))] 0 (u 477 18 40)) (u 477 7 40)) [(.ret (.idx (.loc 141 (u 478 15 19)) (.c (.int 2) 0 (u 478 20 21)) (u 478 15 22)) (u 478 8 22))] [] (q 477 4 478 22)),(.ife (.cmp .eq (.idx (.loc 141 (u 479 7 11)) (.c (.int 0) 0 (u 479 12 13)) (u 479 7 14)) (.c (.str [116,119,111]) 0 (u 479 18 23)) (u 479 7 23)) [(.ret (.lst [(.idx (.loc 141 (u 480 16 20)) (.c (.int 2) 0 (u 480 21 22)) (u 480 16 23)),(.idx (.loc 141 (u 480 25 29)) (.c (.int 3) 0 (u 480 30 31)) (u 480 25 32))] (u 480 15 33)) (u 480 8 33))] [] (q 479 4 480 33)),(.ret (.ife (.cmp .isin (.idx (.loc 141 (u 481 24 28)) (.c (.int 0) 0 (u 481 29 30)) (u 481 24 31)) (.tup [(.c (.str [110,101,103]) 0 (u 481 36 41)),(.c (.str [110,111,116]) 0 (u 481 43 48))] 0 (u 481 35 49)) (u 481 24 49)) (.lst [(.idx (.loc 141 (u 481 12 16)) (.c (.int 1) 0 (u 481 17 18)) (u 481 12 19))] (u 481 11 20)) (.lst [] (u 481 55 57)) (u 481 11 57)) (u 481 4 57))] }
noncomputable def cx8 : Fn := { params := [141,25,16],names := [(141,.local),(25,.local),(16,.local),(5,.local),(24,.local),(30,gI),(37,gI)],fast := [],body := [(.asgT [(.name 5 (u 515 4 8)),(.name 24 (u 515 10 15))] 0 (u 515 4 15) (.loc 141 (u 515 18 22)) (u 515 4 22)),(.ife (.cmp .eq (.loc 5 (u 516 7 11)) (.c (.str [116,101,120,116]) 0 (u 516 15 21)) (u 516 7 21)) [(.ret (.loc 24 (u 517 15 20)) (u 517 8 20))] [] (q 516 4 517 20)),(.ret (.ife (.and [(.cmp .eq (.loc 5 (u 518 20 24)) (.c (.str [119,104,111,108,101]) 0 (u 518 28 35)) (u 518 20 35)),(.call (.gl 30 (u 518 40 44)) [(.loc 24 (u 518 45 50)),(.loc 25 (u 518 52 56))] (u 518 40 57))] (u 518 20 57)) (.loc 24 (u 518 11 16)) (.call (.gl 37 (u 518 63 73)) [(.loc 24 (u 518 74 79)),(.loc 16 (u 518 81 87))] (u 518 63 88)) (u 518 11 88)) (u 518 4 88))] }
noncomputable def cx9 : Fn := { params := [141,142,143],names := [(141,.local),(142,.local),(143,.local),(5,.local),(144,gI),(145,gI),(146,gI)],fast := [],body := [(.asg (.name 5 (u 520 4 8)) (.idx (.loc 141 (u 520 11 15)) (.c (.int 0) 0 (u 520 16 17)) (u 520 11 18)) (u 520 4 18)),(.ife (.cmp .eq (.loc 5 (u 521 7 11)) (.c (.str [116,119,111]) 0 (u 521 15 20)) (u 521 7 20)) [(.ret (.call (.gl 144 (u 522 15 27)) [(.idx (.loc 141 (u 522 28 32)) (.c (.int 1) 0 (u 522 33 34)) (u 522 28 35)),(.idx (.loc 142 (u 522 37 42)) (.c (.int 0) 0 (u 522 43 44)) (u 522 37 45)),(.idx (.loc 142 (u 522 47 52)) (.c (.int 1) 0 (u 522 53 54)) (u 522 47 55)),(.att (.loc 143 (u 522 57 62)) 25 (u 522 57 67)),(.att (.loc 143 (u 522 69 74)) 16 (u 522 69 81))] (u 522 15 82)) (u 522 8 82))] [] (q 521 4 522 82)),(.ife (.or [(.cmp .eq (.loc 5 (u 523 7 11)) (.c (.str [110,101,103]) 0 (u 523 15 20)) (u 523 7 20)),(.cmp .eq (.loc 5 (u 523 24 28)) (.c (.str [110,111,116]) 0 (u 523 32 37)) (u 523 24 37))] (u 523 7 37)) [(.ret (.call (.gl 145 (u 524 15 27)) [(.loc 5 (u 524 28 32)),(.idx (.loc 142 (u 524 34 39)) (.c (.int 0) 0 (u 524 40 41)) (u 524 34 42)),(.att (.loc 143 (u 524 44 49)) 25 (u 524 44 54)),(.att (.loc 143 (u 524 56 61)) 16 (u 524 56 68))] (u 524 15 69)) (u 524 8 69))] [] (q 523 4 524 69)),(.ife (.cmp .eq (.loc 5 (u 525 7 11)) (.c (.str [110,97,109,101]) 0 (u 525 15 21)) (u 525 7 21)) [(.ret (.mth (.loc 143 (u 526 15 20)) 83 [(.idx (.loc 141 (u 526 35 39)) (.c (.int 1) 0 (u 526 40 41)) (u 526 35 42))] (u 526 15 34) (u 526 15 43)) (u 526 8 43))] [] (q 525 4 526 43)),(.ife (.cmp .eq (.loc 5 (u 527 7 11)) (.c (.str [105,116,101,109]) 0 (u 527 15 21)) (u 527 7 21)) [(.ret (.mth (.loc 143 (u 528 15 20)) 82 [(.idx (.loc 141 (u 528 29 33)) (.c (.int 1) 0 (u 528 34 35)) (u 528 29 36)),(.loc 142 (u 528 38 43))] (u 528 15 28) (u 528 15 44)) (u 528 8 44))] [] (q 527 4 528 44)),(.ife (.cmp .eq (.loc 5 (u 529 7 11)) (.c (.str [99,97,108,108]) 0 (u 529 15 21)) (u 529 7 21)) [(.ret (.mth (.loc 143 (u 530 15 20)) 147 [(.idx (.loc 141 (u 530 26 30)) (.c (.int 1) 0 (u 530 31 32)) (u 530 26 33)),(.loc 142 (u 530 35 40))] (u 530 15 25) (u 530 15 41)) (u 530 8 41))] [] (q 529 4 530 41)),(.ret (.ife (.cmp .eq (.loc 5 (u 531 39 43)) (.c (.str [102,110]) 0 (u 531 47 51)) (u 531 39 51)) (.mth (.loc 143 (u 531 11 16)) 148 [(.idx (.loc 141 (u 531 20 24)) (.c (.int 1) 0 (u 531 25 26)) (u 531 20 27)),(.loc 142 (u 531 29 34))] (u 531 11 19) (u 531 11 35)) (.call (.gl 146 (u 531 57 70)) [(.loc 141 (u 531 71 75)),(.att (.loc 143 (u 531 77 82)) 25 (u 531 77 87)),(.att (.loc 143 (u 531 89 94)) 16 (u 531 89 101))] (u 531 57 102)) (u 531 11 102)) (u 531 4 102))] }
noncomputable def cx60 : Fn := { params := [141,143],names := [(141,.local),(143,.local),(149,.local),(150,.local),(89,.local),(151,.local),(142,.local),(107,.local),(11,.local),(3,gI),(152,gI),(153,gI),(154,gI)],fast := [141,143,149,150,89,151,142,107,11,155],body := [(.asgS [(149,(u 533 4 11)),(150,(u 533 13 19))] 0 (u 533 4 19) [(.lst [(.tup [(.loc 141 (u 533 25 29)),(.c (.bool false) 0 (u 533 31 36))] 0 (u 533 24 37))] (u 533 23 38)),(.lst [] (u 533 40 42))] 0 (u 533 22 43) (u 533 4 43)),(.whl (.cmp .gt (.call (.gl 3 (u 534 10 13)) [(.loc 149 (u 534 14 21))] (u 534 10 22)) (.c (.int 0) 0 (u 534 25 26)) (u 534 10 26)) [(.asgT [(.name 89 (u 535 8 12)),(.name 151 (u 535 14 22))] 0 (u 535 8 22) (.mth (.loc 149 (u 535 25 32)) 127 [] (u 535 25 36) (u 535 25 38)) (u 535 8 38)),(.asg (.name 142 (u 536 8 13)) (.call (.gl 152 (u 536 16 29)) [(.loc 89 (u 536 30 34))] (u 536 16 35)) (u 536 8 35)),(.ife (.or [(.loc 151 (u 537 11 19)),(.cmp .eq (.call (.gl 3 (u 537 23 26)) [(.loc 142 (u 537 27 32))] (u 537 23 33)) (.c (.int 0) 0 (u 537 37 38)) (u 537 23 38))] (u 537 11 38)) [(.asg (.name 107 (u 538 12 17)) (.bin .sub (.call (.gl 3 (u 538 20 23)) [(.loc 150 (u 538 24 30))] (u 538 20 31)) (.call (.gl 3 (u 538 34 37)) [(.loc 142 (u 538 38 43))] (u 538 34 44)) (u 538 20 44)) (u 538 12 44)),(.asg (.name 11 (u 539 12 17)) (.call (.gl 153 (u 539 20 33)) [(.loc 89 (u 539 34 38)),(.slc (.loc 150 (u 539 40 46)) (some (.loc 107 (u 539 47 52))) none (u 539 47 53) (u 539 40 54)),(.loc 143 (u 539 56 61))] (u 539 20 62)) (u 539 12 62)),(.asg (.name 150 (u 540 12 18)) (.bin .add (.slc (.loc 150 (u 540 21 27)) none (some (.loc 107 (u 540 29 34))) (u 540 28 34) (u 540 21 35)) (.lst [(.loc 11 (u 540 39 44))] (u 540 38 45)) (u 540 21 45)) (u 540 12 45))] [(.exp (.mth (.loc 149 (u 542 12 19)) 156 [(.tup [(.loc 89 (u 542 28 32)),(.c (.bool true) 0 (u 542 34 38))] 0 (u 542 27 39))] (u 542 12 26) (u 542 12 40)) (u 542 12 40)),(.raw (.Expr (.Call (.Attribute (.Name "waiting" (u 543 12 19)) "extend" (u 543 12 26)) [(.ListComp (.Tuple [(.Name "part" (u 543 29 33)),(.Constant (.bool false) 0 (u 543 35 40))] 0 (u 543 28 41)) [⟨(.Name "part" (u 543 46 50)),(.Call (.Name "reversed" (u 543 54 62)) [(.Name "parts" (u 543 63 68))] [] (u 543 54 69)),[],0⟩] { kind := .function,names := [(".0",.local),("part",.local)],isGenerator := false,isCoroutine := false } (u 543 27 70))] [] (u 543 12 71)) (u 543 12 71)))] (q 537 8 543 71))] (q 534 4 543 71)),(.ret (.idx (.loc 150 (u 544 11 17)) (.c (.int 0) 0 (u 544 18 19)) (u 544 11 20)) (u 544 4 20))] }
noncomputable def cx19 : Fn := { params := [38,64,158,159],names := [(38,.local),(64,.local),(158,.local),(159,.local),(160,gI),(161,gI)],fast := [],body := [(.asg (.att (.loc 38 (u 551 8 12)) 64 (u 551 8 18)) (.loc 64 (u 551 21 26)) (u 551 8 26)),(.asg (.att (.loc 38 (u 552 8 12)) 158 (u 552 8 17)) (.loc 158 (u 552 20 24)) (u 552 8 24)),(.asg (.att (.loc 38 (u 553 8 12)) 159 (u 553 8 20)) (.loc 159 (u 553 23 30)) (u 553 8 30)),(.asg (.att (.loc 38 (u 554 8 12)) 25 (u 554 8 17)) (.att (.loc 64 (u 554 20 25)) 25 (u 554 20 30)) (u 554 8 30)),(.asg (.att (.loc 38 (u 555 8 12)) 16 (u 555 8 19)) (.att (.loc 64 (u 555 22 27)) 16 (u 555 22 34)) (u 555 8 34)),(.asg (.att (.loc 38 (u 556 8 12)) 162 (u 556 8 20)) (.call (.gl 160 (u 556 23 30)) [(.gl 161 (u 556 31 40))] (u 556 23 41)) (u 556 8 41)),(.asg (.att (.loc 38 (u 557 8 12)) 163 (u 557 8 18)) (.lst [] (u 557 21 23)) (u 557 8 23))] }
noncomputable def cx12 : Fn := { params := [38,141],names := [(38,.local),(141,.local),(164,gI)],fast := [],body := [(.ret (.call (.gl 164 (u 560 15 26)) [(.loc 141 (u 560 27 31)),(.loc 38 (u 560 33 37))] (u 560 15 38)) (u 560 8 38))] }
noncomputable def cx0 : Fn := { params := [38,97],names := [(38,.local),(97,.local),(165,gI)],fast := [],body := [(.exp (.mth (.att (.loc 38 (u 566 8 12)) 163 (u 566 8 18)) 156 [(.loc 97 (u 566 26 30))] (u 566 8 25) (u 566 8 31)) (u 566 8 31)),(.ret (.call (.gl 165 (u 567 15 29)) [(.att (.loc 38 (u 567 30 34)) 64 (u 567 30 40)),(.loc 97 (u 567 42 46))] (u 567 15 47)) (u 567 8 47))] }
noncomputable def cx3 : Fn := { params := [38,97,78],names := [(38,.cell),(97,.local),(78,.local),(9,.local),(166,gI)],fast := [38,97,78,79,9],body := [(.asg (.name 9 (u 570 8 14)) (.comp 79 (u 570 47 50) (.call (.gl 36 (u 570 18 26)) [(.loc 79 (u 570 27 30)),(.att (.loc 38 (u 570 32 36)) 25 (u 570 32 41))] (u 570 18 42)) (.loc 78 (u 570 54 58)) [(81,.local),(79,.local),(36,gI),(38,.free)] (u 570 17 59)) (u 570 8 59)),(.exp (.mth (.att (.loc 38 (u 571 8 12)) 163 (u 571 8 18)) 156 [(.tup [(.loc 97 (u 571 27 31)),(.loc 9 (u 571 33 39))] 0 (u 571 26 40))] (u 571 8 25) (u 571 8 41)) (u 571 8 41)),(.ret (.call (.gl 166 (u 572 15 23)) [(.att (.loc 38 (u 572 24 28)) 64 (u 572 24 34)),(.loc 97 (u 572 36 40)),(.loc 9 (u 572 42 48))] (u 572 15 49)) (u 572 8 49))] }
noncomputable def cx13 : Fn := { params := [38,97,24],names := [(38,.local),(97,.local),(24,.local),(167,gI)],fast := [],body := [(.exp (.call (.gl 167 (u 595 8 21)) [(.att (.loc 38 (u 595 22 26)) 64 (u 595 22 32)),(.loc 97 (u 595 34 38)),(.loc 24 (u 595 40 45))] (u 595 8 46)) (u 595 8 46))] }
noncomputable def cx23 : Fn := { params := [38,97,78,24],names := [(38,.cell),(97,.local),(78,.local),(24,.local),(168,gI)],fast := [38,97,78,24,79],body := [(.exp (.call (.gl 168 (u 598 8 16)) [(.att (.loc 38 (u 598 17 21)) 64 (u 598 17 27)),(.loc 97 (u 598 29 33)),(.comp 79 (u 598 65 68) (.call (.gl 36 (u 598 36 44)) [(.loc 79 (u 598 45 48)),(.att (.loc 38 (u 598 50 54)) 25 (u 598 50 59))] (u 598 36 60)) (.loc 78 (u 598 72 76)) [(81,.local),(79,.local),(36,gI),(38,.free)] (u 598 35 77)),(.loc 24 (u 598 79 84))] (u 598 8 85)) (u 598 8 85))] }
noncomputable def cx2 : Fn := { params := [38,5],names := [(38,.local),(5,.local),(169,gI)],fast := [],body := [(.ret (.call (.gl 169 (u 601 15 24)) [(.att (.loc 38 (u 601 25 29)) 64 (u 601 25 35)),(.loc 5 (u 601 37 41)),(.att (.loc 38 (u 601 43 47)) 170 (u 601 43 59))] (u 601 15 60)) (u 601 8 60))] }
noncomputable def cx1 : Fn := { params := [38,32],names := [(38,.local),(32,.local),(128,.local),(171,gI),(3,gI)],fast := [],body := [(.asg (.name 128 (u 604 8 12)) (.call (.gl 171 (u 604 15 24)) [(.loc 32 (u 604 25 29)),(.att (.loc 38 (u 604 31 35)) 16 (u 604 31 42))] (u 604 15 43)) (u 604 8 43)),(.ret (.ife (.and [(.cmp .isnot (.loc 128 (u 605 26 30)) (.c .none 0 (u 605 38 42)) (u 605 26 42)),(.cmp .eq (.idx (.loc 128 (u 605 47 51)) (.c (.int 1) 0 (u 605 52 53)) (u 605 47 54)) (.call (.gl 3 (u 605 58 61)) [(.mth (.loc 32 (u 605 62 66)) 172 [(.c (.str [32]) 0 (u 605 74 77))] (u 605 62 73) (u 605 62 78))] (u 605 58 79)) (u 605 47 79))] (u 605 26 79)) (.idx (.loc 128 (u 605 15 19)) (.c (.int 0) 0 (u 605 20 21)) (u 605 15 22)) (.c .none 0 (u 605 85 89)) (u 605 15 89)) (u 605 8 89))] }
noncomputable def cx49 : Fn := { params := [173,7],names := [(173,.local),(7,.local),(3,gI)],fast := [],body := [(.asg (.sub (.loc 173 (u 611 4 9)) (.c (.int 0) 0 (u 611 10 11)) (u 611 4 12)) (.bin .add (.idx (.loc 173 (u 611 15 20)) (.c (.int 0) 0 (u 611 21 22)) (u 611 15 23)) (.c (.int 1) 0 (u 611 26 27)) (u 611 15 27)) (u 611 4 27)),(.ife (.cmp .le (.idx (.loc 173 (u 612 7 12)) (.c (.int 0) 0 (u 612 13 14)) (u 612 7 15)) (.call (.gl 3 (u 612 19 22)) [(.idx (.loc 173 (u 612 23 28)) (.c (.int 1) 0 (u 612 29 30)) (u 612 23 31))] (u 612 19 32)) (u 612 7 32)) [(.ret (.bin .fmod (.idx (.idx (.loc 173 (u 613 15 20)) (.c (.int 1) 0 (u 613 21 22)) (u 613 15 23)) (.bin .sub (.idx (.loc 173 (u 613 24 29)) (.c (.int 0) 0 (u 613 30 31)) (u 613 24 32)) (.c (.int 1) 0 (u 613 35 36)) (u 613 24 36)) (u 613 15 37)) (.loc 7 (u 613 40 44)) (u 613 15 44)) (u 613 8 44))] [] (q 612 4 613 44)),(.ret (.bin .fmod (.bin .add (.bin .add (.bin .mul (.c (.int 4) 0 (u 614 12 13)) (.idx (.loc 173 (u 614 16 21)) (.c (.int 0) 0 (u 614 22 23)) (u 614 16 24)) (u 614 12 24)) (.bin .fdiv (.idx (.loc 173 (u 614 27 32)) (.c (.int 0) 0 (u 614 33 34)) (u 614 27 35)) (.c (.int 2) 0 (u 614 39 40)) (u 614 27 40)) (u 614 12 40)) (.c (.int 1) 0 (u 614 43 44)) (u 614 12 44)) (.loc 7 (u 614 48 52)) (u 614 11 52)) (u 614 4 52))] }
noncomputable def cx16 : Fn := { params := [174],names := [(174,.local),(15,.local)],fast := [],body := [(.ife (.cmp .eq (.loc 174 (u 616 7 13)) (.c (.int 0) 0 (u 616 17 18)) (u 616 7 18)) [(.ret (.tup [(.c (.int 0) 0 (u 617 16 17)),(.c (.int 0) 0 (u 617 19 20))] 0 (u 617 15 21)) (u 617 8 21))] [] (q 616 4 617 21)),(.asg (.name 15 (u 618 4 12)) (.bin .sub (.c (.int 0) 0 (u 618 15 16)) (.c (.int 1) 0 (u 618 19 20)) (u 618 15 20)) (u 618 4 20)),(.whl (.cmp .eq (.bin .fmod (.loc 174 (u 619 10 16)) (.c (.int 10) 0 (u 619 19 21)) (u 619 10 21)) (.c (.int 0) 0 (u 619 25 26)) (u 619 10 26)) [(.asgS [(174,(u 620 8 14)),(15,(u 620 16 24))] 0 (u 620 8 24) [(.bin .fdiv (.loc 174 (u 620 28 34)) (.c (.int 10) 0 (u 620 38 40)) (u 620 28 40)),(.bin .add (.loc 15 (u 620 42 50)) (.c (.int 1) 0 (u 620 53 54)) (u 620 42 54))] 0 (u 620 27 55) (u 620 8 55))] (q 619 4 620 55)),(.ret (.tup [(.loc 174 (u 621 12 18)),(.loc 15 (u 621 20 28))] 0 (u 621 11 29)) (u 621 4 29))] }
noncomputable def cx24 : Fn := { params := [24],names := [(24,.local),(26,gI),(175,gI)],fast := [],body := [(.ret (.ife (.call (.gl 26 (u 623 25 35)) [(.loc 24 (u 623 36 41)),(.gl 175 (u 623 43 46))] (u 623 25 47)) (.bin .mul (.c (.int 10) 0 (u 623 11 13)) (.loc 24 (u 623 16 21)) (u 623 11 21)) (.bin .mul (.idx (.loc 24 (u 623 53 58)) (.c (.int 0) 0 (u 623 59 60)) (u 623 53 61)) (.bin .pow (.c (.int 10) 0 (u 623 64 66)) (.bin .add (.idx (.loc 24 (u 623 71 76)) (.c (.int 1) 0 (u 623 77 78)) (u 623 71 79)) (.c (.int 1) 0 (u 623 82 83)) (u 623 71 83)) (u 623 64 84)) (u 623 53 84)) (u 623 11 84)) (u 623 4 84))] }
noncomputable def cx38 : Fn := { params := [24,5],names := [(24,.local),(5,.local),(174,.local),(176,.local),(12,.local),(26,gI),(27,gI),(23,gI),(177,gI),(178,gI)],fast := [],body := [(.ife (.cmp .ne (.cmp .eq (.loc 5 (u 625 8 12)) (.c (.str [116,101,120,116]) 0 (u 625 16 22)) (u 625 8 22)) (.call (.gl 26 (u 625 27 37)) [(.loc 24 (u 625 38 43)),(.gl 27 (u 625 45 48))] (u 625 27 49)) (u 625 7 49)) [(.rse [84,77] 23 (u 626 14 24) [(.c (.str [84,77]) 0 (u 626 25 29))] (u 626 14 30) (u 626 8 30))] [] (q 625 4 626 30)),(.ife (.cmp .eq (.loc 5 (u 627 7 11)) (.c (.str [116,101,120,116]) 0 (u 627 15 21)) (u 627 7 21)) [(.ret (.loc 24 (u 628 15 20)) (u 628 8 20))] [] (q 627 4 628 20)),(.asg (.name 174 (u 629 4 10)) (.call (.gl 177 (u 629 13 24)) [(.loc 24 (u 629 25 30))] (u 629 13 31)) (u 629 4 31)),(.ife (.cmp .eq (.loc 5 (u 630 7 11)) (.c (.str [100,101,99,105,109,97,108]) 0 (u 630 15 24)) (u 630 7 24)) [(.ret (.call (.gl 178 (u 631 15 27)) [(.loc 174 (u 631 28 34))] (u 631 15 35)) (u 631 8 35))] [] (q 630 4 631 35)),(.asgS [(176,(u 632 4 9)),(12,(u 632 11 15))] 0 (u 632 4 15) [(.bin .fdiv (.loc 174 (u 632 19 25)) (.c (.int 10) 0 (u 632 29 31)) (u 632 19 31)),(.bin .fmod (.loc 174 (u 632 33 39)) (.c (.int 10) 0 (u 632 42 44)) (u 632 33 44))] 0 (u 632 18 45) (u 632 4 45)),(.asg (.name 176 (u 633 4 9)) (.ife (.or [(.cmp .gt (.loc 12 (u 633 25 29)) (.c (.int 5) 0 (u 633 32 33)) (u 633 25 33)),(.and [(.cmp .eq (.loc 12 (u 633 38 42)) (.c (.int 5) 0 (u 633 46 47)) (u 633 38 47)),(.cmp .eq (.bin .fmod (.loc 176 (u 633 52 57)) (.c (.int 2) 0 (u 633 60 61)) (u 633 52 61)) (.c (.int 1) 0 (u 633 65 66)) (u 633 52 66))] (u 633 38 66))] (u 633 25 67)) (.bin .add (.loc 176 (u 633 12 17)) (.c (.int 1) 0 (u 633 20 21)) (u 633 12 21)) (.loc 176 (u 633 73 78)) (u 633 12 78)) (u 633 4 78)),(.ife (.cmp .gt (.loc 176 (u 634 7 12)) (.c (.int 32767) 0 (u 634 15 20)) (u 634 7 20)) [(.rse [79,86] 23 (u 635 14 24) [(.c (.str [79,86]) 0 (u 635 25 29))] (u 635 14 30) (u 635 8 30))] [] (q 634 4 635 30)),(.ret (.loc 176 (u 636 11 16)) (u 636 4 16))] }
noncomputable def cx33 : Fn := { params := [173],names := [(173,.local),(179,.local),(180,gI)],fast := [],body := [(.asg (.name 179 (u 638 4 8)) (.call (.gl 180 (u 638 11 19)) [(.loc 173 (u 638 20 25)),(.c (.int 8) 0 (u 638 27 28))] (u 638 11 29)) (u 638 4 29)),(.ife (.cmp .lt (.loc 179 (u 639 7 11)) (.c (.int 4) 0 (u 639 14 15)) (u 639 7 15)) [(.ret (.tup [(.c (.str [110,97,109,101]) 0 (u 640 16 22)),(.idx (.lst [(.c (.str [65]) 0 (u 640 25 28)),(.c (.str [66]) 0 (u 640 30 33)),(.c (.str [66,37]) 0 (u 640 35 39)),(.c (.str [67,36]) 0 (u 640 41 45))] (u 640 24 46)) (.loc 179 (u 640 47 51)) (u 640 24 52))] 0 (u 640 15 53)) (u 640 8 53))] [] (q 639 4 640 53)),(.ret (.tup [(.c (.str [105,116,101,109]) 0 (u 641 12 18)),(.idx (.c (.str [65,66]) 0 (u 641 20 24)) (.bin .fmod (.loc 179 (u 641 25 29)) (.c (.int 2) 0 (u 641 32 33)) (u 641 25 33)) (u 641 20 34)),(.lst [(.tup [(.c (.str [119,104,111,108,101]) 0 (u 641 38 45)),(.bin .fdiv (.loc 179 (u 641 47 51)) (.c (.int 6) 0 (u 641 55 56)) (u 641 47 56))] 0 (u 641 37 57))] (u 641 36 58))] 0 (u 641 11 59)) (u 641 4 59))] }
noncomputable def cx43 : Fn := { params := [181],names := [(181,.local)],fast := [],body := [(.ret (.ife (.cmp .eq (.idx (.loc 181 (u 643 22 26)) (.c (.int 0) 0 (u 643 27 28)) (u 643 22 29)) (.c (.str [110,97,109,101]) 0 (u 643 33 39)) (u 643 22 39)) (.idx (.loc 181 (u 643 11 15)) (.c (.int 1) 0 (u 643 16 17)) (u 643 11 18)) (.tup [(.idx (.loc 181 (u 643 46 50)) (.c (.int 1) 0 (u 643 51 52)) (u 643 46 53)),(.idx (.idx (.idx (.loc 181 (u 643 55 59)) (.c (.int 2) 0 (u 643 60 61)) (u 643 55 62)) (.c (.int 0) 0 (u 643 63 64)) (u 643 55 65)) (.c (.int 1) 0 (u 643 66 67)) (u 643 55 68))] 0 (u 643 45 69)) (u 643 11 69)) (u 643 4 69))] }
noncomputable def cx40 : Fn := { params := [1,181],names := [(1,.local),(181,.local)],fast := [],body := [(.ife (.or [(.cmp .eq (.idx (.loc 181 (u 645 7 11)) (.c (.int 0) 0 (u 645 12 13)) (u 645 7 14)) (.c (.str [105,116,101,109]) 0 (u 645 18 24)) (u 645 7 24)),(.cmp .isin (.idx (.loc 181 (u 645 28 32)) (.c (.int 1) 0 (u 645 33 34)) (u 645 28 35)) (.tup [(.c (.str [65]) 0 (u 645 40 43)),(.c (.str [66]) 0 (u 645 45 48))] 0 (u 645 39 49)) (u 645 28 49))] (u 645 7 49)) [(.ret (.ife (.cmp .eq (.idx (.loc 181 (u 646 28 32)) (.c (.int 0) 0 (u 646 33 34)) (u 646 28 35)) (.c (.str [105,116,101,109]) 0 (u 646 39 45)) (u 646 28 45)) (.c (.str [100,101,99,105,109,97,108]) 0 (u 646 15 24)) (.idx (.loc 1 (u 646 51 56)) (.idx (.loc 181 (u 646 57 61)) (.c (.int 1) 0 (u 646 62 63)) (u 646 57 64)) (u 646 51 65)) (u 646 15 65)) (u 646 8 65))] [] (q 645 4 646 65)),(.ret (.ife (.cmp .eq (.idx (.loc 181 (u 647 22 26)) (.c (.int 1) 0 (u 647 27 28)) (u 647 22 29)) (.c (.str [66,37]) 0 (u 647 33 37)) (u 647 22 37)) (.c (.str [119,104,111,108,101]) 0 (u 647 11 18)) (.c (.str [116,101,120,116]) 0 (u 647 43 49)) (u 647 11 49)) (u 647 4 49))] }
noncomputable def cx14 : Fn := { params := [182,1,87,88],names := [(182,.local),(1,.local),(87,.local),(88,.local),(5,.local),(19,.local),(2,.local),(89,.local),(90,.local),(183,gI),(23,gI),(184,gI),(185,gI)],fast := [],body := [(.asg (.name 5 (u 649 4 8)) (.call (.gl 183 (u 649 11 20)) [(.loc 1 (u 649 21 26)),(.loc 87 (u 649 28 31))] (u 649 11 32)) (u 649 4 32)),(.ife (.cmp .ne (.loc 5 (u 650 7 11)) (.call (.gl 183 (u 650 15 24)) [(.loc 1 (u 650 25 30)),(.loc 88 (u 650 32 37))] (u 650 15 38)) (u 650 7 38)) [(.rse [84,77] 23 (u 651 14 24) [(.c (.str [84,77]) 0 (u 651 25 29))] (u 651 14 30) (u 651 8 30))] [] (q 650 4 651 30)),(.asgS [(19,(u 652 4 9)),(2,(u 652 11 15))] 0 (u 652 4 15) [(.call (.gl 184 (u 652 19 27)) [(.loc 87 (u 652 28 31))] (u 652 19 32)),(.call (.gl 184 (u 652 34 42)) [(.loc 88 (u 652 43 48))] (u 652 34 49))] 0 (u 652 18 50) (u 652 4 50)),(.asgS [(89,(u 653 4 8)),(90,(u 653 10 15))] 0 (u 653 4 15) [(.call (.gl 185 (u 653 19 28)) [(.idx (.loc 182 (u 653 29 33)) (.loc 2 (u 653 34 38)) (u 653 29 39)),(.loc 5 (u 653 41 45))] (u 653 19 46)),(.call (.gl 185 (u 653 48 57)) [(.idx (.loc 182 (u 653 58 62)) (.loc 19 (u 653 63 68)) (u 653 58 69)),(.loc 5 (u 653 71 75))] (u 653 48 76))] 0 (u 653 18 77) (u 653 4 77)),(.asg (.sub (.loc 182 (u 654 4 8)) (.loc 19 (u 654 9 14)) (u 654 4 15)) (.loc 89 (u 654 18 22)) (u 654 4 22)),(.asg (.sub (.loc 182 (u 655 4 8)) (.loc 2 (u 655 9 13)) (u 655 4 14)) (.loc 90 (u 655 17 22)) (u 655 4 22))] }
noncomputable def cx25 : Fn := { params := [64,182],names := [(64,.cell),(182,.cell),(42,.local),(95,.local),(186,gI)],fast := [64,182,97,42,95,106],body := [(.asg (.name 42 (u 663 4 9)) (.comp 97 (u 663 35 39) (.idx (.att (.loc 64 (u 663 13 18)) 42 (u 663 13 24)) (.loc 97 (u 663 25 29)) (u 663 13 30)) (.tup [(.c (.str [65]) 0 (u 663 44 47)),(.c (.str [66]) 0 (u 663 49 52)),(.c (.str [66,37]) 0 (u 663 54 58)),(.c (.str [67,36]) 0 (u 663 60 64))] 0 (u 663 43 65)) [(81,.local),(97,.local),(64,.free)] (u 663 12 66)) (u 663 4 66)),(.ife (.cmp .ne (.call (.gl 186 (u 664 7 11)) [(.loc 42 (u 664 12 17))] (u 664 7 18)) (.call (.gl 186 (u 664 22 26)) [(.comp 97 (u 664 43 47) (.idx (.loc 182 (u 664 28 32)) (.loc 97 (u 664 33 37)) (u 664 28 38)) (.tup [(.c (.str [65]) 0 (u 664 52 55)),(.c (.str [66]) 0 (u 664 57 60)),(.c (.str [66,37]) 0 (u 664 62 66)),(.c (.str [67,36]) 0 (u 664 68 72))] 0 (u 664 51 73)) [(81,.local),(97,.local),(182,.free)] (u 664 27 74))] (u 664 22 75)) (u 664 7 75)) [(.ret (.c (.bool false) 0 (u 665 15 20)) (u 665 8 20))] [] (q 664 4 665 20)),(.asg (.name 95 (u 666 4 9)) (.lst [(.att (.idx (.att (.loc 64 (u 666 13 18)) 43 (u 666 13 25)) (.c (.str [65]) 0 (u 666 26 29)) (u 666 13 30)) 95 (u 666 13 36)),(.att (.idx (.att (.loc 64 (u 666 38 43)) 43 (u 666 38 50)) (.c (.str [66]) 0 (u 666 51 54)) (u 666 38 55)) 95 (u 666 38 61))] (u 666 12 62)) (u 666 4 62)),(.ret (.cmp .eq (.call (.gl 186 (u 667 11 15)) [(.loc 95 (u 667 16 21))] (u 667 11 22)) (.call (.gl 186 (u 667 26 30)) [(.comp 97 (u 667 72 76) (.compR 106 (u 667 52 54) (.idx (.loc 182 (u 667 33 37)) (.tup [(.loc 97 (u 667 38 42)),(.loc 106 (u 667 44 46))] 0 (u 667 38 46)) (u 667 33 47)) 187 (u 667 58 63) (.c (.int 2) 0 (u 667 64 65)) (u 667 58 66) [(81,.local),(106,.local),(182,.free),(97,.free)] (u 667 32 67)) (.tup [(.c (.str [65]) 0 (u 667 81 84)),(.c (.str [66]) 0 (u 667 86 89))] 0 (u 667 80 90)) [(81,.local),(97,.cell),(187,gI),(182,.free)] (u 667 31 91))] (u 667 26 92)) (u 667 11 92)) (u 667 4 92))] }
noncomputable def cx63 : Fn := { params := [188],names := [(188,.local),(87,.cell),(173,.local),(64,.local),(97,.local),(73,.local),(174,.local),(189,.local),(179,.local),(190,.local),(191,.local),(182,.cell),(1,.cell),(88,.cell),(69,.cell),(192,gI),(193,gI),(101,gI),(180,gI),(178,gI),(187,gI),(194,gI),(184,gI),(183,gI),(185,gI),(195,gI),(196,gI)],fast := [188,87,173,64,97,73,174,189,179,190,191,182,1,88,69],body := [(.asgT [(.name 173 (u 669 4 9)),(.name 64 (u 669 11 16)),(.name 182 (u 669 18 22))] 0 (u 669 4 22) (.tup [(.lst [(.c (.int 0) 0 (u 669 27 28)),(.comp 87 (u 669 49 52) (.call (.gl 20 (u 669 31 34)) [(.call (.gl 175 (u 669 35 38)) [(.loc 87 (u 669 39 42))] (u 669 35 43))] (u 669 31 44)) (.slc (.loc 188 (u 669 56 62)) none (some (.c (.int 30) 0 (u 669 64 66))) (u 669 63 66) (u 669 56 67)) [(81,.local),(87,.local),(20,gI),(175,gI)] (u 669 30 68))] (u 669 26 69)),(.call (.gl 192 (u 669 71 76)) [] (u 669 71 78)),(.dct (u 669 80 82))] 0 (u 669 25 83)) (u 669 4 83)),(.asg (.name 69 (u 670 4 7)) (.call (.gl 193 (u 670 10 17)) [(.loc 64 (u 670 18 23)),(.c .none 0 (u 670 25 29)),(.dct (u 670 31 33))] (u 670 10 34)) (u 670 4 34)),(.asg (.att (.loc 64 (u 671 4 9)) 51 (u 671 4 14)) (.bin .mul (.lst [(.tup [(.c (.int 10) 0 (u 671 19 21)),(.c (.str [53]) 0 (u 671 23 26))] 0 (u 671 18 27))] (u 671 17 28)) (.c (.int 9) 0 (u 671 31 32)) (u 671 17 32)) (u 671 4 32)),(.for_ (.name 97 (u 672 8 12)) (.tup [(.c (.str [65]) 0 (u 672 17 20)),(.c (.str [66]) 0 (u 672 22 25))] 0 (u 672 16 26)) [(.exp (.call (.gl 101 (u 673 8 11)) [(.loc 64 (u 673 12 17)),(.loc 97 (u 673 19 23)),(.lst [(.c (.int 1) 0 (u 673 26 27))] (u 673 25 28))] (u 673 8 29)) (u 673 8 29)),(.for_ (.name 73 (u 674 12 17)) (.tup [(.loc 97 (u 674 22 26)),(.tup [(.loc 97 (u 674 29 33)),(.c (.int 0) 0 (u 674 35 36))] 0 (u 674 28 37)),(.tup [(.loc 97 (u 674 40 44)),(.c (.int 1) 0 (u 674 46 47))] 0 (u 674 39 48))] 0 (u 674 21 49)) [(.asg (.name 174 (u 675 12 18)) (.idx (.lst [(.c (.int 50) 0 (u 675 22 24)),(.c (.int 400000) 0 (u 675 26 32)),(.c (.int 25) 0 (u 675 34 36)),(.c (.int 35) 0 (u 675 38 40))] (u 675 21 41)) (.call (.gl 180 (u 675 42 50)) [(.loc 173 (u 675 51 56)),(.c (.int 4) 0 (u 675 58 59))] (u 675 42 60)) (u 675 21 61)) (u 675 12 61)),(.asg (.sub (.loc 182 (u 676 12 16)) (.loc 73 (u 676 17 22)) (u 676 12 23)) (.call (.gl 178 (u 676 26 38)) [(.loc 174 (u 676 39 45))] (u 676 26 46)) (u 676 12 46)),(.ife (.cmp .eq (.loc 73 (u 677 15 20)) (.loc 97 (u 677 24 28)) (u 677 15 28)) [(.exp (.mth (.loc 69 (u 678 16 19)) 84 [(.loc 97 (u 678 26 30)),(.idx (.loc 182 (u 678 32 36)) (.loc 73 (u 678 37 42)) (u 678 32 43))] (u 678 16 25) (u 678 16 44)) (u 678 16 44))] [(.exp (.mth (.loc 69 (u 680 16 19)) 85 [(.loc 97 (u 680 24 28)),(.lst [(.idx (.loc 73 (u 680 31 36)) (.c (.int 1) 0 (u 680 37 38)) (u 680 31 39))] (u 680 30 40)),(.idx (.loc 182 (u 680 42 46)) (.loc 73 (u 680 47 52)) (u 680 42 53))] (u 680 16 23) (u 680 16 54)) (u 680 16 54))] (q 677 12 680 54))] (q 674 8 680 54))] (q 672 4 680 54)),(.asgT [(.sub (.loc 182 (u 681 4 8)) (.c (.str [66,37]) 0 (u 681 9 13)) (u 681 4 14)),(.sub (.loc 182 (u 681 16 20)) (.c (.str [67,36]) 0 (u 681 21 25)) (u 681 16 26))] 0 (u 681 4 26) (.tup [(.c (.int 7) 0 (u 681 30 31)),(.c (.str [116]) 0 (u 681 33 36))] 0 (u 681 29 37)) (u 681 4 37)),(.exp (.mth (.loc 69 (u 682 4 7)) 84 [(.c (.str [66,37]) 0 (u 682 14 18)),(.c (.int 7) 0 (u 682 20 21))] (u 682 4 13) (u 682 4 22)) (u 682 4 22)),(.exp (.mth (.loc 69 (u 683 4 7)) 84 [(.c (.str [67,36]) 0 (u 683 14 18)),(.c (.str [116]) 0 (u 683 20 23))] (u 683 4 13) (u 683 4 24)) (u 683 4 24)),(.asg (.name 1 (u 684 4 9)) (.dct (u 684 12 14)) (u 684 4 14)),(.for_ (.name 97 (u 685 8 12)) (.tup [(.c (.str [65]) 0 (u 685 17 20)),(.c (.str [66]) 0 (u 685 22 25))] 0 (u 685 16 26)) [(.asg (.sub (.loc 1 (u 686 8 13)) (.loc 97 (u 686 14 18)) (u 686 8 19)) (.idx (.lst [(.c (.str [100,101,99,105,109,97,108]) 0 (u 686 23 32)),(.c (.str [119,104,111,108,101]) 0 (u 686 34 41)),(.c (.str [116,101,120,116]) 0 (u 686 43 49)),(.c (.str [119,104,111,108,101]) 0 (u 686 51 58))] (u 686 22 59)) (.call (.gl 180 (u 686 60 68)) [(.loc 173 (u 686 69 74)),(.c (.int 4) 0 (u 686 76 77))] (u 686 60 78)) (u 686 22 79)) (u 686 8 79)),(.asg (.sub (.att (.loc 64 (u 687 8 13)) 1 (u 687 8 19)) (.loc 97 (u 687 20 24)) (u 687 8 25)) (.idx (.loc 1 (u 687 28 33)) (.loc 97 (u 687 34 38)) (u 687 28 39)) (u 687 8 39))] (q 685 4 687 39)),(.forR (.name 189 (u 688 8 12)) 187 (u 688 16 21) (.bin .add (.c (.int 1) 0 (u 688 22 23)) (.call (.gl 180 (u 688 26 34)) [(.loc 173 (u 688 35 40)),(.c (.int 4) 0 (u 688 42 43))] (u 688 26 44)) (u 688 22 44)) (u 688 16 45) [(.asgT [(.name 179 (u 689 8 12)),(.name 87 (u 689 14 17))] 0 (u 689 8 17) (.tup [(.call (.gl 180 (u 689 21 29)) [(.loc 173 (u 689 30 35)),(.c (.int 4) 0 (u 689 37 38))] (u 689 21 39)),(.call (.gl 194 (u 689 41 51)) [(.loc 173 (u 689 52 57))] (u 689 41 58))] 0 (u 689 20 59)) (u 689 8 59)),(.ife (.cmp .eq (.loc 179 (u 690 11 15)) (.c (.int 0) 0 (u 690 19 20)) (u 690 11 20)) [(.asg (.sub (.loc 182 (u 691 12 16)) (.call (.gl 184 (u 691 17 25)) [(.loc 87 (u 691 26 29))] (u 691 17 30)) (u 691 12 31)) (.ife (.cmp .eq (.call (.gl 183 (u 691 41 50)) [(.loc 1 (u 691 51 56)),(.loc 87 (u 691 58 61))] (u 691 41 62)) (.c (.str [116,101,120,116]) 0 (u 691 66 72)) (u 691 41 72)) (.c (.str [53]) 0 (u 691 34 37)) (.call (.gl 185 (u 691 78 87)) [(.c (.int 5) 0 (u 691 88 89)),(.call (.gl 183 (u 691 91 100)) [(.loc 1 (u 691 101 106)),(.loc 87 (u 691 108 111))] (u 691 91 112))] (u 691 78 113)) (u 691 34 113)) (u 691 12 113)),(.asgS [(190,(u 692 12 16)),(191,(u 692 18 21))] 0 (u 692 12 21) [(.tryc 195 (u 692 25 34) (.call (.gl 197 (u 692 43 50)) [(.loc 69 (u 692 51 54)),(.lst [(.loc 87 (u 692 57 60))] (u 692 56 61))] (u 692 43 62)) [(87,.free),(69,.free),(197,gI)] (u 692 35 62) (u 692 25 63)),(.c (.str []) 0 (u 692 65 67))] 0 (u 692 24 68) (u 692 12 68))] [(.asg (.name 88 (u 694 12 17)) (.call (.gl 194 (u 694 20 30)) [(.loc 173 (u 694 31 36))] (u 694 20 37)) (u 694 12 37)),(.asg (.name 191 (u 695 12 15)) (.tryc 195 (u 695 18 27) (.call (.gl 198 (u 695 36 48)) [(.loc 182 (u 695 49 53)),(.loc 1 (u 695 55 60)),(.loc 87 (u 695 62 65)),(.loc 88 (u 695 67 72))] (u 695 36 73)) [(182,.free),(1,.free),(87,.free),(88,.free),(198,gI)] (u 695 28 73) (u 695 18 74)) (u 695 12 74)),(.asg (.name 190 (u 696 12 16)) (.tryc 195 (u 696 19 28) (.call (.gl 199 (u 696 37 44)) [(.loc 69 (u 696 45 48)),(.tup [(.c (.str [83,87,65,80]) 0 (u 696 51 57)),(.loc 87 (u 696 59 62)),(.loc 88 (u 696 64 69))] 0 (u 696 50 70))] (u 696 37 71)) [(87,.free),(88,.free),(69,.free),(199,gI)] (u 696 29 71) (u 696 19 72)) (u 696 12 72))] (q 690 8 696 72)),(.ife (.or [(.cmp .ne (.loc 190 (u 697 11 15)) (.loc 191 (u 697 19 22)) (u 697 11 22)),(.not (.call (.gl 196 (u 697 30 41)) [(.loc 64 (u 697 42 47)),(.loc 182 (u 697 49 53))] (u 697 30 54)) (u 697 26 54))] (u 697 11 54)) [(.ret (.c (.bool false) 0 (u 698 19 24)) (u 698 12 24))] [] (q 697 8 698 24))] (q 688 4 698 24)),(.ret (.c (.bool true) 0 (u 699 11 15)) (u 699 4 15))] }
noncomputable def fnL : List (Nat × Fn) := [(79,cx18),(86,cx26),(93,cx32),(100,cx28),(107,cx61),(114,cx34),(121,cx62),(128,cx50),(135,cx29),(142,cx53),(149,cx17),(156,cx59),(178,cx31),(192,cx36),(199,cx51),(206,cx46),(213,cx4),(220,cx55),(225,cx30),(232,cx45),(239,cx58),(246,cx57),(260,cx39),(274,cx48),(281,cx54),(288,cx27),(295,cx64),(302,cx56),(309,cx44),(316,cx42),(323,cx47),(402,cx5),(409,cx22),(416,cx41),(423,cx21),(528,cx20),(549,cx35),(556,cx52),(577,cx6),(584,cx10),(610,cx7),(617,cx15),(624,cx37),(631,cx11),(673,cx8),(680,cx9),(685,cx60),(699,cx19),(706,cx12),(720,cx0),(725,cx3),(767,cx13),(772,cx23),(779,cx2),(786,cx1),(807,cx49),(814,cx16),(821,cx24),(828,cx38),(835,cx33),(842,cx43),(849,cx40),(856,cx14),(868,cx25),(873,cx63)]
noncomputable def clL : List (Nat × (Nat × List AV)) := [(181,(178,[.int 16,.int 9,.int 2000,.int 20,.int 2000])),(263,(260,[])),(531,(528,[])),(796,(699,[]))]
noncomputable def mtL : List (Nat × Nat) := [(80,706),(83,720),(82,725),(84,767),(85,772),(77,779),(170,786),(176,713),(147,732),(148,739)]
noncomputable def glL : List (Nat × AV) := [(65,.fn 79),(66,.fn 86),(13,.fn 93),(21,.fn 100),(31,.fn 107),(29,.fn 114),(30,.fn 121),(36,.fn 128),(37,.fn 135),(35,.fn 142),(34,.fn 149),(68,.fn 156),(67,.fn 192),(131,.fn 199),(132,.fn 206),(76,.fn 213),(197,.fn 220),(74,.fn 225),(91,.fn 232),(75,.fn 239),(199,.fn 246),(94,.fn 274),(100,.fn 281),(98,.fn 288),(101,.fn 295),(104,.fn 302),(105,.fn 309),(166,.fn 316),(168,.fn 323),(112,.fn 402),(119,.fn 409),(171,.fn 416),(120,.fn 423),(130,.fn 549),(133,.fn 556),(165,.fn 577),(167,.fn 584),(140,.fn 610),(139,.fn 617),(169,.fn 624),(152,.fn 631),(146,.fn 673),(153,.fn 680),(80,.fn 685),(180,.fn 807),(178,.fn 814),(177,.fn 821),(185,.fn 828),(194,.fn 835),(184,.fn 842),(183,.fn 849),(198,.fn 856),(196,.fn 868),(192,.fn 181),(99,.fn 263),(160,.fn 531),(193,.fn 796),(164,.fn 685),(23,.fn 41),(195,.fn 863),(33,.int 255),(22,.int 99),(102,.int 10),(108,.int 300),(114,.int 9999),(161,.int 20),(118,.str [32,9]),(122,.tup [.int 0,.int 0]),(3,.bi .len),(20,.bi .abs),(26,.bi .isinst),(27,.bi .str),(28,.bi .tuple),(175,.bi .int),(93,.bi .list),(109,.bi .ord),(186,.bi .repr),(187,.bi .range),(103,.bi .zip)]
noncomputable def kdL : List (Nat × MK) := [(156,.append),(127,.pop),(4,.get),(172,.rstrip)]
noncomputable def badAt (_ : Nat) : Bool := false
noncomputable def tb : Tab := { fn := lookA fnL,glob := lookA glL,cls := lookA clL,meth := fun c a => match Nat.beq c 796 with | true => lookA mtL a | false => none,kind := lookA kdL }
end Mine
end
section
open PySem PySem.W
namespace Mine
noncomputable def mixIs : Str ⊕ Int → Value → Bool
 | .inl x, v => Value.isStrOf x v
 | .inr i, v => Value.isInt i v
noncomputable def mixHash (w : World) : Str ⊕ Int → Int
 | .inl x => hashStr w x
 | .inr i => hashInt i
theorem mix_l {x : Str} {v : Value} (h : mixIs (.inl x) v = true) : ∃ t, v = .str x t := Value.isStrOf_shape h
theorem mix_r {x : Int} {v : Value} (h : mixIs (.inr x) v = true) : ∃ t, v = .int x t := Value.isInt_shape h
theorem mixInj (v : Value) (a b : Str ⊕ Int) (ha : mixIs a v = true) (hb : mixIs b v = true) : a = b := by
 cases a with
 | inl x =>
  cases b with
  | inl y => rw [Value.isStrOf_inj v x y ha hb]
  | inr j => obtain ⟨t, rfl⟩ := mix_l ha; obtain ⟨u, e⟩ := mix_r hb; contradiction
 | inr i =>
  cases b with
  | inl y => obtain ⟨t, rfl⟩ := mix_r ha; obtain ⟨u, e⟩ := mix_l hb; contradiction
  | inr j => rw [Value.isInt_inj v i j ha hb]
theorem mixEq {prog : Program} {w : World} {A : Around} {E : Value → Shared → Prop} {s : Shared} {a b : Str ⊕ Int} {u v : Value} {Q : Bool → Shared → Prop} (hu : mixIs a u = true) (hv : mixIs b v = true) (h : Q (decide (a = b)) s) :
 wpAny (model prog w) A (PySem.eqBool u v) Q E s := by
 cases a with
 | inl x =>
  obtain ⟨t, rfl⟩ := mix_l hu
  cases b with
  | inl y =>
   obtain ⟨t', rfl⟩ := mix_l hv
   refine wpAny_eqBool_str ?_
   have e : decide ((Sum.inl x : Str ⊕ Int) = Sum.inl y) = decide (x = y) := by
    by_cases q : x = y
    · subst q; simp
    · simp [q]
   rw [← e]; exact h
  | inr j =>
   obtain ⟨t', rfl⟩ := mix_r hv
   exact SeqAt.EqAt.str_int x t j t' _ _ _ _ (by simpa using h)
 | inr i =>
  obtain ⟨t, rfl⟩ := mix_r hu
  cases b with
  | inl y =>
   obtain ⟨t', rfl⟩ := mix_l hv
   exact SeqAt.EqAt.int_str i t y t' _ _ _ _ (by simpa using h)
  | inr j =>
   obtain ⟨t', rfl⟩ := mix_r hv
   refine SeqAt.EqAt.int_int i t j t' _ _ _ _ ?_
   have e : decide ((Sum.inr i : Str ⊕ Int) = Sum.inr j) = (i == j) := by
    by_cases q : i = j
    · subst q; simp
    · simp [q]
   rw [← e]; exact h
noncomputable def mixKind (prog : Program) (w : World) : KeyKind prog w (Str ⊕ Int) where
 is := mixIs
 hash := mixHash w
 inj := mixInj
 byValue := fun k v h => by
  cases k with
  | inl x => obtain ⟨t, rfl⟩ := mix_l h; rfl
  | inr i => obtain ⟨t, rfl⟩ := mix_r h; rfl
 pyHash := fun {A E s k v Q} hv h => by
  cases k with
  | inl x => obtain ⟨t, rfl⟩ := mix_l hv; exact wpAny_pyHash_str h
  | inr i => obtain ⟨t, rfl⟩ := mix_r hv; exact wpAny_pyHash_int h
 eqBool := fun hu hv h => mixEq hu hv h
 «strs» := fun k x t v h => by
  cases k with
  | inl y =>
   obtain ⟨u, hu⟩ := mix_l h
   injection hu with hx
   subst hx
   cases v <;> rfl
  | inr i => obtain ⟨u, e⟩ := mix_r h; contradiction
inductive BK where
 | s (x : Str)
 | p (x : Str) (i : Int)
 deriving DecidableEq
abbrev PW0 : Program := PySem.Challenge.pw_rr0005_01
def BK.is (w : World) (h : Heap) : BK → Value → Prop
 | .s x, v => ∃ t, v = .str x t
 | .p x i, v => ∃ a, v = .ref a ∧ IsTupleKey (mixKind PW0 w) h [.inl x, .inr i] a
noncomputable def BK.hash (w : World) : BK → Int
 | .s x => hashStr w x
 | .p x i => tupleKeyHash (mixKind PW0 w) [.inl x, .inr i]
section
variable {w : World} {A : Around} {E : Value → Shared → Prop} {s : Shared}
theorem BK.inj {h : Heap} {v : Value} {a b : BK} (ha : a.is w h v) (hb : b.is w h v) : a = b := by
 cases a with
 | s x =>
  obtain ⟨t, rfl⟩ := ha
  cases b with
  | s y => obtain ⟨u, e⟩ := hb; injection e with e1; rw [e1]
  | p y j => refine ob12 hb fun c e _ => ?_; contradiction
 | p x i =>
  refine ob12 ha fun c q1_ hc => ?_; subst q1_
  cases b with
  | s y => obtain ⟨u, e⟩ := hb; contradiction
  | p y j =>
   refine ob12 hb fun c' e hc' => ?_
   injection e with e; subst e
   have := IsTupleKey.inj hc hc'
   injection this with e1 e2
   injection e2 with e2 _
   injection e1 with e1
   injection e2 with e2
   rw [e1, e2]
theorem BK.go {h h' : Heap} (st : ∀ b o, h.get? b = some o → o.cls = .type "tuple" → h'.get? b = some o) {k : BK} {v : Value} (x : k.is w h v) : k.is w h' v := by
 cases k with
 | s y => exact x
 | p y i => obtain ⟨a, e, o, items, n, ho, hc, hd, hi⟩ := x; exact ⟨a, e, o, items, n, st _ _ ho hc, hc, hd, hi⟩
theorem BK.pyHash {k : BK} {v : Value} (hu : A.units < cLine) (hk : k.is w s.heap v) {Q : Int → Shared → Prop} (h : ∀ t, Q (k.hash w) { s with toks := t }) : wpAny (model PW0 w) A (PySem.pyHash v) Q E s := by
 cases k with
 | s x => obtain ⟨t, rfl⟩ := hk; exact wpAny_pyHash_str (h _)
 | p x i => refine ob12 hk fun a q1_ ha => ?_; subst q1_; exact wpAny_pyHash_tuple hu ha (h _)
theorem IsTupleKey.isTuple {h : Heap} {ks : List (Str ⊕ Int)} {a : Addr} (x : IsTupleKey (mixKind PW0 w) h ks a) : ∃ items, h.IsTuple a items := by
 refine ob34 x fun o items n ho hc hd hi => ?_
 exact ⟨items, o, ho, hc, n, hd⟩
theorem BK.eqBool {a b : BK} {u v : Value} (hu : A.units < cLine) (ha : a.is w s.heap u) (hb : b.is w s.heap v) {Q : Bool → Shared → Prop} (h : Q (decide (a = b)) s) : wpAny (model PW0 w) A (PySem.eqBool u v) Q E s := by
 cases a with
 | s x =>
  obtain ⟨t, rfl⟩ := ha
  cases b with
  | s y =>
   obtain ⟨t', rfl⟩ := hb
   refine wpAny_eqBool_str ?_
   have e : decide (BK.s x = BK.s y) = decide (x = y) := by
    by_cases q : x = y
    · subst q; simp
    · simp [q]
   rw [← e]; exact h
  | p y j =>
   refine ob12 hb fun c q1_ hc => ?_; subst q1_
   obtain ⟨items, hi⟩ := IsTupleKey.isTuple hc
   exact SeqAt.EqAt.str_tuple x t hi hu _ _ _ _ (by simpa using h)
 | p x i =>
  refine ob12 ha fun c q1_ hc => ?_; subst q1_
  cases b with
  | s y =>
   obtain ⟨t', rfl⟩ := hb
   obtain ⟨items, hi⟩ := IsTupleKey.isTuple hc
   exact SeqAt.EqAt.tuple_str y t' hi hu _ _ _ _ (by simpa using h)
  | p y j =>
   refine ob12 hb fun c' q1_ hc' => ?_; subst q1_
   refine wpAny_eqBool_tuple hu hc hc' ?_
   have e : decide (BK.p x i = BK.p y j) = decide (([.inl x, .inr i] : List (Str ⊕ Int)) = [.inl y, .inr j]) := by
    by_cases q : x = y ∧ i = j
    · obtain ⟨rfl, rfl⟩ := q; simp
    · simp [q]
   rw [← e]; exact h
theorem BK.quiet {k : BK} {v : Value} (hk : k.is w s.heap v) {Q : Bool → Shared → Prop} (h : Q true s) : wpAny (model PW0 w) A (eqIsQuiet 8 v) Q E s := by
 cases k with
 | s x => obtain ⟨t, rfl⟩ := hk; rw [eqIsQuiet_byValue 8 rfl]; exact wpAny_pure h
 | p x i => refine ob12 hk fun a q1_ ha => ?_; subst q1_; exact wpAny_eqIsQuiet_tuple ha h
noncomputable def entB (w : World) (x : BK × Value × Value) : DictEntry := ⟨x.1.hash w, x.2.1, x.2.2⟩
theorem entB_at {es : Array DictEntry} {xs : List (BK × Value × Value)} (he : es.toList = xs.map (entB w)) (j : Nat) : es[j]? = (xs[j]?).map (entB w) := by
 rw [← Array.getElem?_toList, he, List.getElem?_map]
theorem entB_size {es : Array DictEntry} {xs : List (BK × Value × Value)} (he : es.toList = xs.map (entB w)) : es.size = xs.length := by
 rw [← Array.length_toList, he, List.length_map]
theorem idxB_unique {xs : List (BK × Value × Value)} (hn : (xs.map (·.1)).Nodup) : ∀ {i j : Nat} {k : BK} {p q : Value × Value}, xs[i]? = some (k, p) → xs[j]? = some (k, q) → i = j := by
 intro i j k p q hi hj
 have hi' : (xs.map (·.1))[i]? = some k := by rw [List.getElem?_map, hi]; rfl
 have hj' : (xs.map (·.1))[j]? = some k := by rw [List.getElem?_map, hj]; rfl
 exact (List.getElem?_inj (List.getElem?_eq_some_iff.mp hi').1 hn).mp (hi'.trans hj'.symm)
theorem quietB {key : Value} {k : BK} {stored : List Value} {Q : Bool → Shared → Prop} (hkey : k.is w s.heap key)
 (hst : ∀ v ∈ stored, ∃ k' : BK, k'.is w s.heap v) (h : Q false s) : wpAny (model PW0 w) A (tableMayTell key stored) Q E s := by
 unfold tableMayTell
 split
 · exact wpAny_pure h
 · refine wpAny_bind (BK.quiet hkey ?_)
   simp only [Bool.not_true, Bool.false_eq_true, if_false]
   refine wpAny_bind ?_
   refine wpAny_forIn_list _ (fun rest r s' => s' = s ∧ r = (none, ()) ∧ ∀ v ∈ rest, ∃ k' : BK, k'.is w s.heap v) _ ?_ ?_ _ _ ⟨rfl, rfl, hst⟩
   · rintro x rest r s' ⟨rfl, rfl, hr⟩
     obtain ⟨k', hb⟩ := hr x List.mem_cons_self
     refine wpAny_bind (BK.quiet hb ?_)
     simp only [Bool.not_true, Bool.false_eq_true, if_false]
     exact wpAny_pure ⟨rfl, rfl, fun v hv => hr v (List.mem_cons_of_mem _ hv)⟩
   · rintro r s' ⟨rfl, rfl, _⟩
     exact wpAny_pure h
end
section
variable {w : World} {A : Around} {E : Value → Shared → Prop} {s : Shared} {xs : List (BK × Value × Value)} {k k' : BK} {es : Array DictEntry}
noncomputable def plB (es : Array DictEntry) (h : Int) (i : Nat) : List Nat := (List.range' i (es.size - i)).filter fun i => (es[i]?.map (·.hash)) == some h
theorem plB_all (h : Int) : placesWithHash es.size (fun i => es[i]?.map (·.hash)) h = plB es h 0 := by rw [placesWithHash, List.range_eq_range']; rfl
def NoB (xs : List (BK × Value × Value)) (k : BK) (i : Nat) : Prop := ∀ (j : Nat) (p : Value × Value), j < i → xs[j]? ≠ some (k, p)
inductive NextB (es : Array DictEntry) (h : Int) (i x : Nat) (rest : List Nat) : Prop
 | mk : x < es.size → i ≤ x → (∀ j, i ≤ j → j < x → ((es[j]?.map (·.hash)) == some h) = false) → rest = plB es h (x + 1) → NextB es h i x rest
theorem lt_win {x i n : Nat} (h1 : i ≤ x) (h2 : x < i + (n - i)) : x < n :=
 (Nat.le_total i n).elim (fun h => by rwa [Nat.add_sub_cancel' h] at h2) fun h => absurd h2 (by rw [Nat.sub_eq_zero_of_le h]; exact Nat.not_lt.mpr h1)
theorem plB_cons {h : Int} {i x : Nat} {rest : List Nat} (q : x :: rest = plB es h i) : NextB es h i x rest := by
 refine ob05 (filter_range'_cons _ _ _ _ _ q.symm) fun hix hxn _ hskip hrest => ?_
 exact ⟨(lt_win hix hxn), hix, hskip, by rw [hrest, plB, Nat.add_sub_cancel' (Nat.le_of_lt (Nat.lt_of_le_of_lt hix (lt_win hix hxn)))]⟩
theorem keyB (he : es.toList = xs.map (entB w)) {j : Nat} {p : Value × Value} (hj : xs[j]? = some (k, p)) (hn : ((es[j]?.map (·.hash)) == some (k.hash w)) = false) : False := by
 rw [entB_at he j, hj] at hn
 simp [entB] at hn
theorem NoB.skip (he : es.toList = xs.map (entB w)) {i x : Nat} (n : NoB xs k i) (hs : ∀ j, i ≤ j → j < x → ((es[j]?.map (·.hash)) == some (k.hash w)) = false) : NoB xs k x := fun j p hjx hj =>
 (Nat.lt_or_ge j i).elim (fun h => n j p h hj) fun h => keyB he hj (hs j h hjx)
theorem NoB.next {x : Nat} {y : Value × Value} (n : NoB xs k x) (hkv : xs[x]? = some (k', y)) (hne : ¬ k' = k) : NoB xs k (x + 1) := fun j p hjx hj =>
 (Nat.lt_succ_iff_lt_or_eq.mp hjx).elim (fun h => n j p h hj) fun h => hne (congrArg Prod.fst (Option.some.inj (hkv.symm.trans (h ▸ hj))))
theorem NoB.all (he : es.toList = xs.map (entB w)) {i : Nat} (n : NoB xs k i) (hr : [] = plB es (k.hash w) i) : ∀ (j : Nat) (p : Value × Value), xs[j]? ≠ some (k, p) := fun j p hj =>
 (Nat.lt_or_ge j i).elim (fun h => n j p h hj) fun h => keyB he hj (Bool.eq_false_iff.mpr (List.filter_eq_nil_iff.mp hr.symm j (List.mem_range'_1.mpr ⟨h, by
  have h2 : j < es.size := by
   rw [entB_size he]
   rcases Nat.lt_or_ge j xs.length with h' | h'
   · exact h'
   · rw [List.getElem?_eq_none h'] at hj; exact nomatch hj
  rw [Nat.add_sub_cancel' (Nat.le_of_lt (Nat.lt_of_le_of_lt h h2))]; exact h2⟩)))
inductive EntB (w : World) (h : Heap) (xs : List (BK × Value × Value)) (es : Array DictEntry) (x : Nat) : Prop
 | mk (k' : BK) (b v' : Value) : xs[x]? = some (k', b, v') → k'.is w h b → es[x]? = some ⟨k'.hash w, b, v'⟩ → EntB w h xs es x
theorem EntB.of {h : Heap} {x : Nat} (he : es.toList = xs.map (entB w)) (his : ∀ x ∈ xs, x.1.is w h x.2.1) (hlt : x < es.size) : EntB w h xs es x := by
 obtain ⟨⟨k', b, v'⟩, hkv⟩ : ∃ y, xs[x]? = some y := ⟨xs[x]'(by rw [← entB_size he]; exact hlt), List.getElem?_eq_getElem _⟩
 exact ⟨k', b, v', hkv, his _ (List.mem_of_getElem? hkv), by rw [entB_at he x, hkv]; rfl⟩
theorem hash_ne (h : ¬ (k'.hash w == k.hash w) = true) : ¬ k' = k := fun e => h (by rw [e]; exact beq_self_eq_true _)
noncomputable def bodyW (d : Addr) (key : Value) (h : Int) (e : DictEntry) (x : Nat) : Sem (ForInStep (Option (Option Nat) × Unit)) :=
 if (e.hash == h) = true then do
  let before ← dictEpoch d (keyPart key)
  let same ← PySem.eqBool e.key key
  let after ← dictEpoch d (keyPart key)
  if (after != before) = true then (do let _ ← (unsupported "dict.changed-during-lookup" : Sem PUnit); if same = true then (do rule "dict.find.hit"; pure (ForInStep.done (some (some x), ()))) else (do rule "dict.find.same-hash-other-key"; pure (ForInStep.yield (none, ()))))
  else if same = true then (do rule "dict.find.hit"; pure (ForInStep.done (some (some x), ()))) else (do rule "dict.find.same-hash-other-key"; pure (ForInStep.yield (none, ())))
  else pure (ForInStep.yield (none, ()))
theorem bodyW_ok {d : Addr} {key b v' : Value} {o : Obj} {oes : Array DictEntry} {ep x : Nat} {Q : ForInStep (Option (Option Nat) × Unit) → Shared → Prop} (hu : A.units < cLine) (hkey : k.is w s.heap key) (ho : s.heap.get? d = some o) (hd : o.data = .dict oes ep) (hib : k'.is w s.heap b)
 (hyes : k' = k → Q (.done (some (some x), ())) s) (hno : ¬ k' = k → Q (.yield (none, ())) s) : wpAny (model PW0 w) A (bodyW d key (k.hash w) ⟨k'.hash w, b, v'⟩ x) Q E s := by
 refine wpAny_ite_split (fun _ => ?_) fun hh => wpAny_pure (hno (hash_ne hh))
 refine wpAny_bind (wpAny_dictEpoch ho hd (wpAny_bind (BK.eqBool (a := k') (b := k) hu hib hkey (wpAny_bind (wpAny_dictEpoch ho hd (wpAny_ite_split (fun h => absurd h (by simp)) fun _ => ?_))))))
 refine wpAny_ite_split (fun h => ?_) fun h => ?_
 · exact wpAny_bind (wpAny_rule (wpAny_pure (hyes (of_decide_eq_true h))))
 · exact wpAny_bind (wpAny_rule (wpAny_pure (hno fun e => h (decide_eq_true e))))
inductive InvW (es : Array DictEntry) (xs : List (BK × Value × Value)) (k : BK) (h : Int) (s : Shared) (rest : List Nat) (b : Option (Option Nat) × Unit) (s' : Shared) : Prop
 | mk (i : Nat) : s' = s → b = (none, ()) → rest = plB es h i → NoB xs k i → InvW es xs k h s rest b s'
inductive TurnB (w : World) (es : Array DictEntry) (xs : List (BK × Value × Value)) (k : BK) (h : Heap) (x : Nat) (rest : List Nat) : Prop
 | mk (k' : BK) (b v' : Value) : NoB xs k x → x < es.size → rest = plB es (k.hash w) (x + 1) → xs[x]? = some (k', b, v') → k'.is w h b → es[x]? = some ⟨k'.hash w, b, v'⟩ → TurnB w es xs k h x rest
theorem turnB {h : Heap} {x i : Nat} {rest : List Nat} (hr : x :: rest = plB es (k.hash w) i) (hno : NoB xs k i) (he : es.toList = xs.map (entB w)) (his : ∀ x ∈ xs, x.1.is w h x.2.1) : TurnB w es xs k h x rest := by
 obtain ⟨hlt, _, hskip, hrest⟩ := plB_cons hr
 obtain ⟨k', b, v', hkv, hib, hex⟩ := EntB.of he his hlt
 exact ⟨k', b, v', hno.skip he hskip, hlt, hrest, hkv, hib, hex⟩
theorem walkB {d : Addr} {key : Value} {o : Obj} {oes : Array DictEntry} {ep : Nat} {Q : Option Nat → Shared → Prop} (hu : A.units < cLine) (hkey : k.is w s.heap key)
 (ho : s.heap.get? d = some o) (hd : o.data = .dict oes ep) (he : es.toList = xs.map (entB w)) (his : ∀ x ∈ xs, x.1.is w s.heap x.2.1)
 (hnone : (∀ (j : Nat) (p : Value × Value), xs[j]? ≠ some (k, p)) → Q none s) (hsome : ∀ (j : Nat) (p : Value × Value), xs[j]? = some (k, p) → Q (some j) s) :
 wpAny (model PW0 w) A (dictWalkPlain d key (k.hash w) es (placesWithHash es.size (fun i => es[i]?.map (·.hash)) (k.hash w))) Q E s := by
 refine wpAny_bind ?_
 refine wpAny_forIn_list _ (InvW es xs k (k.hash w) s) _ ?_ ?_ _ _ ⟨0, rfl, rfl, plB_all _, fun _ _ h => absurd h (Nat.not_lt_zero _)⟩
 · rintro x rest _ _ ⟨i, rfl, rfl, hr, hno⟩
   obtain ⟨k', b, v', hno, hlt, hrest, hkv, hib, hex⟩ := turnB hr hno he his
   rw [hex]
   exact bodyW_ok hu hkey ho hd hib (fun e => wpAny_pure (hsome x _ (e ▸ hkv))) fun hne => ⟨x + 1, rfl, rfl, hrest, hno.next hkv hne⟩
 · rintro _ _ ⟨i, rfl, rfl, hr, hno⟩
   exact wpAny_pure (hnone (hno.all he hr))
inductive HitB (xs : List (BK × Value × Value)) (k : BK) (i : Nat) (hit : Option Nat) : Prop
 | no : hit = none → NoB xs k i → HitB xs k i hit
 | yes (j : Nat) (p : Value × Value) : hit = some j → j < i → xs[j]? = some (k, p) → HitB xs k i hit
theorem HitB.skip (he : es.toList = xs.map (entB w)) {i x : Nat} {hit : Option Nat} (n : HitB xs k i hit) (hix : i ≤ x) (hs : ∀ j, i ≤ j → j < x → ((es[j]?.map (·.hash)) == some (k.hash w)) = false) : HitB xs k x hit :=
 match n with
 | .no e n => .no e (n.skip he hs)
 | .yes j p e h q => .yes j p e (Nat.lt_of_lt_of_le h hix) q
theorem HitB.next {x : Nat} {hit : Option Nat} {y : Value × Value} (n : HitB xs k x hit) (hkv : xs[x]? = some (k', y)) (hne : ¬ k' = k) : HitB xs k (x + 1) hit :=
 match n with
 | .no e n => .no e (n.next hkv hne)
 | .yes j p e h q => .yes j p e (Nat.lt_succ_of_lt h) q
theorem HitB.isNone (hn : (xs.map (·.1)).Nodup) {x : Nat} {hit : Option Nat} {y : Value × Value} (n : HitB xs k x hit) (hkv : xs[x]? = some (k', y)) (e : k' = k) : hit = none :=
 match n with
 | .no e _ => e
 | .yes j p _ h q => absurd (idxB_unique hn q (e ▸ hkv)) (Nat.ne_of_lt h)
noncomputable def hitF (m x : Nat) (hit : Option Nat) : Sem (ForInStep (Option (Option Nat) × Option Nat)) := do
 rule "dict.find.hit"
 if m < 2 then pure (ForInStep.done (some (some x), hit)) else pure (ForInStep.yield (none, some x))
noncomputable def tailF (h : Int) (m x : Nat) (hit : Option Nat) (same : Bool) : Sem (ForInStep (Option (Option Nat) × Option Nat)) :=
 if same = true then (if hit.isSome = true then (do let _ ← (unsupported "dict.find:order-among-keys-of-one-hash" : Sem PUnit); hitF m x hit) else hitF m x hit)
 else do
  rule "dict.find.same-hash-other-key"
  if (false && !(decide (0 ≤ h) && decide (h < 32))) = true then (do let _ ← (unsupported "dict.find:asked-again-or-not-hangs-on-the-table" : Sem PUnit); pure (ForInStep.yield (none, hit))) else pure (ForInStep.yield (none, hit))
noncomputable def bodyF (d : Addr) (key : Value) (h : Int) (m : Nat) (e : DictEntry) (x : Nat) (hit : Option Nat) : Sem (ForInStep (Option (Option Nat) × Option Nat)) :=
 if (e.hash == h) = true then do
  let before ← dictEpoch d (keyPart key)
  let same ← PySem.eqBool e.key key
  let after ← dictEpoch d (keyPart key)
  if (after != before) = true then (do let _ ← (unsupported "dict.changed-during-lookup" : Sem PUnit); tailF h m x hit same) else tailF h m x hit same
  else pure (ForInStep.yield (none, hit))
theorem bodyF_ok {d : Addr} {key b v' : Value} {o : Obj} {oes : Array DictEntry} {ep x m : Nat} {hit : Option Nat} {Q : ForInStep (Option (Option Nat) × Option Nat) → Shared → Prop} (hu : A.units < cLine) (hkey : k.is w s.heap key) (ho : s.heap.get? d = some o) (hd : o.data = .dict oes ep) (hib : k'.is w s.heap b)
 (h0 : k' = k → hit = none) (hyes : k' = k → Q (.done (some (some x), hit)) s) (hyes2 : k' = k → Q (.yield (none, some x)) s) (hno : ¬ k' = k → Q (.yield (none, hit)) s) : wpAny (model PW0 w) A (bodyF d key (k.hash w) m ⟨k'.hash w, b, v'⟩ x hit) Q E s := by
 refine wpAny_ite_split (fun _ => ?_) fun hh => wpAny_pure (hno (hash_ne hh))
 refine wpAny_bind (wpAny_dictEpoch ho hd (wpAny_bind (BK.eqBool (a := k') (b := k) hu hib hkey (wpAny_bind (wpAny_dictEpoch ho hd (wpAny_ite_split (fun h => absurd h (by simp)) fun _ => ?_))))))
 refine wpAny_ite_split (fun h => ?_) fun h => ?_
 · have e := of_decide_eq_true h
   refine wpAny_ite_split (fun q => by rw [h0 e] at q; contradiction) fun _ => wpAny_bind (wpAny_rule ?_)
   exact wpAny_ite_split (fun _ => wpAny_pure (hyes e)) fun _ => wpAny_pure (hyes2 e)
 · exact wpAny_bind (wpAny_rule (wpAny_ite_split (fun q => by contradiction) fun _ => wpAny_pure (hno fun e => h (decide_eq_true e))))
inductive InvF (es : Array DictEntry) (xs : List (BK × Value × Value)) (k : BK) (h : Int) (s : Shared) (rest : List Nat) (b : Option (Option Nat) × Option Nat) (s' : Shared) : Prop
 | mk (i : Nat) (hit : Option Nat) : s' = s → b = (none, hit) → rest = plB es h i → HitB xs k i hit → InvF es xs k h s rest b s'
inductive TurnF (w : World) (es : Array DictEntry) (xs : List (BK × Value × Value)) (k : BK) (h : Heap) (x : Nat) (rest : List Nat) (hit : Option Nat) : Prop
 | mk (k' : BK) (b v' : Value) : HitB xs k x hit → x < es.size → rest = plB es (k.hash w) (x + 1) → xs[x]? = some (k', b, v') → k'.is w h b → es[x]? = some ⟨k'.hash w, b, v'⟩ → TurnF w es xs k h x rest hit
theorem turnF {h : Heap} {x i : Nat} {rest : List Nat} {hit : Option Nat} (hr : x :: rest = plB es (k.hash w) i) (hno : HitB xs k i hit) (he : es.toList = xs.map (entB w)) (his : ∀ x ∈ xs, x.1.is w h x.2.1) : TurnF w es xs k h x rest hit := by
 obtain ⟨hlt, hix, hskip, hrest⟩ := plB_cons hr
 obtain ⟨k', b, v', hkv, hib, hex⟩ := EntB.of he his hlt
 exact ⟨k', b, v', hno.skip he hix hskip, hlt, hrest, hkv, hib, hex⟩
theorem loopF {d : Addr} {key : Value} {o : Obj} {oes : Array DictEntry} {ep : Nat} {Q : Option Nat → Shared → Prop} (hu : A.units < cLine) (hkey : k.is w s.heap key)
 (ho : s.heap.get? d = some o) (hd : o.data = .dict oes ep) (he : es.toList = xs.map (entB w)) (his : ∀ x ∈ xs, x.1.is w s.heap x.2.1) (hn : (xs.map (·.1)).Nodup)
 (hnone : (∀ (j : Nat) (p : Value × Value), xs[j]? ≠ some (k, p)) → Q none s) (hsome : ∀ (j : Nat) (p : Value × Value), xs[j]? = some (k, p) → Q (some j) s) {l : List Nat} {m : Nat} (hl : l = plB es (k.hash w) 0) :
 wpAny (model PW0 w) A (do
  let mut hit : Option Nat := none
  for i in l do
   if let some e := es[i]? then
    if e.hash == k.hash w then
     let before ← dictEpoch d (keyPart key)
     let same ← PySem.eqBool e.key key
     if (← dictEpoch d (keyPart key)) != before then unsupported "dict.changed-during-lookup"
     if same then
      if hit.isSome then unsupported "dict.find:order-among-keys-of-one-hash"
      rule "dict.find.hit"
      if m < 2 then return some i
      hit := some i
     else
      rule "dict.find.same-hash-other-key"
      if false && !(0 ≤ k.hash w && k.hash w < 32) then unsupported "dict.find:asked-again-or-not-hangs-on-the-table"
  return hit) Q E s := by
 refine wpAny_bind ?_
 refine wpAny_forIn_list _ (InvF es xs k (k.hash w) s) _ ?_ ?_ _ _ ⟨0, none, rfl, rfl, hl, .no rfl fun _ _ h => absurd h (Nat.not_lt_zero _)⟩
 · rintro x rest _ _ ⟨i, hit, rfl, rfl, hr, hH⟩
   obtain ⟨k', b, v', hH, hlt, hrest, hkv, hib, hex⟩ := turnF hr hH he his
   rw [hex]
   exact bodyF_ok hu hkey ho hd hib (hH.isNone hn hkv) (fun e => wpAny_pure (hsome x _ (e ▸ hkv))) (fun e => ⟨x + 1, some x, rfl, rfl, hrest, .yes x _ rfl (Nat.lt_succ_self x) (e ▸ hkv)⟩) fun hne => ⟨x + 1, hit, rfl, rfl, hrest, hH.next hkv hne⟩
 · rintro _ _ ⟨i, hit, rfl, rfl, hr, hH⟩
   cases hH with
   | no e hno => subst e; exact wpAny_pure (hnone (hno.all he hr))
   | yes j p e _ hj => subst e; exact wpAny_pure (hsome j p hj)
noncomputable def tailD (d : Addr) (key : Value) (h : Int) (es : Array DictEntry) (places : List Nat) : Sem (Option Nat) := do
 let stored := places.filterMap fun i => es[i]?.map (·.key)
 let tells ← if stored == [key] then pure false else tableMayTell key stored
 if tells && stored.length ≥ 2 then unsupported "dict.find:order-among-keys-of-one-hash"
 let mut hit : Option Nat := none
 for i in places do
  if let some e := es[i]? then
   if e.hash == h then
    let before ← dictEpoch d (keyPart key)
    let same ← PySem.eqBool e.key key
    if (← dictEpoch d (keyPart key)) != before then unsupported "dict.changed-during-lookup"
    if same then
     if hit.isSome then unsupported "dict.find:order-among-keys-of-one-hash"
     rule "dict.find.hit"
     if stored.length < 2 then return some i
     hit := some i
    else
     rule "dict.find.same-hash-other-key"
     if tells && !(0 ≤ h && h < 32) then unsupported "dict.find:asked-again-or-not-hangs-on-the-table"
 return hit
theorem entB_mem (he : es.toList = xs.map (entB w)) {e : DictEntry} (hin : e ∈ es) : ∃ x ∈ xs, e = entB w x := by
 have : e ∈ xs.map (entB w) := he ▸ Array.mem_toList_iff.mpr hin
 refine ob12 (List.mem_map.mp this) fun x hx q2_ => ?_; subst q2_
 exact ⟨x, hx, rfl⟩
theorem stored_is {h : Heap} (he : es.toList = xs.map (entB w)) (his : ∀ x ∈ xs, x.1.is w h x.2.1) {l : List Nat} : ∀ v ∈ l.filterMap (fun i => es[i]?.map (·.key)), ∃ k' : BK, k'.is w h v := by
 intro v hv
 refine ob12 (List.mem_filterMap.mp hv) fun i _ hi => ?_
 refine ob12 (Option.map_eq_some_iff.mp hi) fun e hei q2_ => ?_; subst q2_
 refine ob12 (entB_mem he (Array.mem_of_getElem? hei)) fun x hx q2_ => ?_; subst q2_
 exact ⟨x.1, his x hx⟩
theorem notAny {h : Heap} {key : Value} (hkey : k.is w h key) (he : es.toList = xs.map (entB w)) (his : ∀ x ∈ xs, x.1.is w h x.2.1) : ¬ (es.any fun e => e.key == key && e.hash != k.hash w) = true := by
 rw [← Array.any_toList, List.any_eq_true]
 rintro ⟨e, hin, hc⟩
 refine ob12 (entB_mem he (Array.mem_toList_iff.mp hin)) fun x hx q2_ => ?_; subst q2_
 (dsimp only [entB] at hc; simp only [Bool.and_eq_true, beq_iff_eq, bne_iff_ne, ne_eq] at hc)
 obtain ⟨hxa, hne⟩ := hc
 have := his x hx
 rw [hxa] at this
 exact hne (by rw [BK.inj this hkey])
theorem tailD_ok {d : Addr} {key : Value} {o : Obj} {oes : Array DictEntry} {ep : Nat} {Q : Option Nat → Shared → Prop} (hu : A.units < cLine) (hkey : k.is w s.heap key)
 (ho : s.heap.get? d = some o) (hd : o.data = .dict oes ep) (he : es.toList = xs.map (entB w)) (his : ∀ x ∈ xs, x.1.is w s.heap x.2.1) (hn : (xs.map (·.1)).Nodup)
 (hnone : (∀ (j : Nat) (p : Value × Value), xs[j]? ≠ some (k, p)) → Q none s) (hsome : ∀ (j : Nat) (p : Value × Value), xs[j]? = some (k, p) → Q (some j) s) {l : List Nat} (hl : l = plB es (k.hash w) 0) :
 wpAny (model PW0 w) A (tailD d key (k.hash w) es l) Q E s := by
 refine wpAny_ite_split (fun _ => wpAny_bind (wpAny_pure ?_)) (fun _ => wpAny_bind (quietB hkey (stored_is he his) ?_))
 all_goals exact wpAny_ite_split (fun h => absurd h (by simp)) fun _ => loopF hu hkey ho hd he his hn hnone hsome hl
theorem foundF {d : Addr} {x : Str} {t : Nat} {o : Obj} {oes : Array DictEntry} {ep : Nat} {Q : Option Nat → Shared → Prop} (hu : A.units < cLine)
 (ho : s.heap.get? d = some o) (hd : o.data = .dict oes ep) (he : es.toList = xs.map (entB w)) (his : ∀ x ∈ xs, x.1.is w s.heap x.2.1)
 (hnone : (∀ (j : Nat) (p : Value × Value), xs[j]? ≠ some (.s x, p)) → Q none s) (hsome : ∀ (j : Nat) (p : Value × Value), xs[j]? = some (.s x, p) → Q (some j) s) :
 wpAny (model PW0 w) A (foundByValue d (.str x t) es x) Q E s := by
 unfold foundByValue
 cases hf : es.findIdx? (·.key.isStr x) with
 | none =>
  refine wpAny_pure (hnone fun j p hj => ?_)
  have hej : es[j]? = some (entB w (.s x, p)) := by rw [entB_at he j, hj]; rfl
  obtain ⟨t', e'⟩ := his _ (List.mem_of_getElem? hj)
  have := Array.findIdx?_eq_none_iff.mp hf _ (Array.mem_of_getElem? hej)
  dsimp only [entB] at this
  rw [e'] at this
  simp [Value.isStr] at this
 | some i =>
  refine ob12 (Array.findIdx?_eq_some_iff_getElem.mp hf) fun hi hp _ => ?_
  obtain ⟨⟨k', b, v'⟩, hkv⟩ : ∃ y, xs[i]? = some y := ⟨xs[i]'(by rw [← entB_size he]; exact hi), List.getElem?_eq_getElem _⟩
  have hex : es[i]? = some ⟨k'.hash w, b, v'⟩ := by rw [entB_at he i, hkv]; rfl
  have hib : k'.is w s.heap b := his _ (List.mem_of_getElem? hkv)
  have hge : es[i] = ⟨k'.hash w, b, v'⟩ := by rw [Array.getElem?_eq_getElem hi] at hex; exact Option.some.inj hex
  rw [hge] at hp
  have hkk : k' = .s x := by
   cases k' with
   | s y =>
    obtain ⟨t', rfl⟩ := hib
    have : y = x := by simpa [Value.isStr] using hp
    rw [this]
   | p y j => refine ob12 hib fun a q1_ _ => ?_; subst q1_; simp [Value.isStr] at hp
  subst hkk
  simp only [hex]
  refine wpAny_bind (wpAny_dictEpoch ho hd (wpAny_bind (BK.eqBool (a := .s x) (b := .s x) hu hib ⟨t, rfl⟩ (wpAny_bind (wpAny_dictEpoch ho hd ?_)))))
  show wpAny _ _ (if (ep != ep) = true then _ else _) _ E _
  rw [if_neg (by simp), decide_eq_true rfl]
  exact wpAny_bind (wpAny_rule (wpAny_pure (hsome i _ hkv)))
theorem findB {d : Addr} {key : Value} {o : Obj} {es ep} {xs : List (BK × Value × Value)} {k : BK} {Q : Option Nat → Shared → Prop} (hu : A.units < cLine) (hkey : k.is w s.heap key)
 (ho : s.heap.get? d = some o) (hd : o.data = .dict es ep) (he : es.toList = xs.map (entB w)) (his : ∀ x ∈ xs, x.1.is w s.heap x.2.1) (hn : (xs.map (·.1)).Nodup)
 (hnone : (∀ (j : Nat) (p : Value × Value), xs[j]? ≠ some (k, p)) → Q none s) (hsome : ∀ (j : Nat) (p : Value × Value), xs[j]? = some (k, p) → Q (some j) s) :
 wpAny (model PW0 w) A (dictFind d key (k.hash w)) Q E s := by
 unfold dictFind
 try with_reducible refine wpAny_holding ?_
 refine wpAny_bind (wpAny_dictEntries ho hd ?_)
 cases k with
 | s x =>
  obtain ⟨t, rfl⟩ := hkey
  refine wpAny_ite_split (fun _ => foundF hu ho hd he his hnone hsome) (fun _ => ?_)
  refine wpAny_ite_split (fun _ => walkB (k := .s x) hu ⟨t, rfl⟩ ho hd he his hnone hsome) (fun _ => ?_)
  exact tailD_ok (k := .s x) hu ⟨t, rfl⟩ ho hd he his hn hnone hsome (plB_all _)
 | p x i =>
  refine ob12 hkey fun a q1_ ha => ?_; subst q1_
  refine wpAny_ite_split (fun _ => walkB (k := .p x i) hu ⟨a, rfl, ha⟩ ho hd he his hnone hsome) (fun _ => ?_)
  refine wpAny_ite_split (fun h => absurd h (notAny (k := .p x i) ⟨a, rfl, ha⟩ he his)) (fun _ => ?_)
  exact tailD_ok (k := .p x i) hu ⟨a, rfl, ha⟩ ho hd he his hn hnone hsome (plB_all _)
end
section
variable {w : World} {A : Around} {E : Value → Shared → Prop} {s : Shared}
noncomputable def bval (xs : List (BK × Value × Value)) (k : BK) : Option Value := (xs.find? (fun x => decide (x.1 = k))).map (·.2.2)
theorem bval_none {xs : List (BK × Value × Value)} {k : BK} (h : ∀ (j : Nat) (p : Value × Value), xs[j]? ≠ some (k, p)) : bval xs k = none := by
 unfold bval
 rw [Option.map_eq_none_iff, List.find?_eq_none]
 intro x hx e
 obtain ⟨j, hj⟩ := List.getElem?_of_mem hx
 exact h j x.2 (hj.trans (by rw [← of_decide_eq_true e]))
theorem bvc (y : BK × Value × Value) (r : List (BK × Value × Value)) (k : BK) : bval (y :: r) k = if y.1 = k then some y.2.2 else bval r k := by
 unfold bval
 rw [List.find?_cons]
 by_cases q : y.1 = k
 · simp [q]
 · simp [q]
theorem bval_get : ∀ {xs : List (BK × Value × Value)} {k : BK} {j : Nat} {p : Value × Value}, (xs.map (·.1)).Nodup → xs[j]? = some (k, p) → bval xs k = some p.2 := by
 intro L
 induction L with
 | nil => intros; contradiction
 | cons y r ih =>
  intro k j p hn h
  induction j using Nat.casesAuxOn with
  | zero =>
   obtain rfl : y = (k, p) := by simpa using h
   rw [bvc, if_pos rfl]
  | succ j =>
   rw [List.map_cons, List.nodup_cons] at hn
   have h' : r[j]? = some (k, p) := by simpa using h
   rw [bvc, if_neg, ih hn.2 h']
   intro e
   exact hn.1 (e ▸ List.mem_map.mpr ⟨_, List.mem_of_getElem? h', rfl⟩)
noncomputable def putB (k : BK) (v : Value) (x : BK × Value × Value) : BK × Value × Value := if x.1 = k then (x.1, x.2.1, v) else x
theorem putB_key (k : BK) (v : Value) (x : BK × Value × Value) : (putB k v x).1 = x.1 := by unfold putB; split <;> rfl
theorem keys_putB (k : BK) (v : Value) (xs : List (BK × Value × Value)) : (xs.map (putB k v)).map (·.1) = xs.map (·.1) := by
 rw [List.map_map]; congr 1; funext x; exact putB_key k v x
theorem bval_putB (k : BK) (v : Value) : ∀ (xs : List (BK × Value × Value)) (k' : BK), (bval xs k).isSome = true → bval (xs.map (putB k v)) k' = if k' = k then some v else bval xs k' := by
 intro L
 induction L with
 | nil =>
  intro k' h
  contradiction
 | cons y r ih =>
  intro k' h
  rw [List.map_cons, bvc, bvc, putB_key]
  by_cases q : y.1 = k'
  · rw [if_pos q, if_pos q]
    by_cases q2 : k' = k
    · rw [if_pos q2]; unfold putB; rw [if_pos (q.trans q2)]
    · rw [if_neg q2]; unfold putB; rw [if_neg (fun e => q2 (q.symm.trans e))]
  · rw [if_neg q, if_neg q]
    by_cases q2 : y.1 = k
    · have q3 : k' ≠ k := fun e => q (q2.trans e.symm)
      rw [if_neg q3]
      have : ∀ (xs : List (BK × Value × Value)), bval (xs.map (putB k v)) k' = bval xs k' := by
       intro xs
       induction xs with
       | nil => rfl
       | cons z t ih =>
        rw [List.map_cons, bvc, bvc, putB_key, ih]
        by_cases q4 : z.1 = k'
        · rw [if_pos q4, if_pos q4]; unfold putB; rw [if_neg (fun e => q3 (q4.symm.trans e))]
        · rw [if_neg q4, if_neg q4]
      exact this r
    · refine ih k' ?_
      rw [bvc, if_neg q2] at h; exact h
theorem bval_app (xs : List (BK × Value × Value)) (k : BK) (u v : Value) (k' : BK) (h : bval xs k = none) : bval (xs ++ [(k, u, v)]) k' = if k' = k then some v else bval xs k' := by
 induction xs with
 | nil =>
  show bval [(k, u, v)] k' = _
  rw [bvc]
  by_cases q : k' = k
  · subst q; rfl
  · rw [if_neg q, if_neg (Ne.symm q)]
 | cons y r ih =>
  rw [bvc] at h
  have q : ¬ y.1 = k := fun q => by rw [if_pos q] at h; contradiction
  rw [if_neg q] at h
  rw [List.cons_append, bvc, bvc, ih h]
  by_cases q2 : y.1 = k'
  · rw [if_pos q2, if_pos q2, if_neg (fun e => q (q2.trans e))]
  · rw [if_neg q2, if_neg q2]
theorem entB_modify (k : BK) (v : Value) : ∀ {xs : List (BK × Value × Value)} {j : Nat} {p : Value × Value}, (xs.map (·.1)).Nodup → xs[j]? = some (k, p) →
 (xs.map (entB w)).modify j (fun e => { e with val := v }) = (xs.map (putB k v)).map (entB w) := by
 intro L
 induction L with
 | nil => intros; contradiction
 | cons y r ih =>
  intro j p hn h
  induction j using Nat.casesAuxOn with
  | zero =>
   obtain rfl : y = (k, p) := by simpa using h
   rw [List.map_cons, List.nodup_cons] at hn
   have : r.map (putB k v) = r := by
    rw [List.map_congr_left (g := id) (fun x hx => ?_), List.map_id]
    unfold putB
    rw [if_neg]; rfl
    intro e
    exact hn.1 (e ▸ List.mem_map.mpr ⟨x, hx, rfl⟩)
   simp [this, putB, entB]
  | succ j =>
   rw [List.map_cons, List.nodup_cons] at hn
   have h' : r[j]? = some (k, p) := by simpa using h
   have q : ¬ y.1 = k := fun e => hn.1 (e ▸ List.mem_map.mpr ⟨_, List.mem_of_getElem? h', rfl⟩)
   simp only [List.map_cons, List.modify_succ_cons, (ih hn.2 h')]
   congr 1
   unfold putB
   rw [if_neg q]
noncomputable def BookObj (arr : Array DictEntry) (ep : Nat) : Obj := { cls := .type "dict", data := .dict arr ep }
theorem getB {d : Addr} {key : Value} {es ep} {xs : List (BK × Value × Value)} {k : BK} {u : Value} {Q : Value → Shared → Prop} (hu : A.in1.units < cLine) (hkey : k.is w s.heap key)
 (ho : s.heap.get? d = some (BookObj es ep)) (he : es.toList = xs.map (entB w)) (his : ∀ x ∈ xs, x.1.is w s.heap x.2.1) (hn : (xs.map (·.1)).Nodup)
 (hv : bval xs k = some u) (h : ∀ t, Q u { s with toks := t }) : wpAny (model PW0 w) A (getItem (.ref d) key) Q E s := by
 have hT : s.TypeIs (.ref d) "dict" := ⟨_, ho, rfl⟩
 unfold getItem
 try with_reducible refine wpAny_holding ?_
 refine wpAny_bind (wpAny_sequenceKey hT (by decide) ?_)
 refine wpAny_bind (wpAny_callSpecial?_slot (name := Str.ofString "__getitem__") hT slot_dict_getitem
  (wpAny_call_entry slot_dict_getitem hT entry_dict_getitem ?_ (args_dict_getitem _ _)))
 show wpAny _ _ (dictGet d key >>= _) _ _ s
 refine wpAny_bind ?_
 unfold dictGet
 try with_reducible refine wpAny_holding ?_
 refine wpAny_bind (BK.pyHash ?_ hkey fun t => wpAny_bind (findB (s := { s with toks := t }) ?_ hkey ho rfl he his hn ?_ ?_))
 · exact hu
 · exact hu
 · intro hno
   rw [bval_none hno] at hv; contradiction
 · intro j p hj
   refine wpAny_bind (wpAny_dictEntries (s := { s with toks := t }) ho rfl ?_)
   rw [entB_at he j, hj]
   have := bval_get hn hj
   rw [hv] at this
   injection this with e
   subst e
   exact wpAny_pure (wpAny_pure ⟨_, rfl, wpAny_pure (h t)⟩)
theorem setB {d : Addr} {key : Value} {es ep} {xs : List (BK × Value × Value)} {k : BK} {v : Value} {Q : Unit → Shared → Prop} (hu : A.in1.units < cLine) (hkey : k.is w s.heap key)
 (ho : s.heap.get? d = some (BookObj es ep)) (he : es.toList = xs.map (entB w)) (his : ∀ x ∈ xs, x.1.is w s.heap x.2.1) (hn : (xs.map (·.1)).Nodup) (hsz : xs.length ≤ sizeLine)
 (h : ∀ h' es' ep' xs' t, h'.get? d = some (BookObj es' ep') → es'.toList = xs'.map (entB w) → (∀ x ∈ xs', x.1.is w s.heap x.2.1) → (xs'.map (·.1)).Nodup →
  (∀ k', bval xs' k' = if k' = k then some v else bval xs k') → xs'.length = (if (bval xs k).isSome then xs.length else xs.length + 1) → Heap.SameBut d s.heap h' → Q () { s with heap := h', toks := t }) :
 wpAny (model PW0 w) A (setItem (.ref d) key v) Q E s := by
 have hT : s.TypeIs (.ref d) "dict" := ⟨_, ho, rfl⟩
 unfold setItem
 try with_reducible refine wpAny_holding ?_
 refine wpAny_bind (wpAny_sequenceKey hT (by decide) ?_)
 refine wpAny_bind (wpAny_callSpecial?_slot (name := Str.ofString "__setitem__") hT slot_dict_setitem
  (wpAny_call_entry slot_dict_setitem hT entry_dict_setitem ?_ (args_dict_setitem _ _ _)))
 skip
 refine wpAny_bind (wpAny_notOrdered_dict hT ?_)
 show wpAny _ _ (dictSet d key v >>= _) _ _ s
 refine wpAny_bind ?_
 unfold dictSet
 try with_reducible refine wpAny_holding ?_
 refine wpAny_bind (BK.pyHash ?_ hkey fun t => ?_)
 · exact hu
 unfold dictSetHashed
 try with_reducible refine wpAny_holding ?_
 refine wpAny_bind (findB (s := { s with toks := t }) ?_ hkey ho rfl he his hn ?_ ?_)
 · exact hu
 · intro hno
   have hb := bval_none hno
   refine wpAny_bind (wpAny_rule (wpAny_updateDictKeys (hz := by have e := entB_size he; omega) (s := { s with toks := t }) ho rfl ?_))
   refine wpAny_pure ⟨.none, rfl, wpAny_pure (h _ (es.push ⟨k.hash w, key, v⟩) (ep + 1) (xs ++ [(k, key, v)]) t (Heap.get?_update_self _ ho rfl) (by simp [he, entB]) ?_ ?_ (fun k' => bval_app xs k key v k' hb) (by rw [hb]; simp) (Heap.SameBut.update ..))⟩
   · intro x hx
     rcases List.mem_append.mp hx with hx | hx
     · exact his x hx
     · simp only [List.mem_singleton] at hx
       subst hx
       exact hkey
   · rw [List.map_append, List.nodup_append]
     refine ⟨hn, by simp, ?_⟩
     intro x hx y hy
     simp only [List.map_cons, List.map_nil, List.mem_singleton] at hy
     subst hy
     rintro rfl
     refine ob12 (List.mem_map.mp hx) fun z hz e => ?_
     obtain ⟨j, hj⟩ := List.getElem?_of_mem hz
     exact hno j z.2 (hj.trans (by rw [← e]))
 · intro j p hj
   have hb := bval_get hn hj
   refine wpAny_bind (wpAny_rule (wpAny_bind (wpAny_updateDict (s := { s with toks := t }) ho rfl (wpAny_point ?_))))
   refine wpAny_pure ⟨.none, rfl, wpAny_pure (h _ (es.modify j fun e => { e with val := v }) ep (xs.map (putB k v)) t (Heap.get?_update_self _ ho rfl) ?_ ?_ ?_ (fun k' => bval_putB k v xs k' (by rw [hb]; rfl)) (by rw [hb]; simp) (Heap.SameBut.update ..))⟩
   · have := entB_modify (w := w) k v hn hj
     rw [← he] at this
     obtain ⟨l⟩ := es
     simpa using this
   · intro x hx
     refine ob12 (List.mem_map.mp hx) fun y hy q2_ => ?_; subst q2_
     have := his y hy
     unfold putB
     split <;> exact this
   · rw [keys_putB]; exact hn
end
noncomputable def bkOf : AV → BK
 | .str s => .s (strOf s)
 | .tup [.str s, .int i] => .p (strOf s) i
 | _ => .s (strOf [])
structure Mp where
 a : Nat → Addr
 d : Nat → Addr
noncomputable def biVal : BI → Value
 | .len => .builtin "len" | .abs => .builtin "abs" | .int => .type "int" | .isinst => .builtin "isinstance" | .ord => .builtin "ord"
 | .repr => .builtin "repr" | .list => .type "list" | .str => .type "str" | .tuple => .type "tuple" | .range => .type "range" | .zip => .type "zip" | .other => .none
abbrev PW : Program := PySem.Challenge.pw_rr0005_01
def iterK (c : Value) : Prop := c = .type "list_iterator" ∨ c = .type "tuple_iterator" ∨ c = .type "range_iterator" ∨ c = .type "zip"
def inert (o : Obj) : Prop := o.cls = .type "tuple" ∨ o.cls = .type "cell" ∨ o.cls = .type "method" ∨ iterK o.cls
def offK (c : Value) : Prop := c = .type "frame" ∨ c = .type "cell" ∨ iterK c
def keptUp (h h' : Heap) (b : Addr) (o : Obj) : Prop := ∃ sl, h'.get? b = some { o with slots := sl }
structure Step (h h' : Heap) : Prop where
 inert : ∀ b o, h.get? b = some o → inert o → h'.get? b = some o
 frame : ∀ b o, h.get? b = some o → o.cls = .type "frame" → keptUp h h' b o
theorem Step.refl (h : Heap) : Step h h := ⟨fun b o e _ => e, fun b o e _ => ⟨o.slots, e⟩⟩
theorem Step.trans {h₁ h₂ h₃ : Heap} (x : Step h₁ h₂) (y : Step h₂ h₃) : Step h₁ h₃ :=
 ⟨fun b o e i => y.inert b o (x.inert b o e i) i, fun b o e i => let ⟨_, e₁⟩ := x.frame b o e i; let ⟨sl, e₂⟩ := y.frame b _ e₁ i; ⟨sl, e₂⟩⟩
theorem Step.keeps {h h' : Heap} (k : ∀ b o, h.get? b = some o → h'.get? b = some o) : Step h h' := ⟨fun b o e _ => k b o e, fun b o e _ => ⟨o.slots, k b o e⟩⟩
theorem Step.push (h : Heap) (o : Obj) : Step h (h.push o) := .keeps fun _ _ e => Heap.get?_push_of_some o e
structure StepX (X : Addr → Prop) (h h' : Heap) : Prop where
 inert : ∀ b o, h.get? b = some o → Mine.inert o → ¬ X b → h'.get? b = some o
 frame : ∀ b o, h.get? b = some o → o.cls = .type "frame" → ¬ X b → keptUp h h' b o
theorem Step.x {X : Addr → Prop} {h h' : Heap} (s : Step h h') : StepX X h h' := ⟨fun b o e i _ => s.inert b o e i, fun b o e i _ => s.frame b o e i⟩
theorem StepX.trans {X : Addr → Prop} {h₁ h₂ h₃ : Heap} (x : StepX X h₁ h₂) (y : StepX X h₂ h₃) : StepX X h₁ h₃ :=
 ⟨fun b o e i n => y.inert b o (x.inert b o e i n) i n, fun b o e i n => let ⟨_, e₁⟩ := x.frame b o e i n; let ⟨sl, e₂⟩ := y.frame b _ e₁ i n; ⟨sl, e₂⟩⟩
mutual
noncomputable def pdOf : AV → PyData
 | .int i => .int i
 | .str s => .str (strOf s)
 | .tup l => .tuple (pdsOf l)
 | .lst l => .list (pdsOf l)
 | _ => .none
noncomputable def pdsOf : List AV → List PyData
 | [] => []
 | a :: l => pdOf a :: pdsOf l
end
noncomputable def rprT (x : AV) : Str := (pdOf x).shown
def methObj (f x : Addr) (o : Obj) : Prop := o = { cls := .type "method", data := .fields #[.ref f, .ref x] }
inductive TupR (h : Heap) (P : List Value → Prop) (v : Value) : Prop
 | mk (a : Addr) (o : Obj) (xs : Array Value) (ep : Nat) : v = .ref a → h.get? a = some o → o.cls = .type "tuple" → o.data = .seq xs ep → P xs.toList → TupR h P v
inductive MethR (h : Heap) (f x : Addr) (v : Value) : Prop
 | mk (b : Addr) (o : Obj) : v = .ref b → h.get? b = some o → methObj f x o → MethR h f x v
inductive ConsR (P : Value → Prop) (Q : List Value → Prop) (l : List Value) : Prop
 | mk (v : Value) (t : List Value) : l = v :: t → P v → Q t → ConsR P Q l
mutual
def VR (h : Heap) (M : Mp) (n : Nat) : AV → Value → Prop
 | .none, v => v = .none
 | .bool b, v => v = .bool b
 | .int i, v => ∃ t, v = .int i t
 | .str s, v => s.length ≤ 1000 ∧ ∃ t, v = .str (strOf s) t
 | .tup l, v => TupR h (VRs h M n l) v
 | .obj i, v => i < n ∧ v = .ref (M.a i)
 | .fn a, v => v = .ref a
 | .bi k, v => v = biVal k
 | .meth f i, v => i < n ∧ MethR h f (M.a i) v
 | .lst _, _ => False
 | .rpr x, v => ∃ t, v = .str (rprT x) t
def VRs (h : Heap) (M : Mp) (n : Nat) : List AV → List Value → Prop
 | [], l => l = []
 | a :: r, l => ConsR (VR h M n a) (VRs h M n r) l
end
def Ext (n : Nat) (M M' : Mp) : Prop := ∀ i, i < n → M'.a i = M.a i ∧ M'.d i = M.d i
theorem Ext.refl (n : Nat) (M : Mp) : Ext n M M := fun _ _ => ⟨rfl, rfl⟩
theorem Ext.trans {n m : Nat} {M₁ M₂ M₃ : Mp} (x : Ext n M₁ M₂) (y : Ext m M₂ M₃) (h : n ≤ m) : Ext n M₁ M₃ := fun i hi =>
 ⟨(y i (Nat.lt_of_lt_of_le hi h)).1.trans (x i hi).1, (y i (Nat.lt_of_lt_of_le hi h)).2.trans (x i hi).2⟩
mutual
theorem VR.go {h h' : Heap} {M M' : Mp} {n n' : Nat} (st : ∀ b o, h.get? b = some o → o.cls = .type "tuple" ∨ o.cls = .type "method" → h'.get? b = some o) (ex : Ext n M M') (le : n ≤ n') : ∀ {a : AV} {v : Value}, VR h M n a v → VR h' M' n' a v
 | .none, _, x => x
 | .bool _, _, x => x
 | .int _, _, x => x
 | .str _, _, x => x
 | .tup l, v, ⟨a, o, xs, ep, e, g, c, d, r⟩ => by
  exact ⟨a, o, xs, ep, e, st a o g (.inl c), c, d, VRs.go st ex le r⟩
 | .obj i, v, ⟨hi, e⟩ => ⟨Nat.lt_of_lt_of_le hi le, by rw [e, (ex i hi).1]⟩
 | .fn _, _, x => x
 | .bi _, _, x => x
 | .meth f i, v, ⟨hi, b, o, e, g, c⟩ => by
  exact ⟨Nat.lt_of_lt_of_le hi le, b, o, e, st b o g (.inr (by rw [c])), by rw [(ex i hi).1]; exact c⟩
 | .lst _, _, x => x.elim
 | .rpr _, _, x => x
theorem VRs.go {h h' : Heap} {M M' : Mp} {n n' : Nat} (st : ∀ b o, h.get? b = some o → o.cls = .type "tuple" ∨ o.cls = .type "method" → h'.get? b = some o) (ex : Ext n M M') (le : n ≤ n') : ∀ {l : List AV} {v : List Value}, VRs h M n l v → VRs h' M' n' l v
 | [], _, x => x
 | _ :: _, _, ⟨v, t, e, x, r⟩ => ⟨v, t, e, VR.go st ex le x, VRs.go st ex le r⟩
end
inductive LstR (h : Heap) (M : Mp) (n i : Nat) (l : List AV) : Prop
 | mk (xs : Array Value) (ep : Nat) : h.get? (M.a i) = some { cls := .type "list", data := .seq xs ep } → VRs h M n l xs.toList → l.length ≤ 10000 → M.d i = M.a i → LstR h M n i l
inductive JunkR (h : Heap) (M : Mp) (i b : Nat) : Prop
 | mk (xs : Array Value) (ep : Nat) : h.get? (M.a i) = some { cls := .type "list", data := .seq xs ep } → xs.size ≤ b → b ≤ 1000 → M.d i = M.a i → JunkR h M i b
inductive LstO (P : List Value → Prop) (o : Obj) : Prop
 | mk (xs : Array Value) (ep : Nat) : o = { cls := .type "list", data := .seq xs ep } → P xs.toList → LstO P o
inductive FixR (h : Heap) (M : Mp) (n i : Nat) (l : List AV) (o : Obj) : Prop
 | mk : h.get? (M.a i) = some o → LstO (VRs h M n l) o → l.length ≤ 10000 → M.d i = M.a i → FixR h M n i l o
inductive Says (h : Heap) (M : Mp) (n : Nat) : Option AV → Option Value → Prop
 | yes {v u} : VR h M n v u → Says h M n (some v) (some u)
 | no : Says h M n none none
theorem Says.of {h : Heap} {M : Mp} {n : Nat} {a : Option AV} {b : Option Value} (x : (∀ v, a = some v → ∃ u, b = some u ∧ VR h M n v u) ∧ (a = none → b = none)) : Says h M n a b := by
 induction a using Option.casesOn with
 | none => rw [x.2 rfl]; exact .no
 | some v => let ⟨u, e, y⟩ := x.1 v rfl; rw [e]; exact .yes y
theorem Says.mono {h h' : Heap} {M M' : Mp} {n n' : Nat} (k : ∀ {v : AV} {u : Value}, VR h M n v u → VR h' M' n' v u) {a : Option AV} {b : Option Value} (x : Says h M n a b) : Says h' M' n' a b := by
 cases x with
 | yes y => exact .yes (k y)
 | no => exact .no
inductive Hit (h : Heap) (M : Mp) (n : Nat) (b : Option Value) (v : AV) : Prop
 | mk (u : Value) : b = some u → VR h M n v u → Hit h M n b v
theorem Says.hit {h : Heap} {M : Mp} {n : Nat} {a : Option AV} {b : Option Value} (x : Says h M n a b) {v : AV} (e : a = some v) : Hit h M n b v := by
 cases x with
 | yes y => injection e with e; subst e; exact ⟨_, rfl, y⟩
 | no => contradiction
theorem Says.mis {h : Heap} {M : Mp} {n : Nat} {a : Option AV} {b : Option Value} (x : Says h M n a b) (e : a = none) : b = none := by
 cases x with
 | yes y => contradiction
 | no => rfl
theorem Says.isSome {h : Heap} {M : Mp} {n : Nat} {a : Option AV} {b : Option Value} (x : Says h M n a b) : b.isSome = a.isSome := by cases x <;> rfl
theorem Says.isNone {h : Heap} {M : Mp} {n : Nat} {a : Option AV} {b : Option Value} (x : Says h M n a b) : (!b.isSome) = a.isNone := by cases x <;> rfl
theorem size_step {α β : Type} {a : Option α} {b : Option β} {p p' n n' : Nat} (e : b.isSome = a.isSome) (z : p ≤ n) (z1 : b = none → p' = p + 1) (z2 : b ≠ none → p' = p) (L1 : a = none → n' = n + 1) (L2 : a ≠ none → n' = n) : p' ≤ n' := by
 induction a using Option.casesOn with
 | none => induction b using Option.casesOn with
  | none => rw [z1 rfl, L1 rfl]; exact Nat.succ_le_succ z
  | some _ => contradiction
 | some _ => induction b using Option.casesOn with
  | none => contradiction
  | some _ => rw [z2 (Option.some_ne_none _), L2 (Option.some_ne_none _)]; exact z
inductive DictR (w : World) (h : Heap) (M : Mp) (n i : Nat) (es : List (AV × AV)) : Prop
 | mk (kvs : List (Str × Value)) : h.DictOf (strKind PW w) (M.a i) kvs → kvs.length ≤ es.length → es.length ≤ 1000 → M.d i = M.a i → (∀ s, Says h M n (dget es (.str s)) (valueAt kvs (strOf s))) → DictR w h M n i es
inductive BookR (w : World) (h : Heap) (M : Mp) (n i : Nat) (es : List (AV × AV)) : Prop
 | mk (arr : Array DictEntry) (ep : Nat) (bxs : List (BK × Value × Value)) : h.get? (M.a i) = some (BookObj arr ep) → (arr.toList = bxs.map (entB w) ∧ (∀ x ∈ bxs, x.1.is w h x.2.1) ∧ (bxs.map (·.1)).Nodup ∧ bxs.length ≤ es.length) → es.length ≤ 1000 → M.d i = M.a i →
  (∀ k, isKey k = true → Says h M n (dget es k) (bval bxs (bkOf k))) → BookR w h M n i es
inductive InstR (h : Heap) (M : Mp) (n i c : Nat) (at_ : List (Nat × AV)) : Prop
 | mk (m : Str → Option Value) (xs : Array DictEntry) (ep : Nat) : h.get? (M.a i) = some { cls := .ref c, dict := some (M.d i), data := .plain } → h.get? (M.d i) = some { cls := .type "dict", data := .dict xs ep } → (StrKeys xs ∧ ∀ name, nsFind xs name = m name) →
  (tb.cls c).isSome = true → xs.size ≤ at_.length → (∀ x, x < 202 → Says h M n (look at_ x) (m (nm x))) → InstR h M n i c at_
def OR (w : World) (h : Heap) (M : Mp) (n : Nat) (i : Nat) : AO → Prop
 | .list l => LstR h M n i l
 | .junk b => JunkR h M i b
 | .fix l o => FixR h M n i l o
 | .dict es => DictR w h M n i es
 | .book es => BookR w h M n i es
 | .inst c at_ => InstR h M n i c at_
theorem Says.go {h h' : Heap} {M M' : Mp} {n n' : Nat} (st : ∀ b o, h.get? b = some o → o.cls = .type "tuple" ∨ o.cls = .type "method" → h'.get? b = some o) (ex : Ext n M M') (le : n ≤ n') {a : Option AV} {b : Option Value} (x : Says h M n a b) : Says h' M' n' a b := Says.mono (VR.go st ex le) x
theorem OR.go {w : World} {h h' : Heap} {M M' : Mp} {n n' i : Nat} (st : ∀ b o, h.get? b = some o → o.cls = .type "tuple" ∨ o.cls = .type "method" → h'.get? b = some o) (ex : Ext n M M') (le : n ≤ n') (hi : i < n)
 (ka : ∀ o, h.get? (M.a i) = some o → h'.get? (M.a i) = some o) (kd : ∀ o, h.get? (M.d i) = some o → h'.get? (M.d i) = some o) : ∀ {o : AO}, OR w h M n i o → OR w h' M' n' i o := by
 have ea := (ex i hi).1
 have ed := (ex i hi).2
 intro o x
 induction o using AO.casesOn with
 | list l =>
  obtain ⟨xs, ep, g, r, z, q⟩ := x
  exact ⟨xs, ep, (by rw [ea]; exact ka _ g), VRs.go st ex le r, z, by rw [ea, ed, q]⟩
 | junk b =>
  obtain ⟨xs, ep, g, r, z, q⟩ := x
  exact ⟨xs, ep, (by rw [ea]; exact ka _ g), r, z, by rw [ea, ed, q]⟩
 | fix l o =>
  obtain ⟨g, ⟨xs, ep, e, r⟩, z, q⟩ := x
  exact ⟨(by rw [ea]; exact ka _ g), ⟨xs, ep, e, VRs.go st ex le r⟩, z, by rw [ea, ed, q]⟩
 | dict es =>
  obtain ⟨f, ⟨o, es', ep, g, r⟩, dl, z, q, y⟩ := x
  exact ⟨f, ⟨o, es', ep, (by rw [ea]; exact ka _ g), r⟩, dl, z, by rw [ea, ed, q], fun s => (y s).go st ex le⟩
 | book es =>
  obtain ⟨arr, ep, bxs, g, ⟨r1, r2, r3, r4⟩, z, q, y⟩ := x
  exact ⟨arr, ep, bxs, (by rw [ea]; exact ka _ g), ⟨r1, fun x hx => BK.go (fun b o e c => st b o e (.inl c)) (r2 x hx), r3, r4⟩, z, by rw [ea, ed, q], fun k hk => (y k hk).go st ex le⟩
 | inst c at_ =>
  obtain ⟨m, xs, ep, g, gd, nsx, hc, hz, r⟩ := x
  exact ⟨m, xs, ep, (by rw [ea, ed]; exact ka _ g), (by rw [ed]; exact kd _ gd), nsx, hc, hz, fun y hy => (r y hy).go st ex le⟩
theorem OR.lst {w : World} {h : Heap} {M : Mp} {n i : Nat} {o : AO} {l : List AV} (x : OR w h M n i o) (e : lstAt (some o) = some l) : ∃ xs ep, h.get? (M.a i) = some { cls := .type "list", data := .seq xs ep } ∧ VRs h M n l xs.toList ∧ l.length ≤ 10000 := by
 induction o using AO.casesOn with
 | list l' => obtain ⟨xs, ep, g, r, z, q⟩ := x; injection e with e; subst e; exact ⟨xs, ep, g, r, z⟩
 | fix l' o => obtain ⟨g, ⟨xs, ep, e', r⟩, z, q⟩ := x; injection e with e; subst e; subst e'; exact ⟨xs, ep, g, r, z⟩
 | _ => contradiction
noncomputable def lawTab : Addr := 870
noncomputable def lawCode : Addr := 872
noncomputable def lamQual : Str := "law.<locals>.<lambda>"
inductive LamCode (h : Heap) (cv : Value) : Prop
 | mk (c : Addr) (o : Obj) (vs : Array Value) (t : Nat) : cv = .ref c → h.get? c = some o → o.cls = .type "code" → (o.data = .fields vs ∧ vs[1]? = some (.str lamQual t)) → LamCode h cv
structure TabOk (h : Heap) : Prop where
 tab : ∃ ps, h.get? lawTab = some (tabObj ps) ∧ TriplesOk ps.toList ∧ ∀ pos cv, codeAmong pos ps.toList = some cv → LamCode h cv
structure Rel (w : World) (base : Heap) (M : Mp) (H : AH) (h : Heap) : Prop where
 obj : ∀ i o, nth H i = some o → OR w h M H.length i o
 apart : ∀ i j, i < H.length → j < H.length → i ≠ j → M.a i ≠ M.a j ∧ M.a i ≠ M.d j ∧ M.d i ≠ M.d j
 fresh : ∀ i, i < H.length → base.get? (M.a i) = none ∧ base.get? (M.d i) = none
 tab : TabOk h
structure Same (s s' : Shared) : Prop where
 g : s'.gens = s.gens
 d : s'.drawn = s.drawn
 o : s'.os = s.os
theorem Same.refl (s : Shared) : Same s s := ⟨rfl, rfl, rfl⟩
theorem Same.trans {s₁ s₂ s₃ : Shared} (x : Same s₁ s₂) (y : Same s₂ s₃) : Same s₁ s₃ := ⟨y.g.trans x.g, y.d.trans x.d, y.o.trans x.o⟩
def Owned (M : Mp) (n : Nat) (b : Addr) : Prop := ∃ i, i < n ∧ (b = M.a i ∨ b = M.d i)
structure Kept (X : Addr → Prop) (M : Mp) (n : Nat) (h : Heap) (M' : Mp) (n' : Nat) (h' : Heap) : Prop where
 alive : ∀ b o, h.get? b = some o → ∃ o', h'.get? b = some o'
 newer : ∀ i, n ≤ i → i < n' → h.get? (M'.a i) = none ∧ h.get? (M'.d i) = none
 others : ∀ b o, h.get? b = some o → o.cls = .type "dict" ∨ o.cls = .type "list" → ¬ Owned M n b → ¬ X b → h'.get? b = some o
theorem Kept.refl (X : Addr → Prop) (M : Mp) (n : Nat) (h : Heap) : Kept X M n h M n h := ⟨fun _ o e => ⟨o, e⟩, fun i h1 h2 => absurd h2 (Nat.not_lt.mpr h1), fun _ _ e _ _ _ => e⟩
theorem Kept.weak {X Y : Addr → Prop} {M M' : Mp} {n n' : Nat} {h h' : Heap} (i : ∀ b, X b → Y b) (x : Kept X M n h M' n' h') : Kept Y M n h M' n' h' := ⟨x.alive, x.newer, fun b o e c no nx => x.others b o e c no fun q => nx (i b q)⟩
abbrev noX : Addr → Prop := fun _ => False
theorem Kept.trans {X : Addr → Prop} {M₁ M₂ M₃ : Mp} {n₁ n₂ n₃ : Nat} {h₁ h₂ h₃ : Heap} (e1 : Ext n₁ M₁ M₂) (e2 : Ext n₂ M₂ M₃) (x : Kept X M₁ n₁ h₁ M₂ n₂ h₂) (y : Kept X M₂ n₂ h₂ M₃ n₃ h₃) : Kept X M₁ n₁ h₁ M₃ n₃ h₃ := by
 have dead : ∀ b, h₂.get? b = none → h₁.get? b = none := fun b hb => by
  cases q : h₁.get? b with
  | none => rfl
  | some o => obtain ⟨o', e⟩ := x.alive b o q; rw [hb] at e; contradiction
 refine ⟨fun b o e => let ⟨o', e'⟩ := x.alive b o e; y.alive b o' e', fun i hi hi' => ?_, fun b o e c no nx => ?_⟩
 · by_cases q : i < n₂
   · rw [(e2 i q).1, (e2 i q).2]; exact x.newer i hi q
   · have := y.newer i (Nat.not_lt.mp q) hi'
     exact ⟨dead _ this.1, dead _ this.2⟩
 · refine y.others b o (x.others b o e c no nx) c ?_ nx
   rintro ⟨i, hi, hb⟩
   by_cases q : i < n₁
   · rw [(e1 i q).1, (e1 i q).2] at hb; exact no ⟨i, q, hb⟩
   · have := x.newer i (Nat.not_lt.mp q) hi
     rcases hb with rfl | rfl
     · rw [this.1] at e; contradiction
     · rw [this.2] at e; contradiction
theorem Kept.keeps {X : Addr → Prop} {M : Mp} {n : Nat} {h h' : Heap} (k : ∀ b o, h.get? b = some o → h'.get? b = some o) : Kept X M n h M n h' := ⟨fun b o e => ⟨o, k b o e⟩, fun i h1 h2 => absurd h2 (Nat.not_lt.mpr h1), fun b o e _ _ _ => k b o e⟩
structure Go (w : World) (base : Heap) (M : Mp) (H : AH) (s : Shared) (M' : Mp) (H' : AH) (s' : Shared) : Prop where
 rel : Rel w base M' H' s'.heap
 ext : Ext H.length M M'
 len : H.length ≤ H'.length
 step : Step s.heap s'.heap
 same : Same s s'
 stays : base.StaysIn s'.heap
 kept : Kept noX M H.length s.heap M' H'.length s'.heap
theorem Go.trans {w : World} {base : Heap} {M₁ M₂ M₃ : Mp} {H₁ H₂ H₃ : AH} {s₁ s₂ s₃ : Shared} (x : Go w base M₁ H₁ s₁ M₂ H₂ s₂) (y : Go w base M₂ H₂ s₂ M₃ H₃ s₃) : Go w base M₁ H₁ s₁ M₃ H₃ s₃ :=
 ⟨y.rel, x.ext.trans y.ext x.len, Nat.le_trans x.len y.len, x.step.trans y.step, x.same.trans y.same, y.stays, x.kept.trans x.ext y.ext y.kept⟩
theorem Step.vr {h h' : Heap} (s : Step h h') : ∀ b o, h.get? b = some o → o.cls = .type "tuple" ∨ o.cls = .type "method" → h'.get? b = some o := fun b o e c =>
 s.inert b o e (c.elim (fun c => .inl c) fun c => .inr (.inr (.inl c)))
theorem Go.vr {w : World} {base : Heap} {M M' : Mp} {H H' : AH} {s s' : Shared} (x : Go w base M H s M' H' s') {a : AV} {v : Value} (y : VR s.heap M H.length a v) : VR s'.heap M' H'.length a v := y.go x.step.vr x.ext x.len
theorem Go.vrs {w : World} {base : Heap} {M M' : Mp} {H H' : AH} {s s' : Shared} (x : Go w base M H s M' H' s') {a : List AV} {v : List Value} (y : VRs s.heap M H.length a v) : VRs s'.heap M' H'.length a v := y.go x.step.vr x.ext x.len
def locK (c : Value) : Prop := c = .type "frame" ∨ c = .type "dict"
inductive FrAt (h : Heap) (L : Addr) (m : Str → Option Value) : Prop
 | mk (o : Obj) (es : Array DictEntry) (ep : Nat) : h.get? L = some o → locK o.cls → (o.data = .dict es ep ∧ StrKeys es ∧ ∀ name, nsFind es name = m name) → FrAt h L m
theorem FrAt.ns {h : Heap} {L : Addr} {m : Str → Option Value} (x : FrAt h L m) : h.Ns L m := let ⟨o, es, ep, g, _, r⟩ := x; ⟨o, es, ep, g, r⟩
theorem FrAt.up {h h' : Heap} {L : Addr} {m : Str → Option Value} (x : FrAt h L m) (k : ∀ o, h.get? L = some o → locK o.cls → keptUp h h' L o) : FrAt h' L m :=
 let ⟨o, es, ep, g, c, r⟩ := x; let ⟨_, g'⟩ := k o g c; ⟨_, es, ep, g', c, r⟩
inductive CellAt (h : Heap) (c : Addr) (v : Option Value) : Prop
 | mk (o : Obj) : h.get? c = some o → (o.cls = .type "cell" ∧ o.data = .cell v) → CellAt h c v
theorem CellAt.is {h : Heap} {c : Addr} {v : Option Value} (x : CellAt h c v) : h.IsCell c v := let ⟨o, g, _, d⟩ := x; ⟨o, g, d⟩
theorem CellAt.up {h h' : Heap} {c : Addr} {v : Option Value} (x : CellAt h c v) (k : ∀ o, h.get? c = some o → o.cls = .type "cell" → h'.get? c = some o) : CellAt h' c v :=
 let ⟨o, g, q, d⟩ := x; ⟨o, k o g q, q, d⟩
structure EnvOk (nmz : Nms) (env : Env) : Prop where
 kind : env.scope.kind = .function
 names : ∀ x, x < 202 → env.kindOf (nm x) = lookA nmz x ∨ (lookA nmz x = some .free ∧ env.kindOf (nm x) = some .cell)
 globals : env.globals = mainGlobals
 builtins : env.builtins = builtinsNs
 lam : lookA nmz 195 = some .globalImplicit → env.code = .ref lawCode ∧ env.qual = "law.<locals>."
theorem EnvOk.is {nmz : Nms} {env : Env} (ok : EnvOk nmz env) {x : Nat} (hx : x < 202) {k : NameKind} (h : lookA nmz x = some k) (ne : k ≠ .free) : env.kindOf (nm x) = some k := by
 rcases ok.names x hx with e | ⟨e, _⟩
 · exact e.trans h
 · rw [h] at e; injection e with e; subst e; exact absurd rfl ne
theorem EnvOk.free {nmz : Nms} {env : Env} (ok : EnvOk nmz env) {x : Nat} (hx : x < 202) (h : lookA nmz x = some .free) : env.kindOf (nm x) = some .free ∨ env.kindOf (nm x) = some .cell := by
 rcases ok.names x hx with e | ⟨_, e⟩
 · exact .inl (e.trans h)
 · exact .inr e
inductive NmHas (nmz : Nms) (env : Env) (h : Heap) (M : Mp) (n : Nat) (m : Str → Option Value) (x : Nat) (v : AV) : Prop
 | mk (u : Value) : VR h M n v u → ((lookA nmz x = some .local ∧ m (nm x) = some u) ∨ ((lookA nmz x = some .cell ∨ lookA nmz x = some .free) ∧ ∃ c, env.cells.lookup (nm x) = some c ∧ CellAt h c (some u))) → NmHas nmz env h M n m x v
inductive FrHas (nmz : Nms) (env : Env) (fr : Fr) (n : Nat) (M : Mp) (h : Heap) : Prop
 | mk (m : Str → Option Value) : FrAt h env.locals m → (∀ x v, look fr x = some v → x < 202 ∧ NmHas nmz env h M n m x v) → FrHas nmz env fr n M h
inductive CellIn (env : Env) (h : Heap) (x : Nat) : Prop
 | mk (c : Addr) (v : Option Value) : env.cells.lookup (nm x) = some c → CellAt h c v → CellIn env h x
structure FrR (base : Heap) (nmz : Nms) (env : Env) (fr : Fr) (n : Nat) (M : Mp) (h : Heap) : Prop where
 ok : EnvOk nmz env
 fresh : base.get? env.locals = none
 freshC : ∀ x c, x < 202 → lookA nmz x = some .cell → env.cells.lookup (nm x) = some c → base.get? c = none
 frame : FrHas nmz env fr n M h
 cells : ∀ x, x < 202 → lookA nmz x = some .cell ∨ lookA nmz x = some .free → CellIn env h x
 cellsA : ∀ x y c, x < 202 → y < 202 → env.cells.lookup (nm x) = some c → env.cells.lookup (nm y) = some c → x = y
 own : ¬ Owned M n env.locals
theorem notOwned_up {M M' : Mp} {n n' : Nat} {h h' : Heap} {X : Addr → Prop} {b : Addr} {o : Obj} (ex : Ext n M M') (k : Kept X M n h M' n' h') (hb : h.get? b = some o) (no : ¬ Owned M n b) : ¬ Owned M' n' b := by
 rintro ⟨i, hi, e⟩
 by_cases q : i < n
 · rw [(ex i q).1, (ex i q).2] at e; exact no ⟨i, q, e⟩
 · have := k.newer i (Nat.not_lt.mp q) hi
   rcases e with rfl | rfl
   · rw [this.1] at hb; contradiction
   · rw [this.2] at hb; contradiction
theorem FrR.keep {base : Heap} {nmz : Nms} {env : Env} {fr : Fr} {M M' : Mp} {n n' : Nat} {h h' : Heap} (x : FrR base nmz env fr n M h) (kL : ∀ o, h.get? env.locals = some o → locK o.cls → keptUp h h' env.locals o) (kc : ∀ {c : Addr} {v : Option Value}, CellAt h c v → CellAt h' c v) (kv : ∀ {a : AV} {v : Value}, VR h M n a v → VR h' M' n' a v) (no : ¬ Owned M' n' env.locals) : FrR base nmz env fr n' M' h' :=
 let ⟨m, f, r⟩ := x.frame
 ⟨x.ok, x.fresh, x.freshC, ⟨m, f.up kL, fun y v e => let ⟨hy, u, q, r⟩ := r y v e; ⟨hy, u, kv q, r.imp_right fun ⟨k, c, l, z⟩ => ⟨k, c, l, kc z⟩⟩⟩, fun y hy e => let ⟨c, v, l, z⟩ := x.cells y hy e; ⟨c, v, l, kc z⟩, x.cellsA, no⟩
theorem FrR.go {w : World} {base : Heap} {nmz : Nms} {env : Env} {fr : Fr} {M M' : Mp} {H H' : AH} {s s' : Shared} (x : FrR base nmz env fr H.length M s.heap) (g : Go w base M H s M' H' s') : FrR base nmz env fr H'.length M' s'.heap :=
 x.keep (fun o e c => c.elim (g.step.frame _ o e) fun c => ⟨o.slots, g.kept.others _ o e (.inl c) x.own fun h => h⟩) (fun z => z.up fun o e c => g.step.inert _ o e (.inr (.inl c))) g.vr (let ⟨_, ⟨_, _, _, gL, _, _⟩, _⟩ := x.frame; notOwned_up g.ext g.kept gL x.own)
inductive FrmAt (base h : Heap) (env : Env) : Prop
 | mk (L : Addr) (o : Obj) (es : Array DictEntry) (ep : Nat) : env.frame = some L → base.get? L = none → h.get? L = some o → o.cls = .type "frame" → o.data = .dict es ep → FrmAt base h env
def FrOk (base : Heap) (h : Heap) : List Env → Prop
 | [] => True
 | env :: r => env.scope.kind ≠ .module ∧ FrmAt base h env ∧ FrOk base h r
theorem FrOk.fun {base h : Heap} : ∀ {l : List Env}, FrOk base h l → h.FunFrames base l
 | [], _ => trivial
 | _ :: _, ⟨a, ⟨L, o, es, ep, f, b, g, _, d⟩, r⟩ => ⟨a, ⟨L, o, f, b, g, fun vs q => by rw [d] at q; contradiction⟩, r.fun⟩
theorem FrOk.step {base h h' : Heap} (s : Step h h') : ∀ {l : List Env}, FrOk base h l → FrOk base h' l
 | [], _ => trivial
 | _ :: _, ⟨a, ⟨L, o, es, ep, f, b, g, c, d⟩, r⟩ => let ⟨_, g'⟩ := s.frame L o g c; ⟨a, ⟨L, _, es, ep, f, b, g', c, d⟩, r.step s⟩
structure AOk (A : Around) (d : Nat) (l : List Env) : Prop where
 handled : A.handled = none
 frames : A.frames = some l
 guards : A.guards = some []
 depth : A.depth + 3 * d ≤ 900
 units : A.units + 10 * d ≤ 9000
structure Sit (w : World) (base : Heap) (A : Around) (d : Nat) (l : List Env) (nmz : Nms) (env : Env) (fr : Fr) (M : Mp) (H : AH) (s : Shared) : Prop where
 aok : AOk A d l
 frs : FrOk base s.heap l
 rel : Rel w base M H s.heap
 stays : base.StaysIn s.heap
 fr : FrR base nmz env fr H.length M s.heap
theorem Sit.go {w : World} {base : Heap} {A : Around} {d : Nat} {l : List Env} {nmz : Nms} {env : Env} {fr : Fr} {M M' : Mp} {H H' : AH} {s s' : Shared} (x : Sit w base A d l nmz env fr M H s) (g : Go w base M H s M' H' s') :
 Sit w base A d l nmz env fr M' H' s' := ⟨x.aok, x.frs.step g.step, g.rel, g.stays, x.fr.go g⟩
theorem Sit.refl {w : World} {base : Heap} {A : Around} {d : Nat} {l : List Env} {nmz : Nms} {env : Env} {fr : Fr} {M : Mp} {H : AH} {s : Shared} (x : Sit w base A d l nmz env fr M H s) : Go w base M H s M H s :=
 ⟨x.rel, .refl _ _, Nat.le_refl _, .refl _, .refl _, x.stays, .refl _ _ _ _⟩
theorem Go.tok {w : World} {base : Heap} {M M' : Mp} {H H' : AH} {s s' : Shared} (x : Go w base M H s M' H' s') (t : Nat) : Go w base M H s M' H' { s' with toks := t } := ⟨x.rel, x.ext, x.len, x.step, ⟨x.same.g, x.same.d, x.same.o⟩, x.stays, x.kept⟩
inductive TbAt (base h : Heap) (e D : Addr) (vs : Array Value) : Prop
 | mk (T : Addr) (oT : Obj) (ts : Array Value) : vs[1]? = some (.ref T) → base.get? T = none → T ≠ e → T ≠ D → h.get? T = some oT → oT.cls = .type "traceback" → oT.data = .fields ts → ts[3]? = some .none → TbAt base h e D vs
inductive Flies (base h : Heap) (x : Value) (code : List Nat) : Prop
 | mk (e : Addr) (oe : Obj) (D : Addr) (m : Str → Option Value) (vs : Array Value) (t : Nat) : x = .ref e → h.get? e = some oe → oe.cls = .ref 41 → oe.dict = some D → oe.data = .fields vs → base.get? e = none → h.Ns D m → m ("code" : Str) = some (.str (strOf code) t) → base.get? D = none → D ≠ e → (∀ o, h.get? D = some o → o.cls = .type "dict") →
  (vs[1]? = some .none ∨ TbAt base h e D vs) → Flies base h x code
def Own (z : Nms) (env : Env) (b : Addr) : Prop := b = env.locals ∨ ∃ x, x < 202 ∧ lookA z x = some .cell ∧ env.cells.lookup (nm x) = some b
structure GoF (w : World) (base : Heap) (z : Nms) (env : Env) (M : Mp) (H : AH) (s : Shared) (M' : Mp) (H' : AH) (s' : Shared) : Prop where
 rel : Rel w base M' H' s'.heap
 ext : Ext H.length M M'
 len : H.length ≤ H'.length
 step : StepX (Own z env) s.heap s'.heap
 same : Same s s'
 stays : base.StaysIn s'.heap
 kept : Kept (Own z env) M H.length s.heap M' H'.length s'.heap
theorem GoF.trans {w : World} {base : Heap} {z : Nms} {env : Env} {M₁ M₂ M₃ : Mp} {H₁ H₂ H₃ : AH} {s₁ s₂ s₃ : Shared} (x : GoF w base z env M₁ H₁ s₁ M₂ H₂ s₂) (y : GoF w base z env M₂ H₂ s₂ M₃ H₃ s₃) : GoF w base z env M₁ H₁ s₁ M₃ H₃ s₃ :=
 ⟨y.rel, x.ext.trans y.ext x.len, Nat.le_trans x.len y.len, x.step.trans y.step, x.same.trans y.same, y.stays, x.kept.trans x.ext y.ext y.kept⟩
theorem Go.f {w : World} {base : Heap} {z : Nms} {env : Env} {M M' : Mp} {H H' : AH} {s s' : Shared} (x : Go w base M H s M' H' s') : GoF w base z env M H s M' H' s' := ⟨x.rel, x.ext, x.len, x.step.x, x.same, x.stays, x.kept.weak fun _ h => h.elim⟩
end Mine
end
section
open PySem PySem.W PyProof.Rows PySem.Calls
namespace Mine
noncomputable def isFrom (z : Nms) (x : Nat) (l : List NameKind) : Bool := Nat.blt x 202 && (match lookA z x with | some k => l.contains k | none => false)
noncomputable def constOk : AV → Bool
 | .none => true
 | .bool _ => true
 | .int _ => true
 | .str s => Nat.ble s.length 1000
 | _ => false
noncomputable def distinctN : List Nat → Bool
 | [] => true
 | x :: r => !hasN r x && distinctN r
noncomputable def blockOk (z sc : Nms) : Bool := distinctN (sc.map (·.1)) && sc.all fun y => match y.2 with
 | .local => Nat.blt y.1 202
 | .cell => Nat.blt y.1 202
 | .free => isFrom z y.1 [.cell, .free]
 | .globalImplicit => Nat.blt y.1 202 && !Nat.beq y.1 195
 | _ => false
noncomputable def lamOk (sc : Nms) : Bool := sc.all fun y => match y.2 with
 | .free => true
 | .globalImplicit => true
 | _ => false
noncomputable def biEq (a b : BI) : Bool := match a with
 | .range => (match b with | .range => true | _ => false)
 | .zip => (match b with | .zip => true | _ => false)
 | _ => false
noncomputable def isBi (x : Nat) (k : BI) : Bool := match tb.glob x with
 | some v => (match v with | .bi b => biEq b k | _ => false)
 | none => false
noncomputable def isFn (x a : Nat) : Bool := match tb.glob x with
 | some (.fn b) => Nat.beq a b
 | _ => false
noncomputable def noCall : E → Bool
 | .call _ _ _ => false
 | .raw _ => false
 | _ => true
noncomputable def isNm : E → Bool
 | .loc _ _ => true
 | .gl _ _ => true
 | _ => false
mutual
noncomputable def wfE (z : Nms) : E → Bool
 | .c v _ _ => constOk v
 | .loc x _ => isFrom z x [.local, .cell, .free]
 | .gl x _ => isFrom z x [.globalImplicit]
 | .bin _ a b _ => wfE z a && wfE z b
 | .neg a _ => wfE z a
 | .cmp _ a b _ => wfE z a && wfE z b
 | .cmp2 _ _ a b c _ => wfE z a && (wfE z b && wfE z c)
 | .ife t a b _ => wfE z t && (wfE z a && wfE z b)
 | .tup l _ _ => wfEs z l
 | .lst l _ => wfEs z l
 | .dct _ => true
 | .idx e i _ => wfE z e && wfE z i
 | .slc e lo hi _ _ => wfE z e && (wfEo z lo && wfEo z hi)
 | .att e a _ => (wfE z e && noCall e) && (Nat.blt a 202 && !badAt a)
 | .call f l _ => (wfE z f && isNm f) && wfEs z l
 | .mth e a l pa p => (wfE z e && noCall e) && ((Nat.blt a 202 && !badAt a) && (wfEs z l && (Nat.beq pa.endLine p.line && Nat.blt l.length 20)))
 | .comp x _ el it sc _ => isFrom sc x [.local, .cell] && (blockOk z sc && (wfE sc el && wfE z it))
 | .compR x _ el rg _ hi _ sc _ => (isFrom z rg [.globalImplicit] && isBi rg .range) && (isFrom sc x [.local, .cell] && (blockOk z sc && (wfE sc el && wfE z hi)))
 | .tryc f _ b sc _ _ => (isFrom z f [.globalImplicit] && (Nat.beq f 195 && isFn f 863)) && (lamOk sc && (blockOk z sc && wfE sc b))
 | .not t _ => wfE z t
 | .and l _ => wfEs z l
 | .or l _ => wfEs z l
 | .raw _ => false
noncomputable def wfEs (z : Nms) : List E → Bool
 | [] => true
 | e :: l => wfE z e && wfEs z l
noncomputable def wfEo (z : Nms) : Option E → Bool
 | none => true
 | some e => wfE z e
end
noncomputable def wfT (z : Nms) : Tg → Bool
 | .name x _ => isFrom z x [.local, .cell]
 | .att e a _ => wfE z e && (Nat.blt a 202 && !badAt a)
 | .sub e i _ => wfE z e && wfE z i
noncomputable def wfTs (z : Nms) : List Tg → Bool
 | [] => true
 | t :: l => wfT z t && wfTs z l
noncomputable def foldedAll : E → Bool
 | .tup es _ _ => (E.pys nm es).all (foldedForSure 8)
 | _ => false
noncomputable def inOrder (z : Nms) (l : List Tg) (e : E) : Bool := ((match e with | .tup _ _ _ => false | _ => true) || foldedAll e) || l.any fun t => match t with | .name x _ => !isFrom z x [.local] | _ => true
noncomputable def swapOk (z : Nms) (l : List (Nat × Pos)) (es : List E) : Bool :=
 (Nat.beq l.length 2 || Nat.beq l.length 3) && (Nat.beq es.length l.length && (l.all (fun y => isFrom z y.1 [.local] && Nat.beq y.2.line ((l.head?.map (·.2.line)).getD 0)) && (distinct (l.map (·.1)) && (!(E.pys nm es).all (foldedForSure 8) && !(E.pys nm es).all (constantsAlone 8)))))
where distinct : List Nat → Bool
 | [] => true
 | x :: r => !r.any (Nat.beq x) && distinct r
noncomputable def isComp : E → Bool
 | .comp _ _ _ _ _ _ => true
 | .compR _ _ _ _ _ _ _ _ _ => true
 | .raw _ => true
 | _ => false
noncomputable def isAM : BOp → Bool
 | .add => true
 | .mul => true
 | _ => false
mutual
noncomputable def wfS (z : Nms) : S → Bool
 | .asg t e _ => wfT z t && wfE z e
 | .asgT l _ _ e _ => (wfTs z l && (wfE z e && inOrder z l e)) && !isComp e
 | .asgS l _ _ es _ _ _ => wfEs z es && swapOk z l es
 | .augn x _ op e _ => (isFrom z x [.local, .cell] && wfE z e) && isAM op
 | .auga o a _ op e _ => (wfE z o && ((Nat.blt a 202 && !badAt a) && wfE z e)) && isAM op
 | .ret e _ => wfE z e
 | .ife t a b _ => wfE z t && (wfSs z a && wfSs z b)
 | .whl t b _ => wfE z t && wfSs z b
 | .for_ t it b _ => wfT z t && (wfE z it && wfSs z b)
 | .forR t rg _ hi _ b _ => (isFrom z rg [.globalImplicit] && isBi rg .range) && (wfT z t && (wfE z hi && wfSs z b))
 | .forZ x _ y _ _ _ zz _ a c _ b _ => (isFrom z zz [.globalImplicit] && isBi zz .zip) && isFrom z x [.local, .cell] && (isFrom z y [.local, .cell] && (wfE z a && (wfE z c && wfSs z b)))
 | .rse c x _ args _ _ => (isFrom z x [.globalImplicit] && isFn x 41) && wfEs z args
 | .exp e _ => wfE z e && !isComp e
 | .raw _ => true
noncomputable def wfSs (z : Nms) : List S → Bool
 | [] => true
 | s :: l => wfS z s && wfSs z l
end
inductive GlobV (base : Heap) (mg mb : Str → Option Value) (x : Nat) (v : AV) : Prop
 | mk (u : Value) : (∀ M, VR base M 0 v u) → (mg (nm x) = some u ∨ (mg (nm x) = none ∧ mb (nm x) = some u)) → GlobV base mg mb x v
inductive GlobR (base : Heap) : Prop
 | mk (mg mb : Str → Option Value) : base.Ns mainGlobals mg → base.Ns builtinsNs mb → (∀ x v, tb.glob x = some v → GlobV base mg mb x v) → GlobR base
structure BaseOk (w : World) (base : Heap) (K : Frag) : Prop where
 kin : K.In base
 cls : ∀ c, (tb.cls c).isSome = true → plainGet K c Str.empty = true ∧ hasDictIn K c = true ∧ plainOver K c = true ∧ findIn K (.ref c) "__setattr__" = some (some (.builtin "object.__setattr__")) ∧ makesIn K c = true
 attr : ∀ c x, (tb.cls c).isSome = true → x < 202 → badAt x = false → findIn K (.ref c) (nm x) = some ((tb.meth c x).map Value.ref)
 meth : ∀ c x f, tb.meth c x = some f → typeIn K (.ref f) = some (.type "function") ∧ specialIn K (.ref f) "__get__" = some (some (.builtin "function.__get__")) ∧ takesIn K (.ref f) = some false
 sysm : ∃ o, base.get? sysModules = some o
 glob : GlobR base
 nodbg : ∀ x, x < 202 → (nm x == ("__debug__" : Str)) = false
 nocd : ∀ x, x < 202 → (nm x == ("__classdict__" : Str)) = false
 nocopy : ∀ x, x < 202 → copiedNames.contains (nm x) = false
 inj : ∀ x y, x < 202 → y < 202 → nm x = nm y → x = y
 limit : base.NoLimit
inductive ExcP {α : Type} (w : World) (base : Heap) (M : Mp) (H : AH) (s : Shared) (r : R α) (x : Value) (s' : Shared) : Prop
 | mk (c : List Nat) (H' : AH) (M' : Mp) : r = .exc c H' → Go w base M H s M' H' s' → Flies base s'.heap x c → ExcP w base M H s r x s'
inductive EvQ (w : World) (base : Heap) (M : Mp) (H : AH) (s : Shared) (r : R AV) (v : Value) (s' : Shared) : Prop
 | mk (av : AV) (H' : AH) (M' : Mp) : r = .ok av H' → Go w base M H s M' H' s' → VR s'.heap M' H'.length av v → EvQ w base M H s r v s'
inductive EvsQ (w : World) (base : Heap) (M : Mp) (H : AH) (s : Shared) (r : R (List AV)) (v : List Value) (s' : Shared) : Prop
 | mk (av : List AV) (H' : AH) (M' : Mp) : r = .ok av H' → Go w base M H s M' H' s' → VRs s'.heap M' H'.length av v → EvsQ w base M H s r v s'
inductive TeQ (w : World) (base : Heap) (M : Mp) (H : AH) (s : Shared) (r : R Bool) (b : Bool) (s' : Shared) : Prop
 | mk (H' : AH) (M' : Mp) : r = .ok b H' → Go w base M H s M' H' s' → TeQ w base M H s r b s'
def FlR (h : Heap) (M : Mp) (n : Nat) : Fl → Flow → Prop
 | .next, f => f = .next
 | .ret v, f => ∃ u, f = .ret u ∧ VR h M n v u
inductive ExQ (w : World) (base : Heap) (z : Nms) (env : Env) (l : List Env) (M : Mp) (H : AH) (s : Shared) (r : R (Fl × Fr)) (f : Flow) (s' : Shared) : Prop
 | mk (fl : Fl) (fr' : Fr) (H' : AH) (M' : Mp) : r = .ok (fl, fr') H' → GoF w base z env M H s M' H' s' → FrR base z env fr' H'.length M' s'.heap → FrOk base s'.heap l → FlR s'.heap M' H'.length fl f → ExQ w base z env l M H s r f s'
inductive ExcF {α : Type} (w : World) (base : Heap) (z : Nms) (env : Env) (l : List Env) (M : Mp) (H : AH) (s : Shared) (r : R α) (x : Value) (s' : Shared) : Prop
 | mk (c : List Nat) (H' : AH) (M' : Mp) : r = .exc c H' → GoF w base z env M H s M' H' s' → Flies base s'.heap x c → FrOk base s'.heap l → ExcF w base z env l M H s r x s'
inductive AsgQ (w : World) (base : Heap) (z : Nms) (env : Env) (l : List Env) (M : Mp) (H : AH) (s : Shared) (r : R Fr) (s' : Shared) : Prop
 | mk (fr' : Fr) (H' : AH) (M' : Mp) : r = .ok fr' H' → GoF w base z env M H s M' H' s' → FrR base z env fr' H'.length M' s'.heap → FrOk base s'.heap l → AsgQ w base z env l M H s r s'
structure SitC (w : World) (base : Heap) (A : Around) (d : Nat) (l : List Env) (M : Mp) (H : AH) (s : Shared) : Prop where
 aok : AOk A d l
 frs : FrOk base s.heap l
 rel : Rel w base M H s.heap
 stays : base.StaysIn s.heap
structure FnOk (base : Heap) (K : Frag) (a : Addr) (f : Fn) (o : Obj) (fd : FuncData) : Prop where
 at_ : K.lookup a = some o
 cls : o.cls = .type "function"
 data : o.data = .func fd
 body : fd.body = .stmts (Mine.S.pys nm f.body)
 kind : fd.scope.kind = .function
 names : fd.scope.names = f.names.map fun y => (nm y.1, y.2)
 gen : fd.scope.isGenerator = false
 cor : fd.scope.isCoroutine = false
 globals : fd.globals = mainGlobals
 builtins : fd.builtins = builtinsNs
 closure : fd.closure = []
 code : base.CodeRec fd.code fd.qualname
 wf : wfSs f.names f.body = true
 ids : ∀ y ∈ f.names, y.1 < 202
 params : ∀ x ∈ f.params, isFrom f.names x [.local, .cell] = true
 nofree : ∀ y ∈ f.names, y.2 ≠ .free
 lam : lookA f.names 195 = some .globalImplicit → fd.code = .ref lawCode ∧ fd.qualname = "law"
def IterAt (h : Heap) (M : Mp) (n : Nat) (it : Addr) (q : Src) (vs : List AV) : Prop := match q with
 | .fix => (∃ t items i, h.IsTupleIter it t i ∧ h.IsTuple t items ∧ VRs h M n vs (items.toList.drop i)) ∨
  (∃ x k, IsRangeIter h it x (Int.ofNat k) 1 ∧ vs = (List.range k).map fun i => .int (x + Int.ofNat i))
 | .lst j l => j < n ∧ ∃ i, h.IsListIter it (M.a j) i ∧ vs = l.drop i
inductive CallOk (w : World) (base : Heap) (M : Mp) (H : AH) (s : Shared) (r : R AV) (f : Flow) (s' : Shared) : Prop
 | mk (v : Value) (av : AV) (H' : AH) (M' : Mp) : f = .ret v → r = .ok av H' → Go w base M H s M' H' s' → VR s'.heap M' H'.length av v → CallOk w base M H s r f s'
def CallR (w : World) (base : Heap) (M : Mp) (H : AH) (s : Shared) (r : R AV) (q : Result) (s' : Shared) : Prop := match q with
 | .ok f => CallOk w base M H s r f s'
 | .error x => ExcP w base M H s r x s'
def LoopR (w : World) (base : Heap) (z : Nms) (env : Env) (l : List Env) (M : Mp) (H : AH) (s : Shared) (r : R (Fl × Fr)) (q : Result) (s' : Shared) : Prop := match q with
 | .ok f => ExQ w base z env l M H s r f s'
 | .error _ => False
inductive CmpR (w : World) (base : Heap) (z : Nms) (env : Env) (l : List Env) (M : Mp) (H : AH) (s : Shared) (la : Addr) (r : R (List AV)) (q : Result) (s' : Shared) : Prop
 | mk (f : Flow) (vs : List AV) (H' : AH) (M' : Mp) (xs : Array Value) (ep : Nat) (fr' : Fr) : q = .ok f → r = .ok vs H' → GoF w base z env M H s M' H' s' → FrR base z env fr' H'.length M' s'.heap → FrOk base s'.heap l → s'.heap.get? la = some { cls := .type "list", data := .seq xs ep } → VRs s'.heap M' H'.length vs xs.toList → ¬ Owned M' H'.length la → vs.length ≤ 10000 → CmpR w base z env l M H s la r q s'
def Binds (w : World) (s : Shared) (fd : FuncData) (f : Fn) (us' us : List Value) : Prop :=
 ∀ {A' : Around} {Q : List (Str × Value) → Shared → Prop} {E : Value → Shared → Prop}, Q ((f.params.map nm).zip us) s → wpAny (model PW w) A' (bindArgs fd ⟨us', []⟩) Q E s
section
variable (w : World) (base : Heap) (K : Frag)
structure Snd (n : Nat) : Prop where
 runF : ∀ {d H f vs r a}, Mine.runF tb n d H f vs = r → r ≠ .bad → ∀ {A l M s us us' o fd}, FnOk base K a f o fd → SitC w base A d l M H s → VRs s.heap M H.length vs us → Binds w s fd f us' us →
  codeAny (model PW w) A (.call (.ref a) ⟨us', []⟩) (CallR w base M H s r) s
 callF : ∀ {d H g vs r}, Mine.callF tb n d H g vs = r → r ≠ .bad → ∀ {A l M s u us}, SitC w base A d l M H s → VR s.heap M H.length g u → VRs s.heap M H.length vs us →
  wpAny (model PW w) A (call u us) (EvQ w base M H s r) (ExcP w base M H s r) s
 ev : ∀ {d fr H e r}, ev tb n d fr H e = r → r ≠ .bad → ∀ {A l z env M s}, wfE z e = true → Sit w base A d l z env fr M H s →
  wpAny (model PW w) A (eval (e.py nm) env) (EvQ w base M H s r) (ExcP w base M H s r) s
 evo : ∀ {d fr H e r}, Mine.evo tb n d fr H e = r → r ≠ .bad → ∀ {A l z env M s}, wfEo z e = true → Sit w base A d l z env fr M H s →
  wpAny (model PW w) A (evalPart (E.pyo nm e) env) (EvQ w base M H s r) (ExcP w base M H s r) s
 te : ∀ {d fr H e r}, te tb n d fr H e = r → r ≠ .bad → ∀ {A l z env M s}, wfE z e = true → Sit w base A d l z env fr M H s →
  wpAny (model PW w) A (isTrue (e.py nm) env (eval (e.py nm) env)) (TeQ w base M H s r) (ExcP w base M H s r) s
 teA : ∀ {d fr H e r}, teA tb n d fr H e = r → r ≠ .bad → ∀ {A l z env M s}, wfEs z e = true → Sit w base A d l z env fr M H s →
  wpAny (model PW w) A (allTrue .And (E.pys nm e) env) (TeQ w base M H s r) (ExcP w base M H s r) s
 teO : ∀ {d fr H e r}, teO tb n d fr H e = r → r ≠ .bad → ∀ {A l z env M s}, wfEs z e = true → Sit w base A d l z env fr M H s →
  wpAny (model PW w) A (allTrue .Or (E.pys nm e) env) (TeQ w base M H s r) (ExcP w base M H s r) s
 evs : ∀ {d fr H e r}, evs tb n d fr H e = r → r ≠ .bad → ∀ {A l z env M s p}, wfEs z e = true → Sit w base A d l z env fr M H s →
  wpAny (model PW w) A (spliced (backTo p (starEach (E.pys nm e) env))) (EvsQ w base M H s r) (ExcP w base M H s r) s
 ex : ∀ {d fr H e r}, Mine.ex tb n d fr H e = r → r ≠ .bad → ∀ {A l z env M s}, wfS z e = true → Sit w base A d l z env fr M H s →
  wpAny (model PW w) A (exec (e.py nm) env) (ExQ w base z env l M H s r) (ExcF w base z env l M H s r) s
 exs : ∀ {d fr H e r}, exs tb n d fr H e = r → r ≠ .bad → ∀ {A l z env M s}, wfSs z e = true → Sit w base A d l z env fr M H s →
  wpAny (model PW w) A (execs (S.pys nm e) env) (ExQ w base z env l M H s r) (ExcF w base z env l M H s r) s
 asg : ∀ {d fr H t v r}, asg tb n d fr H t v = r → r ≠ .bad → ∀ {A l z env M s u}, wfT z t = true → Sit w base A d l z env fr M H s → VR s.heap M H.length v u →
  wpAny (model PW w) A (assign (t.py nm) env u) (fun _ s' => AsgQ w base z env l M H s r s') (fun _ _ => False) s
 asgs : ∀ {d fr H t v r}, asgs tb n d fr H t v = r → r ≠ .bad → ∀ {A l z env M s us}, wfTs z t = true → Sit w base A d l z env fr M H s → VRs s.heap M H.length v us →
  wpAny (model PW w) A (assignInOrder ((assignEach (Tg.pys nm t) env).map (·.2)) us) (fun _ s' => AsgQ w base z env l M H s r s') (fun _ _ => False) s
 forL : ∀ {d fr H q t vs b r}, Mine.forL tb n d fr H q t vs b = r → r ≠ .bad → ∀ {A l z env M s it M₀ H₀ s₀}, wfT z t = true → wfSs z b = true → Sit w base A d l z env fr M H s → GoF w base z env M₀ H₀ s₀ M H s → s₀.heap.get? it = none → base.get? it = none → IterAt s.heap M H.length it q vs →
  codeAny (model PW w) A (.forLoop (t.py nm) (.ref it) (S.pys nm b) [] env) (LoopR w base z env l M₀ H₀ s₀ r) s
 cmpL : ∀ {d fr H q x el vs acc r}, Mine.cmpL tb n d fr H q x el vs acc = r → r ≠ .bad → ∀ {A l z env M s it la xs ep M₀ H₀ s₀} {px : Pos} {iter : Expr} {scope : Scope} {pos : Pos}, isFrom z x [.local, .cell] = true → wfE z el = true → Sit w base A d l z env fr M H s → GoF w base z env M₀ H₀ s₀ M H s →
  s₀.heap.get? it = none → base.get? it = none → IterAt s.heap M H.length it q vs → s.heap.get? la = some { cls := .type "list", data := .seq xs ep } → VRs s.heap M H.length acc xs.toList → ¬ Owned M H.length la → s₀.heap.get? la = none → base.get? la = none → acc.length + vs.length ≤ 10000 →
  codeAny (model PW w) A (.compLoop (.ListComp (el.py nm) [⟨.Name (nm x) px, iter, [], 0⟩] scope pos) 0 (.ref it) (.ref la) env) (CmpR w base z env l M₀ H₀ s₀ la r) s
 whl : ∀ {d fr H t b r}, whl tb n d fr H t b = r → r ≠ .bad → ∀ {A l z env M s M₀ H₀ s₀}, wfE z t = true → wfSs z b = true → Sit w base A d l z env fr M H s → GoF w base z env M₀ H₀ s₀ M H s →
  codeAny (model PW w) A (.whileLoop (t.py nm) (S.pys nm b) [] env) (LoopR w base z env l M₀ H₀ s₀ r) s
end
section
variable {K : Frag} {w : World} {base : Heap} {n : Nat} {A : Around} {d : Nat} {l : List Env} {z : Nms} {env : Env} {fr : Fr} {M : Mp} {H : AH} {s : Shared}
theorem bind_bad {α β : Type} {x : R α} {f : α → AH → R β} {r : R β} (e : x.bind f = r) (hb : r ≠ .bad) : x ≠ .bad := by
 rintro rfl; exact hb e.symm
theorem bind_exc {α β : Type} {x : R α} {f : α → AH → R β} {r : R β} {c : List Nat} {H' : AH} (e : x.bind f = r) (q : x = .exc c H') : r = .exc c H' := by
 subst q; exact e.symm
theorem bind_ok {α β : Type} {x : R α} {f : α → AH → R β} {r : R β} {a : α} {H' : AH} (e : x.bind f = r) (q : x = .ok a H') : f a H' = r := by
 subst q; exact e
theorem ExcP.pass {α β : Type} {x : R α} {f : α → AH → R β} {r : R β} (e : x.bind f = r) {M₀ : Mp} {H₀ : AH} {s₀ : Shared} (g : Go w base M₀ H₀ s₀ M H s) {v : Value} {s' : Shared} (q : ExcP w base M H s x v s') : ExcP w base M₀ H₀ s₀ r v s' := by
 obtain ⟨c, H', M', h1, h2, h3⟩ := q
 exact ⟨c, H', M', bind_exc e h1, g.trans h2, h3⟩
theorem Snd.evB {α : Type} (S : Snd w base K n) {fr : Fr} {e : E} {f : AV → AH → R α} {r : R α} (hr : (Mine.ev tb n d fr H e).bind f = r) (hb : r ≠ .bad) (hw : wfE z e = true) (T : Sit w base A d l z env fr M H s)
 {M₀ : Mp} {H₀ : AH} {s₀ : Shared} (g : Go w base M₀ H₀ s₀ M H s) {Q : Value → Shared → Prop}
 (k : ∀ av H' M' v s', f av H' = r → Go w base M H s M' H' s' → VR s'.heap M' H'.length av v → Q v s') :
 wpAny (model PW w) A (eval (e.py nm) env) Q (ExcP w base M₀ H₀ s₀ r) s :=
 wpAny_mono (S.ev rfl (bind_bad hr hb) hw T) (fun v s' ⟨av, H', M', h1, h2, h3⟩ => k av H' M' v s' (bind_ok hr h1) h2 h3) fun v s' q => q.pass hr g
theorem Snd.teB {α : Type} (S : Snd w base K n) {fr : Fr} {e : E} {f : Bool → AH → R α} {r : R α} (hr : (Mine.te tb n d fr H e).bind f = r) (hb : r ≠ .bad) (hw : wfE z e = true) (T : Sit w base A d l z env fr M H s)
 {M₀ : Mp} {H₀ : AH} {s₀ : Shared} (g : Go w base M₀ H₀ s₀ M H s) {Q : Bool → Shared → Prop}
 (k : ∀ b H' M' s', f b H' = r → Go w base M H s M' H' s' → Q b s') :
 wpAny (model PW w) A (isTrue (e.py nm) env (eval (e.py nm) env)) Q (ExcP w base M₀ H₀ s₀ r) s :=
 wpAny_mono (S.te rfl (bind_bad hr hb) hw T) (fun v s' ⟨H', M', h1, h2⟩ => k v H' M' s' (bind_ok hr h1) h2) fun v s' q => q.pass hr g
theorem Snd.evsB {α : Type} (S : Snd w base K n) {fr : Fr} {e : List E} {f : List AV → AH → R α} {r : R α} (hr : (Mine.evs tb n d fr H e).bind f = r) (hb : r ≠ .bad) (hw : wfEs z e = true) (T : Sit w base A d l z env fr M H s)
 {M₀ : Mp} {H₀ : AH} {s₀ : Shared} (g : Go w base M₀ H₀ s₀ M H s) {Q : List Value → Shared → Prop} {p : Pos}
 (k : ∀ av H' M' v s', f av H' = r → Go w base M H s M' H' s' → VRs s'.heap M' H'.length av v → Q v s') :
 wpAny (model PW w) A (spliced (backTo p (starEach (E.pys nm e) env))) Q (ExcP w base M₀ H₀ s₀ r) s :=
 wpAny_mono (S.evs rfl (bind_bad hr hb) hw T) (fun v s' ⟨av, H', M', h1, h2, h3⟩ => k av H' M' v s' (bind_ok hr h1) h2 h3) fun v s' q => q.pass hr g
theorem and1 {a b : Bool} (h : (a && b) = true) : a = true := by cases a <;> simp_all
theorem and2 {a b : Bool} (h : (a && b) = true) : b = true := by cases a <;> simp_all
theorem Rel.lt (x : Rel w base M H s.heap) {i : Nat} (hi : i < H.length) : M.a i < s.heap.objs.size ∧ M.d i < s.heap.objs.size := by
 have : ∃ o, nth H i = some o := by
  clear x
  induction H generalizing i with
  | nil => contradiction
  | cons a r ih =>
   induction i using Nat.casesAuxOn with
   | zero => exact ⟨a, rfl⟩
   | succ i => exact ih (Nat.lt_of_succ_lt_succ hi)
 obtain ⟨o, ho⟩ := this
 have q := x.obj i o ho
 induction o using AO.casesOn with
 | list l => obtain ⟨xs, ep, g, r, z, q⟩ := q; exact ⟨Heap.lt_size g, q ▸ Heap.lt_size g⟩
 | junk b => obtain ⟨xs, ep, g, r, z, q⟩ := q; exact ⟨Heap.lt_size g, q ▸ Heap.lt_size g⟩
 | fix l o => obtain ⟨g, ⟨xs, ep, e, r⟩, z, q⟩ := q; exact ⟨Heap.lt_size g, q ▸ Heap.lt_size g⟩
 | dict es => obtain ⟨f, ⟨o, es', ep, g, r⟩, dl, z, q, y⟩ := q; exact ⟨Heap.lt_size g, q ▸ Heap.lt_size g⟩
 | book es => obtain ⟨xs, ep, bxs, g, r, z, q, _⟩ := q; exact ⟨Heap.lt_size g, q ▸ Heap.lt_size g⟩
 | inst c at_ => obtain ⟨m, xs, ep, g, gd, r⟩ := q; exact ⟨Heap.lt_size g, Heap.lt_size gd⟩
theorem TabOk.go {h h' : Heap} (x : TabOk h) (k : ∀ b o, h.get? b = some o → o.cls = .none ∨ o.cls = .type "code" → h'.get? b = some o) : TabOk h' := by
 obtain ⟨ps, g, t, r⟩ := x
 refine ⟨ps, k _ _ g (.inl rfl), t, fun pos cv e => ?_⟩
 obtain ⟨c, o, vs, tq, e1, ho, hc, hd, hq⟩ := r pos cv e
 exact ⟨c, o, vs, tq, e1, k _ _ ho (.inr hc), hc, hd, hq⟩
theorem Rel.grow (x : Rel w base M H s.heap) {s' : Shared} (k : ∀ b o, s.heap.get? b = some o → s'.heap.get? b = some o) : Rel w base M H s'.heap :=
 ⟨fun i o e => (x.obj i o e).go (fun b o e _ => k b o e) (.refl _ _) (Nat.le_refl _) (by
  clear x
  induction H generalizing i with
  | nil => contradiction
  | cons a r ih => induction i using Nat.casesAuxOn with
   | zero => exact Nat.zero_lt_succ _
   | succ i => exact Nat.succ_lt_succ (ih i e)) (fun o e => k _ o e) fun o e => k _ o e, x.apart, x.fresh, x.tab.go fun b o e _ => k b o e⟩
theorem Sit.grow (T : Sit w base A d l z env fr M H s) {s' : Shared} (k : ∀ b o, s.heap.get? b = some o → s'.heap.get? b = some o) (sm : Same s s') : Go w base M H s M H s' :=
 ⟨T.rel.grow k, .refl _ _, Nat.le_refl _, .keeps k, sm, fun b o e => k b o (T.stays b o e), .keeps k⟩
theorem nth_lt {α : Type} : ∀ {H : List α} {i : Nat} {o : α}, nth H i = some o → i < H.length
 | [], _, _, h => by contradiction
 | _ :: _, 0, _, _ => Nat.zero_lt_succ _
 | _ :: r, i + 1, o, h => Nat.succ_lt_succ (nth_lt (H := r) h)
theorem nth_app_lt {α : Type} : ∀ {H : List α} {i : Nat} {o : α}, i < H.length → nth (H ++ [o]) i = nth H i
 | [], _, _, h => by contradiction
 | _ :: _, 0, _, _ => rfl
 | _ :: r, i + 1, o, h => nth_app_lt (H := r) (Nat.lt_of_succ_lt_succ h)
theorem nth_app_at {α : Type} : ∀ {H : List α} {o : α}, nth (H ++ [o]) H.length = some o
 | [], _ => rfl
 | _ :: r, _ => nth_app_at (H := r)
noncomputable def Mp.add (M : Mp) (n a d : Nat) : Mp := ⟨fun i => if i = n then a else M.a i, fun i => if i = n then d else M.d i⟩
theorem Mp.add_ext (M : Mp) (n a d : Nat) : Ext n M (M.add n a d) := fun i hi => ⟨if_neg (Nat.ne_of_lt hi), if_neg (Nat.ne_of_lt hi)⟩
theorem Rel.new (x : Rel w base M H s.heap) (st : base.StaysIn s.heap) {s' : Shared} (k : ∀ b o, s.heap.get? b = some o → s'.heap.get? b = some o) {a dd : Addr} {o : AO} (ha : s.heap.objs.size ≤ a) (hd : s.heap.objs.size ≤ dd)
 (ho : OR w s'.heap (M.add H.length a dd) (H.length + 1) H.length o) : Rel w base (M.add H.length a dd) (H ++ [o]) s'.heap := by
 have ln : (H ++ [o]).length = H.length + 1 := by simp
 have fr : ∀ b, s.heap.objs.size ≤ b → base.get? b = none := fun b hb => by
  cases hq : base.get? b with
  | none => rfl
  | some o => exact absurd (Heap.lt_size (st b o hq)) (Nat.not_lt.mpr hb)
 have old : ∀ i, i < H.length → (M.add H.length a dd).a i = M.a i ∧ (M.add H.length a dd).d i = M.d i := fun i hi => M.add_ext _ a dd i hi
 have new : (M.add H.length a dd).a H.length = a ∧ (M.add H.length a dd).d H.length = dd := ⟨if_pos rfl, if_pos rfl⟩
 refine ⟨fun i o' e => ?_, fun i j hi hj ne => ?_, fun i hi => ?_, x.tab.go fun b o e _ => k b o e⟩
 · have hi := nth_lt e
   rw [ln] at hi ⊢
   rcases Nat.lt_succ_iff_lt_or_eq.mp hi with hi | hi
   · rw [nth_app_lt hi] at e
     exact (x.obj i o' e).go (fun b o e _ => k b o e) (M.add_ext _ _ _) (Nat.le_succ _) hi (fun o e => k _ o e) fun o e => k _ o e
   · subst hi
     rw [nth_app_at] at e; injection e with e; subst e; exact ho
 · rw [ln] at hi hj
   rcases Nat.lt_succ_iff_lt_or_eq.mp hi with hi | hi <;> rcases Nat.lt_succ_iff_lt_or_eq.mp hj with hj | hj
   · rw [(old i hi).1, (old i hi).2, (old j hj).1, (old j hj).2]; exact x.apart i j hi hj ne
   · subst hj
     rw [(old i hi).1, (old i hi).2, new.1, new.2]
     exact ⟨Nat.ne_of_lt (Nat.lt_of_lt_of_le (x.lt hi).1 ha), Nat.ne_of_lt (Nat.lt_of_lt_of_le (x.lt hi).1 hd), Nat.ne_of_lt (Nat.lt_of_lt_of_le (x.lt hi).2 hd)⟩
   · subst hi
     rw [(old j hj).1, (old j hj).2, new.1, new.2]
     exact ⟨Nat.ne_of_gt (Nat.lt_of_lt_of_le (x.lt hj).1 ha), Nat.ne_of_gt (Nat.lt_of_lt_of_le (x.lt hj).2 ha), Nat.ne_of_gt (Nat.lt_of_lt_of_le (x.lt hj).2 hd)⟩
   · exact absurd (hi.trans hj.symm) ne
 · rw [ln] at hi
   rcases Nat.lt_succ_iff_lt_or_eq.mp hi with hi | hi
   · rw [(old i hi).1, (old i hi).2]; exact x.fresh i hi
   · subst hi; rw [new.1, new.2]; exact ⟨fr _ ha, fr _ hd⟩
theorem Sit.new (T : Sit w base A d l z env fr M H s) {s' : Shared} (k : ∀ b o, s.heap.get? b = some o → s'.heap.get? b = some o) (sm : Same s s') {a dd : Addr} {o : AO} (ha : s.heap.objs.size ≤ a) (hd : s.heap.objs.size ≤ dd)
 (ho : OR w s'.heap (M.add H.length a dd) (H.length + 1) H.length o) : Go w base M H s (M.add H.length a dd) (H ++ [o]) s' :=
 ⟨T.rel.new T.stays k ha hd ho, M.add_ext _ _ _, by simp, .keeps k, sm, fun b o e => k b o (T.stays b o e), fun b o e => ⟨o, k b o e⟩, fun i h1 h2 => by
  have h2 : i < H.length + 1 := by simpa using h2
  obtain rfl : i = H.length := Nat.le_antisymm (Nat.le_of_lt_succ h2) h1
  have e1 : (M.add H.length a dd).a H.length = a := if_pos rfl
  have e2 : (M.add H.length a dd).d H.length = dd := if_pos rfl
  rw [e1, e2]
  exact ⟨Heap.get?_none_of_le ha, Heap.get?_none_of_le hd⟩, fun b o e _ _ _ => k b o e⟩
end
section
variable {K : Frag} {w : World} {base : Heap} {n : Nat} {A : Around} {d : Nat} {l : List Env} {z : Nms} {env : Env} {fr : Fr} {M : Mp} {H : AH} {s : Shared} {r : R AV}
theorem Snd.c (S : Snd w base K n) {v : AV} {k : Nat} {p : Pos} (hr : Mine.ev tb (n + 1) d fr H (.c v k p) = r) (hb : r ≠ .bad) (hw : wfE z (.c v k p) = true) (T : Sit w base A d l z env fr M H s) :
 wpAny (model PW w) A (eval (E.py nm (.c v k p)) env) (EvQ w base M H s r) (ExcP w base M H s r) s := by
 subst hr
 dsimp only [Mine.ev] at hb ⊢
 induction v using AV.casesOn with
 | none => exact wpAny_Constant_none ⟨.none, H, M, rfl, T.refl, rfl⟩
 | bool b => exact wpAny_Constant_bool ⟨.bool b, H, M, rfl, T.refl, rfl⟩
 | int i => exact wpAny_Constant_int ⟨.int i, H, M, rfl, T.refl.tok _, ⟨_, rfl⟩⟩
 | str x => exact Constant_str ⟨.str x, H, M, rfl, T.refl.tok _, ⟨Nat.le_of_ble_eq_true hw, _, rfl⟩⟩
 | _ => contradiction
theorem ifL {z : Nms} {x : Nat} {ks : List NameKind} (h : isFrom z x ks = true) : x < 202 := Nat.le_of_ble_eq_true (and1 h)
theorem ifK {z : Nms} {x : Nat} {ks : List NameKind} (h : isFrom z x ks = true) : ∃ k, lookA z x = some k ∧ k ∈ ks := by
 have := and2 h
 split at this
 · rename_i k e; exact ⟨k, e, by simpa using this⟩
 · contradiction
theorem FrR.get {u : AV} {x : Nat} {p : Pos} (B : BaseOk w base K) {Q : Value → Shared → Prop} {E : Value → Shared → Prop} (F : FrR base z env fr H.length M s.heap) (e : look fr x = some u)
 (q : ∀ v, VR s.heap M H.length u v → Q v s) : wpAny (model PW w) A (eval (.Name (nm x) p) env) Q E s := by
 obtain ⟨ok, _, _, ⟨m, f, g⟩, _⟩ := F
 obtain ⟨hx, v, hv, hk⟩ := g x u e
 refine wpAny_Name ?_ (B.nodbg x hx)
 rcases hk with ⟨k, hm⟩ | ⟨k, c, hc, hcell⟩
 · exact wpAny_loadName_local ok.kind (ok.is hx k (by decide)) f.ns hm (q v hv)
 · rcases k with k | k
   · exact wpAny_loadName_cell ok.kind (ok.is hx k (by decide)) hc hcell.is (q v hv)
   · rcases ok.free hx k with k | k
     · exact wpAny_loadName_free ok.kind k hc hcell.is (q v hv) (B.nocd x hx)
     · exact wpAny_loadName_cell ok.kind k hc hcell.is (q v hv)
theorem Snd.loc (B : BaseOk w base K) (S : Snd w base K n) {x : Nat} {p : Pos} (hr : Mine.ev tb (n + 1) d fr H (.loc x p) = r) (hb : r ≠ .bad) (hw : wfE z (.loc x p) = true) (T : Sit w base A d l z env fr M H s) :
 wpAny (model PW w) A (eval (E.py nm (.loc x p)) env) (EvQ w base M H s r) (ExcP w base M H s r) s := by
 subst hr
 dsimp only [Mine.ev] at hb ⊢
 induction e : look fr x using Option.casesOn with
 | none => rw [e] at hb; exact absurd rfl hb
 | some u => exact T.fr.get B e fun v hv => ⟨u, H, M, rfl, T.refl, hv⟩
theorem Snd.gl (B : BaseOk w base K) (S : Snd w base K n) {x : Nat} {p : Pos} (hr : Mine.ev tb (n + 1) d fr H (.gl x p) = r) (hb : r ≠ .bad) (hw : wfE z (.gl x p) = true) (T : Sit w base A d l z env fr M H s) :
 wpAny (model PW w) A (eval (E.py nm (.gl x p)) env) (EvQ w base M H s r) (ExcP w base M H s r) s := by
 subst hr
 dsimp only [Mine.ev] at hb ⊢
 refine ob12 (ifK hw) fun k hk hm => ?_
 obtain rfl : k = .globalImplicit := by simpa using hm
 have ok := T.fr.ok
 induction e : tb.glob x using Option.casesOn with
 | none => rw [e] at hb; exact absurd rfl hb
 | some u =>
  obtain ⟨mg, mb, hg, hbb, hv⟩ := B.glob
  obtain ⟨v, hv, hn⟩ := hv x u e
  have ng : s.heap.Ns env.globals mg := ok.globals ▸ hg.keeps T.stays
  have nb : s.heap.Ns env.builtins mb := ok.builtins ▸ hbb.keeps T.stays
  have q : EvQ w base M H s (.ok u H) v s := ⟨u, H, M, rfl, T.refl, (hv M).go (fun b o e _ => T.stays b o e) (.refl _ _) (Nat.zero_le _)⟩
  refine Name_function_global ok.kind (ok.is (ifL hw) hk (by decide)) ?_ (B.nodbg x (ifL hw))
  rcases hn with h | ⟨h, h2⟩
  · exact loadGlobal_global ng h q
  · exact loadGlobal_builtin ng h nb h2 q
theorem small_lt {i : Int} (h : small i = true) : i.natAbs < 2 ^ 64 := by
 induction i using Int.casesOn with
 | ofNat k => exact Nat.lt_of_succ_le (Nat.le_of_ble_eq_true h)
 | negSucc k => have h1 : k + 1 ≤ 18446744073709551615 := Nat.le_of_ble_eq_true h; exact Nat.lt_succ_of_le h1
theorem sm_ok {i : Int} {H : AH} (h : sm i H ≠ .bad) : sm i H = .ok (.int i) H := by
 unfold sm at h ⊢
 induction e : small i using Bool.casesOn with
 | true => rfl
 | false => rw [e] at h; exact absurd rfl h
theorem EvQ.here (T : Sit w base A d l z env fr M H s) {v : AV} {u : Value} (e : r = .ok v H) (h : VR s.heap M H.length v u) : EvQ w base M H s r u s := ⟨v, H, M, e, T.refl, h⟩
theorem EvQ.tok (T : Sit w base A d l z env fr M H s) {v : AV} {u : Value} {t : Nat} (e : r = .ok v H) (h : VR s.heap M H.length v u) : EvQ w base M H s r u { s with toks := t } := ⟨v, H, M, e, T.refl.tok t, h⟩
theorem EvQ.from {M₀ : Mp} {H₀ : AH} {s₀ : Shared} (g : Go w base M₀ H₀ s₀ M H s) {u : Value} {s' : Shared} (q : EvQ w base M H s r u s') : EvQ w base M₀ H₀ s₀ r u s' := by
 obtain ⟨a, H', M', e, g', v⟩ := q
 exact ⟨a, H', M', e, g.trans g', v⟩
theorem two {α : Type} {a b : Bool} {u r : R α} (h : (match a, b with | true, true => u | _, _ => .bad) = r) (hb : r ≠ .bad) : a = true ∧ b = true ∧ u = r := by
 cases a <;> cases b <;> first | exact ⟨rfl, rfl, h⟩ | exact absurd h.symm hb
theorem one {α : Type} {a : Bool} {u r : R α} (h : (match a with | true => u | false => .bad) = r) (hb : r ≠ .bad) : a = true ∧ u = r := by
 cases a <;> first | exact ⟨rfl, h⟩ | exact absurd h.symm hb
theorem bop_int (T : Sit w base A d l z env fr M H s) {op : BOp} {x y : Int} {t u : Tok} (hr : bop op (.int x) (.int y) H = r) (hb : r ≠ .bad) {E : Value → Shared → Prop} :
 wpAny (model PW w) A (binaryOp op.py (.int x t) (.int y u)) (EvQ w base M H s r) E s := by
 have fin : ∀ {i : Int}, sm i H = r → EvQ w base M H s r (.int i s.toks) { s with toks := s.toks + 1 } := fun e => EvQ.tok T (e.symm.trans (sm_ok (e ▸ hb))) ⟨_, rfl⟩
 induction op using BOp.casesOn with
 | add => refine ob03 (two hr hb) fun _ _ e => ?_; exact add_int (fin e)
 | sub => refine ob03 (two hr hb) fun _ _ e => ?_; exact sub_int (fin e)
 | mul => refine ob03 (two hr hb) fun h1 _ e => ?_; exact mul_int (fin e) (.of_left (intBits_le (small_lt h1)))
 | fdiv => match y, hr with
  | .ofNat (k + 1), hr =>
   obtain ⟨_, hr⟩ := one hr hb
   obtain ⟨h2, e⟩ := one hr hb
   refine floordiv_int (by intro h; cases h) (fin e) (Or.inl (PyProof.noPylong_small ?_))
   have : k + 1 ≤ 1000000 := Nat.le_of_ble_eq_true h2
   show k + 1 < 1073741824
   omega
  | .ofNat 0, hr => exact absurd hr.symm hb
  | .negSucc k, hr => exact absurd hr.symm hb
 | fmod => match y, hr with
  | .ofNat (k + 1), hr =>
   obtain ⟨_, e⟩ := one hr hb
   exact mod_int' (by intro h; cases h) (EvQ.tok T e.symm ⟨_, rfl⟩)
  | .ofNat 0, hr => exact absurd hr.symm hb
  | .negSucc k, hr => exact absurd hr.symm hb
 | pow => match y, hr with
  | .ofNat k, hr =>
   refine ob03 (two hr hb) fun h1 h2 e => ?_
   have h2' : k + 1 ≤ 20 := Nat.le_of_ble_eq_true h2
   exact pow_int_small (Int.natCast_nonneg k) (show (k : Int) ≤ 1000000 by omega) (small_lt h1) (fin e)
  | .negSucc k, hr => exact absurd hr.symm hb
 | shl => match y, hr with
  | .ofNat k, hr =>
   refine ob03 (two hr hb) fun h1 h2 e => ?_
   have h2' : k + 1 ≤ 40 := Nat.le_of_ble_eq_true h2
   exact lshift_int_small (Int.natCast_nonneg k) (show (k : Int) ≤ 1000000 by omega) (small_lt h1) (fin e)
  | .negSucc k, hr => exact absurd hr.symm hb
end
section
variable {K : Frag} {w : World} {base : Heap} {n : Nat} {A : Around} {d : Nat} {l : List Env} {z : Nms} {env : Env} {fr : Fr} {M : Mp} {H : AH} {s : Shared}
theorem wnr {z : Nms} {e : E} (h : wfE z e = true) : ∀ x, e ≠ .raw x := by rintro x rfl; contradiction
theorem star {e : E} (h : ∀ x, e ≠ .raw x) {rest : List Expr} : starEach (E.py nm e :: rest) env = (false, eval (E.py nm e) env) :: starEach rest env := by
 cases e <;> first | rfl | exact absurd rfl (h _)
theorem Snd.evs1 (S : Snd w base K n) {es : List E} {p : Pos} {r : R (List AV)} (hr : Mine.evs tb (n + 1) d fr H es = r) (hb : r ≠ .bad) (hw : wfEs z es = true) (T : Sit w base A d l z env fr M H s) :
 wpAny (model PW w) A (spliced (backTo p (starEach (E.pys nm es) env))) (EvsQ w base M H s r) (ExcP w base M H s r) s := by
 induction es using List.casesOn with
 | nil =>
  dsimp only [Mine.evs] at hr
  subst hr
  exact spliced_none ⟨[], H, M, rfl, T.refl, rfl⟩
 | cons e es =>
  dsimp only [Mine.evs] at hr
  refine spliced_more ?_ (star (wnr (and1 hw)))
  refine S.evB hr hb (and1 hw) T T.refl fun av H₁ M₁ v s₁ hr₁ g₁ hv => ?_
  refine S.evsB hr₁ hb (and2 hw) (T.go g₁) g₁ fun avs H₂ M₂ vs s₂ hr₂ g₂ hvs => ?_
  exact ⟨av :: avs, H₂, M₂, hr₂.symm, g₁.trans g₂, v, vs, rfl, g₂.vr hv, hvs⟩
theorem VRs.len {h : Heap} {n : Nat} : ∀ {l : List AV} {v : List Value}, VRs h M n l v → v.length = l.length
 | [], _, x => by subst x; rfl
 | _ :: _, _, ⟨v, t, e, _, r⟩ => by subst e; simp [VRs.len r]
theorem Step.of_push {h : Heap} {o : Obj} : ∀ b o', h.get? b = some o' → (h.push o).get? b = some o' := fun _ _ e => Heap.get?_push_of_some _ e
theorem Sit.push1 (T : Sit w base A d l z env fr M H s) {ob : Obj} {o : AO} (ho : OR w (s.heap.push ob) (M.add H.length s.heap.objs.size s.heap.objs.size) (H.length + 1) H.length o) :
 Go w base M H s (M.add H.length s.heap.objs.size s.heap.objs.size) (H ++ [o]) { s with heap := s.heap.push ob } :=
 T.new (s' := { s with heap := s.heap.push ob }) Step.of_push ⟨rfl, rfl, rfl⟩ (Nat.le_refl _) (Nat.le_refl _) ho
theorem OR.list {vs : List Value} {avs : List AV} (hvs : VRs s.heap M H.length avs vs) (hl : avs.length ≤ 10000) :
 OR w (s.heap.push { cls := .type "list", data := .seq vs.toArray }) (M.add H.length s.heap.objs.size s.heap.objs.size) (H.length + 1) H.length (.list avs) := by
 have e1 : (M.add H.length s.heap.objs.size s.heap.objs.size).a H.length = s.heap.objs.size := if_pos rfl
 have e2 : (M.add H.length s.heap.objs.size s.heap.objs.size).d H.length = s.heap.objs.size := if_pos rfl
 exact ⟨_, 0, by rw [e1]; exact Heap.get?_push_size _ rfl, VRs.go (fun b o e _ => Step.of_push b o e) (Mp.add_ext _ _ _ _) (Nat.le_succ _) (by simpa using hvs), hl, by rw [e1, e2]⟩
theorem VR.new {h : Heap} {a d : Addr} {o : AO} : VR h (M.add H.length a d) (H ++ [o]).length (.obj H.length) (.ref a) := ⟨by simp, congrArg Value.ref (if_pos rfl).symm⟩
variable {r : R AV}
theorem Snd.neg (S : Snd w base K n) {a : E} {p : Pos} (hr : Mine.ev tb (n + 1) d fr H (.neg a p) = r) (hb : r ≠ .bad) (hw : wfE z (.neg a p) = true) (T : Sit w base A d l z env fr M H s) :
 wpAny (model PW w) A (eval (E.py nm (.neg a p)) env) (EvQ w base M H s r) (ExcP w base M H s r) s := by
 dsimp only [Mine.ev] at hr
 refine wpAny_UnaryOp (S.evB hr hb hw T T.refl fun av H₁ M₁ v s₁ hr₁ g₁ hv => ?_)
 induction av using AV.casesOn with
 | int i =>
  obtain ⟨t, rfl⟩ := hv
  have hr₁ : sm (-i) H₁ = r := hr₁
  exact PyProof.Rows.neg_int (EvQ.from g₁ (EvQ.tok (T.go g₁) (hr₁.symm.trans (sm_ok (hr₁ ▸ hb))) ⟨_, rfl⟩))
 | _ => exact absurd hr₁.symm hb
theorem Snd.ife (S : Snd w base K n) {t a b : E} {p : Pos} (hr : Mine.ev tb (n + 1) d fr H (.ife t a b p) = r) (hb : r ≠ .bad) (hw : wfE z (.ife t a b p) = true) (T : Sit w base A d l z env fr M H s) :
 wpAny (model PW w) A (eval (E.py nm (.ife t a b p)) env) (EvQ w base M H s r) (ExcP w base M H s r) s := by
 dsimp only [Mine.ev] at hr
 refine wpAny_IfExp (S.teB hr hb (and1 hw) T T.refl fun c H₁ M₁ s₁ hr₁ g₁ => ?_)
 cases c
 · exact wpAny_mono (S.ev hr₁ hb (and2 (and2 hw)) (T.go g₁)) (fun _ _ q => EvQ.from g₁ q) fun _ _ ⟨c, H', M', h1, h2, h3⟩ => ⟨c, H', M', h1, g₁.trans h2, h3⟩
 · exact wpAny_mono (S.ev hr₁ hb (and1 (and2 hw)) (T.go g₁)) (fun _ _ q => EvQ.from g₁ q) fun _ _ ⟨c, H', M', h1, h2, h3⟩ => ⟨c, H', M', h1, g₁.trans h2, h3⟩
theorem Snd.tup (S : Snd w base K n) {es : List E} {k : Nat} {p : Pos} (hr : Mine.ev tb (n + 1) d fr H (.tup es k p) = r) (hb : r ≠ .bad) (hw : wfE z (.tup es k p) = true) (T : Sit w base A d l z env fr M H s) :
 wpAny (model PW w) A (eval (E.py nm (.tup es k p)) env) (EvQ w base M H s r) (ExcP w base M H s r) s := by
 dsimp only [Mine.ev] at hr
 refine wpAny_Tuple (S.evsB hr hb hw T T.refl fun avs H₁ M₁ vs s₁ hr₁ g₁ hvs => ?_)
 obtain ⟨h1, hr₁⟩ := one hr₁ hb
 have hl : vs.length ≤ 1000 := by rw [hvs.len]; exact Nat.le_of_ble_eq_true h1
 refine ⟨Nat.le_trans hl (by decide), ⟨.tup avs, H₁, M₁, hr₁.symm, g₁.trans ((T.go g₁).grow Step.of_push ⟨rfl, rfl, rfl⟩), ?_⟩⟩
 exact ⟨_, _, _, 0, rfl, Heap.get?_push_size _ rfl, rfl, rfl, VRs.go (fun b o e _ => Step.of_push b o e) (.refl _ _) (Nat.le_refl _) (by simpa using hvs)⟩
theorem Snd.lst (S : Snd w base K n) {es : List E} {p : Pos} (hr : Mine.ev tb (n + 1) d fr H (.lst es p) = r) (hb : r ≠ .bad) (hw : wfE z (.lst es p) = true) (T : Sit w base A d l z env fr M H s) :
 wpAny (model PW w) A (eval (E.py nm (.lst es p)) env) (EvQ w base M H s r) (ExcP w base M H s r) s := by
 dsimp only [Mine.ev] at hr
 refine wpAny_List (S.evsB hr hb hw T T.refl fun avs H₁ M₁ vs s₁ hr₁ g₁ hvs => ?_)
 obtain ⟨h1, hr₁⟩ := one hr₁ hb
 have hl : avs.length ≤ 1000 := Nat.le_of_ble_eq_true h1
 exact ⟨by rw [hvs.len]; exact Nat.le_trans hl (by decide), ⟨_, _, _, hr₁.symm, g₁.trans ((T.go g₁).push1 (OR.list hvs (Nat.le_trans hl (by decide)))), VR.new⟩⟩
theorem Snd.dct (S : Snd w base K n) {p : Pos} (hr : Mine.ev tb (n + 1) d fr H (.dct p) = r) (hb : r ≠ .bad) (hw : wfE z (.dct p) = true) (T : Sit w base A d l z env fr M H s) :
 wpAny (model PW w) A (eval (E.py nm (.dct p)) env) (EvQ w base M H s r) (ExcP w base M H s r) s := by
 dsimp only [Mine.ev] at hr
 have e1 : (M.add H.length s.heap.objs.size s.heap.objs.size).a H.length = s.heap.objs.size := if_pos rfl
 have e2 : (M.add H.length s.heap.objs.size s.heap.objs.size).d H.length = s.heap.objs.size := if_pos rfl
 induction hp : isBook p using Bool.casesOn with
 | true =>
  rw [hp] at hr
  refine wpAny_Dict_empty ⟨_, _, _, hr.symm, T.push1 ?_, VR.new⟩
  exact ⟨#[], 0, [], by rw [e1]; exact Heap.get?_push_size _ rfl, ⟨rfl, fun _ h => absurd h List.not_mem_nil, List.nodup_nil, Nat.le_refl _⟩, Nat.zero_le _, by rw [e1, e2], fun k _ => .no⟩
 | false =>
  rw [hp] at hr
  refine wpAny_Dict_empty ⟨_, _, _, hr.symm, T.push1 ?_, VR.new⟩
  refine ⟨[], by rw [e1]; exact .new _, Nat.le_refl _, Nat.zero_le _, by rw [e1, e2], fun s => .no⟩
end
section
variable {K : Frag} {w : World} {base : Heap} {n : Nat} {A : Around} {d : Nat} {l : List Env} {z : Nms} {env : Env} {fr : Fr} {M : Mp} {H : AH} {s : Shared} {r : R AV}
theorem beqI_eq (a b : Int) : beqI a b = (a == b) := by
 induction a using Int.casesOn with
 | ofNat m => induction b using Int.casesOn with
  | ofNat n =>
   show Nat.beq m n = _
   rw [Bool.eq_iff_iff, beq_iff_eq]
   exact ⟨fun h => by rw [Nat.eq_of_beq_eq_true h], fun h => by injection h with h; subst h; exact Nat.beq_refl _⟩
  | negSucc n => rfl
 | negSucc m => induction b using Int.casesOn with
  | ofNat n => rfl
  | negSucc n =>
   show Nat.beq m n = _
   rw [Bool.eq_iff_iff, beq_iff_eq]
   exact ⟨fun h => by rw [Nat.eq_of_beq_eq_true h], fun h => by injection h with h; subst h; exact Nat.beq_refl _⟩
theorem eqN_iff : ∀ a b : List Nat, eqN a b = true ↔ a = b
 | [], [] => by trivial
 | [], _ :: _ => by simp [eqN]
 | _ :: _, [] => by simp [eqN]
 | a :: l, b :: r => by
  dsimp only [eqN]
  induction h : Nat.beq a b using Bool.casesOn with
  | true => have h := Nat.eq_of_beq_eq_true h; subst h; simp [eqN_iff l r]
  | false => have h := Nat.ne_of_beq_eq_false h; simp [h]
theorem sOi {a b : List Nat} (h : strOf a = strOf b) : a = b := by
 have := congrArg (fun s => s.cps.toList) h
 simpa [strOf] using this
theorem eqN_str (a b : List Nat) : eqN a b = (strOf a == strOf b) := by
 rw [Bool.eq_iff_iff, eqN_iff, beq_iff_eq]
 exact ⟨fun h => h ▸ rfl, sOi⟩
theorem ltI_eq (a b : Int) : ltI a b = decide (a < b) := by
 induction a using Int.casesOn with
 | ofNat m => induction b using Int.casesOn with
  | ofNat n => show Nat.blt m n = _; rw [Bool.eq_iff_iff, decide_eq_true_eq]; exact ⟨fun h => Int.ofNat_lt.mpr (Nat.le_of_ble_eq_true h), fun h => Nat.ble_eq_true_of_le (Int.ofNat_lt.mp h)⟩
  | negSucc n => show false = _; symm; rw [decide_eq_false_iff_not]; intro h; exact absurd (Int.lt_trans h (Int.negSucc_lt_zero n)) (Int.not_lt.mpr (Int.natCast_nonneg m))
 | negSucc m => induction b using Int.casesOn with
  | ofNat n => show true = _; symm; rw [decide_eq_true_eq]; exact Int.lt_of_lt_of_le (Int.negSucc_lt_zero m) (Int.natCast_nonneg n)
  | negSucc n => show Nat.blt n m = _; rw [Bool.eq_iff_iff, decide_eq_true_eq]; exact ⟨fun h => by have h : n + 1 ≤ m := Nat.le_of_ble_eq_true h; omega, fun h => Nat.ble_eq_true_of_le (by omega)⟩
theorem hasN_iff (s : List Nat) (c : Nat) : hasN s c = decide (c ∈ s) := by
 induction s with
 | nil => rfl
 | cons a l ih =>
  dsimp only [hasN]
  induction h : Nat.beq a c using Bool.casesOn with
  | true => have h := Nat.eq_of_beq_eq_true h; subst h; simp
  | false => have h := Nat.ne_of_beq_eq_false h; simp [ih, Ne.symm h]
def CmpQ (s : Shared) (b : Bool) (v : Value) (s' : Shared) : Prop := v = .bool b ∧ ∃ tk, s' = { s with toks := tk }
theorem CmpQ.here {s : Shared} {b c : Bool} (e : c = b) : CmpQ s b (.bool c) s := ⟨by rw [e], s.toks, rfl⟩
theorem CmpQ.tok {s : Shared} {b c : Bool} {t : Nat} (e : c = b) : CmpQ s b (.bool c) { s with toks := t } := ⟨by rw [e], t, rfl⟩
theorem anyEq_strs {h : Heap} {n : Nat} {x : List Nat} : ∀ {l : List AV} {vs : List Value} {b : Bool}, VRs h M n l vs → anyEq l x = some b → ∃ ys : List Str, StrsAre vs ys ∧ ys.any (· == strOf x) = b := by
 intro l
 induction l with
 | nil => intro vs b hv e; cases hv; injection e with e; subst e; exact ⟨[], .nil, rfl⟩
 | cons y l ih =>
  intro vs b hv e
  induction y using AV.casesOn with
  | str a =>
   obtain ⟨v, t, e1, ⟨_, tk, e2⟩, hr⟩ := hv
   subst e1; subst e2
   dsimp only [anyEq] at e
   induction q : anyEq l x using Option.casesOn with
   | none => rw [q] at e; contradiction
   | some c =>
    rw [q] at e
    injection e with e; subst e
    refine ob12 (ih hr q) fun ys hy hb => ?_
    exact ⟨strOf a :: ys, .cons _ _ hy, by rw [List.any_cons, hb, eqN_str]⟩
  | _ => contradiction
theorem VR.isTup {h : Heap} {n : Nat} {l : List AV} {v : Value} (x : VR h M n (.tup l) v) : ∃ a xs, v = .ref a ∧ IsTup h a xs ∧ VRs h M n l xs.toList :=
 let ⟨a, o, xs, ep, e, g, c, d, r⟩ := x; ⟨a, xs, e, ⟨o, g, c, ep, d⟩, r⟩
theorem Rel.fresh_ne (R : Rel w base M H s.heap) (i : Nat) (hi : i < H.length) {b : Addr} {o : Obj} (hb : base.get? b = some o) : (M.a i == b) = false := by
 cases q : M.a i == b with
 | false => rfl
 | true => rw [← beq_iff_eq.mp q, (R.fresh i hi).1] at hb; contradiction
mutual
theorem eqV_eq : ∀ {a b : AV}, eqV a b = true → a = b
 | .none, b, h => by
  dsimp only [eqV] at h
  split at h
  · rfl
  · contradiction
 | .bool x, b, h => by
  dsimp only [eqV] at h
  split at h
  · rw [beq_iff_eq.mp h]
  · contradiction
 | .int x, b, h => by
  dsimp only [eqV] at h
  split at h
  · rename_i y; rw [beq_iff_eq.mp ((beqI_eq x y).symm.trans h)]
  · contradiction
 | .str x, b, h => by
  dsimp only [eqV] at h
  split at h
  · rename_i y; rw [(eqN_iff x y).mp h]
  · contradiction
 | .tup x, b, h => by
  dsimp only [eqV] at h
  split at h
  · rename_i y; rw [eqVs_eq (a := x) (b := y) h]
  · contradiction
 | .lst x, b, h => by
  dsimp only [eqV] at h
  split at h
  · rename_i y; rw [eqVs_eq (a := x) (b := y) h]
  · contradiction
 | .obj x, b, h => by
  dsimp only [eqV] at h
  split at h
  · rw [Nat.eq_of_beq_eq_true h]
  · contradiction
 | .fn x, b, h => by
  dsimp only [eqV] at h
  split at h
  · rw [Nat.eq_of_beq_eq_true h]
  · contradiction
 | .meth f i, b, h => by
  dsimp only [eqV] at h
  split at h
  · rw [Nat.eq_of_beq_eq_true (and1 h), Nat.eq_of_beq_eq_true (and2 h)]
  · contradiction
 | .rpr x, b, h => by
  dsimp only [eqV] at h
  split at h
  · rename_i y; rw [eqV_eq (a := x) (b := y) h]
  · contradiction
 | .bi k, b, h => by skip; contradiction
theorem eqVs_eq : ∀ {a b : List AV}, eqVs a b = true → a = b
 | [], b, h => by
  dsimp only [eqVs] at h
  split at h
  · rfl
  · contradiction
 | x :: l, b, h => by
  dsimp only [eqVs] at h
  split at h
  · rename_i y r
    induction q : eqV x y using Bool.casesOn with
    | true => rw [q] at h; rw [eqV_eq q, eqVs_eq h]
    | false => rw [q] at h; contradiction
  · contradiction
end
theorem cmp_eq (T : Sit w base A d l z env fr M H s) {x y : AV} {a b : Value} {c : Bool} (hx : VR s.heap M H.length x a) (hy : VR s.heap M H.length y b) (h : cmpEq x y = some c) {E : Value → Shared → Prop} :
 wpAny (model PW w) A (compareOp .Eq a b) (CmpQ s c) E s := by
 dsimp only [cmpEq] at h
 split at h
 · split at h
   · obtain ⟨t, rfl⟩ := hx; obtain ⟨u, rfl⟩ := hy; injection h with h; subst h; exact eq_int (.here (beqI_eq _ _).symm)
   · contradiction
 · split at h
   · obtain ⟨_, t, rfl⟩ := hx; obtain ⟨_, u, rfl⟩ := hy; injection h with h; subst h; exact eq_str (.here (eqN_str _ _).symm)
   · contradiction
 · split at h
   · refine ob23 hx.isTup fun a xs q2_ ht _ => ?_; subst q2_
     obtain ⟨_, u, rfl⟩ := hy
     injection h with h; subst h
     exact SeqAt.RcAt.tuple_str _ _ ht (Nat.lt_of_le_of_lt (Nat.le_trans (Nat.le_add_right _ _) T.aok.units) (by decide)) _ _ _ _ (.here rfl)
   · contradiction
 · split at h
   · split at h
     · rename_i e
       injection h with h; subst h
       obtain ⟨t, rfl⟩ := hx; obtain ⟨u, rfl⟩ := hy
       rw [eqV_eq e]
       exact eq_str (.here (by simp))
     · contradiction
   · contradiction
 · contradiction
theorem cmp_ne {x y : AV} {a b : Value} {c : Bool} (hx : VR s.heap M H.length x a) (hy : VR s.heap M H.length y b) (h : cmpNe x y = some c) {E : Value → Shared → Prop} :
 wpAny (model PW w) A (compareOp .NotEq a b) (CmpQ s c) E s := by
 dsimp only [cmpNe] at h
 split at h
 · split at h
   · obtain ⟨t, rfl⟩ := hx; obtain ⟨u, rfl⟩ := hy; injection h with h; subst h; exact ne_int (.here (by rw [beqI_eq]; rfl))
   · contradiction
 · split at h
   · obtain ⟨_, t, rfl⟩ := hx; obtain ⟨_, u, rfl⟩ := hy; injection h with h; subst h; exact ne_str (.here (by rw [eqN_str]; rfl))
   · contradiction
 · split at h
   · cases hx; cases hy; cases h; exact ne_bool (.here rfl)
   · contradiction
 · split at h
   · split at h
     · rename_i e
       injection h with h; subst h
       obtain ⟨t, rfl⟩ := hx; obtain ⟨u, rfl⟩ := hy
       rw [eqV_eq e]
       exact ne_str (.here (by simp))
     · contradiction
   · contradiction
 · contradiction
theorem cmp_lt {x y : AV} {a b : Value} {c : Bool} (hx : VR s.heap M H.length x a) (hy : VR s.heap M H.length y b) (h : cmpII (fun x y => ltI x y) x y = some c) {E : Value → Shared → Prop} :
 wpAny (model PW w) A (compareOp .Lt a b) (CmpQ s c) E s := by
 dsimp only [cmpII] at h
 split at h
 · split at h
   · obtain ⟨t, rfl⟩ := hx; obtain ⟨u, rfl⟩ := hy; injection h with h; subst h; exact lt_int (.here (ltI_eq _ _).symm)
   · contradiction
 · contradiction
theorem cmp_gt {x y : AV} {a b : Value} {c : Bool} (hx : VR s.heap M H.length x a) (hy : VR s.heap M H.length y b) (h : cmpII (fun x y => ltI y x) x y = some c) {E : Value → Shared → Prop} :
 wpAny (model PW w) A (compareOp .Gt a b) (CmpQ s c) E s := by
 dsimp only [cmpII] at h
 split at h
 · split at h
   · obtain ⟨t, rfl⟩ := hx; obtain ⟨u, rfl⟩ := hy; injection h with h; subst h; exact gt_int (.here (ltI_eq _ _).symm)
   · contradiction
 · contradiction
theorem cmp_le {x y : AV} {a b : Value} {c : Bool} (hx : VR s.heap M H.length x a) (hy : VR s.heap M H.length y b) (h : cmpLe x y = some c) {E : Value → Shared → Prop} :
 wpAny (model PW w) A (compareOp .LtE a b) (CmpQ s c) E s := by
 dsimp only [cmpLe] at h
 split at h
 · split at h
   · obtain ⟨t, rfl⟩ := hx; obtain ⟨u, rfl⟩ := hy; injection h with h; subst h; exact le_int (.here (by rw [ltI_eq, ← decide_not]; exact decide_eq_decide.mpr (by omega)))
   · contradiction
 · split at h
   · rename_i p _ q
     obtain ⟨_, t, rfl⟩ := hx; obtain ⟨_, u, rfl⟩ := hy; injection h with h; subst h;
     refine P.le_str (.here ?_)
     rw [Bool.eq_iff_iff, Nat.ble_eq]
     show (!decide ([q] < [p])) = true ↔ p ≤ q
     rw [Bool.not_eq_true', decide_eq_false_iff_not, List.cons_lt_cons_iff]
     simp
   · contradiction
 · contradiction
theorem cmp_ge {x y : AV} {a b : Value} {c : Bool} (hx : VR s.heap M H.length x a) (hy : VR s.heap M H.length y b) (h : cmpII (fun x y => !ltI x y) x y = some c) {E : Value → Shared → Prop} :
 wpAny (model PW w) A (compareOp .GtE a b) (CmpQ s c) E s := by
 unfold cmpII at h
 split at h
 · split at h
   · obtain ⟨t, rfl⟩ := hx; obtain ⟨u, rfl⟩ := hy; injection h with h; subst h; exact ge_int (.here (by dsimp only; rw [ltI_eq, ← decide_not]; exact decide_eq_decide.mpr (by omega)))
   · contradiction
 · contradiction
theorem cmp_isin (B : BaseOk w base K) (T : Sit w base A d l z env fr M H s) {x y : AV} {a b : Value} {c : Bool} (hx : VR s.heap M H.length x a) (hy : VR s.heap M H.length y b) (h : cmpIn x y H = some c) {E : Value → Shared → Prop} :
 wpAny (model PW w) A (compareOp .In a b) (CmpQ s c) E s := by
 dsimp only [cmpIn] at h
 split at h
 · obtain ⟨_, t, rfl⟩ := hx
   split at h
   · refine ob23 hy.isTup fun a xs q2_ ht hvs => ?_; subst q2_
     refine ob12 (anyEq_strs hvs h) fun ys h1 h2 => ?_
     exact in_tuple_strs ht h1 (.here h2)
   · split at h
     · obtain ⟨_, u, rfl⟩ := hy; injection h with h; subst h
       refine PyProof.Rows.in_str (.here ?_)
       rw [hasN_iff]
       exact StrLaws.found_one _ _
     · contradiction
   · obtain ⟨hi, rfl⟩ := hy
     split at h
     · rename_i es he
       injection h with h; subst h
       obtain ⟨f, hm, dl, z, q, y⟩ := T.rel.obj _ _ he
       refine wpAny_in_of (strKind_is _ _ _ t) (T.rel.fresh_ne _ hi B.sysm.choose_spec) hm.mapOf (.tok (y _).isSome)
     · contradiction
   · contradiction
 · contradiction
theorem cmp_notin (B : BaseOk w base K) (T : Sit w base A d l z env fr M H s) {x y : AV} {a b : Value} {c : Bool} (hx : VR s.heap M H.length x a) (hy : VR s.heap M H.length y b) (h : cmpNotin x y H = some c) {E : Value → Shared → Prop} :
 wpAny (model PW w) A (compareOp .NotIn a b) (CmpQ s c) E s := by
 dsimp only [cmpNotin] at h
 split at h
 · obtain ⟨_, t, rfl⟩ := hx
   split at h
   · split at h
     · obtain ⟨_, u, rfl⟩ := hy; injection h with h; subst h
       refine PyProof.Rows.notIn_str (.here ?_)
       rw [hasN_iff]
       exact congrArg (!·) (StrLaws.found_one _ _)
     · contradiction
   · obtain ⟨hi, rfl⟩ := hy
     split at h
     · rename_i es he
       injection h with h; subst h
       obtain ⟨f, hm, dl, z, q, y⟩ := T.rel.obj _ _ he
       refine wpAny_notIn_of (strKind_is _ _ _ t) (T.rel.fresh_ne _ hi B.sysm.choose_spec) hm.mapOf (.tok (y _).isNone)
     · contradiction
   · contradiction
 · contradiction
theorem cmp_is {x y : AV} {a b : Value} {c : Bool} (hx : VR s.heap M H.length x a) (hy : VR s.heap M H.length y b) (h : cmpIs x y = some c) {E : Value → Shared → Prop} :
 wpAny (model PW w) A (compareOp .Is a b) (CmpQ s c) E s := by
 dsimp only [cmpIs] at h
 split at h
 · subst hy
   split at h
   · cases hx; cases h; exact is_none (.here rfl)
   · obtain ⟨_, t, rfl⟩ := hx; injection h with h; subst h; exact is_none (.here rfl)
   · obtain ⟨_, rfl⟩ := hx; injection h with h; subst h; exact is_none (.here rfl)
   · refine ob22 hx.isTup fun a xs q2_ _ => ?_; subst q2_; injection h with h; subst h; exact is_none (.here rfl)
   · obtain ⟨t, rfl⟩ := hx; injection h with h; subst h; exact is_none (.here rfl)
   · contradiction
 · contradiction
theorem cmp_isnot {x y : AV} {a b : Value} {c : Bool} (hx : VR s.heap M H.length x a) (hy : VR s.heap M H.length y b) (h : cmpIsnot x y = some c) {E : Value → Shared → Prop} :
 wpAny (model PW w) A (compareOp .IsNot a b) (CmpQ s c) E s := by
 dsimp only [cmpIsnot] at h
 split at h
 · subst hy
   split at h
   · cases hx; cases h; exact isNot_none (.here rfl)
   · refine ob22 hx.isTup fun a xs q2_ _ => ?_; subst q2_; injection h with h; subst h; exact isNot_none (.here rfl)
   · contradiction
 · contradiction
theorem cmpV_sound (B : BaseOk w base K) (T : Sit w base A d l z env fr M H s) {op : COp} {x y : AV} {a b : Value} {c : Bool} (hx : VR s.heap M H.length x a) (hy : VR s.heap M H.length y b) (h : cmpV op x y H = some c) {E : Value → Shared → Prop} :
 wpAny (model PW w) A (compareOp op.py a b) (CmpQ s c) E s := by
 induction op using COp.casesOn with
 | eq => exact cmp_eq T hx hy h
 | ne => exact cmp_ne hx hy h
 | lt => exact cmp_lt hx hy h
 | gt => exact cmp_gt hx hy h
 | le => exact cmp_le hx hy h
 | ge => exact cmp_ge hx hy h
 | isin => exact cmp_isin B T hx hy h
 | notin => exact cmp_notin B T hx hy h
 | is => exact cmp_is hx hy h
 | isnot => exact cmp_isnot hx hy h
end
section
variable {K : Frag} {w : World} {base : Heap} {n : Nat} {A : Around} {d : Nat} {l : List Env} {z : Nms} {env : Env} {fr : Fr} {M : Mp} {H : AH} {s : Shared}
theorem noMarks {op : CmpOp} {e : E} (h : ∀ x, e ≠ .raw x) : behindInMarks op (E.py nm e) = false := by
 cases e <;> first | rfl | exact absurd rfl (h _)
theorem CmpQ.go (T : Sit w base A d l z env fr M H s) {b : Bool} {v : Value} {s' : Shared} (q : CmpQ s b v s') : v = .bool b ∧ Go w base M H s M H s' := by
 obtain ⟨e, tk, rfl⟩ := q
 exact ⟨e, T.refl.tok tk⟩
theorem optB {α : Type} {o : Option Bool} {f : Bool → R α} {r : R α} (h : (match o with | some b => f b | none => .bad) = r) (hb : r ≠ .bad) : ∃ b, o = some b ∧ f b = r := by
 induction o using Option.casesOn with
 | none => exact absurd h.symm hb
 | some b => exact ⟨b, rfl, h⟩
theorem Snd.cmp (B : BaseOk w base K) (S : Snd w base K n) {op : COp} {a b : E} {p : Pos} {r : R AV} (hr : Mine.ev tb (n + 1) d fr H (.cmp op a b p) = r) (hb : r ≠ .bad) (hw : wfE z (.cmp op a b p) = true) (T : Sit w base A d l z env fr M H s) :
 wpAny (model PW w) A (eval (E.py nm (.cmp op a b p)) env) (EvQ w base M H s r) (ExcP w base M H s r) s := by
 dsimp only [Mine.ev] at hr
 refine wpAny_Compare1 (S.evB hr hb (and1 hw) T T.refl fun x H₁ M₁ u s₁ hr₁ g₁ hu => ?_) (noMarks (wnr (and2 hw)))
 refine S.evB hr₁ hb (and2 hw) (T.go g₁) g₁ fun y H₂ M₂ v s₂ hr₂ g₂ hv => ?_
 refine ob12 (optB hr₂ hb) fun c hc hr₂ => ?_
 have T₂ := (T.go g₁).go g₂
 refine wpAny_mono (cmpV_sound B T₂ (g₂.vr hu) hv hc) (fun v s₃ q => ?_) fun _ _ h => h
 obtain ⟨rfl, g₃⟩ := q.go T₂
 exact ⟨.bool c, H₂, M₂, hr₂.symm, (g₁.trans g₂).trans g₃, rfl⟩
theorem Snd.cmp2 (B : BaseOk w base K) (S : Snd w base K n) {o1 o2 : COp} {a b c : E} {p : Pos} {r : R AV} (hr : Mine.ev tb (n + 1) d fr H (.cmp2 o1 o2 a b c p) = r) (hb : r ≠ .bad) (hw : wfE z (.cmp2 o1 o2 a b c p) = true) (T : Sit w base A d l z env fr M H s) :
 wpAny (model PW w) A (eval (E.py nm (.cmp2 o1 o2 a b c p)) env) (EvQ w base M H s r) (ExcP w base M H s r) s := by
 dsimp only [Mine.ev] at hr
 refine Compare_chain (S.evB hr hb (and1 hw) T T.refl fun x H₁ M₁ u s₁ hr₁ g₁ hu => ?_) (noMarks (wnr (and2 (and2 hw))))
 refine chain_link (S.evB hr₁ hb (and1 (and2 hw)) (T.go g₁) g₁ fun y H₂ M₂ v s₂ hr₂ g₂ hv => ?_)
 have T₂ := (T.go g₁).go g₂
 induction hc : cmpV o1 x y H₂ using Option.casesOn with
 | none => rw [hc] at hr₂; exact absurd hr₂.symm hb
 | some t =>
  rw [hc] at hr₂
  refine wpAny_mono (cmpV_sound B T₂ (g₂.vr hu) hv hc) (fun v' s₃ q => ?_) fun _ _ h => h
  obtain ⟨rfl, g₃⟩ := q.go T₂
  refine wpAny_truthy_bool ?_
  induction t using Bool.casesOn with
  | false => exact ⟨.bool false, H₂, M₂, hr₂.symm, (g₁.trans g₂).trans g₃, rfl⟩
  | true =>
   refine chain_last (S.evB hr₂ hb (and2 (and2 hw)) (T₂.go g₃) ((g₁.trans g₂).trans g₃) fun y' H₄ M₄ v' s₄ hr₄ g₄ hv' => ?_)
   refine ob12 (optB hr₄ hb) fun t ht hr₄ => ?_
   have T₄ := (T₂.go g₃).go g₄
   refine wpAny_mono (cmpV_sound B T₄ (g₄.vr (g₃.vr hv)) hv' ht) (fun v' s₅ q => ?_) fun _ _ h => h
   obtain ⟨rfl, g₅⟩ := q.go T₄
   exact ⟨.bool t, H₄, M₄, hr₄.symm, (((g₁.trans g₂).trans g₃).trans g₄).trans g₅, rfl⟩
theorem TeQ.from {r : R Bool} {M₀ : Mp} {H₀ : AH} {s₀ : Shared} (g : Go w base M₀ H₀ s₀ M H s) {u : Bool} {s' : Shared} (q : TeQ w base M H s r u s') : TeQ w base M₀ H₀ s₀ r u s' := by
 obtain ⟨H', M', e, g'⟩ := q
 exact ⟨H', M', e, g.trans g'⟩
theorem ExcP.from {α : Type} {r : R α} {M₀ : Mp} {H₀ : AH} {s₀ : Shared} (g : Go w base M₀ H₀ s₀ M H s) {u : Value} {s' : Shared} (q : ExcP w base M H s r u s') : ExcP w base M₀ H₀ s₀ r u s' := by
 obtain ⟨c, H', M', h1, h2, h3⟩ := q
 exact ⟨c, H', M', h1, g.trans h2, h3⟩
theorem Snd.teA1 (S : Snd w base K n) {es : List E} {r : R Bool} (hr : Mine.teA tb (n + 1) d fr H es = r) (hb : r ≠ .bad) (hw : wfEs z es = true) (T : Sit w base A d l z env fr M H s) :
 wpAny (model PW w) A (allTrue .And (E.pys nm es) env) (TeQ w base M H s r) (ExcP w base M H s r) s := by
 induction es using List.casesOn with
 | nil => dsimp only [Mine.teA] at hr; exact wpAny_pure (a := true) ⟨H, M, hr.symm, T.refl⟩
 | cons e es =>
  dsimp only [Mine.teA] at hr
  refine wpAny_bind (S.teB hr hb (and1 hw) T T.refl fun t H₁ M₁ s₁ hr₁ g₁ => ?_)
  induction t using Bool.casesOn with
  | false => exact wpAny_pure ⟨H₁, M₁, hr₁.symm, g₁⟩
  | true => exact wpAny_mono (S.teA hr₁ hb (and2 hw) (T.go g₁)) (fun _ _ q => TeQ.from g₁ q) fun _ _ q => ExcP.from g₁ q
theorem Snd.teO1 (S : Snd w base K n) {es : List E} {r : R Bool} (hr : Mine.teO tb (n + 1) d fr H es = r) (hb : r ≠ .bad) (hw : wfEs z es = true) (T : Sit w base A d l z env fr M H s) :
 wpAny (model PW w) A (allTrue .Or (E.pys nm es) env) (TeQ w base M H s r) (ExcP w base M H s r) s := by
 induction es using List.casesOn with
 | nil => dsimp only [Mine.teO] at hr; exact wpAny_pure (a := false) ⟨H, M, hr.symm, T.refl⟩
 | cons e es =>
  dsimp only [Mine.teO] at hr
  refine wpAny_bind (S.teB hr hb (and1 hw) T T.refl fun t H₁ M₁ s₁ hr₁ g₁ => ?_)
  induction t using Bool.casesOn with
  | true => exact wpAny_pure ⟨H₁, M₁, hr₁.symm, g₁⟩
  | false => exact wpAny_mono (S.teO hr₁ hb (and2 hw) (T.go g₁)) (fun _ _ q => TeQ.from g₁ q) fun _ _ q => ExcP.from g₁ q
theorem Snd.teV (S : Snd w base K n) {e : E} {r : R Bool} (hr : ((Mine.ev tb n d fr H e).bind fun v H => match v with | .bool b => .ok b H | _ => .bad) = r) (hb : r ≠ .bad) (hw : wfE z e = true) (T : Sit w base A d l z env fr M H s)
 (he : isTrue (E.py nm e) env (eval (E.py nm e) env) = (do let v ← eval (E.py nm e) env; standAt (E.py nm e).pos; holding [v] (truthy v))) :
 wpAny (model PW w) A (isTrue (E.py nm e) env (eval (E.py nm e) env)) (TeQ w base M H s r) (ExcP w base M H s r) s := by
 refine isTrue_plain (S.evB hr hb hw T T.refl fun x H₁ M₁ u s₁ hr₁ g₁ hu => ?_) he
 induction x using AV.casesOn with
 | bool b => subst hu; exact wpAny_truthy_bool ⟨H₁, M₁, hr₁.symm, g₁⟩
 | _ => exact absurd hr₁.symm hb
theorem Snd.te1 (B : BaseOk w base K) (S : Snd w base K n) {e : E} {r : R Bool} (hr : Mine.te tb (n + 1) d fr H e = r) (hb : r ≠ .bad) (hw : wfE z e = true) (T : Sit w base A d l z env fr M H s) :
 wpAny (model PW w) A (isTrue (E.py nm e) env (eval (E.py nm e) env)) (TeQ w base M H s r) (ExcP w base M H s r) s := by
 induction e using E.casesOn with
 | not t p =>
  dsimp only [Mine.te] at hr
  exact isTrue_not (S.teB hr hb hw T T.refl fun t H₁ M₁ s₁ hr₁ g₁ => ⟨H₁, M₁, hr₁.symm, g₁⟩)
 | and es p => dsimp only [Mine.te] at hr; exact S.teA hr hb hw T
 | or es p => dsimp only [Mine.te] at hr; exact S.teO hr hb hw T
 | cmp op a b p =>
  dsimp only [Mine.te] at hr
  refine wpAny_isTrue_Compare1 (S.evB hr hb (and1 hw) T T.refl fun x H₁ M₁ u s₁ hr₁ g₁ hu => ?_) (noMarks (wnr (and2 hw)))
  refine S.evB hr₁ hb (and2 hw) (T.go g₁) g₁ fun y H₂ M₂ v s₂ hr₂ g₂ hv => ?_
  refine ob12 (optB hr₂ hb) fun c hc hr₂ => ?_
  have T₂ := (T.go g₁).go g₂
  refine wpAny_mono (cmpV_sound B T₂ (g₂.vr hu) hv hc) (fun v s₃ q => ?_) fun _ _ h => h
  obtain ⟨rfl, g₃⟩ := q.go T₂
  exact wpAny_truthy_bool ⟨H₂, M₂, hr₂.symm, (g₁.trans g₂).trans g₃⟩
 | cmp2 o1 o2 a b c p =>
  dsimp only [Mine.te] at hr
  refine isTrue_chain (S.evB hr hb (and1 hw) T T.refl fun x H₁ M₁ u s₁ hr₁ g₁ hu => ?_) (noMarks (wnr (and2 (and2 hw))))
  refine test_link (S.evB hr₁ hb (and1 (and2 hw)) (T.go g₁) g₁ fun y H₂ M₂ v s₂ hr₂ g₂ hv => ?_)
  have T₂ := (T.go g₁).go g₂
  induction hc : cmpV o1 x y H₂ using Option.casesOn with
  | none => rw [hc] at hr₂; exact absurd hr₂.symm hb
  | some t =>
   rw [hc] at hr₂
   refine wpAny_mono (cmpV_sound B T₂ (g₂.vr hu) hv hc) (fun v' s₃ q => ?_) fun _ _ h => h
   obtain ⟨rfl, g₃⟩ := q.go T₂
   refine wpAny_truthy_bool ?_
   induction t using Bool.casesOn with
   | false => exact ⟨H₂, M₂, hr₂.symm, (g₁.trans g₂).trans g₃⟩
   | true =>
    refine test_last (S.evB hr₂ hb (and2 (and2 hw)) (T₂.go g₃) ((g₁.trans g₂).trans g₃) fun y' H₄ M₄ v' s₄ hr₄ g₄ hv' => ?_)
    refine ob12 (optB hr₄ hb) fun t ht hr₄ => ?_
    have T₄ := (T₂.go g₃).go g₄
    refine wpAny_mono (cmpV_sound B T₄ (g₄.vr (g₃.vr hv)) hv' ht) (fun v' s₅ q => ?_) fun _ _ h => h
    obtain ⟨rfl, g₅⟩ := q.go T₄
    exact wpAny_truthy_bool ⟨H₄, M₄, hr₄.symm, (((g₁.trans g₂).trans g₃).trans g₄).trans g₅⟩
 | ife t a b p => dsimp only [Mine.te] at hr; exact absurd hr.symm hb
 | raw x => dsimp only [Mine.te] at hr; exact absurd hr.symm hb
 | _ => dsimp only [Mine.te] at hr; exact S.teV hr hb hw T rfl
theorem noSlice {e : E} (h : ∀ x, e ≠ .raw x) {o i : Value} : subscripted (E.py nm e) false o i = operate [o, i] (getItem o i) := by
 cases e <;> first | rfl | exact absurd rfl (h _)
theorem idxTail {value slice : Expr} {o i : Value} {T id : String} {Q E : Value → Shared → Prop} (hT : s.TypeIs o T)
 (hl : typeLookup (.type T) "__getitem__" = pure (some (.builtin id))) (hs : subscripted slice false o i = operate [o, i] (getItem o i)) (h : wpAny (model PW w) A (getItem o i) Q E s) :
 wpAny (model PW w) A (subscriptTail value slice o i) Q E s := by
 unfold subscriptTail
 refine wpAny_bind ?_
 rw [getitemInPython_of_ne hT.not_modules]
 refine wpAny_bind (wpAny_specialOf hT hl ?_)
 have fin : wpAny (model PW w) A (subscripted slice false o i) (fun r s₃ => wpAny (model PW w) A (letTemporaryGo value o r >>= fun _ => pure r) Q E s₃) E s := by
  rw [hs]
  exact wpAny_operating (wpAny_mono h (fun r s₃ h₃ => wpAny_bind (wpAny_letTemporaryGo (wpAny_pure h₃))) fun _ _ x => x)
 first
  | exact wpAny_pure (wpAny_bind fin)
  | exact wpAny_bind (wpAny_pure (wpAny_bind fin))
  | exact wpAny_bind fin
theorem VRs.nth {h : Heap} {n : Nat} : ∀ {l : List AV} {vs : List Value} {k : Nat} {x : AV}, VRs h M n l vs → nth l k = some x → ∃ v, vs[k]? = some v ∧ VR h M n x v := by
 intro L
 induction L with
 | nil => intros; contradiction
 | cons a l ih =>
  intro vs k x hv e'
  obtain ⟨v, t, e, hv, hr⟩ := hv
  subst e
  induction k using Nat.casesAuxOn with
  | zero => injection e' with e'; subst e'; exact ⟨v, rfl, hv⟩
  | succ k => refine ob12 (ih hr e') fun u h1 h2 => ?_; exact ⟨u, by simpa using h1, h2⟩
inductive KeyV : AV → Prop
 | s (x : List Nat) : KeyV (.str x)
 | p (x : List Nat) (i : Int) : KeyV (.tup [.str x, .int i])
theorem keyV {k : AV} (h : isKey k = true) : KeyV k := by
 induction k using AV.casesOn with
 | str x => exact .s x
 | tup l =>
  induction l using List.casesOn with
  | nil => contradiction
  | cons a l => induction a using AV.casesOn with
   | str x => induction l using List.casesOn with
    | nil => contradiction
    | cons b l => induction b using AV.casesOn with
     | int i => induction l using List.casesOn with
      | nil => exact .p x i
      | cons _ _ => contradiction
     | _ => contradiction
   | _ => contradiction
 | _ => contradiction
inductive IdxV (H : AH) (c : AV) : AV → AV → Prop
 | s (x : List Nat) (k ch : Nat) : nth x k = some ch → c = .str [ch] → IdxV H c (.str x) (.int (.ofNat k))
 | t (l : List AV) (k : Nat) : Nat.blt k 1000 = true → nth l k = some c → IdxV H c (.tup l) (.int (.ofNat k))
 | l (o : Nat) (l : List AV) (k : Nat) : nth H o = some (.list l) → nth l k = some c → IdxV H c (.obj o) (.int (.ofNat k))
 | d (o : Nat) (es : List (AV × AV)) (x : List Nat) : nth H o = some (.dict es) → dget es (.str x) = some c → IdxV H c (.obj o) (.str x)
 | b (o : Nat) (es : List (AV × AV)) (x : AV) : nth H o = some (.book es) → isKey x = true → dget es x = some c → IdxV H c (.obj o) x
theorem idxB_of {es : List (AV × AV)} {x c : AV} (q : (match isKey x with | true => dget es x | false => none) = some c) : isKey x = true ∧ dget es x = some c := by
 induction hk : isKey x using Bool.casesOn with
 | true => rw [hk] at q; exact ⟨rfl, q⟩
 | false => rw [hk] at q; contradiction
noncomputable def idxO (o : Option AO) (x : AV) : Option AV := match o, x with
 | some (.list l), .int (.ofNat k) => nth l k
 | some (.dict es), .str x => dget es (.str x)
 | some (.book es), x => match isKey x with | true => dget es x | false => none
 | _, _ => none
theorem idxO_of {o : Nat} {x c : AV} : ∀ {y : Option AO}, nth H o = y → idxO y x = some c → IdxV H c (.obj o) x := fun {y} e q => by
 induction y using Option.casesOn with
 | none => contradiction
 | some ao => induction ao using AO.casesOn with
  | list l => induction x using AV.casesOn with
   | int i => induction i using Int.casesOn with
    | ofNat k => exact .l o l k e q
    | negSucc _ => contradiction
   | _ => contradiction
  | dict es => induction x using AV.casesOn with
   | str x => exact .d o es x e q
   | _ => contradiction
  | book es => obtain ⟨h1, h2⟩ := idxB_of (es := es) (x := x) (c := c) (by cases x <;> exact q); exact .b o es x e h1 h2
  | _ => contradiction
theorem idxV_of {a x c : AV} (q : idxV a x H = some c) : IdxV H c a x := by
 induction a using AV.casesOn with
 | str s => induction x using AV.casesOn with
  | int i => induction i using Int.casesOn with
   | ofNat k =>
    refine ob12 (Option.map_eq_some_iff.mp (show (nth s k).map (fun c => AV.str [c]) = some c from q)) fun ch h1 h2 => ?_
    exact .s s k ch h1 h2.symm
   | negSucc _ => contradiction
  | _ => contradiction
 | tup l => induction x using AV.casesOn with
  | int i => induction i using Int.casesOn with
   | ofNat k =>
    have q : (match Nat.blt k 1000 with | true => nth l k | false => none) = some c := q
    induction hk : Nat.blt k 1000 using Bool.casesOn with
    | true => rw [hk] at q; exact .t l k hk q
    | false => rw [hk] at q; contradiction
   | negSucc _ => contradiction
  | _ => contradiction
 | obj o => exact idxO_of rfl (show idxO (nth H o) x = some c from q)
 | _ => contradiction
theorem key_is {h : Heap} {k : AV} {b : Value} (hk : isKey k = true) (hb : VR h M n k b) : (bkOf k).is w h b := by
 obtain ⟨x⟩ | ⟨x, i⟩ := keyV hk
 · obtain ⟨_, t, rfl⟩ := hb
   exact ⟨t, rfl⟩
 · obtain ⟨a, o, xs, ep, rfl, g, c, d, r⟩ := hb
   obtain ⟨v1, t1, e1, ⟨_, tk, rfl⟩, r⟩ := r
   subst_vars
   obtain ⟨v2, t2, e2, ⟨tk2, rfl⟩, r⟩ := r
   subst_vars
   refine ⟨a, rfl, o, xs, ep, g, c, d, ?_⟩
   rw [e1]
   exact .cons (by simp [mixKind, mixIs, Value.isStrOf]) (.cons (by simp [mixKind, mixIs, Value.isInt]) .nil)
theorem AOk.in1u (x : AOk A d l) : A.in1.units < cLine := by
 have := x.units
 show A.units + 1 < cLine
 rw [show cLine = 9900 from rfl]; omega
theorem book_get (B : BaseOk w base K) (T : Sit w base A d l z env fr M H s) {i : Nat} {es : List (AV × AV)} {k v : AV} {b : Value} (hi : nth H i = some (.book es)) (hk : isKey k = true) (hv : dget es k = some v) (hb : VR s.heap M H.length k b) {E : Value → Shared → Prop} :
 wpAny (model PW w) A (getItem (.ref (M.a i)) b) (EvQ w base M H s (.ok v H)) E s := by
 obtain ⟨arr, ep, bxs, g, ⟨r1, r2, r3, r4⟩, z, q, y⟩ := T.rel.obj _ _ hi
 obtain ⟨u, e, hu⟩ := (y k hk).hit hv
 refine getB (T.aok.in1u) (key_is hk hb) g r1 r2 r3 e fun t => EvQ.tok T rfl hu
theorem Snd.idx (B : BaseOk w base K) (S : Snd w base K n) {a b : E} {p : Pos} {r : R AV} (hr : Mine.ev tb (n + 1) d fr H (.idx a b p) = r) (hb : r ≠ .bad) (hw : wfE z (.idx a b p) = true) (T : Sit w base A d l z env fr M H s) :
 wpAny (model PW w) A (eval (E.py nm (.idx a b p)) env) (EvQ w base M H s r) (ExcP w base M H s r) s := by
 dsimp only [Mine.ev] at hr
 refine Subscript_ (S.evB hr hb (and1 hw) T T.refl fun x H₁ M₁ u s₁ hr₁ g₁ hu => ?_)
 refine S.evB hr₁ hb (and2 hw) (T.go g₁) g₁ fun y H₂ M₂ v s₂ hr₂ g₂ hv => ?_
 have T₂ := (T.go g₁).go g₂
 have g := g₁.trans g₂
 replace hu := g₂.vr hu
 have hs : ∀ o i, subscripted (E.py nm b) false o i = operate [o, i] (getItem o i) := fun o i => noSlice (wnr (and2 hw))
 induction q : idxV x y H₂ using Option.casesOn with
 | none => rw [q] at hr₂; exact absurd hr₂.symm hb
 | some c =>
  rw [q] at hr₂
  subst hr₂
  have here : ∀ {cv : Value}, VR s₂.heap M₂ H₂.length c cv → EvQ w base M H s (.ok c H₂) cv s₂ := fun h => EvQ.from g (EvQ.here T₂ rfl h)
  obtain ⟨st, k, ch, e, qq⟩ | ⟨lt, k, hk, qq⟩ | ⟨o, lt, k, hn, qq⟩ | ⟨o, es, st, hn, qq⟩ | ⟨o, es, x2, hn, hk, qq⟩ := idxV_of q
  · obtain ⟨hl, t, rfl⟩ := hu
    obtain ⟨t', rfl⟩ := hv
    · subst qq
      have hlt := nth_lt e
      refine idxTail (typeIs_str _ _ _) slot_str_getitem.lookup (hs _ _) (PyProof.Rows.getItem_str ?_ (c := ch) ?_ (EvQ.from g (EvQ.tok T₂ rfl ⟨by simp, _, rfl⟩)))
      · rw [Bool.or_eq_false_iff]; exact ⟨decide_eq_false (by have := Int.natCast_nonneg k; show ¬ ((k : Int) < _); omega), decide_eq_false (by show ¬ ((k : Int) ≥ _); omega)⟩
      · have e1 : (strOf st).length = st.length := by rfl
        have e2 : seqIndex? (Int.ofNat k) (strOf st).length = some k := by
         rw [e1]; unfold seqIndex?
         have : ¬ ((k : Int) < 0) := by omega
         simp [this]; assumption
        rw [e2]
        show (strOf st).cps[k]? = some ch
        have : ∀ (st : List Nat) (k ch : Nat), Mine.nth st k = some ch → st[k]? = some ch := by
         intro st
         induction st with
         | nil => intro k ch h; contradiction
         | cons a r ih => intro k ch h; induction k using Nat.casesAuxOn with
          | zero => injection h with h; subst h; rfl
          | succ k => simpa using ih k ch h
        simpa [strOf] using this st k ch e
  · refine ob23 hu.isTup fun a' xs q2_ ht hvs => ?_; subst q2_
    obtain ⟨t', rfl⟩ := hv
    have hk' : k + 1 ≤ 1000 := Nat.le_of_ble_eq_true hk
    refine ob12 (hvs.nth qq) fun v h1 h2 => ?_
    have h1' : xs[k]? = some v := by simpa using h1
    have hlt : k < xs.size := (Array.getElem?_eq_some_iff.mp h1').1
    refine idxTail ht.typeIs slot_tuple_getitem.lookup (hs _ _) (getItem_tuple ht (by have := Int.natCast_nonneg k; show _ ≤ (k : Int); exact Int.natCast_nonneg _) (by show (k : Int) < _; omega) ?_ h1' (here h2))
    unfold seqIndex?
    have : ¬ ((k : Int) < 0) := by omega
    simp [this]; assumption
  · obtain ⟨hi, rfl⟩ := hu
    · obtain ⟨t', rfl⟩ := hv
      obtain ⟨xs, ep, hg, hvs, hln, _⟩ := T₂.rel.obj _ _ hn
      refine ob12 (hvs.nth qq) fun v h1 h2 => ?_
      have h1' : xs[k]? = some v := by simpa using h1
      have hlt : k < lt.length := nth_lt qq
      have hL : s₂.heap.IsList (M₂.a o) xs := ⟨_, hg, rfl, ep, rfl⟩
      exact idxTail hL.typeIs slot_list_getitem.lookup (hs _ _) (wpAny_getItem_list hL (Int.natCast_nonneg k) (by show (k : Int) < _; omega) (by simpa using h1') (here h2))
  · obtain ⟨hi, rfl⟩ := hu
    · obtain ⟨_, t', rfl⟩ := hv
      obtain ⟨f, hm, dl, _, _, y⟩ := T₂.rel.obj _ _ hn
      obtain ⟨v, h1, h2⟩ := (y _).hit qq
      exact idxTail hm.mapOf.typeIs slot_dict_getitem.lookup (hs _ _) (wpAny_getItem_of (strKind_is _ _ _ t') hm.mapOf h1 (EvQ.from g (EvQ.tok T₂ rfl h2)))
  · obtain ⟨hi, rfl⟩ := hu
    · obtain ⟨xs, ep, _, hg, _⟩ := T₂.rel.obj _ _ hn
      refine idxTail (T := "dict") ⟨_, hg, rfl⟩ slot_dict_getitem.lookup (hs _ _) (wpAny_mono (book_get B T₂ hn hk qq hv) (fun _ _ h => EvQ.from g h) fun _ _ h => h)
theorem lookIn_ns {xs : Array DictEntry} {ep : Nat} {name : Str} {c : Value} {dd : Option Addr} {sl : Array (Option Value)} (hk : StrKeys xs) : lookIn name { cls := c, dict := dd, data := .dict xs ep, slots := sl } = some (nsFind xs name) := by
 unfold lookIn nsFind findBy
 dsimp only
 rw [← Array.find?_toList]
 cases h : xs.toList.find? (·.key.isStr name) with
 | some e => rfl
 | none =>
  have : xs.toList.any (·.refKey) = false := by
   rw [List.any_eq_false]
   intro e he
   refine ob21 (hk e (Array.mem_toList_iff.mp he)) fun n t q => ?_
   simp [DictEntry.refKey, q]
  simp only [this]
  rfl
theorem handed_of {h : Heap} {n : Nat} {v : AV} {u : Value} (x : VR h M n v u) : handedIn u = true := by
 induction v using AV.casesOn with
 | none => subst x; rfl
 | bool b => subst x; rfl
 | int i => obtain ⟨t, rfl⟩ := x; rfl
 | str i => obtain ⟨_, t, rfl⟩ := x; rfl
 | tup l => obtain ⟨a, o, xs, ep, rfl, _⟩ := x; rfl
 | obj i => obtain ⟨_, rfl⟩ := x; rfl
 | fn a => subst x; rfl
 | bi k => cases x; cases k <;> decide
 | meth f i => obtain ⟨_, b, o, rfl, _⟩ := x; rfl
 | lst l => exact x.elim
 | rpr x => obtain ⟨t, rfl⟩ := x; rfl
theorem attrOk {a : Nat} (h : (Nat.blt a 202 && !badAt a) = true) : a < 202 ∧ badAt a = false := ⟨Nat.le_of_ble_eq_true (and1 h), by have := and2 h; simpa using this⟩
structure ObjIs (w : World) (K : Frag) (M : Mp) (H : AH) (s : Shared) (i c : Nat) (at_ : List (Nat × AV)) (xs : Array DictEntry) (ep : Nat) : Prop where
 inst : InstAt s.heap (M.a i) { cls := .ref c, dict := some (M.d i), data := .plain } c (some { cls := .type "dict", data := .dict xs ep })
 keys : StrKeys xs
 cls : (tb.cls c).isSome = true
 size : xs.size ≤ at_.length
 has : ∀ x, x < 202 → Says s.heap M H.length (look at_ x) (nsFind xs (nm x))
theorem Sit.inst (T : Sit w base A d l z env fr M H s) {i c : Nat} {at_ : List (Nat × AV)} (h : nth H i = some (.inst c at_)) : ∃ xs ep, ObjIs w K M H s i c at_ xs ep := by
 obtain ⟨m, xs, ep, g, gd, ⟨k1, k2⟩, hc, hz, r⟩ := T.rel.obj _ _ h
 exact ⟨xs, ep, ⟨g, rfl, rfl, gd⟩, k1, hc, hz, fun x hx => by rw [k2]; exact r x hx⟩
theorem Sit.kin (B : BaseOk w base K) (T : Sit w base A d l z env fr M H s) : K.In s.heap := B.kin.keeps T.stays
theorem find_own {C : Addr} {od : Obj} {name : Str} {attr : Option Value} {v : Value} (hh : hasDictIn K C = true) (ha : findIn K (.ref C) name = some attr)
 (hm : ∀ f, attr = some f → ∃ g, specialIn K f "__get__" = some g ∧ takesIn K f = some false) (hl : lookIn name od = some (some v)) : findObj K C (some od) name = some (.value v) := by
 refine ob12 (any_some hh) fun cd hc hd => ?_
 unfold findObj
 rw [hc, Option.bind_some, ha, Option.bind_some]
 have ho : W.ownOf cd (some od) name = some (some v) := by unfold W.ownOf; rw [if_pos hd]; exact hl
 induction attr using Option.casesOn with
 | none => simp [ho]
 | some a =>
  refine ob12 (hm a rfl) fun g h1 h2 => ?_
  induction g using Option.casesOn with
  | none => simp [h1, ho]
  | some g => simp [h1, h2, ho]
theorem find_meth {C : Addr} {od : Obj} {name : Str} {f : Addr} (hh : hasDictIn K C = true) (ha : findIn K (.ref C) name = some (some (.ref f)))
 (h1 : specialIn K (.ref f) "__get__" = some (some (.builtin "function.__get__"))) (h2 : takesIn K (.ref f) = some false) (hl : lookIn name od = some none) (hc : copiedNames.contains name = false) : findObj K C (some od) name = some (.bind (.builtin "function.__get__") (.ref f)) := by
 refine ob12 (any_some hh) fun cd hc' hd => ?_
 unfold findObj
 rw [hc', Option.bind_some, ha, Option.bind_some]
 have ho : W.ownOf cd (some od) name = some none := by unfold W.ownOf; rw [if_pos hd]; exact hl
 simp only [h1, h2, Option.bind_some, ho, hc, Bool.false_and, Bool.false_eq_true, if_false]
theorem get_at (B : BaseOk w base K) (T : Sit w base A d l z env fr M H s) {x : AV} {u : Value} {a : Nat} {v : AV} (ha : (Nat.blt a 202 && !badAt a) = true) (hu : VR s.heap M H.length x u) (e : attV x a H = some v) {expr : Bool} {E : Value → Shared → Prop} :
 wpAny (model PW w) A (getAttr u (nm a) expr) (EvQ w base M H s (.ok v H)) E s := by
 obtain ⟨h200, hbad⟩ := attrOk ha
 induction x using AV.casesOn with
 | obj i =>
  obtain ⟨hi, rfl⟩ := hu
  unfold attV at e
  dsimp only at e
  split at e
  · rename_i c at_ hn
    refine ob21 (T.inst (K := K) hn) fun xs ep O => ?_
    obtain ⟨u, h1, h2⟩ := (O.has a h200).hit e
    refine ob03 (B.cls c O.cls) fun p1 p2 _ => ?_
    refine get_value (T.kin B) O.inst (plainGet_of p1).1 (find_own p2 (B.attr c a O.cls h200 hbad) (fun f hf => ?_) (by rw [lookIn_ns O.keys, h1])) (handed_of h2) (EvQ.tok T rfl h2)
    induction hm : tb.meth c a using Option.casesOn with
    | none => rw [hm] at hf; contradiction
    | some g =>
     rw [hm] at hf; injection hf with hf; subst hf
     refine ob03 (B.meth c a g hm) fun _ h3 h4 => ?_
     exact ⟨_, h3, h4⟩
  · contradiction
 | _ => contradiction
theorem attNode {e : E} (h : noCall e = true) {attr : Str} {pos : Pos} : eval (.Attribute (E.py nm e) attr pos) env = (do
 let o ← eval (E.py nm e) env
 standAt pos.atName
 let r ← holding [o] (getAttr o attr true)
 letTemporaryGo (E.py nm e) o r
 pure r) := by
 cases e <;> first | (with_unfolding_all rfl) | cases h
theorem Snd.att (B : BaseOk w base K) (S : Snd w base K n) {e : E} {a : Nat} {p : Pos} {r : R AV} (hr : Mine.ev tb (n + 1) d fr H (.att e a p) = r) (hb : r ≠ .bad) (hw : wfE z (.att e a p) = true) (T : Sit w base A d l z env fr M H s) :
 wpAny (model PW w) A (eval (E.py nm (.att e a p)) env) (EvQ w base M H s r) (ExcP w base M H s r) s := by
 dsimp only [Mine.ev] at hr
 refine Attribute_any_ (S.evB hr hb (and1 (and1 hw)) T T.refl fun x H₁ M₁ u s₁ hr₁ g₁ hu => ?_) (attNode (and2 (and1 hw)))
 have T₁ := T.go g₁
 induction q : attV x a H₁ using Option.casesOn with
 | some v =>
  rw [q] at hr₁
  subst hr₁
  exact wpAny_mono (get_at B T₁ (and2 hw) hu q) (fun _ _ h => EvQ.from g₁ h) fun _ _ h => h
 | none =>
  rw [q] at hr₁
  dsimp only at hr₁
  obtain ⟨h200, hbad⟩ := attrOk (and2 hw)
  induction x using AV.casesOn with
  | obj i =>
   obtain ⟨hi, rfl⟩ := hu
   dsimp only at hr₁
   split at hr₁
   · rename_i c at_ hn
     split at hr₁
     · rename_i f hl hm
       subst hr₁
       refine ob21 (T₁.inst (K := K) hn) fun xs ep O => ?_
       refine ob03 (B.cls c O.cls) fun p1 p2 _ => ?_
       have hat := B.attr c a O.cls h200 hbad
       rw [hm] at hat
       refine ob03 (B.meth c a f hm) fun m1 m2 m3 => ?_
       refine get_bind (T₁.kin B) O.inst (plainGet_of p1).1 (find_meth p2 hat m2 m3 (by rw [lookIn_ns O.keys, (O.has a h200).mis hl]) (B.nocopy a h200)) (plainGet_of p1).2 ?_
       refine wpAny_call (fn_get (s := { s₁ with toks := s₁.toks + 1 }) (show K.In s₁.heap from T₁.kin B) m1 (handed_on rfl ?_))
       refine ⟨.meth f i, H₁, M₁, rfl, g₁.trans (T₁.grow (s' := { s₁ with heap := s₁.heap.push (methodObj (.ref f) (.ref (M₁.a i))), toks := s₁.toks + 1 }) Step.of_push ⟨rfl, rfl, rfl⟩), hi, _, _, rfl, Heap.get?_push_size _ rfl, rfl⟩
     · exact absurd hr₁.symm hb
   · exact absurd hr₁.symm hb
  | _ => exact absurd hr₁.symm hb
theorem putName_ok {c : Value} {dd : Option Addr} {es : Array DictEntry} {ep : Nat} {sl : Array (Option Value)} {name : Str} {hash : Int} {t : Tok} {v : Value} (hk : StrKeys es) :
 ∃ es' ep', Obj.putName name hash (.str name t) v ⟨c, dd, .dict es ep, sl⟩ = ⟨c, dd, .dict es' ep', sl⟩ ∧ StrKeys es' ∧ (∀ x, nsFind es' x = if x = name then some v else nsFind es x) ∧
  (nsFind es name = none → es'.size = es.size + 1) ∧ (nsFind es name ≠ none → es'.size = es.size) := by
 cases hi : es.findIdx? (·.key.isStr name) with
 | some i =>
  refine ⟨es.modify i fun e => { e with val := v }, ep, by simp only [Obj.putName_eq, Obj.putNameByArray, hi], hk.modify _ _, fun x => findBy_modify (fun n v => v.isStr n) Value.isStr_inj es name x v i hi, fun h => ?_, fun _ => by simp⟩
  have := findBy_of_findIdx? (fun n v => v.isStr n) es name
  rw [hi] at this
  have hlt : i < es.size := by
   have := Array.findIdx?_eq_some_iff_findIdx_eq.mp hi
   exact this.1
  unfold nsFind at h
  rw [this] at h
  simp [hlt] at h
 | none =>
  refine ⟨es.push ⟨hash, .str name t, v⟩, ep + 1, by simp only [Obj.putName_eq, Obj.putNameByArray, hi], hk.push _ _ _ _, fun x => ?_, fun _ => by simp, fun h => ?_⟩
  · exact findBy_push (fun n v => v.isStr n) es name x _ _ v (fun y => by
     show (name == y) = decide (y = name)
     by_cases h : y = name
     · subst h; simp
     · have : ¬ name = y := fun e => h e.symm
       simp [h, this]) hi
  · have := findBy_of_findIdx? (fun n v => v.isStr n) es name
    rw [hi] at this
    exact absurd this h
theorem noRef {es : Array DictEntry} (hk : StrKeys es) (name : Str) : aRefKeyMayBeTheName name es = false := by
 have hany : es.any (·.refKey) = false := by
  rw [Array.any_eq_false']; intro e he; refine ob21 (hk e he) fun n t h => ?_; simp [DictEntry.refKey, h]
 simp only [aRefKeyMayBeTheName_eq, aRefKeyMayBeTheNameByArray, hany, Bool.and_false]
theorem nsSet_at {a : Addr} {c : Value} {dd : Option Addr} {es : Array DictEntry} {ep : Nat} {sl : Array (Option Value)} {name : Str} {v : Value} {Q : Unit → Shared → Prop} {E : Value → Shared → Prop} {M : Model}
 (ho : s.heap.get? a = some ⟨c, dd, .dict es ep, sl⟩) (hk : StrKeys es)
 (h : ∀ h' es' ep', h'.get? a = some ⟨c, dd, .dict es' ep', sl⟩ → StrKeys es' → (∀ x, nsFind es' x = if x = name then some v else nsFind es x) → (nsFind es name = none → es'.size = es.size + 1) → (nsFind es name ≠ none → es'.size = es.size) →
  Heap.SameBut a s.heap h' → Q () { s with heap := h', toks := s.toks + 1 }) : wpAny M A (nsSet a name v) Q E s := by
 have N : aRefKeyMayBeTheName name es = false := noRef hk name
 have fin : ∀ hash : Int, Q () { s with heap := s.heap.update a (Obj.putName name hash (.str name s.toks) v), toks := s.toks + 1 } := fun hash => by
  refine ob25 ((fun hash => putName_ok (c := c) (dd := dd) (ep := ep) (sl := sl) (name := name) (hash := hash) (t := s.toks) (v := v) hk) hash) fun es' ep' e k f z1 z2 => ?_
  refine h _ es' ep' ?_ k f z1 z2 (Heap.SameBut.update ..)
  rw [← e]
  exact Heap.get?_update_self _ ho (by rw [e]; rfl)
 unfold nsSet
 refine wpAny_bind (wpAny_bind (wpAny_askSetting (wpAny_pure (wpAny_bind (wpAny_mkText (wpAny_bind (wpAny_loadPart ho ?_)))))))
 dsimp only
 rw [N]
 exact wpAny_updatePart (o := ⟨c, dd, .dict es ep, sl⟩) ho (fin _)
def offO (M : Mp) (n : Nat) (a : Addr) (c : Value) : Prop := offK c ∨ (c = .type "dict" ∧ ¬ Owned M n a)
theorem OR.cls {n : Nat} {h : Heap} {i : Nat} {o : AO} (x : OR w h M n i o) : ∃ oa od, h.get? (M.a i) = some oa ∧ h.get? (M.d i) = some od ∧ (oa.cls = .type "list" ∨ oa.cls = .type "dict" ∨ ∃ c, oa.cls = .ref c ∧ (tb.cls c).isSome = true) ∧ (od.cls = .type "list" ∨ od.cls = .type "dict") := by
 induction o using AO.casesOn with
 | list l => obtain ⟨xs, ep, g, r, z, q⟩ := x; exact ⟨_, _, g, q ▸ g, .inl rfl, .inl rfl⟩
 | junk b => obtain ⟨xs, ep, g, r, z, q⟩ := x; exact ⟨_, _, g, q ▸ g, .inl rfl, .inl rfl⟩
 | fix l o => obtain ⟨g, ⟨xs, ep, e, r⟩, z, q⟩ := x; subst e; exact ⟨_, _, g, q ▸ g, .inl rfl, .inl rfl⟩
 | dict es => obtain ⟨f, ⟨o, es', ep, g, ⟨hx, _⟩, r⟩, dl, z, q, y⟩ := x; exact ⟨_, _, g, q ▸ g, .inr (.inl hx), .inr hx⟩
 | book es => obtain ⟨xs, ep, bxs, g, r, z, q, _⟩ := x; exact ⟨_, _, g, q ▸ g, .inr (.inl rfl), .inr rfl⟩
 | inst c at_ => obtain ⟨m, xs, ep, g, gd, r, hc, _⟩ := x; exact ⟨_, _, g, gd, .inr (.inr ⟨c, rfl, hc⟩), .inr rfl⟩
theorem Rel.turn (R : Rel w base M H s.heap) {h' : Heap} {a : Addr} {o : Obj} (ho : s.heap.get? a = some o) (hc : offO M H.length a o.cls) (hs : ∀ b o, b ≠ a → s.heap.get? b = some o → h'.get? b = some o) : Rel w base M H h' := by
 have ne : ∀ b o', s.heap.get? b = some o' → (o'.cls ≠ .type "dict" ∨ Owned M H.length b) → ¬ offK o'.cls → h'.get? b = some o' := fun b o' hb h1 h2 => by
  refine hs b o' (fun e => ?_) hb
  subst e
  rw [ho] at hb; injection hb with hb; subst hb
  rcases hc with hc | ⟨hc, no⟩
  · exact h2 hc
  · exact h1.elim (fun h => h hc) no
 refine ⟨fun i ob e => ?_, R.apart, R.fresh, R.tab.go fun b o' hb h => ne b o' hb (.inl (by rcases h with h | h <;> rw [h] <;> simp)) (by rcases h with h | h <;> rw [h] <;> simp [offK, iterK])⟩
 refine ob24 (OR.cls (R.obj i ob e)) fun oa od ga gd ca cd => ?_
 refine (R.obj i ob e).go (fun b o' hb h => ne b o' hb (.inl (by rcases h with h | h <;> rw [h] <;> simp)) (by rcases h with h | h <;> rw [h] <;> simp [offK, iterK])) (.refl _ _) (Nat.le_refl _) (nth_lt e) (fun o' hb => ?_) fun o' hb => ?_
 · rw [ga] at hb; injection hb with hb; subst hb
   exact ne _ _ ga (.inr ⟨i, (nth_lt e), .inl rfl⟩) (by rcases ca with h | h | ⟨c, h, _⟩ <;> rw [h] <;> simp [offK, iterK])
 · rw [gd] at hb; injection hb with hb; subst hb
   exact ne _ _ gd (.inr ⟨i, (nth_lt e), .inr rfl⟩) (by rcases cd with h | h <;> rw [h] <;> simp [offK, iterK])
theorem Rel.sameBut (R : Rel w base M H s.heap) {h' : Heap} {a : Addr} {o : Obj} (ho : s.heap.get? a = some o) (hc : offO M H.length a o.cls) (hs : Heap.SameBut a s.heap h') : Rel w base M H h' := R.turn ho hc fun b o ne e => (hs.2 b ne).trans e
theorem FrOk.but {h h' : Heap} {a : Addr} {o : Obj} (ho : h.get? a = some o) (hs : Heap.SameBut a h h') (hn : o.cls = .type "frame" → ∃ o' es ep, h'.get? a = some o' ∧ o'.cls = .type "frame" ∧ o'.data = .dict es ep) : ∀ {l : List Env}, FrOk base h l → FrOk base h' l
 | [], _ => trivial
 | _ :: _, ⟨a1, ⟨L, oL, es, ep, f, b, g, c, d⟩, r⟩ => by
  refine ⟨a1, ?_, FrOk.but ho hs hn r⟩
  by_cases e : L = a
  · subst e
    rw [ho] at g; injection g with g; subst g
    refine ob33 (hn c) fun o' es' ep' g' c' d' => ?_
    exact ⟨L, o', es', ep', f, b, g', c', d'⟩
  · exact ⟨L, oL, es, ep, f, b, (hs.2 L e).trans g, c, d⟩
theorem VR.but {h h' : Heap} {a : Addr} {o : Obj} {n : Nat} (ho : h.get? a = some o) (hc : offO M n a o.cls) (hs : Heap.SameBut a h h') {v : AV} {u : Value} (x : VR h M n v u) : VR h' M n v u :=
 x.go (fun b o' hb hq => (hs.2 b fun e => by subst e; rw [ho] at hb; injection hb with hb; subst hb; rcases hq with h | h <;> rw [h] at hc <;> simp [offO, offK, iterK] at hc).trans hb) (.refl _ _) (Nat.le_refl _)
theorem look_upd (fr : Fr) (x y : Nat) (v : AV) : look (upd fr x v) y = if y = x then some v else look fr y := by
 induction fr with
 | nil =>
  dsimp only [upd, look]
  by_cases h : y = x
  · subst h; simp
  · induction q : Nat.beq x y using Bool.casesOn with
    | true => exact absurd (Nat.eq_of_beq_eq_true q).symm h
    | false => simp [h]
 | cons p r ih =>
  obtain ⟨k, u⟩ := p
  dsimp only [upd]
  induction q : Nat.beq k x using Bool.casesOn with
  | true =>
   have q' := Nat.eq_of_beq_eq_true q
   subst q'
   dsimp only [look]
   by_cases h : y = k
   · subst h; simp
   · induction q2 : Nat.beq k y using Bool.casesOn with
     | true => exact absurd (Nat.eq_of_beq_eq_true q2).symm h
     | false => simp [h]
  | false =>
   have q' := Nat.ne_of_beq_eq_false q
   dsimp only [look]
   induction q2 : Nat.beq k y using Bool.casesOn with
   | true =>
    have := Nat.eq_of_beq_eq_true q2
    subst this
    simp [q']
   | false => simp [ih]
theorem StepX.but {h h' : Heap} {a : Addr} (hs : Heap.SameBut a h h') {X : Addr → Prop} (hX : X a) : StepX X h h' :=
 ⟨fun b o e _ n => (hs.2 b fun q => n (q ▸ hX)).trans e, fun b o e _ n => ⟨o.slots, (hs.2 b fun q => n (q ▸ hX)).trans e⟩⟩
theorem stays_but {h h' : Heap} {a : Addr} (st : base.StaysIn h) (hs : Heap.SameBut a h h') (hf : base.get? a = none) : base.StaysIn h' := fun b o e => (hs.2 b fun q => by subst q; rw [hf] at e; contradiction).trans (st b o e)
theorem Kept.but {X : Addr → Prop} {h h' : Heap} {a : Addr} {n : Nat} (hX : X a) (hs : Heap.SameBut a h h') (ha : ∃ o', h'.get? a = some o') : Kept X M n h M n h' :=
 ⟨fun b ob e => by
  by_cases q : b = a
  · subst q; exact ha
  · exact ⟨ob, (hs.2 b q).trans e⟩, fun i h1 h2 => absurd h2 (Nat.not_lt.mpr h1), fun b ob e c _ nx => (hs.2 b fun q => nx (q ▸ hX)).trans e⟩
theorem stN (B : BaseOk w base K) (T : Sit w base A d l z env fr M H s) {x : Nat} {v : AV} {u : Value} (hx : isFrom z x [.local, .cell] = true) (hv : VR s.heap M H.length v u) {E : Value → Shared → Prop} {A' : Around} :
 wpAny (model PW w) A' (storeName env (nm x) u) (fun _ s' => GoF w base z env M H s M H s' ∧ FrR base z env (upd fr x v) H.length M s'.heap ∧ FrOk base s'.heap l) E s := by
 have h200 := ifL hx
 refine ob12 (ifK hx) fun k hk hm => ?_
 obtain ⟨ok, fresh, freshC, ⟨m, ⟨oL, es, ep, gL, cL, dL, sk, nf⟩, r⟩, cs, ca, no⟩ := T.fr
 have hk' : k = .local ∨ k = .cell := by simpa using hm
 have kk : env.kindOf (nm x) = some k := ok.is h200 hk (by rcases hk' with h | h <;> rw [h] <;> decide)
 rcases hk' with rfl | rfl
 · obtain ⟨c0, dd0, dt0, sl0⟩ := oL
   dsimp only at cL dL
   subst dL
   rw [storeName_local kk (by rw [ok.kind]; rfl)]
   refine nsSet_at gL sk fun h' es' ep' g' k' f' z1 z2 hs => ?_
   have hc : offO M H.length env.locals (⟨c0, dd0, .dict es ep, sl0⟩ : Obj).cls := by
    rcases cL with h | h
    · exact .inl (.inl h)
    · exact .inr ⟨h, no⟩
   have nc : (⟨c0, dd0, .dict es ep, sl0⟩ : Obj).cls ≠ .type "cell" := by
    rcases cL with h | h <;> dsimp only <;> rw [h] <;> simp
   refine ⟨⟨T.rel.sameBut gL hc hs, .refl _ _, Nat.le_refl _, .but hs (.inl rfl), ⟨rfl, rfl, rfl⟩, stays_but T.stays hs fresh, .but (.inl rfl) hs ⟨_, g'⟩⟩, ⟨ok, fresh, freshC, ⟨fun y => if y = nm x then some u else m y, ⟨_, es', ep', g', cL, rfl, k', fun y => by rw [f', nf]⟩, fun y v' e => ?_⟩, fun y hy e => ?_, ca, no⟩, FrOk.but gL hs (fun h => ⟨_, es', ep', g', h, rfl⟩) T.frs⟩
   · rw [look_upd] at e
     by_cases q : y = x
     · subst q
       rw [if_pos rfl] at e; injection e with e; subst e
       exact ⟨h200, u, hv.but gL hc hs, .inl ⟨hk, if_pos rfl⟩⟩
     · rw [if_neg q] at e
       obtain ⟨hy, u', a, b⟩ := r y v' e
       refine ⟨hy, u', a.but gL hc hs, ?_⟩
       rcases b with ⟨b1, b2⟩ | ⟨b1, c, b2, ⟨oc, b3, b4, b5⟩⟩
       · exact .inl ⟨b1, (if_neg fun h => q (B.inj y x hy h200 h)).trans b2⟩
       · refine .inr ⟨b1, c, b2, oc, (hs.2 c fun q => ?_).trans b3, b4, b5⟩
         subst q; rw [gL] at b3; injection b3 with b3; subst b3; exact absurd b4 nc
   · obtain ⟨c, v', b2, ⟨oc, b3, b4, b5⟩⟩ := cs y hy e
     refine ⟨c, v', b2, oc, (hs.2 c fun q => ?_).trans b3, b4, b5⟩
     subst q; rw [gL] at b3; injection b3 with b3; subst b3; exact absurd b4 nc
 · obtain ⟨c, v₀, hc, ⟨oc, g1, g2, g3⟩⟩ := cs x h200 (.inl hk)
   obtain ⟨c0, dd0, dt0, sl0⟩ := oc
   dsimp only at g2 g3
   subst g2 g3
   have hcc : offO M H.length c (⟨.type "cell", dd0, .cell v₀, sl0⟩ : Obj).cls := .inl (.inr (.inl rfl))
   unfold storeName
   simp only [kk, ok.kind]
   refine wpAny_bind (wpAny_cellOf hc ?_)
   unfold cellSet
   refine wpAny_bind (wpAny_load g1 ?_)
   dsimp only
   refine wpAny_update (o := ⟨.type "cell", dd0, .cell v₀, sl0⟩) g1 ?_
   have g' := Heap.get?_update_self (fun o => { o with data := .cell (some u) }) g1 rfl
   have hs := Heap.SameBut.update s.heap c (fun o => { o with data := .cell (some u) })
   refine ⟨⟨T.rel.sameBut g1 hcc hs, .refl _ _, Nat.le_refl _, .but hs (.inr ⟨x, h200, hk, hc⟩), ⟨rfl, rfl, rfl⟩, stays_but T.stays hs (freshC x c h200 hk hc), .but (.inr ⟨x, h200, hk, hc⟩) hs ⟨_, g'⟩⟩, ⟨ok, fresh, freshC, ⟨m, ⟨oL, es, ep, (hs.2 _ fun q => ?_).trans gL, cL, dL, sk, nf⟩, fun y v' e => ?_⟩, fun y hy e => ?_, ca, no⟩, FrOk.but g1 hs (fun h => absurd h (by simp)) T.frs⟩
   · rw [← q, gL] at g1; injection g1 with g1; subst g1; rcases cL with h | h <;> simp at h
   · rw [look_upd] at e
     by_cases q : y = x
     · subst q
       rw [if_pos rfl] at e; injection e with e; subst e
       exact ⟨h200, u, hv.but g1 hcc hs, .inr ⟨.inl hk, c, hc, _, g', rfl, rfl⟩⟩
     · rw [if_neg q] at e
       obtain ⟨hy, u', a, b⟩ := r y v' e
       refine ⟨hy, u', a.but g1 hcc hs, ?_⟩
       rcases b with ⟨b1, b2⟩ | ⟨b1, c', b2, ⟨oc, b3, b4, b5⟩⟩
       · exact .inl ⟨b1, b2⟩
       · exact .inr ⟨b1, c', b2, oc, (hs.2 c' fun q' => q (ca y x c' hy h200 b2 (q' ▸ hc))).trans b3, b4, b5⟩
   · by_cases q : y = x
     · subst q; exact ⟨c, some u, hc, _, g', rfl, rfl⟩
     · obtain ⟨c', v', b2, ⟨oc, b3, b4, b5⟩⟩ := cs y hy e
       exact ⟨c', v', b2, oc, (hs.2 c' fun q' => q (ca y x c' hy h200 b2 (q' ▸ hc))).trans b3, b4, b5⟩
theorem GoF.refl (T : Sit w base A d l z env fr M H s) : GoF w base z env M H s M H s := T.refl.f
theorem Sit.f (T : Sit w base A d l z env fr M H s) {fr' : Fr} {M' : Mp} {H' : AH} {s' : Shared} (g : GoF w base z env M H s M' H' s') (F : FrR base z env fr' H'.length M' s'.heap) (O : FrOk base s'.heap l) : Sit w base A d l z env fr' M' H' s' := ⟨T.aok, O, g.rel, g.stays, F⟩
theorem ExQ.from {M₀ : Mp} {H₀ : AH} {s₀ : Shared} {r : R (Fl × Fr)} (g : GoF w base z env M₀ H₀ s₀ M H s) {f : Flow} {s' : Shared} (q : ExQ w base z env l M H s r f s') : ExQ w base z env l M₀ H₀ s₀ r f s' := by
 obtain ⟨fl, fr', H', M', e, g', x, y, z⟩ := q
 exact ⟨fl, fr', H', M', e, g.trans g', x, y, z⟩
theorem ExcF.from {α : Type} {M₀ : Mp} {H₀ : AH} {s₀ : Shared} {r : R α} (g : GoF w base z env M₀ H₀ s₀ M H s) {f : Value} {s' : Shared} (q : ExcF w base z env l M H s r f s') : ExcF w base z env l M₀ H₀ s₀ r f s' := by
 obtain ⟨c, H', M', e, g', x, y⟩ := q
 exact ⟨c, H', M', e, g.trans g', x, y⟩
theorem ExcP.f {α : Type} (T : Sit w base A d l z env fr M H s) {r : R α} {x : Value} {s' : Shared} (q : ExcP w base M H s r x s') : ExcF w base z env l M H s r x s' := by
 obtain ⟨c, H', M', e, g, h⟩ := q
 exact ⟨c, H', M', e, g.f, h, T.frs.step g.step⟩
theorem notOwn (F : FrR base z env fr H.length M s.heap) {b : Addr} {o : Obj} (hb : s.heap.get? b = some o) (h1 : o.cls ≠ .type "frame") (h2 : o.cls ≠ .type "cell") (h3 : o.cls ≠ .type "dict") : ¬ Own z env b := by
 obtain ⟨ok, fresh, freshC, ⟨m, ⟨oL, es, ep, gL, cL, _⟩, r⟩, cs, ca, no⟩ := F
 rintro (rfl | ⟨x, hx, hk, hl⟩)
 · rw [gL] at hb; injection hb with hb; subst hb; exact cL.elim h1 h3
 · obtain ⟨c, v, hc, ⟨oc, g, k, _⟩⟩ := cs x hx (.inl hk)
   rw [hl] at hc; injection hc with hc; subst hc
   rw [g] at hb; injection hb with hb; subst hb; exact h2 k
theorem GoF.keepT (F : FrR base z env fr H.length M s.heap) {M' : Mp} {H' : AH} {s' : Shared} (g : GoF w base z env M H s M' H' s') : ∀ b o, s.heap.get? b = some o → o.cls = .type "tuple" ∨ o.cls = .type "method" → s'.heap.get? b = some o := fun b o hb hc =>
 g.step.inert b o hb (hc.elim (fun c => .inl c) fun c => .inr (.inr (.inl c))) (notOwn F hb (by rcases hc with h | h <;> rw [h] <;> trivial) (by rcases hc with h | h <;> rw [h] <;> trivial) (by rcases hc with h | h <;> rw [h] <;> trivial))
theorem GoF.vr (F : FrR base z env fr H.length M s.heap) {M' : Mp} {H' : AH} {s' : Shared} (g : GoF w base z env M H s M' H' s') {a : AV} {v : Value} (y : VR s.heap M H.length a v) : VR s'.heap M' H'.length a v := y.go (g.keepT F) g.ext g.len
theorem GoF.vrs (F : FrR base z env fr H.length M s.heap) {M' : Mp} {H' : AH} {s' : Shared} (g : GoF w base z env M H s M' H' s') {a : List AV} {v : List Value} (y : VRs s.heap M H.length a v) : VRs s'.heap M' H'.length a v := y.go (g.keepT F) g.ext g.len
theorem Snd.evF {α : Type} (S : Snd w base K n) {e : E} {f : AV → AH → R α} {r : R α} (hr : (Mine.ev tb n d fr H e).bind f = r) (hb : r ≠ .bad) (hw : wfE z e = true) (T : Sit w base A d l z env fr M H s) {Q : Value → Shared → Prop}
 (k : ∀ av H' M' v s', f av H' = r → Go w base M H s M' H' s' → VR s'.heap M' H'.length av v → Q v s') :
 wpAny (model PW w) A (eval (e.py nm) env) Q (ExcF w base z env l M H s r) s :=
 wpAny_mono (S.evB hr hb hw T T.refl k) (fun _ _ h => h) fun _ _ h => h.f T
theorem noSwap {e : E} (h : isComp e = false) {t : Option Expr} {ln : Nat} : swapsWith (E.py nm e) t ln env = pure false := by
 cases e <;> first | rfl | cases h
theorem Snd.exs1 (S : Snd w base K n) {es : List Mine.S} {r : R (Fl × Fr)} (hr : Mine.exs tb (n + 1) d fr H es = r) (hb : r ≠ .bad) (hw : wfSs z es = true) (T : Sit w base A d l z env fr M H s) :
 wpAny (model PW w) A (execs (Mine.S.pys nm es) env) (ExQ w base z env l M H s r) (ExcF w base z env l M H s r) s := by
 induction es using List.casesOn with
 | nil =>
  dsimp only [Mine.exs] at hr
  exact wpAny_execs_nil ⟨.next, fr, H, M, hr.symm, .refl T, T.fr, T.frs, rfl⟩
 | cons e es =>
  dsimp only [Mine.exs] at hr
  have hb' : Mine.ex tb n d fr H e ≠ .bad := by intro q; rw [q] at hr; exact hb hr.symm
  refine wpAny_execs_cons (wpAny_mono (S.ex rfl hb' (and1 hw) T) (fun f s₁ q => ?_) fun x s₁ q => ?_)
  · obtain ⟨fl, fr', H₁, M₁, e1, g₁, F₁, O₁, hf⟩ := q
    rw [e1] at hr
    induction fl using Fl.casesOn with
    | next =>
     obtain rfl : f = .next := hf
     exact wpAny_mono (S.exs hr hb (and2 hw) (T.f g₁ F₁ O₁)) (fun _ _ q => ExQ.from g₁ q) fun _ _ q => ExcF.from g₁ q
    | ret v =>
     refine ob12 hf fun u q1_ hu => ?_; subst q1_
     exact ⟨.ret v, fr', H₁, M₁, hr.symm, g₁, F₁, O₁, u, rfl, hu⟩
  · obtain ⟨c, H', M', e1, q, q', q2⟩ := q
    rw [e1] at hr
    exact ⟨c, H', M', hr.symm, q, q', q2⟩
theorem Snd.ret (S : Snd w base K n) {e : E} {p : Pos} {r : R (Fl × Fr)} (hr : Mine.ex tb (n + 1) d fr H (.ret e p) = r) (hb : r ≠ .bad) (hw : wfS z (.ret e p) = true) (T : Sit w base A d l z env fr M H s) :
 wpAny (model PW w) A (exec (Mine.S.py nm (.ret e p)) env) (ExQ w base z env l M H s r) (ExcF w base z env l M H s r) s := by
 dsimp only [Mine.ex] at hr
 exact wpAny_Return_some (S.evF hr hb hw T fun av H₁ M₁ v s₁ hr₁ g₁ hv => ⟨.ret av, fr, H₁, M₁, hr₁.symm, g₁.f, T.fr.go g₁, T.frs.step g₁.step, v, rfl, hv⟩)
theorem Snd.ifs (S : Snd w base K n) {t : E} {a b : List Mine.S} {p : Pos} {r : R (Fl × Fr)} (hr : Mine.ex tb (n + 1) d fr H (.ife t a b p) = r) (hb : r ≠ .bad) (hw : wfS z (.ife t a b p) = true) (T : Sit w base A d l z env fr M H s) :
 wpAny (model PW w) A (exec (Mine.S.py nm (.ife t a b p)) env) (ExQ w base z env l M H s r) (ExcF w base z env l M H s r) s := by
 dsimp only [Mine.ex] at hr
 refine wpAny_If (wpAny_mono (S.teB hr hb (and1 hw) T T.refl fun c H₁ M₁ s₁ hr₁ g₁ => ?_) (fun _ _ h => h) fun _ _ h => h.f T)
 cases c
 · exact wpAny_mono (S.exs hr₁ hb (and2 (and2 hw)) (T.go g₁)) (fun _ _ q => ExQ.from g₁.f q) fun _ _ q => ExcF.from g₁.f q
 · exact wpAny_mono (S.exs hr₁ hb (and1 (and2 hw)) (T.go g₁)) (fun _ _ q => ExQ.from g₁.f q) fun _ _ q => ExcF.from g₁.f q
theorem Snd.expS (S : Snd w base K n) {e : E} {p : Pos} {r : R (Fl × Fr)} (hr : Mine.ex tb (n + 1) d fr H (.exp e p) = r) (hb : r ≠ .bad) (hw : wfE z e = true) (hc : isComp e = false) (T : Sit w base A d l z env fr M H s) :
 wpAny (model PW w) A (exec (Mine.S.py nm (.exp e p)) env) (ExQ w base z env l M H s r) (ExcF w base z env l M H s r) s := by
 dsimp only [Mine.ex] at hr
 have hi : interactive env = false := by unfold interactive; rw [T.fr.ok.kind]; rfl
 exact wpAny_Expr_any (S.evF hr hb hw T fun av H₁ M₁ v s₁ hr₁ g₁ hv => ⟨.next, fr, H₁, M₁, hr₁.symm, g₁.f, T.fr.go g₁, T.frs.step g₁.step, rfl⟩) hi (noSwap hc)
theorem Snd.asgN (B : BaseOk w base K) {x : Nat} {p : Pos} {v : AV} {u : Value} {r : R Fr} (hr : Mine.asg tb (n + 1) d fr H (.name x p) v = r) (hw : wfT z (.name x p) = true) (T : Sit w base A d l z env fr M H s) (hv : VR s.heap M H.length v u) :
 wpAny (model PW w) A (assign (Tg.py nm (.name x p)) env u) (fun _ s' => AsgQ w base z env l M H s r s') (fun _ _ => False) s := by
 dsimp only [Mine.asg] at hr
 exact wpAny_assign_Name (wpAny_mono (stN B T hw hv) (fun _ s' ⟨g, F, O⟩ => ⟨_, H, M, hr.symm, g, F, O⟩) fun _ _ h => h)
theorem Snd.asgS1 (S : Snd w base K n) {ts : List Tg} {vs : List AV} {us : List Value} {r : R Fr} (hr : Mine.asgs tb (n + 1) d fr H ts vs = r) (hb : r ≠ .bad) (hw : wfTs z ts = true) (T : Sit w base A d l z env fr M H s) (hv : VRs s.heap M H.length vs us) :
 wpAny (model PW w) A (assignInOrder ((assignEach (Tg.pys nm ts) env).map (·.2)) us) (fun _ s' => AsgQ w base z env l M H s r s') (fun _ _ => False) s := by
 induction ts using List.casesOn with
 | nil => induction vs using List.casesOn with
  | nil => dsimp only [Mine.asgs] at hr; exact wpAny_pure ⟨fr, H, M, hr.symm, .refl T, T.fr, T.frs⟩
  | cons => dsimp only [Mine.asgs] at hr; exact absurd hr.symm hb
 | cons t ts => induction vs using List.casesOn with
  | nil => dsimp only [Mine.asgs] at hr; exact absurd hr.symm hb
  | cons v vs =>
   obtain ⟨u, us, rfl, hu, hus⟩ := hv
   dsimp only [Mine.asgs] at hr
   have hb' : Mine.asg tb n d fr H t v ≠ .bad := by intro q; rw [q] at hr; exact hb hr.symm
   have e : assignEach (Tg.pys nm (t :: ts)) env = (false, assign (Tg.py nm t) env) :: assignEach (Tg.pys nm ts) env := by cases t <;> rfl
   rw [e]
   refine wpAny_bind (wpAny_holding (wpAny_mono (S.asg rfl hb' (and1 hw) T hu) (fun _ s₁ q => ?_) fun _ _ h => h))
   obtain ⟨fr', H₁, M₁, e1, g₁, F₁, O₁⟩ := q
   rw [e1] at hr
   refine wpAny_mono (S.asgs hr hb (and2 hw) (T.f g₁ F₁ O₁) (g₁.vrs T.fr hus)) (fun _ s₂ q => ?_) fun _ _ h => h
   obtain ⟨fr'', H₂, M₂, e2, g₂, F₂, O₂⟩ := q
   exact ⟨fr'', H₂, M₂, e2, g₁.trans g₂, F₂, O₂⟩
theorem Snd.asg1 (S : Snd w base K n) {t : Tg} {e : E} {p : Pos} {r : R (Fl × Fr)} (hr : Mine.ex tb (n + 1) d fr H (.asg t e p) = r) (hb : r ≠ .bad) (hw : wfS z (.asg t e p) = true) (hsw : swapsWithSole [t.py nm] (e.py nm) p.line env = pure false) (T : Sit w base A d l z env fr M H s) :
 wpAny (model PW w) A (exec (Mine.S.py nm (.asg t e p)) env) (ExQ w base z env l M H s r) (ExcF w base z env l M H s r) s := by
 dsimp only [Mine.ex] at hr
 have fin : ∀ av H₁ M₁ v s₁, (match Mine.asg tb n d fr H₁ t av with | .ok fr H => R.ok (Fl.next, fr) H | _ => .bad) = r → Go w base M H s M₁ H₁ s₁ → VR s₁.heap M₁ H₁.length av v →
  wpAny (model PW w) A (assign (t.py nm) env v) (fun _ => ExQ w base z env l M H s r .next) (ExcF w base z env l M H s r) s₁ := fun av H₁ M₁ v s₁ hr₁ g₁ hv => by
  have hb' : Mine.asg tb n d fr H₁ t av ≠ .bad := by intro q; rw [q] at hr₁; exact hb hr₁.symm
  refine wpAny_mono (S.asg rfl hb' (and1 hw) (T.go g₁) hv) (fun _ s₂ q => ?_) fun _ _ h => h.elim
  obtain ⟨fr', H₂, M₂, e2, g₂, F₂, O₂⟩ := q
  rw [e2] at hr₁
  exact ⟨.next, fr', H₂, M₂, hr₁.symm, g₁.f.trans g₂, F₂, O₂, rfl⟩
 show wpAny (model PW w) A (exec (.Assign [t.py nm] (e.py nm) p) env) _ _ s
 rw [exec_Assign]
 refine wpAny_bind (wpAny_standAt ?_)
 rw [hsw]
 refine wpAny_bind (wpAny_pure ?_)
 rw [if_neg (by decide)]
 refine wpAny_bind (wpAny_mono (S.evF (Q := fun v s₁ => wpAny (model PW w) A (assign (t.py nm) env v) (fun _ => ExQ w base z env l M H s r .next) (ExcF w base z env l M H s r) s₁) hr hb (and2 hw) T fin) (fun v s₁ h₁ => ?_) fun _ _ h => h)
 have e1 : swappedStores [t.py nm] (e.py nm) env = pure none := by cases t <;> rfl
 have e2 : (assignEach [t.py nm] env).map (·.2) = [assign (t.py nm) env] := by cases t <;> rfl
 rw [e1, e2]
 exact wpAny_bind (wpAny_pure (wpAny_bind (wpAny_mono h₁ (fun _ _ h => wpAny_pure h) fun _ _ h => h)))
theorem assignEach_len : ∀ ts : List Tg, (assignEach (Tg.pys nm ts) env).length = ts.length
 | [] => rfl
 | t :: ts => by
  have e : assignEach (Tg.pys nm (t :: ts)) env = (false, assign (Tg.py nm t) env) :: assignEach (Tg.pys nm ts) env := by cases t <;> rfl
  rw [e, List.length_cons, assignEach_len ts]; rfl
theorem assignEach_star : ∀ ts : List Tg, (assignEach (Tg.pys nm ts) env).findIdx? (·.1) = none
 | [] => rfl
 | t :: ts => by
  have e : assignEach (Tg.pys nm (t :: ts)) env = (false, assign (Tg.py nm t) env) :: assignEach (Tg.pys nm ts) env := by cases t <;> rfl
  rw [e, List.findIdx?_cons, assignEach_star ts]; rfl
theorem ExtBut.keeps {h h' : Heap} (x : Heap.ExtBut h.objs.size h h') : ∀ b o, h.get? b = some o → h'.get? b = some o := fun b o e => x b o (Nat.ne_of_lt (Heap.lt_size e)) e
theorem asgs_len : ∀ {n d : Nat} {fr : Fr} {H : AH} {ts : List Tg} {vs : List AV}, Mine.asgs tb n d fr H ts vs ≠ .bad → ts.length = vs.length
 | 0, _, _, _, _, _, h => by dsimp only [Mine.asgs] at h; exact absurd rfl h
 | n + 1, d, fr, H, [], [], _ => rfl
 | n + 1, d, fr, H, [], _ :: _, h => by dsimp only [Mine.asgs] at h; exact absurd rfl h
 | n + 1, d, fr, H, _ :: _, [], h => by dsimp only [Mine.asgs] at h; exact absurd rfl h
 | n + 1, d, fr, H, t :: ts, v :: vs, h => by
  dsimp only [Mine.asgs] at h
  induction q : Mine.asg tb n d fr H t v using R.casesOn with
  | ok fr' H' => rw [q] at h; simp [asgs_len h]
  | exc c H' => rw [q] at h; exact absurd rfl h
  | bad => rw [q] at h; exact absurd rfl h
theorem Snd.asgT1 (S : Snd w base K n) {ts : List Tg} {k : Nat} {pt : Pos} {e : E} {p : Pos} {r : R (Fl × Fr)} (hr : Mine.ex tb (n + 1) d fr H (.asgT ts k pt e p) = r) (hb : r ≠ .bad) (hw : (wfTs z ts && (wfE z e && inOrder z ts e)) = true) (hc : isComp e = false)
 (T : Sit w base A d l z env fr M H s) (hsw : swappedStores [.Tuple (Tg.pys nm ts) k pt] (e.py nm) env = pure none) :
 wpAny (model PW w) A (exec (Mine.S.py nm (.asgT ts k pt e p)) env) (ExQ w base z env l M H s r) (ExcF w base z env l M H s r) s := by
 dsimp only [Mine.ex] at hr
 have hz : swapsWithSole [Expr.Tuple (Tg.pys nm ts) k pt] (E.py nm e) p.line env = pure false := noSwap (env := env) (t := some (.Tuple (Tg.pys nm ts) k pt)) (ln := p.line) hc
 refine Assign_Tuple (S.evF hr hb (and1 (and2 hw)) T fun av H₁ M₁ v s₁ hr₁ g₁ hv => ?_) hz hsw
 induction av using AV.casesOn with
 | tup vs =>
  refine ob23 hv.isTup fun a xs q2_ ht hvs => ?_; subst q2_
  have hb' : Mine.asgs tb n d fr H₁ ts vs ≠ .bad := by intro q; simp only [q] at hr₁; exact hb hr₁.symm
  have hlen : ts.length = vs.length := asgs_len hb'
  refine wpAny_assign_Tuple T.aok.handled ht (by rw [assignEach_len, hlen, ← hvs.len]; rfl) (assignEach_star ts) fun h' hx => ?_
  have g₂ : Go w base M₁ H₁ s₁ M₁ H₁ { s₁ with heap := h' } := (T.go g₁).grow (s' := { s₁ with heap := h' }) (ExtBut.keeps hx) ⟨rfl, rfl, rfl⟩
  refine wpAny_mono (S.asgs rfl hb' (and1 hw) ((T.go g₁).go g₂) (g₂.vrs hvs)) (fun _ s₃ q => ?_) fun _ _ h => h.elim
  obtain ⟨fr', H₃, M₃, e3, g₃, F₃, O₃⟩ := q
  simp only [e3] at hr₁
  exact ⟨.next, fr', H₃, M₃, hr₁.symm, (g₁.trans g₂).f.trans g₃, F₃, O₃, rfl⟩
 | _ => exact absurd hr₁.symm hb
theorem nmsPy_len : ∀ l : List (Nat × Pos), (nmsPy nm l).length = l.length
 | [] => rfl
 | _ :: l => by simp [nmsPy, nmsPy_len l]
theorem pys_len : ∀ l : List E, (E.pys nm l).length = l.length
 | [] => by simp [E.pys]
 | _ :: l => by simp [E.pys, pys_len l]
noncomputable def starF : Expr → Bool
 | .Starred _ _ => true
 | _ => false
theorem noStars : ∀ {l : List E}, wfEs z l = true → ∀ x ∈ E.pys nm l, ∀ v p, x ≠ .Starred v p
 | [], _, x, h, _, _ => by cases h
 | e :: l, h, x, hx, v, p => by
  rcases List.mem_cons.mp (show x ∈ e.py nm :: E.pys nm l from hx) with rfl | hx
  · have := wnr (and1 h)
    have q : starF (e.py nm) = false := by induction e using E.casesOn <;> first | rfl | exact absurd rfl (this _)
    intro q2; rw [q2] at q; contradiction
  · exact noStars (and2 h) x hx v p
theorem len2 {α : Type} {l : List α} (h : l.length = 2) : ∃ a b, l = [a, b] := by
 induction l using List.casesOn with
 | nil => contradiction
 | cons a l =>
  obtain ⟨b, rfl⟩ := List.length_eq_one_iff.mp (Nat.succ.inj h)
  exact ⟨a, b, rfl⟩
theorem len3 {α : Type} {l : List α} (h : l.length = 3) : ∃ a b c, l = [a, b, c] := by
 induction l using List.casesOn with
 | nil => contradiction
 | cons a l =>
  obtain ⟨b, c, rfl⟩ := len2 (Nat.succ.inj h)
  exact ⟨a, b, c, rfl⟩
theorem swapped_ok (B : BaseOk w base K) (ok : EnvOk z env) {xs : List (Nat × Pos)} {es : List E} {k : Nat} {pt : Pos} {ke : Nat} {pe : Pos} (hw : wfEs z es = true) (h : swapOk z xs es = true) :
 swappedStores [.Tuple (nmsPy nm xs) k pt] (.Tuple (E.pys nm es) ke pe) env = pure (some (xs.map fun y => nm y.1)) := by
 obtain ⟨h1, h2⟩ := Bool.and_eq_true_iff.mp h
 obtain ⟨h2, h3⟩ := Bool.and_eq_true_iff.mp h2
 obtain ⟨h3, h4⟩ := Bool.and_eq_true_iff.mp h3
 obtain ⟨h4, h5⟩ := Bool.and_eq_true_iff.mp h4
 obtain ⟨h5, h6⟩ := Bool.and_eq_true_iff.mp h5
 have hl : es.length = xs.length := Nat.eq_of_beq_eq_true h2
 have nx : xs.length = 2 ∨ xs.length = 3 := by
  rcases Bool.or_eq_true_iff.mp h1 with h | h
  · exact .inl (Nat.eq_of_beq_eq_true h)
  · exact .inr (Nat.eq_of_beq_eq_true h)
 have bk : env.blockKind = .function := by unfold Env.blockKind; rw [ok.kind]; rfl
 have h5' : (E.pys nm es).all (foldedForSure 8) = false := by simpa using h5
 have h6' : (E.pys nm es).all (constantsAlone 8) = false := by simpa using h6
 have loc : ∀ y ∈ xs, env.kindOf (nm y.1) = some .local ∧ y.1 < 202 ∧ y.2.line = (xs.head?.map (·.2.line)).getD 0 := fun y hy => by
  have := List.all_eq_true.mp h3 y hy
  obtain ⟨a, b⟩ := Bool.and_eq_true_iff.mp this
  refine ob12 (ifK a) fun kk e1 e2 => ?_
  obtain rfl : kk = .local := by simpa using e2
  exact ⟨ok.is (ifL a) e1 (by decide), ifL a, Nat.eq_of_beq_eq_true b⟩
 have line : ((nmsPy nm xs).head?.map (·.pos.line)).getD 0 = (xs.head?.map (·.2.line)).getD 0 := by cases xs <;> rfl
 have names : ∀ (f : Expr → Option Str) (L : Nat) (ys : List (Nat × Pos)), (∀ id pos, f (.Name id pos) = if (env.kindOf id == some .local && pos.line == L) = true then some id else none) → (∀ y ∈ ys, env.kindOf (nm y.1) = some .local ∧ y.2.line = L) →
  (nmsPy nm ys).filterMap f = ys.map fun y => nm y.1 := by
  intro f L ys hf
  induction ys with
  | nil => intro _; rfl
  | cons y r ih =>
   intro hy
   obtain ⟨a, b⟩ := hy y List.mem_cons_self
   simp only [nmsPy, List.filterMap_cons, hf, a, b, List.map_cons, beq_self_eq_true, Bool.and_self, if_true]
   rw [(ih fun y h => hy y (List.mem_cons_of_mem _ h))]
 have dd : (xs.map fun y => nm y.1).eraseDups.length = (xs.map fun y => nm y.1).length := by
  clear line names
  rcases nx with q | q
  · refine ob21 (len2 q) fun a b q2_ => ?_; subst q2_
    have ne : nm a.1 ≠ nm b.1 := fun e => by
     have := B.inj _ _ (loc a (by simp)).2.1 (loc b (by simp)).2.1 e
     simp [swapOk.distinct, this] at h4
    simp [List.eraseDups_cons, Ne.symm ne]
  · refine ob31 (len3 q) fun a b c q3_ => ?_; subst q3_
    have n1 : nm a.1 ≠ nm b.1 := fun e => by
     have := B.inj _ _ (loc a (by simp)).2.1 (loc b (by simp)).2.1 e
     simp [swapOk.distinct, this] at h4
    have n2 : nm a.1 ≠ nm c.1 := fun e => by
     have := B.inj _ _ (loc a (by simp)).2.1 (loc c (by simp)).2.1 e
     simp [swapOk.distinct, this] at h4
    have n3 : nm b.1 ≠ nm c.1 := fun e => by
     have := B.inj _ _ (loc b (by simp)).2.1 (loc c (by simp)).2.1 e
     simp [swapOk.distinct, this] at h4
    simp [List.eraseDups_cons, Ne.symm n1, Ne.symm n2, Ne.symm n3]
 unfold swappedStores
 dsimp only
 rw [if_neg (by rw [nmsPy_len, pys_len, hl, bk]; rcases nx with q | q <;> simp [q])]
 rw [if_neg (by
  rw [Bool.not_eq_true, List.any_eq_false]
  intro x hx
  have := (noStars hw) x hx
  cases x <;> first | exact absurd rfl (this _ _) | simp)]
 rw [names _ ((xs.head?.map (·.2.line)).getD 0) xs (fun id pos => by rw [line]) (fun y hy => ⟨(loc y hy).1, (loc y hy).2.2⟩)]
 rw [if_neg (by rw [nmsPy_len, dd]; simp)]
 rw [h5', h6']
 rfl
theorem VRs.append {h : Heap} {n : Nat} : ∀ {l l' : List AV} {v v' : List Value}, VRs h M n l v → VRs h M n l' v' → VRs h M n (l ++ l') (v ++ v')
 | [], _, _, _, x, y => by subst x; exact y
 | _ :: _, _, _, _, ⟨u, t, e, x, r⟩, y => by subst e; exact ⟨u, _, rfl, x, VRs.append r y⟩
theorem VRs.reverse {h : Heap} {n : Nat} : ∀ {l : List AV} {v : List Value}, VRs h M n l v → VRs h M n l.reverse v.reverse
 | [], _, x => by subst x; rfl
 | _ :: _, _, ⟨u, t, e, x, r⟩ => by subst e; rw [List.reverse_cons, List.reverse_cons]; exact VRs.append (VRs.reverse r) ⟨u, [], rfl, x, rfl⟩
theorem store_names (B : BaseOk w base K) : ∀ {xs : List Nat} {vs : List AV} {us : List Value} {fr fr' : Fr} {M : Mp} {H : AH} {s : Shared}, Mine.asgN fr xs vs = some fr' → (∀ x ∈ xs, isFrom z x [.local, .cell] = true) → VRs s.heap M H.length vs us →
 Sit w base A d l z env fr M H s → wpAny (model PW w) A (assignInOrder (xs.map fun x => bindName env (nm x)) us) (fun _ s' => GoF w base z env M H s M H s' ∧ FrR base z env fr' H.length M s'.heap ∧ FrOk base s'.heap l) (fun _ _ => False) s := by
 intro xs
 induction xs with
 | nil =>
  intro vs us fr fr' M H s e _ hv T
  induction vs using List.casesOn with
  | nil => injection e with e; subst e; cases hv; exact wpAny_pure ⟨.refl T, T.fr, T.frs⟩
  | cons _ _ => contradiction
 | cons x xs ih =>
  intro vs us fr fr' M H s e hx hv T
  induction vs using List.casesOn with
  | nil => contradiction
  | cons v vs =>
  obtain ⟨u, us, e1, hu, hus⟩ := hv
  subst e1
  refine wpAny_bind (wpAny_holding (wpAny_bindName (wpAny_mono (stN B T (hx x List.mem_cons_self) hu) (fun _ s₁ q => ?_) fun _ _ h => h)))
  refine ob03 q fun g F O => ?_
  refine wpAny_mono (ih (vs := vs) e (fun y hy => hx y (List.mem_cons_of_mem _ hy)) (g.vrs T.fr hus) (T.f g F O)) (fun _ s₂ q => ?_) fun _ _ h => h
  exact ⟨g.trans q.1, q.2⟩
theorem loc_of_swap {xs : List (Nat × Pos)} {es : List E} (h : swapOk z xs es = true) : ∀ y ∈ xs, isFrom z y.1 [.local] = true := fun y hy => by
 obtain ⟨h1, h2⟩ := Bool.and_eq_true_iff.mp h
 obtain ⟨h2, h3⟩ := Bool.and_eq_true_iff.mp h2
 obtain ⟨h3, h4⟩ := Bool.and_eq_true_iff.mp h3
 exact and1 (List.all_eq_true.mp h3 y hy)
theorem isFrom_more {x : Nat} (h : isFrom z x [.local] = true) : isFrom z x [.local, .cell] = true := by
 refine ob12 (ifK h) fun k e m => ?_
 obtain rfl : k = .local := by simpa using m
 unfold isFrom
 rw [e, and1 h]; rfl
theorem Snd.asgSw (B : BaseOk w base K) (S : Snd w base K n) {xs : List (Nat × Pos)} {k : Nat} {pt : Pos} {es : List E} {ke : Nat} {pe p : Pos} {r : R (Fl × Fr)} (hr : Mine.ex tb (n + 1) d fr H (.asgS xs k pt es ke pe p) = r) (hb : r ≠ .bad)
 (hw : wfS z (.asgS xs k pt es ke pe p) = true) (T : Sit w base A d l z env fr M H s) :
 wpAny (model PW w) A (exec (Mine.S.py nm (.asgS xs k pt es ke pe p)) env) (ExQ w base z env l M H s r) (ExcF w base z env l M H s r) s := by
 dsimp only [Mine.ex] at hr
 refine Assign_Tuple_swapped (wpAny_mono (wpAny_Tuple (S.evsB hr hb (and1 hw) T T.refl fun avs H₁ M₁ vs s₁ hr₁ g₁ hvs => ?_)) (fun _ _ h => h) fun _ _ h => h.f T) rfl (swapped_ok B T.fr.ok (k := k) (pt := pt) (ke := ke) (pe := pe) (and1 hw) (and2 hw))
 have T₁ := T.go g₁
 induction q : Mine.asgN fr (xs.map (·.1)).reverse avs.reverse using Option.casesOn with
 | none => rw [q] at hr₁; exact absurd hr₁.symm hb
 | some fr' =>
  rw [q] at hr₁
  have ln : xs.length = avs.length := by
   have : ∀ {xs : List Nat} {vs : List AV} {fr fr' : Fr}, Mine.asgN fr xs vs = some fr' → xs.length = vs.length := by
    intro xs
    induction xs with
    | nil => intro vs fr fr' e; induction vs using List.casesOn with
     | nil => rfl
     | cons => contradiction
    | cons x xs ih => intro vs fr fr' e; induction vs using List.casesOn with
     | nil => contradiction
     | cons v vs => simp [ih (vs := vs) e]
   simpa using this q
  have nx : xs.length = 2 ∨ xs.length = 3 := by
   rcases Bool.or_eq_true_iff.mp (and1 (and2 hw)) with h | h
   · exact .inl (Nat.eq_of_beq_eq_true h)
   · exact .inr (Nat.eq_of_beq_eq_true h)
  have hl : vs.length ≤ 3 := by rw [hvs.len, ← ln]; omega
  refine ⟨Nat.le_trans hl (by decide), ?_⟩
  have g₂ : Go w base M₁ H₁ s₁ M₁ H₁ { s₁ with heap := s₁.heap.push { cls := .type "tuple", data := .seq vs.toArray } } := T₁.grow (s' := { s₁ with heap := s₁.heap.push { cls := .type "tuple", data := .seq vs.toArray } }) Step.of_push ⟨rfl, rfl, rfl⟩
  have ht : IsTup (s₁.heap.push { cls := .type "tuple", data := .seq vs.toArray }) s₁.heap.objs.size vs.toArray := ⟨_, Heap.get?_push_size _ rfl, rfl, 0, rfl⟩
  have e : (xs.map fun y => nm y.1).length = vs.toArray.size := by simp [ln, hvs.len]
  rw [e]
  refine wpAny_mono (wpAny_unpackItems_tuple T.aok.handled ht (fun h' hx => ?_) (E := fun _ _ => False)) (fun _ _ h => h) fun _ _ h => h.elim
  have g₃ := (T₁.go g₂).grow (s' := { s₁ with heap := h' }) (ExtBut.keeps hx) ⟨rfl, rfl, rfl⟩
  have e2 : (List.map (fun n => bindName env n) (xs.map fun y => nm y.1).reverse) = (xs.map (·.1)).reverse.map fun x => bindName env (nm x) := by simp
  rw [e2]
  refine wpAny_mono (store_names B q (fun x hx => ?_) (VRs.reverse (g₃.vrs (g₂.vrs (by simpa using hvs)))) ((T₁.go g₂).go g₃)) (fun _ s₄ ⟨g, F, O⟩ => ?_) fun _ _ h => h.elim
  · refine ob12 (List.mem_map.mp (List.mem_reverse.mp hx)) fun y hy q2_ => ?_; subst q2_
    exact isFrom_more (loc_of_swap (and2 hw) y hy)
  · exact ⟨.next, fr', H₁, M₁, hr₁.symm, ((g₁.trans g₂).trans g₃).f.trans g, F, O, rfl⟩
theorem FrR.ld {u : AV} {x : Nat} (B : BaseOk w base K) {Q : Value → Shared → Prop} {E : Value → Shared → Prop} (F : FrR base z env fr H.length M s.heap) (e : look fr x = some u)
 (q : ∀ v, VR s.heap M H.length u v → Q v s) : wpAny (model PW w) A (loadName env (nm x)) Q E s := by
 obtain ⟨ok, _, _, ⟨m, f, g⟩, _⟩ := F
 obtain ⟨hx, v, hv, hk⟩ := g x u e
 rcases hk with ⟨k, hm⟩ | ⟨k, c, hc, hcell⟩
 · exact wpAny_loadName_local ok.kind (ok.is hx k (by decide)) f.ns hm (q v hv)
 · rcases k with k | k
   · exact wpAny_loadName_cell ok.kind (ok.is hx k (by decide)) hc hcell.is (q v hv)
   · rcases ok.free hx k with k | k
     · exact wpAny_loadName_free ok.kind k hc hcell.is (q v hv) (B.nocd x hx)
     · exact wpAny_loadName_cell ok.kind k hc hcell.is (q v hv)
theorem iop_int (T : Sit w base A d l z env fr M H s) {op : BOp} {x y : Int} {t u : Tok} {r : R AV} (ho : op = .add ∨ op = .mul) (hr : bop op (.int x) (.int y) H = r) (hb : r ≠ .bad) {E : Value → Shared → Prop} :
 wpAny (model PW w) A (inplaceOp op.py (.int x t) (.int y u)) (EvQ w base M H s r) E s := by
 have fin : ∀ {i : Int}, sm i H = r → EvQ w base M H s r (.int i s.toks) { s with toks := s.toks + 1 } := fun e => EvQ.tok T (e.symm.trans (sm_ok (e ▸ hb))) ⟨_, rfl⟩
 rcases ho with rfl | rfl
 · refine ob03 (two hr hb) fun _ _ e => ?_; exact iadd_int (fin e)
 · refine ob03 (two hr hb) fun h1 _ e => ?_; exact imul_int (fin e) (.of_left (intBits_le (small_lt h1)))
theorem Snd.augn (B : BaseOk w base K) (S : Snd w base K n) {x : Nat} {px : Pos} {op : BOp} {e : E} {p : Pos} {r : R (Fl × Fr)} (hr : Mine.ex tb (n + 1) d fr H (.augn x px op e p) = r) (hb : r ≠ .bad) (hw : (isFrom z x [.local, .cell] && wfE z e) = true) (ho : op = .add ∨ op = .mul)
 (T : Sit w base A d l z env fr M H s) :
 wpAny (model PW w) A (exec (Mine.S.py nm (.augn x px op e p)) env) (ExQ w base z env l M H s r) (ExcF w base z env l M H s r) s := by
 dsimp only [Mine.ex] at hr
 induction q : look fr x using Option.casesOn with
 | none => rw [q] at hr; exact absurd hr.symm hb
 | some v =>
  rw [q] at hr
  refine wpAny_AugAssign_Name (T.fr.ld B q fun u hu => ?_)
  refine S.evF hr hb (and2 hw) T fun av H₁ M₁ v' s₁ hr₁ g₁ hv' => ?_
  induction v using AV.casesOn with
  | int i =>
   obtain ⟨t, rfl⟩ := hu
   induction q2 : bop op (.int i) av H₁ using R.casesOn with
   | ok c H₂ =>
    simp only [q2] at hr₁
    induction av using AV.casesOn with
    | int j =>
     obtain ⟨t', rfl⟩ := hv'
     refine wpAny_mono (iop_int (T.go g₁) ho q2 (by simp)) (fun c' s₂ q3 => ?_) fun _ _ h => h
     obtain ⟨a', H₃, M₃, e3, g₃, hv₃⟩ := q3
     cases e3
     have T₃ := (T.go g₁).go g₃
     refine wpAny_mono (stN B T₃ (and1 hw) hv₃) (fun _ s₄ ⟨g, F, O⟩ => ?_) fun _ _ h => h
     exact ⟨.next, _, H₂, M₃, hr₁.symm, (g₁.trans g₃).f.trans g, F, O, rfl⟩
    | _ => rcases ho with rfl | rfl <;> contradiction
   | exc c H₂ => simp only [q2] at hr₁; exact absurd hr₁.symm hb
   | bad => simp only [q2] at hr₁; exact absurd hr₁.symm hb
  | _ => exact absurd hr₁.symm hb
theorem while_step {R : Result → Shared → Prop} {test : Expr} {body : List Stmt}
 (h : wpAny (model PW w) A (isTrue test env (eval test env)) (fun b s₂ => match b with
  | true => wpAny (model PW w) A (execs body env) (fun f s₃ => match f with
   | .next => codeAny (model PW w) A (.whileLoop test body [] env) R s₃
   | .ret v => R (.ok (.ret v)) s₃
   | _ => False) (fun _ _ => False) s₂
  | false => R (.ok .next) s₂) (fun _ _ => False) s) : codeAny (model PW w) A (.whileLoop test body [] env) R s := by
 refine codeAny_of_tree ?_
 rw [show A.under (.whileLoop test body [] env) = A from Around.under_of_weight rfl]
 skip
 refine wpAny_onRaise ?_
 simp only [whileTurn]
 refine wpAny_bind (wpAny_mono h (fun b s₂ h₂ => ?_) fun _ _ h' => h'.elim)
 induction b using Bool.casesOn with
 | false => exact wpAny_bind (wpAny_execs_nil (wpAny_pure h₂))
 | true =>
  simp only [if_true]
  refine wpAny_bind (wpAny_mono h₂ (fun f s₃ h₃ => ?_) fun _ _ h' => h'.elim)
  cases f with
  | next => exact wpAny_pure ⟨rfl, h₃⟩
  | cont => exact h₃.elim
  | brk => exact h₃.elim
  | ret v => exact wpAny_pure h₃
theorem for_step {R : Result → Shared → Prop} {target : Expr} {it : Value} {body : List Stmt} (ht : ∀ v, letOwnedTupleGo target it v = pure ())
 (h : wpAny (model PW w) A (pyNext it) (fun r s₁ => match r with
  | none => R (.ok .next) s₁
  | some v => wpAny (model PW w) A (assign target env v) (fun _ s₂ => wpAny (model PW w) A (execs body env) (fun f s₃ => match f with
   | .next => codeAny (model PW w) A (.forLoop target it body [] env) R s₃
   | .ret v => R (.ok (.ret v)) s₃
   | _ => False) (fun _ _ => False) s₂) (fun _ _ => False) s₁) (fun _ _ => False) s) : codeAny (model PW w) A (.forLoop target it body [] env) R s := by
 refine codeAny_of_tree ?_
 rw [show A.under (.forLoop target it body [] env) = A from Around.under_of_weight rfl]
 skip
 refine wpAny_onRaise ?_
 simp only [forTurn]
 refine wpAny_bind (wpAny_standAt (wpAny_bind (wpAny_onRaise (wpAny_mono h (fun r s₁ h₁ => ?_) fun _ _ h' => h'.elim))))
 induction r using Option.casesOn with
 | none => exact wpAny_pure ⟨rfl, codeAny_block (wpAny_execs_nil h₁)⟩
 | some v =>
  refine wpAny_bind (wpAny_of_eq (ht v) ?_)
  refine wpAny_bind (wpAny_mono h₁ (fun _ s₂ h₂ => wpAny_bind (wpAny_mono h₂ (fun f s₃ h₃ => ?_) fun _ _ h' => h'.elim)) fun _ _ h' => h'.elim)
  cases f with
  | next => exact wpAny_pure ⟨rfl, h₃⟩
  | cont => exact h₃.elim
  | brk => exact h₃.elim
  | ret v => exact wpAny_pure h₃
theorem Snd.whl1 (S : Snd w base K n) {t : E} {b : List Mine.S} {r : R (Fl × Fr)} (hr : Mine.whl tb (n + 1) d fr H t b = r) (hb : r ≠ .bad) (hw : wfE z t = true) (hw2 : wfSs z b = true) (T : Sit w base A d l z env fr M H s)
 {M₀ : Mp} {H₀ : AH} {s₀ : Shared} (g₀ : GoF w base z env M₀ H₀ s₀ M H s) :
 codeAny (model PW w) A (.whileLoop (t.py nm) (Mine.S.pys nm b) [] env) (LoopR w base z env l M₀ H₀ s₀ r) s := by
 dsimp only [Mine.whl] at hr
 have hb' : Mine.te tb n d fr H t ≠ .bad := by intro q; rw [q] at hr; exact hb hr.symm
 refine while_step (wpAny_mono (S.te rfl hb' hw T) (fun c s₁ q => ?_) fun x s₁ q => ?_)
 · obtain ⟨H₁, M₁, e1, g₁⟩ := q
   rw [e1] at hr
   have T₁ := T.go g₁
   induction c using Bool.casesOn with
   | false => exact ⟨.next, fr, H₁, M₁, hr.symm, g₀.trans g₁.f, T₁.fr, T₁.frs, rfl⟩
   | true =>
    have hb2 : Mine.exs tb n d fr H₁ b ≠ .bad := by intro q; simp only [q] at hr; exact hb hr.symm
    refine wpAny_mono (S.exs rfl hb2 hw2 T₁) (fun f s₂ q => ?_) fun x s₂ q => ?_
    · obtain ⟨fl, fr', H₂, M₂, e2, g₂, F₂, O₂, hf⟩ := q
      simp only [e2] at hr
      induction fl using Fl.casesOn with
      | next =>
       obtain rfl : f = .next := hf
       exact S.whl hr hb hw hw2 (T₁.f g₂ F₂ O₂) ((g₀.trans g₁.f).trans g₂)
      | ret v =>
       refine ob12 hf fun u q1_ hu => ?_; subst q1_
       exact ⟨.ret v, fr', H₂, M₂, hr.symm, (g₀.trans g₁.f).trans g₂, F₂, O₂, u, rfl, hu⟩
    · obtain ⟨c, H', M', e2, _⟩ := q
      simp only [e2] at hr
      exact absurd hr.symm hb
 · obtain ⟨c, H', M', e1, _⟩ := q
   rw [e1] at hr
   exact absurd hr.symm hb
theorem mark_none (h : A.handled = none) : A.mark none = A := by obtain ⟨a, b, c, d, e⟩ := A; rfl
theorem AOk.less (a : AOk A (d + 1) l) : AOk A d l := ⟨a.handled, a.frames, a.guards, by have := a.depth; omega, by have := a.units; omega⟩
theorem Sit.less (T : Sit w base A (d + 1) l z env fr M H s) : Sit w base A d l z env fr M H s := ⟨T.aok.less, T.frs, T.rel, T.stays, T.fr⟩
theorem Snd.whlS (S : Snd w base K n) {t : E} {b : List Mine.S} {p : Pos} {r : R (Fl × Fr)} (hr : Mine.ex tb (n + 1) d fr H (.whl t b p) = r) (hb : r ≠ .bad) (hw : wfS z (.whl t b p) = true) (T : Sit w base A d l z env fr M H s) :
 wpAny (model PW w) A (exec (Mine.S.py nm (.whl t b p)) env) (ExQ w base z env l M H s r) (ExcF w base z env l M H s r) s := by
 induction d using Nat.casesAuxOn with
 | zero => dsimp only [Mine.ex] at hr; exact absurd hr.symm hb
 | succ d =>
  dsimp only [Mine.ex] at hr
  refine wpAny_While ?_
  have := S.whl hr hb (and1 hw) (and2 hw) T.less (.refl T)
  exact codeAny_mono this fun q s' h => by
   induction q using Except.casesOn with
   | ok f => exact h
   | error e => exact h.elim
theorem cells_at (lo : Nat) : ∀ (names : List (Str × NameKind)) (h : Heap) (acc : List (Str × Addr)), lo ≤ h.objs.size → (∀ n c, (n, c) ∈ acc → CellAt h c none ∧ lo ≤ c) → ∀ n c, (n, c) ∈ cellsFrom h.objs.size names acc → CellAt (pushCells h names) c none ∧ lo ≤ c := by
 intro L
 induction L with
 | nil =>
  intro _ _ _ x n c m
  exact x n c m
 | cons A r ih =>
  obtain ⟨name, kind⟩ := A
  intro h acc hlo x n c m
  unfold pushCells
  unfold cellsFrom at m
  split at m
  · rename_i hk
    rw [if_pos hk]
    have := ih (h.push { cls := .type "cell", data := .cell none }) ((name, h.objs.size) :: acc) (by rw [Heap.size_push]; exact Nat.le_succ_of_le ‹_›) (fun n c hm => by
     rcases List.mem_cons.mp hm with e | hm
     · cases e; exact ⟨⟨_, Heap.get?_push_size _ rfl, rfl, rfl⟩, hlo⟩
     · obtain ⟨⟨o, a, b, e⟩, q⟩ := x n c hm
       exact ⟨⟨o, Heap.get?_push_of_some _ a, b, e⟩, q⟩) n c
    rw [Heap.size_push] at this
    exact this m
  · rename_i hk
    rw [if_neg hk]
    exact ih h acc hlo x n c m
theorem cells_mem : ∀ (names : List (Str × NameKind)) (k : Nat) (acc : List (Str × Addr)) (n : Str), (n, NameKind.cell) ∈ names ∨ (∃ c, (n, c) ∈ acc) → ∃ c, (n, c) ∈ cellsFrom k names acc := by
 intro L
 induction L with
 | nil =>
  intro _ _ _ h
  rcases h with h | h; contradiction; exact h
 | cons A r ih =>
  obtain ⟨name, kind⟩ := A
  intro k acc n h
  unfold cellsFrom
  split
  · rename_i hk
    refine ih (k + 1) _ n ?_
    rcases h with h | ⟨c, h⟩
    · rcases List.mem_cons.mp h with e | h
      · injection e with e; subst e; exact .inr ⟨k, List.mem_cons_self⟩
      · exact .inl h
    · exact .inr ⟨c, List.mem_cons_of_mem _ h⟩
  · rename_i hk
    refine ih k _ n ?_
    rcases h with h | h
    · rcases List.mem_cons.mp h with e | h
      · cases e; exact absurd rfl hk
      · exact .inl h
    · exact .inr h
theorem lkM {α : Type} : ∀ {l : List (Str × α)} {n : Str} {c : α}, (n, c) ∈ l → ∃ c', l.lookup n = some c' := by
 intro L
 induction L with
 | nil => intros; contradiction
 | cons A r ih =>
  obtain ⟨k, v⟩ := A
  intro n c h
  rw [List.lookup_cons]
  cases q : n == k with
  | true => exact ⟨v, rfl⟩
  | false =>
   rcases List.mem_cons.mp h with e | h
   · injection e with e; subst e; simp at q
   · exact ih h
theorem lAm : ∀ {z : Nms} {x : Nat} {k : NameKind}, lookA z x = some k → (x, k) ∈ z := by
 intro L
 induction L with
 | nil => intros; contradiction
 | cons A r ih =>
  obtain ⟨y, k'⟩ := A
  intro x k h
  dsimp only [lookA] at h
  induction q : Nat.beq y x using Bool.casesOn with
  | true => rw [q] at h; injection h with h; subst h; rw [Nat.eq_of_beq_eq_true q]; exact List.mem_cons_self
  | false => rw [q] at h; exact List.mem_cons_of_mem _ (ih h)
theorem lookA_str (B : BaseOk w base K) : ∀ {z : Nms} {x : Nat}, (∀ y ∈ z, y.1 < 202) → x < 202 → (z.map fun y => (nm y.1, y.2)).lookup (nm x) = lookA z x := by
 intro L
 induction L with
 | nil =>
  intro _ _ _
  exact rfl
 | cons A r ih =>
  obtain ⟨y, k⟩ := A
  intro x hz hx
  rw [List.map_cons, List.lookup_cons]
  dsimp only [lookA]
  induction q : Nat.beq y x using Bool.casesOn with
  | true =>
   have := Nat.eq_of_beq_eq_true q
   subst this
   simp
  | false =>
   have : (nm x == nm y) = false := by
    rw [beq_eq_false_iff_ne]
    exact fun e => (Nat.ne_of_beq_eq_false q) (B.inj _ _ hx (hz _ List.mem_cons_self) e).symm
   rw [this]
   exact ih (fun y hy => hz y (List.mem_cons_of_mem _ hy)) hx
theorem bind_loop {A' : Around} (B : BaseOk w base K) (f : Str × Value → PUnit → Sem (ForInStep PUnit)) (hf : ∀ n v u, f (n, v) u = (do storeName env n v; pure (.yield ⟨⟩))) : ∀ {xs : List Nat} {vs : List AV} {us : List Value} {fr fr' : Fr} {M : Mp} {H : AH} {s : Shared}, Mine.asgN fr xs vs = some fr' → (∀ x ∈ xs, isFrom z x [.local, .cell] = true) → VRs s.heap M H.length vs us →
 Sit w base A d l z env fr M H s → wpAny (model PW w) A' (forIn ((xs.map nm).zip us) ⟨⟩ f) (fun _ s' => GoF w base z env M H s M H s' ∧ FrR base z env fr' H.length M s'.heap ∧ FrOk base s'.heap l) (fun _ _ => False) s := by
 intro xs
 induction xs with
 | nil =>
  intro vs us fr fr' M H s e _ hv T
  induction vs using List.casesOn with
  | nil => injection e with e; subst e; cases hv; rw [List.map_nil, List.zip_nil_left, List.forIn_nil]; exact wpAny_pure ⟨.refl T, T.fr, T.frs⟩
  | cons _ _ => contradiction
 | cons x xs ih =>
  intro vs us fr fr' M H s e hx hv T
  induction vs using List.casesOn with
  | nil => contradiction
  | cons v vs =>
  obtain ⟨u, us, e1, hu, hus⟩ := hv
  subst e1
  rw [List.map_cons, List.zip_cons_cons, List.forIn_cons, hf]
  refine wpAny_bind (wpAny_bind (wpAny_mono (stN B T (hx x List.mem_cons_self) hu) (fun _ s₁ q => ?_) fun _ _ h => h))
  refine ob03 q fun g F O => ?_
  have T₁ := T.f g F O
  refine wpAny_pure (wpAny_mono (ih (vs := vs) e (fun y hy => hx y (List.mem_cons_of_mem _ hy)) (g.vrs T.fr hus) T₁) (fun _ s₂ q => ?_) fun _ _ h => h)
  exact ⟨g.trans q.1, q.2⟩
theorem Sit.c (T : Sit w base A d l z env fr M H s) : SitC w base A d l M H s := ⟨T.aok, T.frs, T.rel, T.stays⟩
theorem SitC.dead (T : SitC w base A d l M H s) {b : Addr} (h : s.heap.get? b = none) : base.get? b = none := by
 cases q : base.get? b with
 | none => rfl
 | some o => rw [T.stays b o q] at h; contradiction
theorem Rel.keeps {h h' : Heap} (x : Rel w base M H h) (k : ∀ b o, h.get? b = some o → h'.get? b = some o) : Rel w base M H h' :=
 ⟨fun i o e => (x.obj i o e).go (fun b o e _ => k b o e) (.refl _ _) (Nat.le_refl _) (nth_lt e) (fun o e => k _ o e) fun o e => k _ o e, x.apart, x.fresh, x.tab.go fun b o e _ => k b o e⟩
theorem GoF.leave {s₀ : Shared} (k : ∀ b o, s.heap.get? b = some o → s₀.heap.get? b = some o) (sm : Same s s₀) (own : ∀ b, Own z env b → s.heap.get? b = none) {M' : Mp} {H' : AH} {s' : Shared} (g : GoF w base z env M H s₀ M' H' s') : Go w base M H s M' H' s' :=
 by
 have kk : Kept (Own z env) M H.length s.heap M' H'.length s'.heap := (Kept.keeps k).trans (.refl _ _) g.ext g.kept
 exact ⟨g.rel, g.ext, g.len, ⟨fun b o e i => g.step.inert b o (k b o e) i fun q => (by rw [own b q] at e; contradiction), fun b o e i => g.step.frame b o (k b o e) i fun q => (by rw [own b q] at e; contradiction)⟩, sm.trans g.same, g.stays, kk.alive, kk.newer, fun b o e c no _ => kk.others b o e c no fun q => (by rw [own b q] at e; contradiction)⟩
theorem enter (B : BaseOk w base K) {a : Addr} {f : Fn} {o : Obj} {fd : FuncData} (F : FnOk base K a f o fd) (C : SitC w base A (d + 1) l M H s) {vs : List AV} {us us' : List Value} {fr : Fr} (hp : Mine.asgN [] f.params vs = some fr) (hv : VRs s.heap M H.length vs us)
 (hbind : Binds w s fd f us' us) {R : Result → Shared → Prop}
 (h : ∀ env s₁, Sit w base (A.deeper env) d (env :: l) f.names env fr M H s₁ → env.frame = some env.locals → (∀ M' H' s', GoF w base f.names env M H s₁ M' H' s' → Go w base M H s M' H' s') →
  wpAny (model PW w) (A.deeper env) (execs (Mine.S.pys nm f.body) env) (fun fl s' => R (.ok (.ret (match fl with | .ret v => v | _ => .none))) s')
   (fun e s' => wpAny (model PW w) (A.deeper env) (leaving env e) (fun _ s'' => R (.error e) s'') (fun e' s'' => R (.error e') s'') s') s₁) :
 codeAny (model PW w) A (.call (.ref a) ⟨us', []⟩) R s := by
 have ho : s.heap.get? a = some o := C.stays _ _ (B.kin _ _ F.at_)
 have hroom : A.depth < recursionLimit := Nat.lt_of_le_of_lt (Nat.le_trans (Nat.le_add_right _ _) C.aok.depth) (by decide)
 refine codeAny_call_function hroom ho F.data F.cor F.gen F.body (F.code.keeps C.stays) ?_
 rw [F.closure]
 refine hbind ?_
 simp only [newFunctionEnv, Option.isSome_none, Bool.false_eq_true, if_false]
 refine wpAny_bind (wpAny_alloc ?_)
 refine wpAny_bind (wpAny_layCells _ (fun name kind cells => by cases hkc : kind == NameKind.cell <;> simp [hkc]) _ _ _ _ ?_)
 have hsz : (s.heap.push { cls := .type "frame", data := .dict #[] }).objs.size = s.heap.objs.size + 1 := Heap.size_push ..
 rw [show ({ s with heap := s.heap.push { cls := .type "frame", data := .dict #[] } } : Shared).heap.objs.size = s.heap.objs.size + 1 from hsz]
 have ca := cells_at (s.heap.objs.size + 1) fd.scope.names (s.heap.push { cls := .type "frame", data := .dict #[] }) [] (by rw [hsz]; exact Nat.le_refl _) (fun _ _ hm => (nomatch hm))
 rw [hsz] at ca
 have ap := (cellsFrom_ok fd.scope.names (s.heap.push { cls := .type "frame", data := .dict #[] }) (s.heap.objs.size + 1) [] ⟨fun _ _ hm => (nomatch hm), List.Pairwise.nil⟩ (by rw [hsz]; exact Nat.le_refl _)).apart
 rw [hsz] at ap
 have keep : ∀ b ob, s.heap.get? b = some ob → (pushCells (s.heap.push { cls := .type "frame", data := .dict #[] }) fd.scope.names).get? b = some ob := fun b ob e => pushCells_keeps _ _ b ob (Heap.get?_push_of_some _ e)
 have gL : (pushCells (s.heap.push { cls := .type "frame", data := .dict #[] }) fd.scope.names).get? s.heap.objs.size = some { cls := .type "frame", data := .dict #[] } := pushCells_keeps _ _ _ _ (Heap.get?_push_size _ rfl)
 let env : Env := { scope := fd.scope, locals := s.heap.objs.size, globals := fd.globals, cells := cellsFrom (s.heap.objs.size + 1) fd.scope.names [], qual := fd.qualname ++ ".<locals>.", func := some a, code := fd.code, frame := some s.heap.objs.size, builtins := fd.builtins }
 have nm_ok : ∀ x, x < 202 → env.kindOf (nm x) = lookA f.names x := fun x hx => by
  show fd.scope.names.lookup (nm x) = _
  rw [F.names]; exact lookA_str B F.ids hx
 have ok : EnvOk f.names env := ⟨F.kind, fun x hx => .inl (nm_ok x hx), F.globals, F.builtins, fun e => let q := F.lam e; ⟨q.1, by show fd.qualname ++ ".<locals>." = _; rw [q.2]; decide +kernel⟩⟩
 have deadL : s.heap.get? s.heap.objs.size = none := Heap.get?_none_of_le (Nat.le_refl _)
 have cellIn : ∀ x, x < 202 → lookA f.names x = some .cell → ∃ c, env.cells.lookup (nm x) = some c ∧ CellAt (pushCells (s.heap.push { cls := .type "frame", data := .dict #[] }) fd.scope.names) c none := fun x hx e => by
  have m : (nm x, NameKind.cell) ∈ fd.scope.names := by rw [F.names]; exact List.mem_map.mpr ⟨(x, .cell), lAm e, rfl⟩
  obtain ⟨c, hc⟩ := cells_mem _ (s.heap.objs.size + 1) [] _ (.inl m)
  obtain ⟨c', hc'⟩ := lkM hc
  exact ⟨c', hc', (ca _ _ (mem_of_lookup hc')).1⟩
 have cellNew : ∀ x c, env.cells.lookup (nm x) = some c → s.heap.get? c = none := fun x c e => Heap.get?_none_of_le (Nat.le_trans (Nat.le_succ _) (ca _ _ (mem_of_lookup e)).2)
 have notNew : ¬ Owned M H.length s.heap.objs.size := by
  rintro ⟨i, hi, e⟩
  have := C.rel.lt hi
  rcases e with e | e
  · rw [e] at this; exact absurd this.1 (Nat.lt_irrefl _)
  · rw [e] at this; exact absurd this.2 (Nat.lt_irrefl _)
 have F₀ : FrR base f.names env [] H.length M (pushCells (s.heap.push { cls := .type "frame", data := .dict #[] }) fd.scope.names) := by
  refine ⟨ok, C.dead deadL, fun x c _ _ e => C.dead (cellNew x c e), ⟨fun _ => none, ⟨_, #[], 0, gL, .inl rfl, rfl, fun _ he => by simp at he, fun _ => rfl⟩, fun x v e => by contradiction⟩, fun x hx e => ?_, fun x y c hx hy e1 e2 => ?_, notNew⟩
  · refine ob12 (cellIn x hx (e.resolve_right fun q => F.nofree _ (lAm q) rfl)) fun c h1 h2 => ?_
    exact ⟨c, none, h1, h2⟩
  · exact B.inj _ _ hx hy (name_of_addr ap (mem_of_lookup e1) (mem_of_lookup e2))
 have T₀ : Sit w base (A.deeper env) d (env :: l) f.names env [] M H { s with heap := pushCells (s.heap.push { cls := .type "frame", data := .dict #[] }) fd.scope.names } :=
  ⟨⟨C.aok.handled, (by show A.frames.map _ = _; rw [C.aok.frames]; rfl), C.aok.guards, by have := C.aok.depth; show A.depth + 1 + _ ≤ _; omega, by have := C.aok.units; show A.units + 3 + _ ≤ _; omega⟩, ⟨(by show fd.scope.kind ≠ _; rw [F.kind]; decide), ⟨s.heap.objs.size, _, #[], 0, rfl, C.dead deadL, gL, rfl, rfl⟩, C.frs.step (.keeps keep)⟩, C.rel.keeps keep, fun b ob e => keep b ob (C.stays b ob e), F₀⟩
 refine wpAny_bind (wpAny_mono (bind_loop B (env := env) (z := f.names) _ (fun _ _ _ => rfl) hp F.params (hv.go (fun b o e _ => keep b o e) (.refl _ _) (Nat.le_refl _)) T₀) (fun _ s₁ q => ?_) fun _ _ h => h.elim)
 refine ob03 q fun g F₁ O₁ => ?_
 refine wpAny_pure ?_
 have ownNew : ∀ b, Own f.names env b → s.heap.get? b = none := fun b hb => by
  rcases hb with rfl | ⟨x, hx, hk, hl⟩
  · exact deadL
  · exact cellNew x b hl
 have T₁ : Sit w base (A.deeper env) d (env :: l) f.names env fr M H s₁ := T₀.f g F₁ O₁
 exact ⟨B.limit.keeps g.stays, codeAny_func (h env s₁ T₁ rfl fun M' H' s' g' => GoF.leave (s₀ := { s with heap := pushCells (s.heap.push { cls := .type "frame", data := .dict #[] }) fd.scope.names }) keep ⟨rfl, rfl, rfl⟩ ownNew (g.trans g'))⟩
theorem FrOk.mem {h : Heap} : ∀ {l : List Env}, FrOk base h l → ∀ {b : Addr}, b ∈ l.filterMap (·.frame) → base.get? b = none ∧ ∃ o es ep, h.get? b = some o ∧ o.cls = .type "frame" ∧ o.data = .dict es ep := by
 intro L
 induction L with
 | nil =>
  intro _ b m
  simp at m
 | cons _ _ ih =>
  rintro ⟨a, ⟨L, o, es, ep, f, b0, g, c, d⟩, r⟩ b m
  rw [List.filterMap_cons, f] at m
  rcases List.mem_cons.mp m with e | m
  · subst e; exact ⟨b0, o, es, ep, g, c, d⟩
  · exact ih r m
structure Left (h h' : Heap) : Prop where
 exact : ∀ b o, h.get? b = some o → o.cls ≠ .type "frame" → o.cls ≠ .ref 41 → o.cls ≠ .type "traceback" → h'.get? b = some o
 frame : ∀ b o, h.get? b = some o → o.cls = .type "frame" → keptUp h h' b o
 alive : ∀ b o, h.get? b = some o → ∃ o', h'.get? b = some o'
theorem Left.trans {h₁ h₂ h₃ : Heap} (x : Left h₁ h₂) (y : Left h₂ h₃) : Left h₁ h₃ :=
 ⟨fun b o e c1 c2 c3 => y.exact b o (x.exact b o e c1 c2 c3) c1 c2 c3, fun b o e c => let ⟨_, e'⟩ := x.frame b o e c; let ⟨sl, e''⟩ := y.frame b _ e' c; ⟨sl, e''⟩, fun b o e => let ⟨o', e'⟩ := x.alive b o e; y.alive b o' e'⟩
theorem Left.keeps {h h' : Heap} (k : ∀ b o, h.get? b = some o → h'.get? b = some o) : Left h h' := ⟨fun b o e _ _ _ => k b o e, fun b o e _ => ⟨o.slots, k b o e⟩, fun b o e => ⟨o, k b o e⟩⟩
theorem Left.upd {h : Heap} {a : Addr} {o : Obj} {f : Obj → Obj} (ho : h.get? a = some o) (hc : o.cls = .ref 41 ∨ o.cls = .type "traceback") (hn : (f o).isFreed = false) : Left h (h.update a f) := by
 have ne : ∀ b ob, h.get? b = some ob → ob.cls ≠ .ref 41 → ob.cls ≠ .type "traceback" → (h.update a f).get? b = some ob := fun b ob e c1 c2 => by
  rw [Heap.get?_update_other _ _ (fun q => by subst q; rw [ho] at e; injection e with e; subst e; exact hc.elim c1 c2)]; exact e
 refine ⟨fun b ob e _ c1 c2 => ne b ob e c1 c2, fun b ob e c => ⟨ob.slots, ne b ob e (by rw [c]; trivial) (by rw [c]; trivial)⟩, fun b ob e => ?_⟩
 by_cases q : a = b
 · subst q; exact ⟨_, Heap.get?_update_self _ ho hn⟩
 · exact ⟨ob, by rw [Heap.get?_update_other _ _ q]; exact e⟩
theorem entry_own {M : Model} {L e : Addr} {oe : Obj} {vs : Array Value} {head : Value} {hadNext : Bool} {Q : Unit → Shared → Prop} {E : Value → Shared → Prop}
 (hfr : A.frames = some (env :: l)) (O : FrOk base s.heap (env :: l)) (hf : env.frame = some L) (he : s.heap.get? e = some oe) (hc : oe.cls = .ref 41) (hd : oe.data = .fields vs) (hsz : 1 < vs.size) (hkb : base.StaysIn s.heap) (hen : base.get? e = none)
 (h : ∀ h' T vs', base.StaysIn h' → base.get? T = none → h'.get? e = some { oe with data := .fields vs' } → vs'[1]? = some (.ref T) → s.heap.get? T = none → (∃ oT ts, h'.get? T = some oT ∧ oT.cls = .type "traceback" ∧ oT.data = .fields ts ∧ ts[3]? = some .none) → Left s.heap h' → Q () { s with heap := h' }) :
 wpAny M A (do let a ← frameOf env; let pl ← entryPlaceOf L hadNext; let b ← EntryCells.newEntry head a .none (rawInt L) .none pl; setField (.ref e) 1 b) (fun _ s' => wpAny M A (setFlight (.ref e) none) Q E s') E s := by
 have hl := O.fun
 have hene : e ∉ (env :: l).filterMap (·.frame) := fun hm => by
  obtain ⟨_, o, _, _, ho, c, _⟩ := O.mem hm
  rw [he] at ho; cases ho; rw [hc] at c; cases c
 refine wpAny_bind (wpAny_frameOf_fun hfr hl hf fun h₁ hs₁ => ?_)
 refine wpAny_bind (wpAny_entryPlaceOf fun pl hpl => ?_)
 unfold EntryCells.newEntry newFields
 refine wpAny_bind (wpAny_newObj_type ?_ (hpl.sizeOk5 _ _ _ _ _))
 have he₁ : h₁.get? e = some oe := (hs₁.2.1 e hene).trans he
 have L₁ : Left s.heap h₁ := ⟨fun b o hb c _ _ => (hs₁.2.1 b fun hm => by
  obtain ⟨_, o', _, _, ho, c', _⟩ := O.mem hm
  rw [hb] at ho; injection ho with ho; subst ho; exact c c').trans hb, fun b o hb _ => hs₁.2.2 b o hb, fun b o hb => let ⟨sl, e⟩ := hs₁.2.2 b o hb; ⟨_, e⟩⟩
 have kb₁ : base.StaysIn h₁ := fun b o hbo => (hs₁.2.1 b fun hm => by rw [(O.mem hm).1] at hbo; contradiction).trans (hkb b o hbo)
 generalize hob : ({ cls := .type "traceback", dict := none, data := .fields ([head, .ref L, .none, rawInt L, .none] ++ (if pl.isEmpty then List.replicate 6 Value.none else pl)).toArray } : Obj) = ob
 have he₂ := Heap.get?_push_of_some (h := h₁) ob he₁
 refine wpAny_setField he₂ hd hsz ?_
 have hTe : h₁.objs.size ≠ e := Nat.ne_of_gt (Heap.lt_size he₁)
 have hd₃ := Obj.data_mapFields hd (·.setIfInBounds 1 (Value.ref h₁.objs.size))
 have he₃ := Heap.get?_update_self (Obj.mapFields (·.setIfInBounds 1 (Value.ref h₁.objs.size))) he₂ (Obj.isFreed_of_fields hd₃)
 have hT₃ := (Heap.get?_update_other (h₁.push ob) (Obj.mapFields (·.setIfInBounds 1 (Value.ref h₁.objs.size))) (Ne.symm hTe)).trans (Heap.get?_push_size h₁ (by subst hob; rfl))
 unfold setFlight
 refine wpAny_bind (wpAny_field he₃ hd₃ (x := .ref h₁.objs.size) (by simp [hsz]) ?_)
 rw [if_pos (show (Value.ref h₁.objs.size != Value.none) = true from by rfl)]
 subst hob
 have L₂ : Left h₁ (h₁.push _) := .keeps fun _ _ e => Heap.get?_push_of_some { cls := .type "traceback", dict := none, data := .fields ([head, .ref L, .none, rawInt L, .none] ++ (if pl.isEmpty then List.replicate 6 Value.none else pl)).toArray } e
 have hfT := Obj.isFreed_of_fields (Obj.data_mapFields (o := { cls := .type "traceback", dict := none, data := .fields ([head, .ref L, .none, rawInt L, .none] ++ (if pl.isEmpty then List.replicate 6 Value.none else pl)).toArray }) rfl (·.setIfInBounds 3 ((none : Option Addr).elim Value.none fun f => rawInt f)))
 refine wpAny_setField hT₃ rfl (by simp only [List.size_toArray, List.length_append, List.length_cons, List.length_nil] <;> omega) (h _ h₁.objs.size (vs.setIfInBounds 1 (Value.ref h₁.objs.size)) (fun b o hbo => ?_) kb₁.fresh ?_ (by simp [hsz]) (Heap.get?_none_of_le (by rw [← hs₁.1]; exact Nat.le_refl _)) ?_ (((L₁.trans L₂).trans (Left.upd (f := Obj.mapFields (·.setIfInBounds 1 (Value.ref h₁.objs.size))) he₂ (.inl hc) (Obj.isFreed_of_fields hd₃))).trans (Left.upd (f := Obj.mapFields (·.setIfInBounds 3 ((none : Option Addr).elim Value.none fun f => rawInt f))) hT₃ (.inr rfl) hfT)))
 · have n1 : h₁.objs.size ≠ b := Nat.ne_of_gt (Heap.lt_size (kb₁ b o hbo))
   have n2 : e ≠ b := fun q => by subst q; rw [hen] at hbo; contradiction
   rw [Heap.get?_update_other _ _ n1, Heap.get?_update_other _ _ n2]
   exact Heap.get?_push_of_some _ (kb₁ b o hbo)
 · rw [Heap.get?_update_other _ _ hTe, he₃]
   obtain ⟨c, dd, dt, sl⟩ := oe
   subst hd; rfl
 · exact ⟨_, _, Heap.get?_update_self _ hT₃ hfT, rfl, rfl, by first | (rfl; done) | (rcases hpl with rfl | ⟨_, _, _, _, _, _, _, rfl⟩ <;> simp)⟩
theorem Left.ns {h h' : Heap} (x : Left h h') {D : Addr} {m : Str → Option Value} (hn : h.Ns D m) (hc : ∀ o, h.get? D = some o → o.cls = .type "dict") : h'.Ns D m := by
 refine ob32 hn fun o es ep g r => ?_
 have c := hc o g
 exact ⟨o, es, ep, x.exact D o g (by rw [c]; trivial) (by rw [c]; trivial) (by rw [c]; trivial), r⟩
theorem leaving_own {M : Model} {L : Addr} {x : Value} {code : List Nat} {Q : Unit → Shared → Prop} {E : Value → Shared → Prop} (hfr : A.frames = some (env :: l)) (O : FrOk base s.heap (env :: l)) (hf : env.frame = some L)
 (st : base.StaysIn s.heap) (hx : Flies base s.heap x code) (h : ∀ h', base.StaysIn h' → Flies base h' x code → Left s.heap h' → Q () { s with heap := h' }) : wpAny M A (leaving env x) Q E s := by
 obtain ⟨e, oe, D, m, vs, t, rfl, he, hc, hdd, hd, hbe, hn, hm, hbD, hDe, hDc, hv⟩ := hx
 have fin : ∀ {s₁ : Shared} {vs₁ : Array Value}, s₁.heap.get? e = some { oe with data := .fields vs₁ } → Left s.heap s₁.heap → ∀ h' T vs', base.StaysIn h' → base.get? T = none → h'.get? e = some { oe with data := .fields vs' } → vs'[1]? = some (.ref T) → s₁.heap.get? T = none →
  (∃ oT ts, h'.get? T = some oT ∧ oT.cls = .type "traceback" ∧ oT.data = .fields ts ∧ ts[3]? = some .none) → Left s₁.heap h' → (Flies base h' (.ref e) code ∧ Left s.heap h') := fun {s₁ vs₁} he₁ l1 h' T vs' kb bT g1 g2 g3 ⟨oT, ts, g4, g5, g6, g7⟩ l2 => by
  refine ⟨⟨e, _, D, m, vs', t, rfl, g1, hc, hdd, rfl, hbe, (l1.trans l2).ns hn hDc, hm, hbD, hDe, fun o ho => ?_, .inr ⟨T, oT, ts, g2, bT, fun q => ?_, fun q => ?_, g4, g5, g6, g7⟩⟩, l1.trans l2⟩
  · refine ob32 hn fun oD _ _ gD _ => ?_
    have c := hDc oD gD
    have := (l1.trans l2).exact D oD gD (by rw [c]; trivial) (by rw [c]; trivial) (by rw [c]; trivial)
    rw [this] at ho; injection ho with ho; subst ho; exact c
  · subst q; rw [he₁] at g3; contradiction
  · subst q
    refine ob32 hn fun oD _ _ gD _ => ?_
    have c := hDc oD gD
    rw [l1.exact T oD gD (by rw [c]; trivial) (by rw [c]; trivial) (by rw [c]; trivial)] at g3; contradiction
 unfold leaving noteFrame
 simp only [hf]
 rcases hv with h1 | ⟨T, oT, ts, h1, bT, hTe, hTD, hT, cT, dT, h3⟩
 · refine wpAny_bind (wpAny_bind (wpAny_field he hd h1 ?_))
   rw [if_neg (by decide)]
   refine entry_own hfr O hf he hc hd (Array.getElem?_eq_some_iff.mp h1).1 st hbe fun h' T vs' a b c dd ee ff g => ?_
   obtain ⟨p, q⟩ := fin (s₁ := s) (vs₁ := vs) (by rw [he]; obtain ⟨_, _, _, _⟩ := oe; subst hd; rfl) (.keeps fun _ _ e => e) h' T vs' a b c dd ee ff g
   exact h h' a p q
 · refine wpAny_bind (wpAny_bind (wpAny_field he hd h1 ?_))
   rw [if_pos (show (Value.ref T != Value.none) = true from by simp)]
   refine wpAny_bind (wpAny_field hT dT h3 ?_)
   rw [if_neg (show ¬ ((Value.none == rawInt L) = true) from by simp [rawInt])]
   refine wpAny_bind (wpAny_setField hT dT (Array.getElem?_eq_some_iff.mp h3).1 ?_)
   have l1 : Left s.heap (s.heap.update T (Obj.mapFields (·.setIfInBounds 3 Value.none))) := Left.upd hT (.inr cT) (Obj.isFreed_of_fields (Obj.data_mapFields dT (·.setIfInBounds 3 Value.none)))
   have he₁ : (s.heap.update T (Obj.mapFields (·.setIfInBounds 3 Value.none))).get? e = some oe := (Heap.get?_update_other _ _ hTe).trans he
   have st₁ : base.StaysIn (s.heap.update T (Obj.mapFields (·.setIfInBounds 3 Value.none))) := fun b o hb => (Heap.get?_update_other _ _ fun q => by subst q; rw [bT] at hb; contradiction).trans (st b o hb)
   have O₁ : FrOk base (s.heap.update T (Obj.mapFields (·.setIfInBounds 3 Value.none))) (env :: l) := FrOk.but hT (Heap.SameBut.update ..) (fun q => by rw [cT] at q; simp at q) O
   refine entry_own (s := { s with heap := s.heap.update T (Obj.mapFields (·.setIfInBounds 3 Value.none)) }) hfr O₁ hf he₁ hc hd (Array.getElem?_eq_some_iff.mp h1).1 st₁ hbe fun h' T' vs' a b c dd ee ff g => ?_
   obtain ⟨p, q⟩ := fin (s₁ := { s with heap := s.heap.update T (Obj.mapFields (·.setIfInBounds 3 Value.none)) }) (vs₁ := vs) (by show _ = _; rw [he₁]; obtain ⟨_, _, _, _⟩ := oe; subst hd; rfl) l1 h' T' vs' a b c dd ee ff g
   exact h h' a p q
theorem no41 : (tb.cls 41).isSome = false := by kernel_rfl
theorem Left.rel {h h' : Heap} (x : Left h h') (R : Rel w base M H h) : Rel w base M H h' := by
 have ex : ∀ b o, h.get? b = some o → o.cls ≠ .type "frame" → o.cls ≠ .ref 41 → o.cls ≠ .type "traceback" → h'.get? b = some o := x.exact
 refine ⟨fun i ob e => ?_, R.apart, R.fresh, R.tab.go fun b o hb hc => ex b o hb (by rcases hc with h | h <;> rw [h] <;> trivial) (by rcases hc with h | h <;> rw [h] <;> trivial) (by rcases hc with h | h <;> rw [h] <;> trivial)⟩
 have q := R.obj i ob e
 refine ob24 (OR.cls q) fun oa od ga gd ca cd => ?_
 refine q.go (fun b o' hb hc => ex b o' hb (by rcases hc with h | h <;> rw [h] <;> trivial) (by rcases hc with h | h <;> rw [h] <;> trivial) (by rcases hc with h | h <;> rw [h] <;> trivial)) (.refl _ _) (Nat.le_refl _) (nth_lt e) (fun o' hb => ?_) fun o' hb => ?_
 · rw [ga] at hb; injection hb with hb; subst hb
   refine ex _ _ ga (by rcases ca with h | h | ⟨c, h, _⟩ <;> rw [h] <;> simp) (fun q => ?_) (by rcases ca with h | h | ⟨c, h, _⟩ <;> rw [h] <;> simp)
   rcases ca with h | h | ⟨c, h, hc⟩
   · rw [h] at q; contradiction
   · rw [h] at q; contradiction
   · rw [h] at q; cases q; rw [no41] at hc; cases hc
 · rw [gd] at hb; injection hb with hb; subst hb
   exact ex _ _ gd (by rcases cd with h | h <;> rw [h] <;> trivial) (by rcases cd with h | h <;> rw [h] <;> trivial) (by rcases cd with h | h <;> rw [h] <;> trivial)
theorem Left.go {s' : Shared} (x : Left s.heap s'.heap) (R : Rel w base M H s.heap) (st : base.StaysIn s'.heap) (sm : Same s s') : Go w base M H s M H s' :=
 ⟨x.rel R, .refl _ _, Nat.le_refl _, ⟨fun b o e i => x.exact b o e (by rcases i with h | h | h | h | h | h | h <;> rw [h] <;> trivial) (by rcases i with h | h | h | h | h | h | h <;> rw [h] <;> trivial) (by rcases i with h | h | h | h | h | h | h <;> rw [h] <;> trivial), x.frame⟩, sm, st,
  ⟨x.alive, fun i h1 h2 => absurd h2 (Nat.not_lt.mpr h1), fun b o e c _ _ => x.exact b o e (by rcases c with c | c <;> rw [c] <;> trivial) (by rcases c with c | c <;> rw [c] <;> trivial) (by rcases c with c | c <;> rw [c] <;> trivial)⟩⟩
theorem Snd.runF1 (B : BaseOk w base K) (S : Snd w base K n) {f : Fn} {vs : List AV} {r : R AV} {a : Addr} (hr : Mine.runF tb (n + 1) d H f vs = r) (hb : r ≠ .bad) {us us' : List Value} {o : Obj} {fd : FuncData} (F : FnOk base K a f o fd) (C : SitC w base A d l M H s)
 (hv : VRs s.heap M H.length vs us) (hbind : Binds w s fd f us' us) : codeAny (model PW w) A (.call (.ref a) ⟨us', []⟩) (CallR w base M H s r) s := by
 induction d using Nat.casesAuxOn with
 | zero => skip; exact absurd hr.symm hb
 | succ d =>
  induction hp : Mine.asgN [] f.params vs using Option.casesOn with
  | none => dsimp only [Mine.runF] at hr; simp only [hp] at hr; exact absurd hr.symm hb
  | some fr =>
   dsimp only [Mine.runF] at hr
   simp only [hp] at hr
   have hb' : Mine.exs tb n d fr H f.body ≠ .bad := by intro q; rw [q] at hr; exact hb hr.symm
   refine enter B F C hp hv hbind fun env s₁ T hf lv => ?_
   refine wpAny_mono (S.exs rfl hb' F.wf T) (fun fl s₂ q => ?_) fun x s₂ q => ?_
   · obtain ⟨fl', fr', H₂, M₂, e2, g₂, F₂, O₂, hfl⟩ := q
     rw [e2] at hr
     have G := lv _ _ _ g₂
     induction fl' using Fl.casesOn with
     | next =>
      obtain rfl : fl = .next := hfl
      exact ⟨.none, .none, H₂, M₂, rfl, hr.symm, G, rfl⟩
     | ret v =>
      refine ob12 hfl fun u q1_ hu => ?_; subst q1_
      exact ⟨u, v, H₂, M₂, rfl, hr.symm, G, hu⟩
   · obtain ⟨c, H₂, M₂, e2, g₂, fx, O₂⟩ := q
     rw [e2] at hr
     refine leaving_own T.aok.frames O₂ hf g₂.stays fx fun h' st fx' lf => ?_
     exact ⟨c, H₂, M₂, hr.symm, (lv _ _ _ g₂).trans (Left.go (s := s₂) (s' := { s₂ with heap := h' }) lf g₂.rel st ⟨rfl, rfl, rfl⟩), fx'⟩
end
inductive FnAt (w : World) (base : Heap) (K : Frag) (a : Nat) (f : Fn) : Prop
 | mk (o : Obj) (fd : FuncData) : FnOk base K a f o fd → (∀ (s : Shared) (us : List Value), base.StaysIn s.heap → us.length = f.params.length → Binds w s fd f us us) → FnAt w base K a f
structure BaseF (w : World) (base : Heap) (K : Frag) : Prop where
 fn : ∀ a f, tb.fn a = some f → FnAt w base K a f
 cls : ∀ c a ds, tb.cls c = some (a, ds) → findIn K (.ref c) "__init__" = some (some (.ref a)) ∧ ∃ f o fd, tb.fn a = some f ∧ FnOk base K a f o fd ∧ ∀ (s : Shared) (M : Mp) (m : Nat) (x : Value) (us : List Value), base.StaysIn s.heap →
  us.length + (ds.drop us.length).length + 1 = f.params.length → ∃ us₂, VRs s.heap M m (ds.drop us.length) us₂ ∧ Binds w s fd f (x :: us) (x :: (us ++ us₂))
 clsK : ∀ c, (tb.cls c).isSome = true → keepIn K (.ref c) = true
section
variable {K : Frag} {w : World} {base : Heap} {n : Nat} {A : Around} {d : Nat} {l : List Env} {z : Nms} {env : Env} {fr : Fr} {M : Mp} {H : AH} {s : Shared}
def KeepP (M : Model) (u : Value) (h : Heap) : Prop := ∃ k, (k = Keeper.frame ∨ k = Keeper.machine ∨ k = Keeper.boundFrame) ∧ Looks M h (keeperOf u) k
theorem FnOk.keep {a : Addr} {f : Fn} {o : Obj} {fd : FuncData} (F : FnOk base K a f o fd) : keepIn K (.ref a) = true ∧ fnIn K a = true := by
 obtain ⟨c, dd, dt, sl⟩ := o
 have hd := F.data
 dsimp only at hd
 subst hd
 constructor
 · unfold keepIn; dsimp only; rw [F.at_]
 · unfold fnIn; rw [F.at_]
theorem keeper_bi (k : BI) {M : Model} {h : Heap} : KeepP M (biVal k) h := by
 cases k <;> exact ⟨.machine, .inr (.inl rfl), Looks.of_pure rfl⟩
theorem keeper (BF : BaseF w base K) (X : K.In s.heap) {g : AV} {vs : List AV} {u : Value} (hb : Mine.callF tb n d H g vs ≠ .bad) (hu : VR s.heap M H.length g u) : KeepP (model PW w) u s.heap := by
 induction n using Nat.casesAuxOn with
 | zero => skip; exact absurd rfl hb
 | succ n =>
  dsimp only [Mine.callF] at hb
  induction g using AV.casesOn with
  | fn a =>
   subst hu
   dsimp only at hb
   induction q : tb.fn a using Option.casesOn with
   | some f => obtain ⟨o, fd, F, _⟩ := BF.fn a f q; exact keeps_K F.keep.1 _ X
   | none =>
    rw [q] at hb
    induction q2 : tb.cls a using Option.casesOn with
    | none => rw [q2] at hb; exact absurd rfl hb
    | some c => exact keeps_K (BF.clsK a (by rw [q2]; rfl)) _ X
  | meth f i =>
   obtain ⟨hi, b, o, rfl, ho, rfl⟩ := hu
   dsimp only at hb
   induction q : tb.fn f using Option.casesOn with
   | none => rw [q] at hb; exact absurd rfl hb
   | some fn =>
    obtain ⟨of, fd, F, _⟩ := BF.fn f fn q
    exact keeps_M F.keep.2 _ ⟨ho, X⟩
  | bi k => subst hu; exact keeper_bi k
  | _ => exact absurd rfl hb
theorem plainArgs : ∀ {es : List E} {p : Pos}, wfEs z es = true → (backTo p (starEach (E.pys nm es) env)).any (·.1) = false
 | [], p, _ => rfl
 | e :: es, p, h => by
  rw [E.pys, star (wnr (and1 h))]
  exact plainArgs (p := p) (and2 h)
theorem evalArgs_of {M : Model} {f : Value} {es : List E} {p : Pos} {Q : Args → Shared → Prop} {E' : Value → Shared → Prop} (hw : wfEs z es = true) (h : wpAny M A (spliced (backTo p (starEach (E.pys nm es) env))) (fun vs s' => Q ⟨vs, []⟩ s') E' s) :
 wpAny M A (evalArgs f true (backTo p (starEach (E.pys nm es) env)) []) Q E' s := by
 induction es using List.casesOn with
 | nil =>
  unfold evalArgs
  show wpAny M A (spliced [] >>= _) Q E' s
  refine wpAny_bind (wpAny_mono h (fun vs s' h' => ?_) fun _ _ x => x)
  refine wpAny_holding ?_
  exact wpAny_bind (wpAny_pure (wpAny_bind (wpAny_pure (wpAny_pure h'))))
 | cons e es =>
  rw [E.pys, star (wnr (and1 hw))] at h ⊢
  exact evalArgs_plain h
theorem callNode {f : E} (h : isNm f = true) {es : List Expr} {p : Pos} : eval (.Call (E.py nm f) es [] p) env = (do callWith p (← eval (E.py nm f) env) [] (backTo p (starEach es env)) (backToKw p (keywordEach [] env))) := by
 cases f <;> first | rfl | cases h
theorem Snd.callE (B : BaseOk w base K) (BF : BaseF w base K) (S : Snd w base K n) {f : E} {es : List E} {p : Pos} {r : R AV} (hr : Mine.ev tb (n + 1) d fr H (.call f es p) = r) (hb : r ≠ .bad) (hw : wfE z (.call f es p) = true) (T : Sit w base A d l z env fr M H s) :
 wpAny (model PW w) A (eval (E.py nm (.call f es p)) env) (EvQ w base M H s r) (ExcP w base M H s r) s := by
 dsimp only [Mine.ev] at hr
 refine Call_ (S.evB hr hb (and1 (and1 hw)) T T.refl fun g H₁ M₁ u s₁ hr₁ g₁ hu => ?_) (callNode (and2 (and1 hw)))
 refine callWith_of (P := KeepP (model PW w) u) (by rw [plainArgs (and2 hw)]; rfl) (fun h hp => hp) (evalArgs_of (and2 hw) (S.evsB hr₁ hb (and2 hw) (T.go g₁) g₁ fun vs H₂ M₂ us s₂ hr₂ g₂ hvs => ?_))
 refine ⟨keeper BF (((T.go g₁).go g₂).kin B) (hr₂ ▸ hb) (g₂.vr hu), ?_⟩
 rw [List.nil_append]
 exact wpAny_mono (S.callF hr₂ hb ((T.go g₁).go g₂).c (g₂.vr hu) hvs) (fun _ _ q => EvQ.from (g₁.trans g₂) q) fun _ _ q => ExcP.from (g₁.trans g₂) q
theorem itN {c : Value} (h : iterK c) : c ≠ .type "frame" ∧ c ≠ .type "cell" ∧ c ≠ .type "tuple" ∧ c ≠ .type "method" ∧ c ≠ .type "dict" ∧ c ≠ .type "list" := by
 rcases h with h | h | h | h <;> subst h <;> trivial
structure Its (X : Addr → Prop) (h h' : Heap) : Prop where
 its : ∀ b o, X b → h.get? b = some o → iterK o.cls
 rest : ∀ b o, ¬ X b → h.get? b = some o → h'.get? b = some o
theorem Its.keep {X : Addr → Prop} {h h' : Heap} (x : Its X h h') {b : Addr} {o : Obj} (hb : h.get? b = some o) (hc : ¬ iterK o.cls) : h'.get? b = some o := x.rest b o (fun q => hc (x.its b o q hb)) hb
theorem Its.one {h h' : Heap} {a : Addr} {o : Obj} (ho : h.get? a = some o) (hc : iterK o.cls) (hs : ∀ b o, b ≠ a → h.get? b = some o → h'.get? b = some o) : Its (· = a) h h' :=
 ⟨fun b ob q hb => by subst q; rw [ho] at hb; injection hb with hb; subst hb; exact hc, fun b ob q hb => hs b ob q hb⟩
theorem Rel.ext (R : Rel w base M H s.heap) {X : Addr → Prop} {h' : Heap} (x : Its X s.heap h') : Rel w base M H h' := by
 have tt : ∀ b o', s.heap.get? b = some o' → o'.cls = .type "tuple" ∨ o'.cls = .type "method" → h'.get? b = some o' := fun b o' hb h => x.keep hb fun q => by
  rcases h with h | h
  · exact (itN q).2.2.1 h
  · exact (itN q).2.2.2.1 h
 refine ⟨fun i ob e => ?_, R.apart, R.fresh, R.tab.go fun b o' hb h => x.keep hb fun q => by rcases h with h | h <;> rw [h] at q <;> simp [iterK] at q⟩
 have q := R.obj i ob e
 refine ob24 (OR.cls q) fun oa od ga gd ca cd => ?_
 refine q.go tt (.refl _ _) (Nat.le_refl _) (nth_lt e) (fun o' hb => ?_) fun o' hb => ?_
 · rw [ga] at hb; injection hb with hb; subst hb
   exact x.keep ga fun q => by rcases ca with h | h | ⟨c, h, _⟩ <;> rw [h] at q <;> simp [iterK] at q
 · rw [gd] at hb; injection hb with hb; subst hb
   exact x.keep gd fun q => by rcases cd with h | h <;> rw [h] at q <;> simp [iterK] at q
theorem FrOk.ext {X : Addr → Prop} {h h' : Heap} (x : Its X h h') : ∀ {l : List Env}, FrOk base h l → FrOk base h' l
 | [], _ => trivial
 | _ :: _, ⟨a1, ⟨L, oL, es, ep, f, b, g, c, d⟩, r⟩ => ⟨a1, ⟨L, oL, es, ep, f, b, x.keep g (fun q => (itN q).1 c), c, d⟩, FrOk.ext x r⟩
theorem Its.vr {X : Addr → Prop} {h h' : Heap} (x : Its X h h') {m : Nat} {v : AV} {u : Value} (y : VR h M m v u) : VR h' M m v u := y.go (fun b o' hb hq => x.keep hb fun q => by
 rcases hq with h | h
 · exact (itN q).2.2.1 h
 · exact (itN q).2.2.2.1 h) (.refl _ _) (Nat.le_refl _)
theorem FrR.ext {X : Addr → Prop} {h h' : Heap} {m : Nat} (x : Its X h h') (F : FrR base z env fr m M h) : FrR base z env fr m M h' :=
 F.keep (fun o e c => ⟨o.slots, x.keep e (fun q => c.elim (itN q).1 (itN q).2.2.2.2.1)⟩) (fun z => z.up fun o e c => x.keep e fun q => (itN q).2.1 c) (fun y => x.vr y) F.own
theorem Sit.ext (T : Sit w base A d l z env fr M H s) {X : Addr → Prop} {h' : Heap} {tk : Nat} (x : Its X s.heap h') (hb : ∀ b, X b → base.get? b = none) : Sit w base A d l z env fr M H { s with heap := h', toks := tk } :=
 ⟨T.aok, T.frs.ext x, T.rel.ext x, fun b o e => x.rest b o (fun q => by rw [hb b q] at e; contradiction) (T.stays b o e), T.fr.ext x⟩
theorem GoF.turn {M₀ : Mp} {H₀ : AH} {s₀ : Shared} (g : GoF w base z env M₀ H₀ s₀ M H s) {X : Addr → Prop} {h' : Heap} {tk : Nat} (x : Its X s.heap h') (hb : ∀ b, X b → base.get? b = none) (h0 : ∀ b, X b → s₀.heap.get? b = none) :
 GoF w base z env M₀ H₀ s₀ M H { s with heap := h', toks := tk } := by
 have ne : ∀ b ob, s₀.heap.get? b = some ob → ¬ X b := fun b ob e q => by rw [h0 b q] at e; contradiction
 refine ⟨g.rel.ext x, g.ext, g.len, ⟨fun b ob e i nx => x.rest b ob (ne b ob e) (g.step.inert b ob e i nx), fun b ob e i nx => ?_⟩, ⟨g.same.g, g.same.d, g.same.o⟩, fun b o e => x.rest b o (fun q => by rw [hb b q] at e; contradiction) (g.stays b o e), ⟨fun b ob e => ?_, g.kept.newer, fun b ob e c no nx => x.rest b ob (ne b ob e) (g.kept.others b ob e c no nx)⟩⟩
 · obtain ⟨sl, q⟩ := g.step.frame b ob e i nx
   exact ⟨sl, x.rest b _ (ne b ob e) q⟩
 · obtain ⟨o', q⟩ := g.kept.alive b ob e
   exact ⟨o', x.rest b _ (ne b ob e) q⟩
theorem IterAt.obj {h : Heap} {m : Nat} {it : Addr} {q : Src} {vs : List AV} (x : IterAt h M m it q vs) : ∃ o, h.get? it = some o ∧ iterK o.cls := by
 induction q using Src.casesOn with
 | fix =>
  rcases x with ⟨t, items, i, ⟨o, g, c, _⟩, _⟩ | ⟨x, k, g, _⟩
  · exact ⟨o, g, .inr (.inl c)⟩
  · exact ⟨_, g, .inr (.inr (.inl rfl))⟩
 | lst j l =>
  obtain ⟨_, i, ⟨o, g, c, _⟩, _⟩ := x
  exact ⟨o, g, .inl c⟩
theorem srcOk_list {j : Nat} {l : List AV} (h : srcOk (.lst j l) H = true) : nth H j = some (.list l) := by
 unfold srcOk at h
 dsimp only at h
 split at h
 · rename_i l' e; rw [eqVs_eq h]; exact e
 · contradiction
theorem next_of (hh : A.handled = none) (R : Rel w base M H s.heap) {it : Addr} {q : Src} {vs : List AV} (ok : srcOk q H = true) (x : IterAt s.heap M H.length it q vs) {Q : Option Value → Shared → Prop} {E : Value → Shared → Prop}
 (h0 : vs = [] → ∀ h', (∀ b o, b ≠ it → s.heap.get? b = some o → h'.get? b = some o) → Q none { s with heap := h' })
 (h1 : ∀ v r, vs = v :: r → ∀ u h' tk, (∀ b o, b ≠ it → s.heap.get? b = some o → h'.get? b = some o) → VR s.heap M H.length v u → IterAt h' M H.length it q r → Q (some u) { s with heap := h', toks := tk }) :
 wpAny (model PW w) A (pyNext (.ref it)) Q E s := by
 induction q using Src.casesOn with
 | lst j l =>
  obtain ⟨hj, i, hit, rfl⟩ := x
  obtain ⟨xs, ep, g, hv, hz, _⟩ := R.obj _ _ (srcOk_list ok)
  have hl : s.heap.IsList (M.a j) xs := ⟨_, g, rfl, ep, rfl⟩
  have lne : M.a j ≠ it := fun e => by
   refine ob13 hit fun o g2 c _ => ?_
   rw [← e, g] at g2; injection g2 with g2; subst g2; simp at c
  cases e : l[i]? with
  | none =>
   have hle : l.length ≤ i := by simpa using e
   have : xs[i]? = none := by rw [← Array.getElem?_toList, List.getElem?_eq_none_iff, hv.len]; exact hle
   exact wpAny_pyNext_list_end hh hit hl this fun h' hx => h0 (List.drop_eq_nil_of_le hle) h' hx
  | some v =>
   obtain ⟨u, h2, hu⟩ := hv.nth (k := i) (x := v) (by
    have : ∀ (l : List AV) (i : Nat), l[i]? = Mine.nth l i := by
     intro l
     induction l with
     | nil => intro i; rfl
     | cons a r ih => intro i; induction i using Nat.casesAuxOn with
      | zero => rfl
      | succ i => simpa [Mine.nth] using ih i
    rw [← this]; exact e)
   have hx : xs[i]? = some u := by simpa using h2
   have hd : l.drop i = v :: l.drop (i + 1) := by
    have hi : i < l.length := (List.getElem?_eq_some_iff.mp e).1
    rw [List.drop_eq_getElem_cons hi]
    congr 1
    exact (List.getElem?_eq_some_iff.mp e).2
   refine wpAny_pyNext_list_item hit hl hx fun h' hit' hs => ?_
   exact h1 v (l.drop (i + 1)) hd u h' s.toks hs.extBut hu ⟨hj, i + 1, hit', rfl⟩
 | fix =>
 rcases x with ⟨t, items, i, hit, ht, hv⟩ | ⟨x, k, hit, rfl⟩
 · have tne : t ≠ it := fun e => by
    obtain ⟨o, g, c, _⟩ := hit
    obtain ⟨o', g', c', _⟩ := ht
    rw [e, g] at g'; injection g' with g'; subst g'; rw [c] at c'; simp at c'
   induction vs using List.casesOn with
   | nil =>
    have : items[i]? = none := by
     have e : items.toList.drop i = [] := hv
     have := List.drop_eq_nil_iff.mp e
     simpa using this
    exact wpAny_pyNext_tuple_end hh hit ht this fun h' hx => h0 rfl h' hx
   | cons v r =>
    obtain ⟨u, us, e, hu, hr⟩ := hv
    have hi : items[i]? = some u := by
     have : (items.toList.drop i)[0]? = some u := by rw [e]; rfl
     simpa using this
    have hd : items.toList.drop (i + 1) = us := by
     have : (items.toList.drop i).drop 1 = us := by rw [e]; rfl
     rw [← this, List.drop_drop]
    refine wpAny_pyNext_tuple_item hit ht hi fun h' hit' hs => ?_
    have k := hs.extBut
    have ht' : h'.IsTuple t items := let ⟨o, g, r⟩ := ht; ⟨o, k t o tne g, r⟩
    refine h1 v r rfl u h' s.toks k hu (.inl ⟨t, items, i + 1, hit', ht', ?_⟩)
    rw [hd]
    exact hr.go (fun b o g c => k b o (fun e => by
     subst e
     obtain ⟨o2, g2, c2, _⟩ := hit
     rw [g2] at g; injection g with g; subst g; rw [c2] at c; simp at c) g) (.refl _ _) (Nat.le_refl _)
 · induction k using Nat.casesAuxOn with
   | zero => exact wpAny_pyNext_range_end hh hit (Int.le_refl _) fun h' hx => h0 rfl h' hx
   | succ k =>
    refine wpAny_pyNext_range_item hit (Int.ofNat_lt.mpr (Nat.succ_pos k)) fun h' hit' hs => ?_
    refine h1 (.int x) ((List.range k).map fun i => .int (x + 1 + Int.ofNat i)) ?_ _ h' _ hs.extBut ⟨_, rfl⟩ (.inr ⟨x + 1, k, ?_, rfl⟩)
    · rw [List.range_succ_eq_map, List.map_cons, List.map_map]
      congr 1
      · show AV.int (x + 0) = _; rw [Int.add_zero]
      · refine List.map_congr_left fun i _ => ?_
        show AV.int (x + Int.ofNat (i + 1)) = _
        congr 1
        show x + ((i : Int) + 1) = x + 1 + (i : Int)
        omega
    · have : (Int.ofNat (k + 1) - 1) = Int.ofNat k := by show ((k : Int) + 1) - 1 = k; omega
      rw [← this]; exact hit'
theorem tgNoGo {t : Tg} {it : Value} : ∀ v, letOwnedTupleGo (t.py nm) it v = pure () := fun v => by cases t <;> rfl
theorem IterAt.goF (F : FrR base z env fr H.length M s.heap) {M' : Mp} {H' : AH} {s' : Shared} (g : GoF w base z env M H s M' H' s') {it : Addr} {q : Src} {vs : List AV} (x : IterAt s.heap M H.length it q vs) : IterAt s'.heap M' H'.length it q vs := by
 have kk : ∀ b o, s.heap.get? b = some o → iterK o.cls → s'.heap.get? b = some o := fun b o hb hc => g.step.inert b o hb (.inr (.inr (.inr hc))) (notOwn F hb (itN hc).1 (itN hc).2.1 (itN hc).2.2.2.2.1)
 induction q using Src.casesOn with
 | fix =>
  rcases x with ⟨t, items, i, ⟨o, g1, c1, d1⟩, ⟨o2, g2, c2, d2⟩, hv⟩ | ⟨x, k, hit, rfl⟩
  · exact .inl ⟨t, items, i, ⟨o, kk _ _ g1 (.inr (.inl c1)), c1, d1⟩, ⟨o2, g.keepT F _ _ g2 (.inl c2), c2, d2⟩, g.vrs F hv⟩
  · exact .inr ⟨x, k, kk _ _ hit (.inr (.inr (.inl rfl))), rfl⟩
 | lst j l =>
  obtain ⟨hj, i, ⟨o, g1, c1, d1⟩, rfl⟩ := x
  exact ⟨Nat.lt_of_lt_of_le hj g.len, i, ⟨o, kk _ _ g1 (.inl c1), c1, by rw [d1, (g.ext j hj).1]⟩, rfl⟩
theorem turn_of (T : Sit w base A d l z env fr M H s) {it : Addr} {M₀ : Mp} {H₀ : AH} {s₀ : Shared} (g₀ : GoF w base z env M₀ H₀ s₀ M H s) (dead : s₀.heap.get? it = none) (db : base.get? it = none) {q : Src} {vs : List AV} (ok : srcOk q H = true) (hi : IterAt s.heap M H.length it q vs)
 {Q : Option Value → Shared → Prop} {E : Value → Shared → Prop}
 (h0 : vs = [] → ∀ s', Sit w base A d l z env fr M H s' → GoF w base z env M₀ H₀ s₀ M H s' → (∀ b o, b ≠ it → s.heap.get? b = some o → s'.heap.get? b = some o) → Q none s')
 (h1 : ∀ v r, vs = v :: r → ∀ u s', Sit w base A d l z env fr M H s' → GoF w base z env M₀ H₀ s₀ M H s' → (∀ b o, b ≠ it → s.heap.get? b = some o → s'.heap.get? b = some o) → VR s'.heap M H.length v u → IterAt s'.heap M H.length it q r → Q (some u) s') :
 wpAny (model PW w) A (pyNext (.ref it)) Q E s := by
 refine ob12 hi.obj fun oi gi ci => ?_
 refine next_of T.aok.handled T.rel ok hi (fun e h' hs => ?_) fun v rest e u h' tk hs hu hi' => ?_
 · have x := Its.one gi ci hs
   exact h0 e _ (T.ext (tk := s.toks) x (fun b q => q ▸ db)) (g₀.turn x (fun b q => q ▸ db) (fun b q => q ▸ dead)) hs
 · have x := Its.one gi ci hs
   exact h1 v rest e u _ (T.ext (tk := tk) x (fun b q => q ▸ db)) (g₀.turn x (fun b q => q ▸ db) (fun b q => q ▸ dead)) hs (x.vr hu) hi'
theorem Snd.forL1 (S : Snd w base K n) {t : Tg} {q : Src} {vs : List AV} {b : List Mine.S} {r : R (Fl × Fr)} (hr : Mine.forL tb (n + 1) d fr H q t vs b = r) (hb : r ≠ .bad) (hw : wfT z t = true) (hw2 : wfSs z b = true) (T : Sit w base A d l z env fr M H s)
 {it : Addr} {M₀ : Mp} {H₀ : AH} {s₀ : Shared} (g₀ : GoF w base z env M₀ H₀ s₀ M H s) (dead : s₀.heap.get? it = none) (db : base.get? it = none) (hi : IterAt s.heap M H.length it q vs) :
 codeAny (model PW w) A (.forLoop (t.py nm) (.ref it) (Mine.S.pys nm b) [] env) (LoopR w base z env l M₀ H₀ s₀ r) s := by
 dsimp only [Mine.forL] at hr
 induction ok : srcOk q H using Bool.casesOn with
 | false => rw [ok] at hr; exact absurd hr.symm hb
 | true =>
 rw [ok] at hr
 skip
 refine for_step tgNoGo (turn_of T g₀ dead db ok hi (fun e s' T' g' _ => ?_) fun v rest e u s₁ T₁ g₁ hs hu' hi' => ?_)
 · subst e
   exact ⟨.next, fr, H, M, hr.symm, g', T'.fr, T'.frs, rfl⟩
 · subst e
   dsimp only at hr
   have hb1 : Mine.asg tb n d fr H t v ≠ .bad := by intro q; rw [q] at hr; exact hb hr.symm
   refine wpAny_mono (S.asg rfl hb1 hw T₁ hu') (fun _ s₂ q => ?_) fun _ _ h => h
   obtain ⟨fr₂, H₂, M₂, e2, g₂, F₂, O₂⟩ := q
   rw [e2] at hr
   dsimp only at hr
   have hb2 : Mine.exs tb n d fr₂ H₂ b ≠ .bad := by intro q; rw [q] at hr; exact hb hr.symm
   refine wpAny_mono (S.exs rfl hb2 hw2 (T₁.f g₂ F₂ O₂)) (fun f s₃ q => ?_) fun x s₃ q => ?_
   · obtain ⟨fl, fr₃, H₃, M₃, e3, g₃, F₃, O₃, hf⟩ := q
     rw [e3] at hr
     induction fl using Fl.casesOn with
     | next =>
      obtain rfl : f = .next := hf
      exact S.forL hr hb hw hw2 ((T₁.f g₂ F₂ O₂).f g₃ F₃ O₃) ((g₁.trans g₂).trans g₃) dead db (IterAt.goF (T₁.f g₂ F₂ O₂).fr g₃ (IterAt.goF T₁.fr g₂ hi'))
     | ret v' =>
      refine ob12 hf fun u' q1_ hu'' => ?_; subst q1_
      exact ⟨.ret v', fr₃, H₃, M₃, hr.symm, (g₁.trans g₂).trans g₃, F₃, O₃, u', rfl, hu''⟩
   · obtain ⟨c, H', M', e3, _⟩ := q
     rw [e3] at hr
     exact absurd hr.symm hb
theorem noFold {e : E} (h : ∀ x, e ≠ .raw x) (v : Value) : foldedSetIterable (E.py nm e) env v = pure v := by
 cases e <;> first | rfl | exact absurd rfl (h _)
theorem Go.dead {M' : Mp} {H' : AH} {s' : Shared} (g : Go w base M H s M' H' s') {b : Addr} (h : s'.heap.get? b = none) : s.heap.get? b = none := by
 cases q : s.heap.get? b with
 | none => rfl
 | some o => obtain ⟨o', e⟩ := g.kept.alive _ o q; rw [h] at e; contradiction
theorem Snd.forS (S : Snd w base K n) {t : Tg} {it : E} {b : List Mine.S} {p : Pos} {r : R (Fl × Fr)} (hr : Mine.ex tb (n + 1) d fr H (.for_ t it b p) = r) (hb : r ≠ .bad) (hw : wfS z (.for_ t it b p) = true) (T : Sit w base A d l z env fr M H s) :
 wpAny (model PW w) A (exec (Mine.S.py nm (.for_ t it b p)) env) (ExQ w base z env l M H s r) (ExcF w base z env l M H s r) s := by
 dsimp only [Mine.ex] at hr
 refine wpAny_For (S.evF hr hb (and1 (and2 hw)) T fun v H₁ M₁ u s₁ hr₁ g₁ hu => ?_) (fun x => noFold (wnr (and1 (and2 hw))) x)
 have T₁ := T.go g₁
 induction d using Nat.casesAuxOn with
 | zero => exact absurd hr₁.symm hb
 | succ d =>
  dsimp only at hr₁
  have fresh : s₁.heap.get? s₁.heap.objs.size = none := Heap.get?_none_of_le (Nat.le_refl _)
  have dead : s.heap.get? s₁.heap.objs.size = none := g₁.dead fresh
  have db : base.get? s₁.heap.objs.size = none := T₁.c.dead fresh
  induction v using AV.casesOn with
  | tup vs =>
   refine ob23 hu.isTup fun a xs q2_ ht hvs => ?_; subst q2_
   dsimp only at hr₁
   refine wpAny_pyIter_tuple ht ?_
   have k : ∀ b o, s₁.heap.get? b = some o → (s₁.heap.push { cls := .type "tuple_iterator", data := .fields #[.ref a, .int 0 0] }).get? b = some o := fun _ _ e => Heap.get?_push_of_some _ e
   have g₂ := T₁.grow (s' := { s₁ with heap := s₁.heap.push { cls := .type "tuple_iterator", data := .fields #[.ref a, .int 0 0] } }) k ⟨rfl, rfl, rfl⟩
   have hi : IterAt (s₁.heap.push { cls := .type "tuple_iterator", data := .fields #[.ref a, .int 0 0] }) M₁ H₁.length s₁.heap.objs.size .fix vs :=
    .inl ⟨a, xs, 0, ⟨_, Heap.get?_push_size _ rfl, rfl, rfl⟩, let ⟨o, g, r⟩ := ht; ⟨o, k _ _ g, r⟩, g₂.vrs hvs⟩
   exact codeAny_mono (S.forL hr₁ hb (and1 hw) (and2 (and2 hw)) (T₁.go g₂).less (g₁.trans g₂).f dead db hi) fun q s' h => by
    induction q using Except.casesOn with
    | ok f => exact h
    | error e => exact h.elim
  | obj i =>
   obtain ⟨hi, rfl⟩ := hu
   dsimp only at hr₁
   split at hr₁
   · rename_i xs hn
     obtain ⟨ys, ep, g, hv, hz, _⟩ := T₁.rel.obj _ _ hn
     refine wpAny_pyIter_list ⟨_, g, rfl, ep, rfl⟩ ?_
     have k : ∀ b o, s₁.heap.get? b = some o → (s₁.heap.push { cls := .type "list_iterator", data := .fields #[.ref (M₁.a i), .int 0 0] }).get? b = some o := fun _ _ e => Heap.get?_push_of_some _ e
     have g₂ := T₁.grow (s' := { s₁ with heap := s₁.heap.push { cls := .type "list_iterator", data := .fields #[.ref (M₁.a i), .int 0 0] } }) k ⟨rfl, rfl, rfl⟩
     have hi : IterAt (s₁.heap.push { cls := .type "list_iterator", data := .fields #[.ref (M₁.a i), .int 0 0] }) M₁ H₁.length s₁.heap.objs.size (.lst i xs) xs :=
      ⟨hi, 0, ⟨_, Heap.get?_push_size _ rfl, rfl, rfl⟩, rfl⟩
     exact codeAny_mono (S.forL hr₁ hb (and1 hw) (and2 (and2 hw)) (T₁.go g₂).less (g₁.trans g₂).f dead db hi) fun q s' h => by
      induction q using Except.casesOn with
      | ok f => exact h
      | error e => exact h.elim
   · exact absurd hr₁.symm hb
  | _ => exact absurd hr₁.symm hb
theorem put_len {α : Type} : ∀ (H : List α) (i : Nat) (o : α), (put H i o).length = H.length
 | [], _, _ => rfl
 | _ :: _, 0, _ => rfl
 | _ :: r, i + 1, o => by simp [put, put_len r i o]
theorem nth_put_at {α : Type} : ∀ {H : List α} {i : Nat} {o : α}, i < H.length → nth (put H i o) i = some o
 | [], _, _, h => by contradiction
 | _ :: _, 0, _, _ => rfl
 | _ :: r, i + 1, o, h => nth_put_at (H := r) (Nat.lt_of_succ_lt_succ h)
theorem nth_put_ne {α : Type} : ∀ {H : List α} {i j : Nat} {o : α}, i ≠ j → nth (put H i o) j = nth H j
 | [], _, _, _, _ => rfl
 | _ :: _, 0, 0, _, h => absurd rfl h
 | _ :: _, 0, j + 1, _, _ => rfl
 | _ :: _, i + 1, 0, _, _ => rfl
 | _ :: r, i + 1, j + 1, o, h => nth_put_ne (H := r) (fun e => h (congrArg _ e))
theorem Rel.put (R : Rel w base M H s.heap) {h' : Heap} {i : Nat} {x : Addr} {ox : Obj} {o' : AO} (hi : i < H.length) (hx : x = M.a i ∨ x = M.d i) (gx : s.heap.get? x = some ox) (cx : ox.cls = .type "list" ∨ ox.cls = .type "dict")
 (hs : Heap.SameBut x s.heap h') (ho : OR w h' M H.length i o') : Rel w base M (put H i o') h' := by
 have ln := put_len H i o'
 refine ⟨fun j oj e => ?_, fun a b ha hb => R.apart a b (ln ▸ ha) (ln ▸ hb), fun j hj => R.fresh j (ln ▸ hj), R.tab.go fun b o hb hc => (hs.2 b fun q => by subst q; rw [gx] at hb; injection hb with hb; subst hb; rcases cx with k | k <;> rw [k] at hc <;> simp at hc).trans hb⟩
 rw [ln]
 by_cases q : i = j
 · subst q
   rw [nth_put_at hi] at e; injection e with e; subst e; exact ho
 · rw [nth_put_ne q] at e
   have hj := nth_lt e
   have n1 : M.a j ≠ x := by rcases hx with rfl | rfl; exact Ne.symm (R.apart i j hi hj q).1; exact (R.apart j i hj hi (Ne.symm q)).2.1
   have n2 : M.d j ≠ x := by rcases hx with rfl | rfl; exact Ne.symm (R.apart i j hi hj q).2.1; exact Ne.symm (R.apart i j hi hj q).2.2
   refine (R.obj j oj e).go (fun b o hb hc => (hs.2 b fun q => ?_).trans hb) (.refl _ _) (Nat.le_refl _) hj (fun o hb => (hs.2 _ n1).trans hb) fun o hb => (hs.2 _ n2).trans hb
   subst q
   rw [gx] at hb; injection hb with hb; subst hb
   rcases cx with c | c <;> rw [c] at hc <;> simp at hc
theorem Sit.put (T : Sit w base A d l z env fr M H s) {h' : Heap} {tk : Nat} {i : Nat} {x : Addr} {ox : Obj} {o' : AO} (hi : i < H.length) (hx : x = M.a i ∨ x = M.d i) (gx : s.heap.get? x = some ox) (cx : ox.cls = .type "list" ∨ ox.cls = .type "dict")
 (hs : Heap.SameBut x s.heap h') (ha : ∃ o, h'.get? x = some o) (ho : OR w h' M H.length i o') : Go w base M H s M (Mine.put H i o') { s with heap := h', toks := tk } := by
 have bx : base.get? x = none := by rcases hx with rfl | rfl; exact (T.rel.fresh i hi).1; exact (T.rel.fresh i hi).2
 refine ⟨T.rel.put hi hx gx cx hs ho, .refl _ _, by rw [put_len]; exact Nat.le_refl _, ⟨fun b o e c => (hs.2 b fun q => ?_).trans e, fun b o e c => ⟨o.slots, (hs.2 b fun q => ?_).trans e⟩⟩, ⟨rfl, rfl, rfl⟩,
  fun b o e => (hs.2 b fun q => by subst q; rw [bx] at e; contradiction).trans (T.stays b o e), ⟨fun b o e => ?_, fun j h1 h2 => absurd h2 (by rw [put_len]; exact Nat.not_lt.mpr h1), fun b o e c no _ => (hs.2 b fun q => no ⟨i, hi, by subst q; exact hx⟩).trans e⟩⟩
 · subst q; rw [gx] at e; injection e with e; subst e
   rcases cx with k | k <;> rcases c with c | c | c | c | c | c | c <;> rw [k] at c <;> simp at c
 · subst q; rw [gx] at e; injection e with e; subst e
   rcases cx with k | k <;> rw [k] at c <;> simp at c
 · by_cases q : b = x
   · subst q; exact ha
   · exact ⟨o, (hs.2 b q).trans e⟩
theorem mapSeq_list {xs : Array Value} {ep : Nat} {f : Array Value → Array Value} : ∃ ep', Obj.mapSeq f { cls := .type "list", data := .seq xs ep } = { cls := .type "list", data := .seq (f xs) ep' } := ⟨_, rfl⟩
theorem setItem_list {l : Addr} {items : Array Value} {ep : Nat} {k : Int} {t : Tok} {v : Value} {Q : Unit → Shared → Prop} {E : Value → Shared → Prop} (ho : s.heap.get? l = some { cls := .type "list", data := .seq items ep }) (h0 : 0 ≤ k) (hfit : k < 2 ^ 63) (hn : k < items.size)
 (hQ : ∀ h' ep', h'.get? l = some { cls := .type "list", data := .seq (items.setIfInBounds k.toNat v) ep' } → Heap.SameBut l s.heap h' → Q () { s with heap := h' }) :
 wpAny (model PW w) A (setItem (.ref l) (.int k t) v) Q E s := by
 have hl : s.heap.IsList l items := ⟨_, ho, rfl, ep, rfl⟩
 unfold setItem
 try with_reducible refine wpAny_holding ?_
 first | refine wpAny_bind (wpAny_pure ?_) | skip
 refine wpAny_bind (wpAny_sequenceKey hl.typeIs (by decide) ?_)
 refine wpAny_bind (wpAny_callSpecial?_slot (name := Str.ofString "__setitem__") hl.typeIs slot_list_setitem
  (wpAny_call_entry slot_list_setitem hl.typeIs entry_list_setitem ?_ (args_list_setitem _ _ _)))
 show wpAny _ _ (Builtin.List.listSubscript? (.int k t) >>= _) _ _ s
 refine wpAny_bind (wpAny_listSubscript_int (fitsIndex_of h0 hfit) ?_)
 skip
 obtain ⟨k, rfl⟩ := Int.eq_ofNat_of_zero_le h0
 have hn : k < items.size := by omega
 have hx' : items[k]? = some items[k] := Array.getElem?_eq_getElem hn
 skip
 refine wpAny_bind (wpAny_bind (wpAny_seqItemAt ho rfl (wpAny_pure ?_)))
 rw [hx']
 skip
 obtain ⟨ep', e⟩ := mapSeq_list (xs := items) (ep := ep) (f := (·.setIfInBounds k v))
 have g' : (s.heap.update l (Obj.mapSeq (·.setIfInBounds k v))).get? l = some { cls := .type "list", data := .seq (items.setIfInBounds k v) ep' } := by
  rw [← e]; exact Heap.get?_update_self _ ho (by rw [e]; rfl)
 refine wpAny_bind (wpAny_setSeqItemAt ho rfl ?_)
 first
  | exact wpAny_bind (wpAny_pure (wpAny_pure ⟨.none, rfl, wpAny_pure (hQ _ ep' g' (Heap.SameBut.update ..))⟩))
  | exact wpAny_pure ⟨.none, rfl, wpAny_pure (hQ _ ep' g' (Heap.SameBut.update ..))⟩
theorem VRs.put {h : Heap} {m : Nat} : ∀ {l : List AV} {vs : List Value} {k : Nat} {v : AV} {u : Value}, VRs h M m l vs → VR h M m v u → VRs h M m (Mine.put l k v) (vs.set k u)
 | [], _, _, _, _, x, _ => by subst x; rfl
 | _ :: _, _, 0, _, _, ⟨a, t, e, x, r⟩, y => by subst e; exact ⟨_, t, rfl, y, r⟩
 | _ :: _, _, k + 1, _, _, ⟨a, t, e, x, r⟩, y => by subst e; exact ⟨a, _, rfl, x, VRs.put r y⟩
theorem dget_dput (es : List (AV × AV)) (x y : List Nat) (v : AV) : dget (dput es (.str x) v) (.str y) = if y = x then some v else dget es (.str y) := by
 have E : ∀ a b : List Nat, eqV (.str a) (.str b) = eqN a b := fun _ _ => rfl
 induction es with
 | nil =>
  (dsimp only [dput, dget]; simp only [E])
  by_cases h : y = x
  · subst h; rw [(eqN_iff y y).mpr rfl]; simp
  · have : eqN x y = false := by
     induction q : eqN x y using Bool.casesOn with
     | false => rfl
     | true => exact absurd ((eqN_iff x y).mp q).symm h
    rw [this]; simp [h]
 | cons p r ih =>
  obtain ⟨k, u⟩ := p
  dsimp only [dput]
  induction q : eqV k (.str x) using Bool.casesOn with
  | true =>
   have q' := eqV_eq q
   subst q'
   (dsimp only [dget]; simp only [E])
   by_cases h : y = x
   · subst h; rw [(eqN_iff y y).mpr rfl]; simp
   · have : eqN x y = false := by
      induction q : eqN x y using Bool.casesOn with
      | false => rfl
      | true => exact absurd ((eqN_iff x y).mp q).symm h
     rw [this]; simp [h]
  | false =>
   dsimp only [dget]
   induction q2 : eqV k (.str y) using Bool.casesOn with
   | true =>
    have q' := eqV_eq q2
    subst q'
    have : y ≠ x := fun e => by subst e; rw [E, (eqN_iff y y).mpr rfl] at q; contradiction
    simp [this]
   | false => assumption
theorem dput_len (es : List (AV × AV)) (x v : AV) : es.length ≤ (dput es x v).length ∧ (dput es x v).length ≤ es.length + 1 := by
 induction es with
 | nil => simp [dput]
 | cons p r ih =>
  obtain ⟨k, u⟩ := p
  dsimp only [dput]
  cases eqV k x <;> simp <;> omega
theorem setI_list (T : Sit w base A d l z env fr M H s) {i k : Nat} {xs : List AV} {v : AV} {u : Value} {t : Tok} (hn : nth H i = some (.list xs)) (hk : k < xs.length) (hu : VR s.heap M H.length v u) {E : Value → Shared → Prop} :
 wpAny (model PW w) A (setItem (.ref (M.a i)) (.int (Int.ofNat k) t) u) (fun _ s' => Go w base M H s M (Mine.put H i (.list (Mine.put xs k v))) s') E s := by
 obtain ⟨items, ep, g, hv, hz, q⟩ := T.rel.obj _ _ hn
 have hl : items.size = xs.length := by rw [← hv.len]; rfl
 refine setItem_list g (Int.natCast_nonneg k) (by show (k : Int) < _; omega) (by show (k : Int) < _; omega) fun h' ep' g' hs => ?_
 refine T.put (tk := s.toks) (nth_lt hn) (.inl rfl) g (.inl rfl) hs ⟨_, g'⟩ ⟨_, ep', g', ?_, by rw [put_len]; exact hz, q⟩
 have k2 : ∀ b o, s.heap.get? b = some o → o.cls = .type "tuple" ∨ o.cls = .type "method" → h'.get? b = some o := fun b o e c => (hs.2 b fun q => by
  subst q; rw [g] at e; injection e with e; subst e; simp at c).trans e
 have : (items.setIfInBounds (Int.ofNat k).toNat u).toList = items.toList.set k u := by simp
 rw [this]
 exact (hv.put hu).go k2 (.refl _ _) (Nat.le_refl _)
theorem valueAt_stored (kvs : List (Str × Value)) (k x : Str) (v : Value) : valueAt (stored kvs k v) x = if x = k then some v else valueAt kvs x := by
 unfold valueAt stored
 split
 · rename_i h
   induction kvs with
   | nil => simp at h
   | cons p r ih =>
    obtain ⟨a, b⟩ := p
    by_cases ha : a = k
    · subst ha
      by_cases hx : x = a
      · subst hx; simp
      · have hx' : ¬ a = x := fun e => hx e.symm
        simp only [List.map_cons, if_true, List.find?_cons, hx', decide_false, hx, if_false]
        clear ih h
        induction r with
        | nil => rfl
        | cons q r ih =>
         obtain ⟨c, e⟩ := q
         simp only [List.map_cons, List.find?_cons]
         by_cases hc : c = a
         · subst hc; simp only [if_true, hx', decide_false]; exact ih
         · simp only [hc, if_false]
           by_cases hcx : c = x
           · simp [hcx]
           · simp only [hcx, decide_false]; exact ih
    · have h' : r.any (fun kv => decide (kv.1 = k)) = true := by simpa [ha] using h
      simp only [List.map_cons, ha, if_false, List.find?_cons]
      by_cases hax : a = x
      · subst hax; simp [ha]
      · simp only [hax, decide_false]; exact ih h'
 · rename_i h
   rw [List.find?_append]
   by_cases hx : x = k
   · subst hx
     have : kvs.find? (fun kv => decide (kv.1 = x)) = none := by
      rw [List.find?_eq_none]; intro p hp q; exact h (List.any_eq_true.mpr ⟨p, hp, q⟩)
     rw [this]; simp
   · have : ¬ k = x := fun e => hx e.symm
     cases kvs.find? (fun kv => decide (kv.1 = x)) <;> simp [this, hx]
theorem upd_len (fr : Fr) (x : Nat) (v : AV) : (look fr x = none → (upd fr x v).length = fr.length + 1) ∧ (look fr x ≠ none → (upd fr x v).length = fr.length) := by
 induction fr with
 | nil => simp [upd, look]
 | cons p r ih =>
  obtain ⟨k, u⟩ := p
  simp only [upd, look]
  induction q : Nat.beq k x using Bool.casesOn with
  | true => simp
  | false => simpa using ih
theorem dput_dget_len (es : List (AV × AV)) (x v : AV) : (dget es x = none → (dput es x v).length = es.length + 1) ∧ (dget es x ≠ none → (dput es x v).length = es.length) := by
 induction es with
 | nil => simp [dput, dget]
 | cons p r ih =>
  obtain ⟨k, u⟩ := p
  simp only [dput, dget]
  induction q : eqV k x using Bool.casesOn with
  | true => simp
  | false => simpa using ih
theorem set_at (B : BaseOk w base K) (T : Sit w base A d l z env fr M H s) {x : AV} {u : Value} {a : Nat} {v : AV} {vv : Value} {H' : AH} (ha : (Nat.blt a 202 && !badAt a) = true) (hu : VR s.heap M H.length x u) (hv : VR s.heap M H.length v vv) (e : setA x a v H = some H') {E : Value → Shared → Prop} :
 wpAny (model PW w) A (setAttr u (nm a) vv) (fun _ s' => Go w base M H s M H' s') E s := by
 obtain ⟨h200, hbad⟩ := attrOk ha
 induction x using AV.casesOn with
 | obj i =>
  obtain ⟨hi, rfl⟩ := hu
  unfold setA at e
  dsimp only at e
  split at e
  · rename_i c at_ hn
    split at e
    · rename_i hlen
      injection e with e; subst e
      have hlen : at_.length + 1 ≤ 100 := Nat.le_of_ble_eq_true hlen
      refine ob21 (T.inst (K := K) hn) fun xs ep O => ?_
      refine ob05 (B.cls c O.cls) fun p1 p2 p3 p4 p5 => ?_
      have X := T.kin B
      have ht : takerIn K c (nm a) = some none := by
       unfold takerIn
       rw [(B.attr c a O.cls h200 hbad), Option.bind_some]
       induction hm : tb.meth c a using Option.casesOn with
       | none => rfl
       | some g => refine ob03 (B.meth c a g hm) fun _ _ h4 => ?_; simp [h4]
      refine ob12 (any_some p2) fun cd hc hd' => ?_
      have gi := O.inst.at_
      have gd : s.heap.get? (M.d i) = some { cls := .type "dict", data := .dict xs ep } := by
       obtain ⟨m, xs', ep', g, gd, r⟩ := T.rel.obj _ _ hn
       have := O.inst
       obtain ⟨_, _, _, hdd⟩ := this
       exact hdd
      refine set_plain X O.inst p4 (osa_open (s := { s with toks := s.toks + 1 }) X O.inst p3 ht fun b => ?_)
      refine wpAny_bind (wpAny_pure (wpAny_bind (wpAny_bind (wpAny_loadPart gi (wpAny_bind ((looks_clsIn X hc).here (s := { s with toks := s.toks + 1 }) ?_))))))
      rw [hd']
      refine wpAny_pure (a := some (M.d i)) (wpAny_bind (wpAny_pure (wpAny_bind ?_)))
      refine nsSet_at (s := { s with toks := s.toks + 1 }) gd O.keys fun h' es' ep' g' k' f' z1 z2 hs => ?_
      have hsz : es'.size ≤ (upd at_ a v).length := size_step (O.has a h200).isSome O.size z1 z2 (upd_len at_ a v).1 (upd_len at_ a v).2
      have hle : (upd at_ a v).length ≤ 101 := by
       induction q2 : look at_ a using Option.casesOn with
       | none => rw [(upd_len at_ a v).1 q2]; exact Nat.lt_succ_of_lt ‹_›
       | some v' => rw [(upd_len at_ a v).2 (by rw [q2]; simp)]; omega
      refine wpAny_bind (wpAny_lookBehind g' (pastItsLine_dict (by rw [sizeLine_eq]; omega)) (wpAny_pure ?_))
      have kv : ∀ {v : AV} {u : Value}, VR s.heap M H.length v u → VR h' M H.length v u := fun x => x.go (fun b o' hb hq => (hs.2 b fun q => by subst q; rw [gd] at hb; injection hb with hb; subst hb; simp at hq).trans hb) (.refl _ _) (Nat.le_refl _)
      have ne : M.a i ≠ M.d i := fun q => by rw [q, gd] at gi; cases gi
      refine T.put (tk := s.toks + 1 + 1) hi (.inr rfl) gd (.inr rfl) hs ⟨_, g'⟩ ⟨fun y => if y = nm a then some vv else nsFind xs y, es', ep', (hs.2 _ ne).trans gi, g', ⟨k', f'⟩, O.cls, hsz, fun y hy => ?_⟩
      have ly := look_upd at_ a y v
      show Says _ _ _ _ (if nm y = nm a then _ else _)
      by_cases q : y = a
      · subst q
        rw [ly, if_pos rfl, if_pos rfl]
        exact .yes (kv hv)
      · rw [ly, if_neg q, if_neg (fun e => q (B.inj _ _ hy h200 e))]
        exact Says.mono kv (O.has y hy)
    · contradiction
  · contradiction
 | _ => contradiction
theorem setI_dict (T : Sit w base A d l z env fr M H s) {i : Nat} {es : List (AV × AV)} {x : List Nat} {v : AV} {u : Value} {t : Tok} (hn : nth H i = some (.dict es)) (hz : es.length < 1000) (hu : VR s.heap M H.length v u) {E : Value → Shared → Prop} :
 wpAny (model PW w) A (setItem (.ref (M.a i)) (.str (strOf x) t) u) (fun _ s' => Go w base M H s M (Mine.put H i (.dict (dput es (.str x) v))) s') E s := by
 obtain ⟨kvs, hm, dl, hz', q, y⟩ := T.rel.obj _ _ hn
 have hm0 := hm
 obtain ⟨o, es0, ep, g, ⟨hx, hx2⟩, r⟩ := hm0
 refine wpAny_setItem_pairs (strKind_is _ _ _ t) hm (fun h' hm' hs => ?_) (by rw [sizeLine_eq]; omega)
 have k2 : ∀ b o, s.heap.get? b = some o → o.cls = .type "tuple" ∨ o.cls = .type "method" → h'.get? b = some o := fun b o e c => (hs.2 b fun q => by
  subst q; rw [g] at e; injection e with e; subst e; rw [hx] at c; simp at c).trans e
 have L := dput_len es (.str x) v
 refine T.put (tk := s.toks + 1) (nth_lt hn) (.inl rfl) g (.inr hx) hs (let ⟨o, _, _, g', _⟩ := hm'; ⟨o, g'⟩) ⟨_, hm', ?_, by omega, q, fun st => ?_⟩
 · have key : ∀ (st : List Nat), (valueAt kvs (strOf st)).isSome = (dget es (.str st)).isSome := fun st => (y st).isSome
   have one : kvs.any (fun kv => decide (kv.1 = strOf x)) = (valueAt kvs (strOf x)).isSome := by
    unfold valueAt
    rw [Option.isSome_map, Bool.eq_iff_iff, List.find?_isSome, List.any_eq_true]
   unfold stored
   rw [one, key]
   induction q : dget es (.str x) using Option.casesOn with
   | some v' => simp only [Option.isSome_some, if_true, List.length_map]; rw [(dput_dget_len es (.str x) v).2 (by rw [q]; simp)]; exact dl
   | none => simp only [Option.isSome_none, Bool.false_eq_true, if_false, List.length_append, List.length_singleton]; rw [(dput_dget_len es (.str x) v).1 q]; exact Nat.lt_succ_of_le ‹_›
 · rw [valueAt_stored, dget_dput]
   by_cases q : st = x
   · subst q
     rw [if_pos rfl, if_pos rfl]
     exact .yes (hu.go k2 (.refl _ _) (Nat.le_refl _))
   · rw [if_neg q, if_neg (fun e => q (sOi e))]
     exact (y st).go k2 (.refl _ _) (Nat.le_refl _)
theorem Snd.evN (S : Snd w base K n) {e : E} {x : AV} {H' : AH} (hr : Mine.ev tb n d fr H e = .ok x H') (hw : wfE z e = true) (T : Sit w base A d l z env fr M H s) {Q : Value → Shared → Prop} {E' : Value → Shared → Prop}
 (k : ∀ M' v s', Go w base M H s M' H' s' → VR s'.heap M' H'.length x v → Q v s') : wpAny (model PW w) A (eval (e.py nm) env) Q E' s :=
 wpAny_mono (S.ev hr (by simp) hw T) (fun v s' ⟨av, H₁, M', h1, h2, h3⟩ => by cases h1; exact k M' v s' h2 h3) fun v s' ⟨c, _, _, h1, _, _⟩ => by cases h1
theorem AsgQ.of {fr : Fr} {r : R Fr} (T : Sit w base A d l z env fr M H s) {H' : AH} {M' : Mp} {s' : Shared} (e : r = .ok fr H') (g : Go w base M H s M' H' s') : AsgQ w base z env l M H s r s' := ⟨fr, H', M', e, g.f, T.fr.go g, T.frs.step g.step⟩
theorem Snd.asgA (B : BaseOk w base K) (S : Snd w base K n) {e : E} {a : Nat} {p : Pos} {v : AV} {u : Value} {r : R Fr} (hr : Mine.asg tb (n + 1) d fr H (.att e a p) v = r) (hb : r ≠ .bad) (hw : wfT z (.att e a p) = true) (T : Sit w base A d l z env fr M H s) (hv : VR s.heap M H.length v u) :
 wpAny (model PW w) A (assign (Tg.py nm (.att e a p)) env u) (fun _ s' => AsgQ w base z env l M H s r s') (fun _ _ => False) s := by
 dsimp only [Mine.asg] at hr
 split at hr
 · rename_i x H₁ e1
   split at hr
   · rename_i H₂ e2
     refine wpAny_bind (wpAny_holding (S.evN e1 (and1 hw) T fun M₁ ov s₁ g₁ hx => ?_))
     refine wpAny_bind (wpAny_standAt (wpAny_bind (wpAny_holding (wpAny_mono (set_at B (T.go g₁) (and2 hw) hx (g₁.vr hv) e2) (fun _ s₂ g₂ => ?_) fun _ _ h => h))))
     exact wpAny_release (AsgQ.of T hr.symm (g₁.trans g₂))
   · exact absurd hr.symm hb
 · exact absurd hr.symm hb
theorem eqV_key {k : AV} (hk : isKey k = true) : eqV k k = true := by
 have r : ∀ x : List Nat, eqN x x = true := fun x => (eqN_iff x x).mpr rfl
 obtain ⟨x⟩ | ⟨x, i⟩ := keyV hk
 · exact r x
 · show (match eqN x x with | true => (match beqI i i with | true => true | false => false) | false => false) = true
   rw [r, beqI_eq, beq_self_eq_true]
theorem dget_dput_key (es : List (AV × AV)) {x y v : AV} (hx : isKey x = true) (hy : isKey y = true) : (y = x → dget (dput es x v) y = some v) ∧ (y ≠ x → dget (dput es x v) y = dget es y) := by
 induction es with
 | nil =>
  refine ⟨fun e => ?_, fun e => ?_⟩
  · subst e; show dget [(y, v)] y = _; simp [dget, eqV_key hx]
  · show dget [(x, v)] y = _
    have : eqV x y = false := by
     induction q : eqV x y using Bool.casesOn with
     | false => rfl
     | true => exact absurd (eqV_eq q).symm e
    simp [dget, this]
 | cons p r ih =>
  obtain ⟨k, u⟩ := p
  simp only [dput]
  induction q : eqV k x using Bool.casesOn with
  | true =>
   have q' := eqV_eq q
   subst q'
   simp only [dget]
   refine ⟨fun e => ?_, fun e => ?_⟩
   · subst e; simp [eqV_key hx]
   · have : eqV k y = false := by
      induction q : eqV k y using Bool.casesOn with
      | false => rfl
      | true => exact absurd (eqV_eq q).symm e
     simp [this]
  | false =>
   simp only [dget]
   induction q2 : eqV k y using Bool.casesOn with
   | true =>
    have q' := eqV_eq q2
    subst q'
    refine ⟨fun e => ?_, fun _ => rfl⟩
    subst e; rw [q2] at q; contradiction
   | false => exact ih
theorem bkOf_inj {a b : AV} (ha : isKey a = true) (hb : isKey b = true) (e : bkOf a = bkOf b) : a = b := by
 obtain ⟨x⟩ | ⟨x, i⟩ := keyV ha <;> obtain ⟨y⟩ | ⟨y, j⟩ := keyV hb
 · rw [sOi (BK.s.inj e)]
 · contradiction
 · contradiction
 · obtain ⟨e1, e2⟩ := BK.p.inj e
   rw [sOi e1, e2]
theorem book_set (B : BaseOk w base K) (T : Sit w base A d l z env fr M H s) {i : Nat} {es : List (AV × AV)} {k v : AV} {b u : Value} (hi : nth H i = some (.book es)) (hk : isKey k = true) (hz : es.length < 1000) (hb : VR s.heap M H.length k b) (hu : VR s.heap M H.length v u) {E : Value → Shared → Prop} :
 wpAny (model PW w) A (setItem (.ref (M.a i)) b u) (fun _ s' => Go w base M H s M (Mine.put H i (.book (dput es k v))) s') E s := by
 obtain ⟨arr, ep, bxs, g, ⟨r1, r2, r3, r4⟩, z, q, y⟩ := T.rel.obj _ _ hi
 refine setB T.aok.in1u (key_is hk hb) g r1 r2 r3 (by rw [sizeLine_eq]; omega) fun h' es' ep' xs' t g' a1 a2 a3 a4 a5 hs => ?_
 have k2 : ∀ b o, s.heap.get? b = some o → o.cls = .type "tuple" ∨ o.cls = .type "method" → h'.get? b = some o := fun b o e c => (hs.2 b fun q => by
  subst q; rw [g] at e; injection e with e; subst e; simp [BookObj] at c).trans e
 have L := dput_dget_len es k v
 have L' := dput_len es k v
 have some_of : (bval bxs (bkOf k)).isSome = (dget es k).isSome := (y k hk).isSome
 refine T.put (tk := t) (nth_lt hi) (.inl rfl) g (.inr rfl) hs ⟨_, g'⟩ ⟨es', ep', xs', g', ⟨a1, fun x hx => BK.go (fun b o e c => k2 b o e (.inl c)) (a2 x hx), a3, ?_⟩, by omega, q, fun k' hk' => ?_⟩
 · rw [a5, some_of]
   induction e : dget es k using Option.casesOn with
   | none => rw [L.1 e]; simp; exact r4
   | some v => rw [L.2 (by rw [e]; simp)]; simp; exact r4
 · rw [a4]
   by_cases q : k' = k
   · subst q
     rw [(dget_dput_key es (v := v) hk hk').1 rfl, if_pos rfl]
     exact .yes (hu.go k2 (.refl _ _) (Nat.le_refl _))
   · rw [(dget_dput_key es (v := v) hk hk').2 q, if_neg (fun e => q (bkOf_inj hk' hk e))]
     exact (y k' hk').go k2 (.refl _ _) (Nat.le_refl _)
theorem Snd.asgI (B : BaseOk w base K) (S : Snd w base K n) {e i : E} {p : Pos} {v : AV} {u : Value} {r : R Fr} (hr : Mine.asg tb (n + 1) d fr H (.sub e i p) v = r) (hb : r ≠ .bad) (hw : wfT z (.sub e i p) = true) (T : Sit w base A d l z env fr M H s) (hv : VR s.heap M H.length v u) :
 wpAny (model PW w) A (assign (Tg.py nm (.sub e i p)) env u) (fun _ s' => AsgQ w base z env l M H s r s') (fun _ _ => False) s := by
 dsimp only [Mine.asg] at hr
 split at hr
 · rename_i x H₁ e1
   split at hr
   · rename_i y H₂ e2
     split at hr
     · rename_i H₃ e3
       refine wpAny_bind (wpAny_holding (S.evN e1 (and1 hw) T fun M₁ ov s₁ g₁ hx => ?_))
       refine wpAny_bind (wpAny_holding (S.evN e2 (and2 hw) (T.go g₁) fun M₂ iv s₂ g₂ hy => ?_))
       have T₂ := (T.go g₁).go g₂
       replace hx := g₂.vr hx
       have hv₂ := g₂.vr (g₁.vr hv)
       refine wpAny_bind (wpAny_standAt (wpAny_bind (wpAny_holding (Q := fun _ s' => wpAny (model PW w) A (release (match i.py nm with | .Slice _ _ none _ => [iv, u, ov] | _ => [u, ov, iv]) []) (fun _ s' => AsgQ w base z env l M H s r s') (fun _ _ => False) s') ?_)))
       refine wpAny_mono (Q := fun _ s₃ => Go w base M₂ H₂ s₂ M₂ H₃ s₃) ?_ (fun _ s₃ g₃ => wpAny_release (AsgQ.of T hr.symm ((g₁.trans g₂).trans g₃))) fun _ _ h => h
       unfold setI at e3
       split at e3
       · rename_i o
         obtain ⟨hi, rfl⟩ := hx
         split at e3
         · rename_i xs k hn
           split at e3
           · rename_i hk
             injection e3 with e3; subst e3
             obtain ⟨t, rfl⟩ := hy
             exact setI_list T₂ hn (Nat.le_of_ble_eq_true hk) hv₂
           · contradiction
         · rename_i es x' hn
           split at e3
           · rename_i hk
             injection e3 with e3; subst e3
             obtain ⟨_, t, rfl⟩ := hy
             exact setI_dict T₂ hn (Nat.le_of_ble_eq_true hk) hv₂
           · contradiction
         · rename_i es hn
           split at e3
           · rename_i hk1 hk2
             injection e3 with e3; subst e3
             exact book_set B T₂ hn hk1 (Nat.le_of_ble_eq_true hk2) hy hv₂
           · contradiction
         · contradiction
       · contradiction
     · exact absurd hr.symm hb
   · exact absurd hr.symm hb
 · exact absurd hr.symm hb
theorem Snd.asg' (B : BaseOk w base K) (S : Snd w base K n) {t : Tg} {v : AV} {u : Value} {r : R Fr} (hr : Mine.asg tb (n + 1) d fr H t v = r) (hb : r ≠ .bad) (hw : wfT z t = true) (T : Sit w base A d l z env fr M H s) (hv : VR s.heap M H.length v u) :
 wpAny (model PW w) A (assign (t.py nm) env u) (fun _ s' => AsgQ w base z env l M H s r s') (fun _ _ => False) s := by
 induction t using Tg.casesOn with
 | name x p => exact Snd.asgN B hr hw T hv
 | att e a p => exact S.asgA B hr hb hw T hv
 | sub e i p => exact S.asgI B hr hb hw T hv
theorem Snd.auga (B : BaseOk w base K) (S : Snd w base K n) {o : E} {a : Nat} {pa : Pos} {op : BOp} {e : E} {p : Pos} {r : R (Fl × Fr)} (hr : Mine.ex tb (n + 1) d fr H (.auga o a pa op e p) = r) (hb : r ≠ .bad) (hw : (wfE z o && ((Nat.blt a 202 && !badAt a) && wfE z e)) = true) (ho : op = .add ∨ op = .mul)
 (T : Sit w base A d l z env fr M H s) :
 wpAny (model PW w) A (exec (Mine.S.py nm (.auga o a pa op e p)) env) (ExQ w base z env l M H s r) (ExcF w base z env l M H s r) s := by
 dsimp only [Mine.ex] at hr
 refine wpAny_AugAssign_AttributeAny (S.evF hr hb (and1 hw) T fun x H₁ M₁ ov s₁ hr₁ g₁ hx => ?_)
 induction q : attV x a H₁ using Option.casesOn with
 | none => rw [q] at hr₁; exact absurd hr₁.symm hb
 | some v =>
  rw [q] at hr₁
  skip
  refine wpAny_mono (get_at B (T.go g₁) (and1 (and2 hw)) hx q) (fun ov' s₂ q2 => ?_) fun _ _ h => h
  obtain ⟨av, H₂, M₂, e2, g₂, hv⟩ := q2
  cases e2
  have T₂ := (T.go g₁).go g₂
  have lift : ∀ x' s', ExcP w base M₂ H₁ s₂ r x' s' → ExcF w base z env l M H s r x' s' := fun x' s' h => (ExcP.from (g₁.trans g₂) h).f T
  refine wpAny_mono (S.evB hr₁ hb (and2 (and2 hw)) T₂ T₂.refl fun u H₃ M₃ uv s₃ hr₃ g₃ hu => ?_) (fun _ _ h => h) fun x' s' h => lift x' s' h
  replace hv := g₃.vr hv
  replace hx := g₃.vr (g₂.vr hx)
  induction v using AV.casesOn with
  | int i =>
   obtain ⟨t, rfl⟩ := hv
   skip
   induction q2 : bop op (.int i) u H₃ using R.casesOn with
   | ok c H₄ =>
    simp only [q2] at hr₃
    induction u using AV.casesOn with
    | int j =>
     obtain ⟨t', rfl⟩ := hu
     refine wpAny_mono (iop_int (T₂.go g₃) ho q2 (by simp)) (fun c' s₄ q3 => ?_) fun _ _ h => h
     obtain ⟨a', H₅, M₅, e3, g₅, hv₃⟩ := q3
     cases e3
     split at hr₃
     · rename_i H₆ e6
       refine wpAny_mono (set_at B ((T₂.go g₃).go g₅) (and1 (and2 hw)) (g₅.vr hx) hv₃ e6) (fun _ s₆ g₆ => ?_) fun _ _ h => h
       exact ⟨.next, fr, H₆, M₅, hr₃.symm, ((((g₁.trans g₂).trans g₃).trans g₅).trans g₆).f, T.fr.go ((((g₁.trans g₂).trans g₃).trans g₅).trans g₆), T.frs.step ((((g₁.trans g₂).trans g₃).trans g₅).trans g₆).step, rfl⟩
     · exact absurd hr₃.symm hb
    | _ => rcases ho with rfl | rfl <;> contradiction
   | exc c H₂ => simp only [q2] at hr₃; exact absurd hr₃.symm hb
   | bad => simp only [q2] at hr₃; exact absurd hr₃.symm hb
  | _ => exact absurd hr₃.symm hb
theorem biEq_eq {a b : BI} (h : biEq a b = true) : a = b := by
 cases a <;> first | contradiction | (cases b <;> first | contradiction | rfl)
theorem isBi_eq {x : Nat} {k : BI} (h : isBi x k = true) : tb.glob x = some (.bi k) := by
 delta isBi at h
 generalize tb.glob x = o at h
 induction o using Option.casesOn with
 | none => contradiction
 | some v => induction v using AV.casesOn with
  | bi b => rw [biEq_eq h]
  | _ => contradiction
theorem isFn_eq {x a : Nat} (h : isFn x a = true) : tb.glob x = some (.fn a) := by
 delta isFn at h
 generalize tb.glob x = o at h
 induction o using Option.casesOn with
 | none => contradiction
 | some v => induction v using AV.casesOn with
  | fn b => rw [Nat.eq_of_beq_eq_true h]
  | _ => contradiction
theorem isBi_range {x : Nat} (h : isBi x .range = true) : tb.glob x = some (.bi .range) := isBi_eq h
theorem isBi_zip {x : Nat} (h : isBi x .zip = true) : tb.glob x = some (.bi .zip) := isBi_eq h
theorem gl_any (B : BaseOk w base K) (S : Snd w base K n) {x : Nat} {p : Pos} {v : AV} (hw : isFrom z x [.globalImplicit] = true) (hg : tb.glob x = some v) (T : Sit w base A d l z env fr M H s) {Q E : Value → Shared → Prop}
 (k : ∀ u s', Go w base M H s M H s' → VR s'.heap M H.length v u → Q u s') : wpAny (model PW w) A (eval (.Name (nm x) p) env) Q E s := by
 have e : Mine.ev tb (n + 1) d fr H (.gl x p) = .ok v H := by (dsimp only [Mine.ev]; simp only [hg])
 refine ob12 (ifK hw) fun kk hk hm => ?_
 obtain rfl : kk = .globalImplicit := by simpa using hm
 have ok := T.fr.ok
 obtain ⟨mg, mb, hgg, hbb, hv⟩ := B.glob
 obtain ⟨u, hv, hn⟩ := hv x v hg
 have ng : s.heap.Ns env.globals mg := ok.globals ▸ hgg.keeps T.stays
 have nb : s.heap.Ns env.builtins mb := ok.builtins ▸ hbb.keeps T.stays
 have q : Q u s := k u s T.refl ((hv M).go (fun b o e _ => T.stays b o e) (.refl _ _) (Nat.zero_le _))
 refine Name_function_global ok.kind (ok.is (ifL hw) hk (by decide)) ?_ (B.nodbg x (ifL hw))
 rcases hn with h | ⟨h, h2⟩
 · exact loadGlobal_global ng h q
 · exact loadGlobal_builtin ng h nb h2 q
theorem biE (B : BaseOk w base K) (S : Snd w base K n) {x : Nat} {p pi : Pos} {k : BI} {es : List E} {Q X : Value → Shared → Prop} (hw : isFrom z x [.globalImplicit] = true) (hg : tb.glob x = some (.bi k)) (hes : wfEs z es = true) (T : Sit w base A d l z env fr M H s)
 (h : ∀ s', Go w base M H s M H s' → wpAny (model PW w) A (spliced (backTo pi (starEach (E.pys nm es) env))) (fun us s₂ => wpAny (model PW w) A (call (biVal k) us) Q X s₂) X s') :
 wpAny (model PW w) A (eval (.Call (.Name (nm x) p) (E.pys nm es) [] pi) env) Q X s := by
 refine Call_ (gl_any B S hw hg T fun u s' g hu => ?_) (callNode (f := .gl x p) rfl)
 subst hu
 refine callWith_of (P := KeepP (model PW w) (biVal k)) (by rw [plainArgs hes]; rfl) (fun h hp => hp) (evalArgs_of hes (wpAny_mono (h s' g) (fun us s₂ h₂ => ?_) fun _ _ h => h))
 refine ⟨keeper_bi k, ?_⟩
 rw [List.nil_append]
 exact h₂
theorem mapRange (k : Nat) : ((List.range k).map fun i => AV.int (.ofNat i)) = (List.range k).map fun i => AV.int (0 + Int.ofNat i) := by
 refine List.map_congr_left fun i _ => ?_
 rw [Int.zero_add]
theorem iter_range {r : Addr} {k : Nat} {t u v : Tok} (hk : k < 10) (T : Sit w base A d l z env fr M H s) (hr : IsRange s.heap r 0 (Int.ofNat k) 1 t u v) {Q E : Value → Shared → Prop}
 (q : ∀ it s', Go w base M H s M H s' → s.heap.get? it = none → IterAt s'.heap M H.length it .fix ((List.range k).map fun i => AV.int (.ofNat i)) → (∀ b o, s.heap.get? b = some o → s'.heap.get? b = some o) → Q (.ref it) s') :
 wpAny (model PW w) A (pyIter (.ref r)) Q E s := by
 have kz : Builtin.Range.rangeSize 0 (Int.ofNat k) 1 = Int.ofNat k := by
  rw [rangeSize_one]
  split
  · rw [Int.sub_zero]
  · rename_i h; have : (0 : Int) ≤ Int.ofNat k := Int.natCast_nonneg k; omega
 refine wpAny_pyIter_range hr (small_one (by decide) (by decide) (by have : (0 : Int) ≤ Int.ofNat k := Int.natCast_nonneg k; exact Int.natCast_nonneg _) (by show (k : Int) < _; omega)) ?_
 rw [kz]
 have kk : ∀ b o, s.heap.get? b = some o → (s.heap.push { cls := .type "range_iterator", data := .fields #[rawInt 0, rawInt (Int.ofNat k), rawInt 1] }).get? b = some o := fun _ _ e => Heap.get?_push_of_some _ e
 refine q s.heap.objs.size _ (T.grow (s' := { s with heap := s.heap.push { cls := .type "range_iterator", data := .fields #[rawInt 0, rawInt (Int.ofNat k), rawInt 1] } }) kk ⟨rfl, rfl, rfl⟩) (Heap.get?_none_of_le (Nat.le_refl _)) (.inr ⟨0, k, Heap.get?_push_size _ rfl, mapRange k⟩) kk
theorem Snd.rangeB {α : Type} (B : BaseOk w base K) (S : Snd w base K n) {rg : Nat} {pr pi : Pos} {hi : E} {f : AV → AH → R α} {r : R α} (hr : (Mine.ev tb n d fr H hi).bind f = r) (hb : r ≠ .bad) (hw : isFrom z rg [.globalImplicit] = true ∧ isBi rg .range = true) (hwe : wfE z hi = true) (T : Sit w base A d l z env fr M H s)
 {M₀ : Mp} {H₀ : AH} {s₀ : Shared} (g : Go w base M₀ H₀ s₀ M H s) {Q : Value → Shared → Prop}
 (int : ∀ v H₁, f v H₁ = r → ∃ k, v = .int (.ofNat k) ∧ k < 10)
 (q : ∀ k H₁ M₁ u s₁, f (.int (.ofNat k)) H₁ = r → k < 10 → Go w base M H s M₁ H₁ s₁ → (∃ ra t u' v', u = .ref ra ∧ IsRange s₁.heap ra 0 (Int.ofNat k) 1 t u' v') → Q u s₁) :
 wpAny (model PW w) A (eval (.Call (.Name (nm rg) pr) [hi.py nm] [] pi) env) Q (ExcP w base M₀ H₀ s₀ r) s := by
 refine biE (es := [hi]) B S hw.1 (isBi_range hw.2) (by simp [wfEs, hwe]) T fun s' g' => ?_
 rw [E.pys, E.pys]
 refine spliced_more (S.evB hr hb hwe (T.go g') (g.trans g') fun v H₁ M₁ u s₁ hr₁ g₁ hu => ?_) (star (wnr hwe))
 refine ob12 (int v H₁ hr₁) fun k q1_ hk => ?_; subst q1_
 obtain ⟨t, rfl⟩ := hu
 refine spliced_none ?_
 refine call_range_1 ?_
 have kk : ∀ b o, s₁.heap.get? b = some o → (s₁.heap.push { cls := .type "range", data := .fields #[.int 0 s₁.toks, .int (Int.ofNat k) t, .int 1 (s₁.toks + 1)] }).get? b = some o := fun _ _ e => Heap.get?_push_of_some _ e
 exact q k H₁ M₁ _ _ hr₁ hk ((g'.trans g₁).trans (((T.go g').go g₁).grow (s' := { s₁ with heap := s₁.heap.push { cls := .type "range", data := .fields #[.int 0 s₁.toks, .int (Int.ofNat k) t, .int 1 (s₁.toks + 1)] }, toks := s₁.toks + 1 + 1 }) kk ⟨rfl, rfl, rfl⟩)) ⟨_, _, _, _, rfl, IsRange.new ..⟩
theorem Snd.forRS (B : BaseOk w base K) (S : Snd w base K n) {t : Tg} {rg : Nat} {pr : Pos} {hi : E} {pi : Pos} {b : List Mine.S} {p : Pos} {r : R (Fl × Fr)} (hr : Mine.ex tb (n + 1) d fr H (.forR t rg pr hi pi b p) = r) (hb : r ≠ .bad) (hw : wfS z (.forR t rg pr hi pi b p) = true) (T : Sit w base A d l z env fr M H s) :
 wpAny (model PW w) A (exec (Mine.S.py nm (.forR t rg pr hi pi b p)) env) (ExQ w base z env l M H s r) (ExcF w base z env l M H s r) s := by
 dsimp only [Mine.ex] at hr
 have hq : (isFrom z rg [.globalImplicit] && isBi rg .range) = true ∧ wfT z t = true ∧ wfE z hi = true ∧ wfSs z b = true := ⟨and1 hw, and1 (and2 hw), and1 (and2 (and2 hw)), and2 (and2 (and2 hw))⟩
 refine wpAny_For (wpAny_mono (S.rangeB (M₀ := M) (H₀ := H) (s₀ := s) B hr hb ⟨and1 hq.1, and2 hq.1⟩ hq.2.2.1 T T.refl (fun v H₁ e => ?_) fun k H₁ M₁ u s₁ hr₁ hk g₁ hu => ?_) (fun _ _ h => h) fun _ _ h => h.f T) (fun x => rfl)
 · induction d using Nat.casesAuxOn with
   | zero => exact absurd e.symm hb
   | succ d =>
    induction v using AV.casesOn with
    | int i =>
     induction i using Int.casesOn with
     | ofNat k =>
      dsimp only at e
      induction q : Nat.blt k 10 using Bool.casesOn with
      | true => exact ⟨k, rfl, Nat.le_of_ble_eq_true q⟩
      | false => rw [q] at e; exact absurd e.symm hb
     | negSucc k => exact absurd e.symm hb
    | _ => exact absurd e.symm hb
 · induction d using Nat.casesAuxOn with
   | zero => exact absurd hr₁.symm hb
   | succ d =>
    refine ob42 hu fun ra t' u' v' q4_ hra => ?_; subst q4_
    have hk' : Nat.blt k 10 = true := Nat.ble_eq_true_of_le hk
    dsimp only at hr₁
    rw [hk'] at hr₁
    refine iter_range hk (T.go g₁) hra fun it s' g' hn hi' kk => ?_
    exact codeAny_mono (S.forL hr₁ hb hq.2.1 hq.2.2.2 (((T.go g₁).go g').less) (g₁.trans g').f (g₁.dead hn) ((T.go g₁).c.dead hn) hi') fun q s' h => by
     induction q using Except.casesOn with
     | ok f => exact h
     | error e => exact h.elim
theorem for_stepZ {R : Result → Shared → Prop} {target : Expr} {it : Value} {body : List Stmt}
 (h : wpAny (model PW w) A (pyNext it) (fun r s₁ => match r with
  | none => R (.ok .next) s₁
  | some v => wpAny (model PW w) A (letOwnedTupleGo target it v) (fun _ s₁' => wpAny (model PW w) A (assign target env v) (fun _ s₂ => wpAny (model PW w) A (execs body env) (fun f s₃ => match f with
   | .next => codeAny (model PW w) A (.forLoop target it body [] env) R s₃
   | .ret v => R (.ok (.ret v)) s₃
   | _ => False) (fun _ _ => False) s₂) (fun _ _ => False) s₁') (fun _ _ => False) s₁) (fun _ _ => False) s) : codeAny (model PW w) A (.forLoop target it body [] env) R s := by
 refine codeAny_of_tree ?_
 rw [show A.under (.forLoop target it body [] env) = A from Around.under_of_weight rfl]
 skip
 refine wpAny_onRaise ?_
 simp only [forTurn]
 refine wpAny_bind (wpAny_standAt (wpAny_bind (wpAny_onRaise (wpAny_mono h (fun r s₁ h₁ => ?_) fun _ _ h' => h'.elim))))
 induction r using Option.casesOn with
 | none => exact wpAny_pure ⟨rfl, codeAny_block (wpAny_execs_nil h₁)⟩
 | some v =>
  refine wpAny_bind (wpAny_mono h₁ (fun _ s₁' h₁ => ?_) fun _ _ h' => h'.elim)
  refine wpAny_bind (wpAny_mono h₁ (fun _ s₂ h₂ => wpAny_bind (wpAny_mono h₂ (fun f s₃ h₃ => ?_) fun _ _ h' => h'.elim)) fun _ _ h' => h'.elim)
  cases f with
  | next => exact wpAny_pure ⟨rfl, h₃⟩
  | cont => exact h₃.elim
  | brk => exact h₃.elim
  | ret v => exact wpAny_pure h₃
theorem zip_apart {n l1 l2 : Nat} (h1 : l1 < n) (h2 : l2 < n) : ZipApart (n + 4) (n + 2) (n + 3) n (n + 1) l1 l2 := by
 constructor <;> (show @Ne Nat _ _) <;> omega
theorem zip_end1 {zz TI TO i1 i2 l1 : Addr} {k1 : Nat} {xs : Array Value} {Q : Option Value → Shared → Prop} {E : Value → Shared → Prop} (hh : A.handled = none) (i1z : i1 ≠ zz) (l1z : l1 ≠ zz)
 (hz : IsZip s.heap zz TI TO .none) (hTI : IsPair s.heap TI (.ref i1) (.ref i2))
 (h1 : s.heap.IsListIter i1 l1 k1) (hl1 : s.heap.IsList l1 xs) (hx : xs[k1]? = none)
 (hQ : ∀ h', (∀ c o, ¬ (c = zz ∨ c = i1) → s.heap.get? c = some o → h'.get? c = some o) → Q none { s with heap := h' }) : wpAny (model PW w) A (pyNext (.ref zz)) Q E s := by
 have hT : s.TypeIs (.ref zz) "zip" := ⟨_, hz, rfl⟩
 unfold pyNext
 refine wpAny_bind (wpAny_attempt (wpAny_callSpecial?_slot (name := Str.ofString "__next__") hT F.slot_zip_next (wpAny_call_entry F.slot_zip_next hT F.entry_zip_next ?_ (F.args_zip_next_1 _))))
 show wpAny _ _ (field (.ref zz) 2 >>= _) _ _ _
 refine wpAny_bind (wpAny_field hz rfl (x := .bool false) rfl ?_)
 skip
 refine wpAny_bind (wpAny_field hz rfl (x := .ref TI) rfl ?_)
 refine wpAny_bind (wpAny_seqItems hTI rfl ?_)
 skip
 refine wpAny_bind ?_
 unfold Builtin.SmallTypes.ownedTupleIsFree
 refine wpAny_bind (wpAny_field hz rfl (x := .none) rfl (wpAny_pure ?_))
 simp only [if_true]
 refine wpAny_bind (wpAny_rule ?_)
 refine wpAny_bind (wpAny_field hz rfl (x := .ref TO) rfl ?_)
 refine wpAny_bind (wpAny_setField_rec hz (by simp) fun h₁ hz₁ hs₁ => ?_)
 replace hz₁ : IsZip h₁ zz TI TO .ellipsis := hz₁
 refine wpAny_bind ?_
 simp only [List.zipIdx_cons, List.zipIdx_nil, List.forIn_cons, List.forIn_nil]
 refine wpAny_bind (wpAny_bind (wpAny_onRaise ?_))
 skip
 refine wpAny_bind (wpAny_nextOf_list_end hh (h1.extBut hs₁.extBut i1z) (hl1.extBut hs₁.extBut l1z) hx fun h₂ e hs₂ he => ?_)
 refine ob12 he fun oe hoe hce => ?_
 have hz₂ : IsZip h₂ zz TI TO .ellipsis := hs₂ _ _ i1z.symm hz₁
 have hez : e ≠ zz := fun x => by subst x; rw [hz₂] at hoe; injection hoe with hoe; subst hoe; simp at hce
 refine wpAny_setField_rec hz₂ (by simp) fun h₃ _ hs₃ => ?_
 refine wpAny_bind (wpAny_isInstance (T := "StopIteration") (b := true) ⟨oe, hs₃.extBut _ _ hez hoe, hce⟩ isSubtype_stop ?_)
 exact wpAny_pure (hQ _ fun c o nc x => hs₃.extBut _ _ (fun q => nc (.inl q)) (hs₂ _ _ (fun q => nc (.inr q)) (hs₁.extBut _ _ (fun q => nc (.inl q)) x)))
theorem VRs.one {h : Heap} {n : Nat} {v : AV} {vs : List Value} (x : VRs h M n [v] vs) : ∃ u, vs = [u] ∧ VR h M n v u := by
 obtain ⟨u, t, e, hu, ht⟩ := x
 subst ht
 exact ⟨u, e, hu⟩
theorem Snd.forZS (B : BaseOk w base K) (S : Snd w base K n) {x : Nat} {px : Pos} {y : Nat} {py : Pos} {k : Nat} {pt : Pos} {zz : Nat} {pz : Pos} {a c : E} {pi : Pos} {b : List Mine.S} {p : Pos} {r : R (Fl × Fr)} (hr : Mine.ex tb (n + 1) d fr H (.forZ x px y py k pt zz pz a c pi b p) = r) (hb : r ≠ .bad)
 (hw : wfS z (.forZ x px y py k pt zz pz a c pi b p) = true) (T : Sit w base A d l z env fr M H s) :
 wpAny (model PW w) A (exec (Mine.S.py nm (.forZ x px y py k pt zz pz a c pi b p)) env) (ExQ w base z env l M H s r) (ExcF w base z env l M H s r) s := by
 dsimp only [Mine.ex] at hr
 have hw' : (((isFrom z zz [.globalImplicit] && isBi zz .zip) && isFrom z x [.local, .cell]) && (isFrom z y [.local, .cell] && (wfE z a && (wfE z c && wfSs z b)))) = true := hw
 have w5 := and1 (and2 (and2 hw'))
 have w6 := and1 (and2 (and2 (and2 hw')))
 refine wpAny_For ?_ (fun x => rfl)
 refine biE (es := [a, c]) B S (and1 (and1 (and1 hw'))) (isBi_zip (and2 (and1 (and1 hw')))) (by simp [wfEs, w5, w6]) T fun s' g' => ?_
 rw [E.pys, E.pys, E.pys]
 have lift : ∀ {M₁ : Mp} {H₁ : AH} {s₁ : Shared} x' s', Go w base M H s M₁ H₁ s₁ → ExcP w base M₁ H₁ s₁ r x' s' → ExcF w base z env l M H s r x' s' := fun x' s' g h => (ExcP.from g h).f T
 refine spliced_more (wpAny_mono (S.evB (Q := fun u s₁ => ∃ av H₁ M₁, _ = r ∧ Go w base M H s M₁ H₁ s₁ ∧ VR s₁.heap M₁ H₁.length av u) hr hb w5 (T.go g') (T.go g').refl fun av H₁ M₁ u s₁ hr₁ g₁ hu => ⟨av, H₁, M₁, hr₁, g'.trans g₁, hu⟩) (fun u s₁ q => ?_) fun x' s' h => lift x' s' g' h) (star (wnr w5))
 obtain ⟨av, H₁, M₁, hr₁, g₁, hu⟩ := q
 refine spliced_more (wpAny_mono (S.evB (Q := fun v s₂ => ∃ bv H₂ M₂, _ = r ∧ Go w base M₁ H₁ s₁ M₂ H₂ s₂ ∧ VR s₂.heap M₂ H₂.length bv v) hr₁ hb w6 (T.go g₁) (T.go g₁).refl fun bv H₂ M₂ v s₂ hr₂ g₂ hv => ⟨bv, H₂, M₂, hr₂, g₂, hv⟩) (fun v s₂ q => ?_) fun x' s' h => lift x' s' g₁ h) (star (wnr w6))
 obtain ⟨bv, H₂, M₂, hr₂, g₂, hv⟩ := q
 replace hu := g₂.vr hu
 have T₂ := T.go (g₁.trans g₂)
 refine spliced_none ?_
 induction d using Nat.casesAuxOn with
 | zero => exact absurd hr₂.symm hb
 | succ d =>
 induction av using AV.casesOn with
 | obj i =>
  induction bv using AV.casesOn with
  | obj j =>
   dsimp only at hr₂
   split at hr₂
   · rename_i p q h1 h2
     obtain ⟨hi, rfl⟩ := hu
     obtain ⟨hj, rfl⟩ := hv
     obtain ⟨xs, e1, gx, vx, _⟩ := T₂.rel.obj _ _ h1
     obtain ⟨ys, e2, gy, vy, _⟩ := T₂.rel.obj _ _ h2
     obtain ⟨up, ex, hp⟩ := vx.one
     obtain ⟨uq, ey, hq⟩ := vy.one
     obtain rfl : xs = #[up] := by rw [← Array.toArray_toList (xs := xs), ex]
     obtain rfl : ys = #[uq] := by rw [← Array.toArray_toList (xs := ys), ey]
     have lx : s₂.heap.IsList (M₂.a i) #[up] := ⟨_, gx, rfl, e1, rfl⟩
     have ly : s₂.heap.IsList (M₂.a j) #[uq] := ⟨_, gy, rfl, e2, rfl⟩
     have D := zip_apart (Heap.lt_size gx) (Heap.lt_size gy)
     refine call_zip_2 lx ly fun h' hz hTI hTO i1 i2 hsz kk => ?_
     refine wpAny_pyIter_zip hz ?_
     refine for_stepZ (wpAny_pyNext_zip_item (s := { s₂ with heap := h' }) D hz hTI hTO i1 i2 ⟨_, kk _ _ gx, rfl, e1, rfl⟩ ⟨_, kk _ _ gy, rfl, e2, rfl⟩ (x := up) (y := uq) rfl rfl fun h₃ z3 t3 i13 i23 p3 sz3 k3 => ?_)
     refine wpAny_letOwnedTupleGo_zip z3 fun h₄ z4 s4 => ?_
     have old : ∀ b o, s₂.heap.get? b = some o → h₄.get? b = some o := fun b o e => by
      have lt := Heap.lt_size e
      have n4 : b ≠ s₂.heap.objs.size + 4 := Nat.ne_of_lt (Nat.lt_of_lt_of_le lt (Nat.le_add_right _ _))
      exact (s4.2 b n4).trans (k3 b o n4 (Nat.ne_of_lt (Nat.lt_of_lt_of_le lt (Nat.le_add_right _ _))) (Nat.ne_of_lt lt) (Nat.ne_of_lt (Nat.lt_of_lt_of_le lt (Nat.le_add_right _ _))) (kk b o e))
     have g₄ := T₂.grow (s' := { s₂ with heap := h₄ }) old ⟨rfl, rfl, rfl⟩
     have T₄ := T₂.go g₄
     have hT : h₄.IsTuple h'.objs.size #[up, uq] := ⟨_, (s4.2 _ (by rw [hsz]; exact Nat.ne_of_gt (Nat.lt_succ_self _))).trans p3, rfl, 0, rfl⟩
     refine wpAny_assign_Tuple T.aok.handled hT rfl rfl fun h₅ hx5 => ?_
     have g₅ := T₄.grow (s' := { s₂ with heap := h₅ }) (ExtBut.keeps (h := h₄) hx5) ⟨rfl, rfl, rfl⟩
     have T₅ := T₄.go g₅
     have z4' : IsZip h₄ (s₂.heap.objs.size + 4) (s₂.heap.objs.size + 2) (s₂.heap.objs.size + 3) .none := z4
     have TI4 : IsPair h₄ (s₂.heap.objs.size + 2) (.ref s₂.heap.objs.size) (.ref (s₂.heap.objs.size + 1)) := (s4.2 _ D.TIz).trans (k3 _ _ D.TIz D.TITO D.TIi1 D.TIi2 hTI)
     have I4 : h₄.IsListIter s₂.heap.objs.size (M₂.a i) 1 := i13.extBut s4.extBut D.i1z
     have wX : ∀ b, b = s₂.heap.objs.size + 4 ∨ b = s₂.heap.objs.size → s₂.heap.get? b = none := fun b q => Heap.get?_none_of_le (by rcases q with rfl | rfl; exact Nat.le_add_right _ _; exact Nat.le_refl _)
     skip
     refine wpAny_bind (wpAny_holding (wpAny_assign_Name (wpAny_mono (stN (l := l) B T₅ (and2 (and1 hw')) (g₅.vr (g₄.vr hp))) (fun _ s₆ ⟨g6, F6, O6⟩ => ?_) fun _ _ h => h)))
     refine wpAny_bind (wpAny_holding (wpAny_assign_Name (wpAny_mono (stN (l := l) B (T₅.f g6 F6 O6) (and1 (and2 hw')) (g6.vr T₅.fr (g₅.vr (g₄.vr hq)))) (fun _ s₇ ⟨g7, F7, O7⟩ => ?_) fun _ _ h => h)))
     refine wpAny_pure ?_
     have hb2 : Mine.exs tb n d (upd (upd fr x p) y q) H₂ b ≠ .bad := by intro q; rw [q] at hr₂; exact hb hr₂.symm
     refine wpAny_mono (S.exs rfl hb2 (and2 (and2 (and2 (and2 hw')))) ((T₅.f g6 F6 O6).f g7 F7 O7).less) (fun f s₈ q => ?_) fun x s₈ q => ?_
     · obtain ⟨fl, fr₈, H₈, M₈, e8, g₈, F₈, O₈, hf⟩ := q
       rw [e8] at hr₂
       have T₈ := ((T₅.f g6 F6 O6).f g7 F7 O7).f g₈ F₈ O₈
       have G : GoF w base z env M₂ H₂ { s₂ with heap := h₄ } M₈ H₈ s₈ := ((g₅.f.trans g6).trans g7).trans g₈
       have G₀ : GoF w base z env M H s M₈ H₈ s₈ := ((g₁.trans g₂).trans g₄).f.trans G
       induction fl using Fl.casesOn with
       | next =>
        obtain rfl : f = .next := hf
        dsimp only at hr₂
        split at hr₂
        · rename_i p' q' n1 n2
          have kI : ∀ b o, h₄.get? b = some o → inert o → o.cls ≠ .type "cell" → s₈.heap.get? b = some o := fun b o hb hi hc => G.step.inert b o hb hi (notOwn T₄.fr hb (by rcases hi with h | h | h | h | h | h | h <;> rw [h] <;> trivial) hc (by rcases hi with h | h | h | h | h | h | h <;> rw [h] <;> trivial))
          obtain ⟨zs, e9, g9, v9, _⟩ := T₈.rel.obj _ _ n1
          obtain ⟨u9, ez, _⟩ := v9.one
          obtain rfl : zs = #[u9] := by rw [← Array.toArray_toList (xs := zs), ez]
          have ai : M₈.a i = M₂.a i := (G.ext i hi).1
          rw [ai] at g9
          have z8 := kI _ _ z4' (.inr (.inr (.inr (.inr (.inr (.inr rfl)))))) (by simp)
          have I8 : s₈.heap.IsListIter s₂.heap.objs.size (M₂.a i) 1 := let ⟨o, a1, a2, a3⟩ := I4; ⟨o, kI _ _ a1 (.inr (.inr (.inr (.inl a2)))) (by rw [a2]; trivial), a2, a3⟩
          refine for_stepZ (zip_end1 T₈.aok.handled D.i1z D.l1z z8 (kI _ _ TI4 (.inl rfl) (by simp)) I8 ⟨_, g9, rfl, e9, rfl⟩ rfl fun h' k' => ?_)
          have x8 : Its (fun b => b = s₂.heap.objs.size + 4 ∨ b = s₂.heap.objs.size) s₈.heap h' := ⟨fun b o q hb => by
           rcases q with rfl | rfl
           · rw [z8] at hb; injection hb with hb; subst hb; exact .inr (.inr (.inr rfl))
           · obtain ⟨o', a1, a2, _⟩ := I8; rw [a1] at hb; injection hb with hb; subst hb; exact .inl a2, fun b o nq hb => k' b o nq hb⟩
          have base0 : ∀ b, b = s₂.heap.objs.size + 4 ∨ b = s₂.heap.objs.size → base.get? b = none := fun b q => T₂.c.dead (wX b q)
          exact ⟨.next, fr₈, H₈, M₈, hr₂.symm, G₀.turn (tk := s₈.toks) x8 base0 (fun b q => (g₁.trans g₂).dead (wX b q)), (T₈.ext (tk := s₈.toks) x8 base0).fr, (T₈.ext (tk := s₈.toks) x8 base0).frs, rfl⟩
        · exact absurd hr₂.symm hb
       | ret v =>
        obtain ⟨u, rfl, hu⟩ := hf
        exact ⟨.ret v, fr₈, H₈, M₈, hr₂.symm, G₀, F₈, O₈, u, rfl, hu⟩
     · obtain ⟨c, H', M', e8, _⟩ := q
       rw [e8] at hr₂
       exact absurd hr₂.symm hb
   · exact absurd hr₂.symm hb
  | _ => exact absurd hr₂.symm hb
 | _ => exact absurd hr₂.symm hb
noncomputable def clF (env : Env) : List (Str × NameKind) → List (Str × Addr) → List (Str × Addr)
 | [], acc => acc
 | (n, k) :: r, acc => clF env r (if k == .free then (n, (env.cells.lookup n).getD 0) :: acc else acc)
theorem closes_loop (f : Str × NameKind → List (Str × Addr) → Sem (ForInStep (List (Str × Addr)))) (hf : ∀ n k cs, f (n, k) cs = if k == .free then (do let a ← cellOf env n; pure (.yield ((n, a) :: cs))) else pure (.yield cs)) :
 ∀ (names : List (Str × NameKind)) (acc : List (Str × Addr)), (∀ n, (n, NameKind.free) ∈ names → (env.cells.lookup n).isSome = true) → forIn names acc f = pure (clF env names acc) := by
 intro L
 induction L with
 | nil =>
  intro acc _
  exact rfl
 | cons A r ih =>
  obtain ⟨n, k⟩ := A
  intro acc h
  rw [List.forIn_cons, hf]
  dsimp only [clF]
  by_cases q : k = .free
  · subst q
    obtain ⟨c, hc⟩ := Option.isSome_iff_exists.mp (h n List.mem_cons_self)
    have e : cellOf env n = pure c := by unfold cellOf; rw [hc]
    simp only [beq_self_eq_true, if_true, e, pure_bind, hc, Option.getD_some]
    exact ih _ fun n' hn => h n' (List.mem_cons_of_mem _ hn)
  · have e : (k == NameKind.free) = false := by simpa using q
    simp only [e, Bool.false_eq_true, if_false, pure_bind]
    exact ih _ fun n' hn => h n' (List.mem_cons_of_mem _ hn)
theorem closureFor_eq {scope : Scope} (h : ∀ n, (n, NameKind.free) ∈ scope.names → (env.cells.lookup n).isSome = true) : closureFor scope env = pure (clF env scope.names []) := by
 unfold closureFor
 dsimp only
 rw [closes_loop (env := env) _ (fun n k cs => ?_) scope.names [] h]
 · rfl
 · rfl
theorem closes_mem : ∀ (names : List (Str × NameKind)) (acc : List (Str × Addr)), (∀ n, (n, NameKind.free) ∈ names → (env.cells.lookup n).isSome = true) → (∀ n c, (n, c) ∈ acc → env.cells.lookup n = some c) →
 ∀ n c, (n, c) ∈ clF env names acc → env.cells.lookup n = some c := by
 intro L
 induction L with
 | nil =>
  intro acc _ ha n c m
  exact ha n c m
 | cons A r ih =>
  obtain ⟨n', k⟩ := A
  intro acc h ha n c m
  refine ih _ (fun n hn => h n (List.mem_cons_of_mem _ hn)) (fun n c hm => ?_) n c m
  by_cases q : k = .free
  · subst q
    simp only [beq_self_eq_true, if_true] at hm
    rcases List.mem_cons.mp hm with e | hm
    · cases e
      obtain ⟨c, hc⟩ := Option.isSome_iff_exists.mp (h n' List.mem_cons_self)
      rw [hc]; rfl
    · exact ha n c hm
  · have e : (k == NameKind.free) = false := by simpa using q
    simp only [e, Bool.false_eq_true, if_false] at hm
    exact ha n c hm
theorem closes_has : ∀ (names : List (Str × NameKind)) (acc : List (Str × Addr)) (n : Str), (n, NameKind.free) ∈ names ∨ (∃ c, (n, c) ∈ acc) → ∃ c, (n, c) ∈ clF env names acc := by
 intro L
 induction L with
 | nil =>
  intro acc n h
  rcases h with h | h; contradiction; exact h
 | cons A r ih =>
  obtain ⟨n', k⟩ := A
  intro acc n h
  refine ih _ n ?_
  by_cases q : k = .free
  · subst q
    simp only [beq_self_eq_true, if_true]
    rcases h with h | ⟨c, h⟩
    · rcases List.mem_cons.mp h with e | h
      · injection e with e; subst e; exact .inr ⟨_, List.mem_cons_self⟩
      · exact .inl h
    · exact .inr ⟨c, List.mem_cons_of_mem _ h⟩
  · have e : (k == NameKind.free) = false := by simpa using q
    simp only [e, Bool.false_eq_true, if_false]
    rcases h with h | h
    · rcases List.mem_cons.mp h with e' | h
      · cases e'; exact absurd rfl q
      · exact .inl h
    · exact .inr h
theorem closes_names : ∀ (names : List (Str × NameKind)) (acc : List (Str × Addr)) (n : Str) (c : Addr), (n, c) ∈ clF env names acc → (n, NameKind.free) ∈ names ∨ (n, c) ∈ acc := by
 intro L
 induction L with
 | nil =>
  intro acc n c m
  exact .inr m
 | cons A r ih =>
  obtain ⟨n', k⟩ := A
  intro acc n c m
  rcases ih _ n c m with h | h
  · exact .inl (List.mem_cons_of_mem _ h)
  · by_cases q : k = .free
    · subst q
      simp only [beq_self_eq_true, if_true] at h
      rcases List.mem_cons.mp h with e | h
      · injection e with e; subst e; exact .inl List.mem_cons_self
      · exact .inr h
    · have e : (k == NameKind.free) = false := by simpa using q
      simp only [e, Bool.false_eq_true, if_false] at h
      exact .inr h
theorem cfA : ∀ (names : List (Str × NameKind)) (k : Nat) (acc : List (Str × Addr)), cellsFrom k names acc = cellsFrom k names [] ++ acc := by
 intro L
 induction L with
 | nil =>
  intro _ _
  exact rfl
 | cons A r ih =>
  obtain ⟨n, kd⟩ := A
  intro k acc
  unfold cellsFrom
  split
  · rw [ih (k + 1) ((n, k) :: acc), ih (k + 1) [(n, k)], List.append_assoc]; rfl
  · exact ih k acc
theorem cellsFrom_names : ∀ (names : List (Str × NameKind)) (k : Nat) (n : Str) (c : Addr), (n, c) ∈ cellsFrom k names [] → (n, NameKind.cell) ∈ names := by
 intro L
 induction L with
 | nil => intros; contradiction
 | cons A r ih =>
  obtain ⟨n', kd⟩ := A
  intro k n c m
  unfold cellsFrom at m
  split at m
  · rename_i hk
    rw [cfA] at m
    rcases List.mem_append.mp m with m | m
    · exact List.mem_cons_of_mem _ (ih _ n c m)
    · cases List.mem_singleton.mp m
      have : kd = .cell := by simpa using hk
      subst this; exact List.mem_cons_self
  · exact List.mem_cons_of_mem _ (ih _ n c m)
theorem lookup_append {α : Type} : ∀ {l r : List (Str × α)} {n : Str}, (l ++ r).lookup n = match l.lookup n with | some c => some c | none => r.lookup n := by
 intro L
 induction L with
 | nil =>
  intro _ _
  exact rfl
 | cons A l ih =>
  obtain ⟨k, v⟩ := A
  intro r n
  rw [List.cons_append, List.lookup_cons, List.lookup_cons]
  cases n == k with
  | true => rfl
  | false => exact ih
theorem lookup_none_of {α : Type} : ∀ {l : List (Str × α)} {n : Str}, (∀ c, (n, c) ∉ l) → l.lookup n = none
 | [], _, _ => rfl
 | (k, v) :: l, n, h => by
  rw [List.lookup_cons]
  cases q : n == k with
  | true => exact absurd (by rw [beq_iff_eq.mp q]; exact List.mem_cons_self) (h v)
  | false => exact lookup_none_of fun c hc => h c (List.mem_cons_of_mem _ hc)
theorem distinct_kind : ∀ {sc : Nms} {x : Nat} {k k' : NameKind}, distinctN (sc.map (·.1)) = true → (x, k) ∈ sc → (x, k') ∈ sc → k = k' := by
 intro sc
 induction sc with
 | nil => intro x k k' _ h; contradiction
 | cons a r ih =>
  obtain ⟨y, k₀⟩ := a
  intro x k k' hd h1 h2
  have hy : ∀ k, (y, k) ∉ r := fun k hk => by
   have := and1 (show ((!hasN (r.map (·.1)) y) && distinctN (r.map (·.1))) = true from hd)
   rw [hasN_iff] at this
   simp at this
   exact this k hk
  rcases List.mem_cons.mp h1 with e1 | h1
  · cases e1
    rcases List.mem_cons.mp h2 with e2 | h2
    · cases e2; rfl
    · exact absurd h2 (hy _)
  · rcases List.mem_cons.mp h2 with e2 | h2
    · cases e2; exact absurd h1 (hy _)
    · exact ih (and2 (show ((!hasN (r.map (·.1)) y) && distinctN (r.map (·.1))) = true from hd)) h1 h2
theorem dsL : ∀ {sc : Nms} {x : Nat} {k : NameKind}, distinctN (sc.map (·.1)) = true → (x, k) ∈ sc → lookA sc x = some k := fun {sc x k} hd h => by
 have : ∃ k', lookA sc x = some k' := by
  clear hd
  induction sc with
  | nil => contradiction
  | cons p r ih =>
   obtain ⟨y, k₀⟩ := p
   dsimp only [lookA]
   induction q : Nat.beq y x using Bool.casesOn with
   | true => exact ⟨_, rfl⟩
   | false =>
    rcases List.mem_cons.mp h with e | h
    · cases e; rw [Nat.beq_refl] at q; cases q
    · exact ih h
 obtain ⟨k', e⟩ := this
 rw [e, distinct_kind hd h (lAm e)]
theorem look_capt (sc : Nms) : ∀ {fr : Fr} {x : Nat} {v : AV}, look (capt sc fr) x = some v → lookA sc x = some .free ∧ look fr x = some v := by
 intro L
 induction L with
 | nil => intros; contradiction
 | cons A r ih =>
  obtain ⟨y, u⟩ := A
  intro x v h
  dsimp only [capt] at h
  induction q : Nat.beq y x using Bool.casesOn with
  | true =>
   obtain rfl := Nat.eq_of_beq_eq_true q
   split at h
   · rename_i hf
     simp only [look, q] at h ⊢
     exact ⟨hf, h⟩
   · rename_i hf
     have := ih h
     exact absurd this.1 hf
  | false =>
   have : look (capt sc r) x = some v := by
    split at h
    · (dsimp only [look] at h; simp only [q] at h); exact h
    · exact h
   obtain ⟨a, b⟩ := ih this
   exact ⟨a, by (dsimp only [look]; simp only [q]); exact b⟩
theorem bkM {sc : Nms} (h : blockOk z sc = true) : distinctN (sc.map (·.1)) = true ∧ ∀ y ∈ sc, y.1 < 202 ∧ (y.2 = .free → isFrom z y.1 [.cell, .free] = true) ∧ (y.2 = .globalImplicit → y.1 ≠ 195) := by
 refine ⟨and1 h, fun y hy => ?_⟩
 have := List.all_eq_true.mp (and2 h) y hy
 obtain ⟨x, k⟩ := y
 cases k with
 | «local» => exact ⟨Nat.le_of_ble_eq_true this, nofun, nofun⟩
 | cell => exact ⟨Nat.le_of_ble_eq_true this, nofun, nofun⟩
 | free => exact ⟨ifL this, fun _ => this, nofun⟩
 | globalImplicit => exact ⟨Nat.le_of_ble_eq_true (and1 this), nofun, fun _ e => by have := and2 this; rw [show x = 195 from e] at this; contradiction⟩
 | _ => contradiction
noncomputable def ownK (env : Env) (n : Str) (k : NameKind) : Bool := k == .free && env.scope.kind == .function && env.kindOf n == some .cell
noncomputable def cenvOf (env : Env) (scope : Scope) (cenv : Env) : Env := { cenv with scope := { scope with names := scope.names.map fun (n, k) => if ownK env n k then (n, .cell) else (n, k) } }
noncomputable def subK (env : Env) (sc : Nms) : Nms := sc.map fun y => (y.1, if ownK env (nm y.1) y.2 then NameKind.cell else y.2)
theorem subK_names (env : Env) (sc : Nms) : (scO nm sc).names.map (fun (n, k) => if ownK env n k then (n, NameKind.cell) else (n, k)) = (subK env sc).map fun y => (nm y.1, y.2) := by
 show (sc.map _).map _ = (sc.map _).map _
 rw [List.map_map, List.map_map]
 refine List.map_congr_left fun y _ => ?_
 show (if ownK env (nm y.1) y.2 = true then _ else _) = (nm y.1, _)
 split <;> simp [*]
theorem subK_look (env : Env) : ∀ (sc : Nms) (x : Nat), lookA (subK env sc) x = (lookA sc x).map fun k => if ownK env (nm x) k then NameKind.cell else k
 | [], _ => rfl
 | (y, k) :: r, x => by
  show (match Nat.beq y x with | true => _ | false => _) = Option.map _ (match Nat.beq y x with | true => _ | false => _)
  induction q : Nat.beq y x using Bool.casesOn with
  | true => obtain rfl := Nat.eq_of_beq_eq_true q; rfl
  | false => exact subK_look env r x
theorem comp_enter (B : BaseOk w base K) (T : Sit w base A d l z env fr M H s) {sc : Nms} (hsc : blockOk z sc = true) {Q : Env → Shared → Prop} {E : Value → Shared → Prop}
 (q : ∀ cenv s', Sit w base A d l sc (cenvOf env (scO nm sc) cenv) (capt sc fr) M H s' → Go w base M H s M H s' → (∀ b o, s.heap.get? b = some o → s'.heap.get? b = some o) → (∀ b, Own sc (cenvOf env (scO nm sc) cenv) b → s.heap.get? b = none) → s.heap.get? cenv.locals = none → Q cenv s') :
 wpAny (model PW w) A (newFunctionEnv (scO nm sc) env.globals (clF env (scO nm sc).names []) [] env.qual none .none (some env)) Q E s := by
 obtain ⟨hd, hm⟩ := bkM hsc
 simp only [newFunctionEnv, Option.isSome_some, if_true]
 refine wpAny_bind (wpAny_alloc ?_)
 refine wpAny_bind (wpAny_layCells _ (fun name kind cells => by cases kind <;> rfl) _ _ _ _ ?_)
 simp only [List.forIn_nil]
 have hsz : (s.heap.push { cls := .type "dict", data := .dict #[] }).objs.size = s.heap.objs.size + 1 := Heap.size_push ..
 rw [show ({ s with heap := s.heap.push { cls := .type "dict", data := .dict #[] } } : Shared).heap.objs.size = s.heap.objs.size + 1 from hsz]
 refine wpAny_bind (wpAny_pure (wpAny_pure ?_))
 have keep : ∀ b ob, s.heap.get? b = some ob → (pushCells (s.heap.push { cls := .type "dict", data := .dict #[] }) (scO nm sc).names).get? b = some ob := fun b ob e => pushCells_keeps _ _ b ob (Heap.get?_push_of_some _ e)
 have gL : (pushCells (s.heap.push { cls := .type "dict", data := .dict #[] }) (scO nm sc).names).get? s.heap.objs.size = some { cls := .type "dict", data := .dict #[] } := pushCells_keeps _ _ _ _ (Heap.get?_push_size _ rfl)
 have ca := cells_at (s.heap.objs.size + 1) (scO nm sc).names (s.heap.push { cls := .type "dict", data := .dict #[] }) [] (by rw [hsz]; exact Nat.le_refl _) (fun _ _ hm => (nomatch hm))
 rw [hsz] at ca
 have ap := (cellsFrom_ok (scO nm sc).names (s.heap.push { cls := .type "dict", data := .dict #[] }) (s.heap.objs.size + 1) [] ⟨fun _ _ hm => (nomatch hm), List.Pairwise.nil⟩ (by rw [hsz]; exact Nat.le_refl _)).apart
 rw [hsz] at ap
 have namesEq : (scO nm sc).names = sc.map fun y => (nm y.1, y.2) := rfl
 have ids : ∀ y ∈ sc, y.1 < 202 := fun y hy => (hm y hy).1
 have inNames : ∀ {x : Nat} {k : NameKind}, x < 202 → (nm x, k) ∈ (scO nm sc).names → lookA sc x = some k := fun {x k} hx h => by
  refine ob12 (List.mem_map.mp h) fun y hy e => ?_
  obtain ⟨y1, y2⟩ := y
  have e1 : nm y1 = nm x := congrArg Prod.fst e
  have e2 : y2 = k := congrArg Prod.snd e
  subst e2
  rw [← B.inj _ _ (ids _ hy) hx e1]
  exact dsL hd hy
 have free : ∀ {x : Nat}, lookA sc x = some .free → x < 202 ∧ CellIn env s.heap x := fun {x} h => by
  have hy := lAm h
  refine ob12 (ifK ((hm _ hy).2.1 rfl)) fun k e mk => ?_
  exact ⟨ids _ hy, T.fr.cells x (ids _ hy) (by rw [e]; rcases List.mem_cons.mp mk with rfl | mk; exact .inl rfl; exact .inr (congrArg some (List.mem_singleton.mp mk)))⟩
 have hfree : ∀ n, (n, NameKind.free) ∈ (scO nm sc).names → (env.cells.lookup n).isSome = true := fun n h => by
  refine ob12 (List.mem_map.mp h) fun y hy e => ?_
  obtain ⟨y1, y2⟩ := y
  cases e
  obtain ⟨_, c, v, hc, _⟩ := free (dsL hd hy)
  rw [hc]; rfl
 have clm := closes_mem (env := env) (scO nm sc).names [] hfree (fun _ _ h => by contradiction)
 have clh := fun n h => closes_has (env := env) (scO nm sc).names [] n (.inl h)
 have cln := fun n c h => (closes_names (env := env) (scO nm sc).names [] n c h).resolve_right (fun h => by contradiction)
 rw [cfA]
 generalize hcl : clF env (scO nm sc).names [] = cl at *
 generalize hcs : cellsFrom (s.heap.objs.size + 1) (scO nm sc).names [] = cs at *
 have csn : ∀ n c, (n, c) ∈ cs → (n, NameKind.cell) ∈ (scO nm sc).names := fun n c h => cellsFrom_names _ _ n c (hcs ▸ h)
 have lkFree : ∀ {x : Nat}, lookA sc x = some .free → (cs ++ cl).lookup (nm x) = env.cells.lookup (nm x) := fun {x} h => by
  have hx := (free h).1
  have e1 : cs.lookup (nm x) = none := lookup_none_of fun c hc => by
   have := inNames hx (csn _ _ hc); rw [h] at this; contradiction
  rw [lookup_append, e1]
  obtain ⟨c, hc⟩ := clh (nm x) (by rw [namesEq]; exact List.mem_map.mpr ⟨(x, .free), lAm h, rfl⟩)
  obtain ⟨c', hc'⟩ := lkM hc
  show cl.lookup (nm x) = _
  rw [hc', clm _ _ (mem_of_lookup hc')]
 have lkCell : ∀ {x : Nat} {c : Addr}, x < 202 → (cs ++ cl).lookup (nm x) = some c → (lookA sc x = some .cell ∧ (nm x, c) ∈ cs) ∨ (lookA sc x = some .free ∧ env.cells.lookup (nm x) = some c) := fun {x c} hx h => by
  rw [lookup_append] at h
  induction e : cs.lookup (nm x) using Option.casesOn with
  | some c' =>
   rw [e] at h; injection h with h; subst h
   have hmem := mem_of_lookup e
   exact .inl ⟨inNames hx (csn _ _ hmem), hmem⟩
  | none =>
   rw [e] at h
   have hmem := mem_of_lookup h
   exact .inr ⟨inNames hx (cln _ _ hmem), clm _ _ hmem⟩
 have newCell : ∀ {n : Str} {c : Addr}, (n, c) ∈ cs → CellAt (pushCells (s.heap.push { cls := .type "dict", data := .dict #[] }) (scO nm sc).names) c none ∧ s.heap.get? c = none := fun {n c} h =>
  let q := ca n c h; ⟨q.1, Heap.get?_none_of_le (Nat.le_trans (Nat.le_succ _) q.2)⟩
 have deadL : s.heap.get? s.heap.objs.size = none := Heap.get?_none_of_le (Nat.le_refl _)
 let cenv : Env := { scope := scO nm sc, locals := s.heap.objs.size, globals := env.globals, cells := cs ++ cl, qual := env.qual, func := none, code := env.code, frame := env.frame, builtins := env.builtins }
 have kind : ∀ x, x < 202 → (cenvOf env (scO nm sc) cenv).kindOf (nm x) = lookA (subK env sc) x := fun x hx => by
  show List.lookup (nm x) ((scO nm sc).names.map fun (n, k) => if ownK env n k then (n, NameKind.cell) else (n, k)) = _
  rw [subK_names]
  exact lookA_str B (fun y hy => by refine ob12 (List.mem_map.mp hy) fun y' hy' e => ?_; rw [← e]; exact ids y' hy') hx
 have ok : EnvOk sc (cenvOf env (scO nm sc) cenv) := by
  refine ⟨rfl, fun x hx => ?_, T.fr.ok.globals, T.fr.ok.builtins, fun e => absurd rfl ((hm _ (lAm e)).2.2 rfl)⟩
  rw [kind x hx, subK_look]
  induction e : lookA sc x using Option.casesOn with
  | none => exact .inl rfl
  | some k =>
   show some (if ownK env (nm x) k = true then _ else _) = _ ∨ _
   by_cases q : ownK env (nm x) k = true
   · rw [if_pos q]
     have : k = .free := by unfold ownK at q; simpa using (and1 (and1 q))
     subst this
     exact .inr ⟨rfl, by rw [Option.map_some, if_pos q]⟩
   · rw [if_neg q]; exact .inl rfl
 have F : FrR base sc (cenvOf env (scO nm sc) cenv) (capt sc fr) H.length M (pushCells (s.heap.push { cls := .type "dict", data := .dict #[] }) (scO nm sc).names) := by
  refine ⟨ok, T.c.dead deadL, fun x c hx hk e => ?_, ⟨fun _ => none, ⟨_, #[], 0, gL, .inr rfl, rfl, fun _ he => by simp at he, fun _ => rfl⟩, fun x v e => ?_⟩, fun x hx e => ?_, fun x y c hx hy e1 e2 => ?_, ?_⟩
  · rcases lkCell hx e with ⟨_, h⟩ | ⟨h, _⟩
    · exact T.c.dead (newCell h).2
    · rw [hk] at h; contradiction
  · obtain ⟨hf, hv⟩ := look_capt sc e
    obtain ⟨_, _, fh⟩ := T.fr.frame
    obtain ⟨hx, u, hu, hk⟩ := fh x v hv
    refine ⟨hx, u, hu.go (fun b o e _ => keep b o e) (.refl _ _) (Nat.le_refl _), .inr ⟨.inr hf, ?_⟩⟩
    rcases hk with ⟨hk, _⟩ | ⟨_, c, hc, oc, g1, g2⟩
    · refine ob12 (ifK ((hm _ (lAm hf)).2.1 rfl)) fun k e1 mk => ?_
      rw [hk] at e1; injection e1 with e1; subst e1
      simp at mk
    · exact ⟨c, (lkFree hf).trans hc, oc, keep _ _ g1, g2⟩
  · rcases e with e | e
    · have hmem : (nm x, NameKind.cell) ∈ (scO nm sc).names := by rw [namesEq]; exact List.mem_map.mpr ⟨(x, .cell), lAm e, rfl⟩
      obtain ⟨c, hc⟩ := cells_mem _ (s.heap.objs.size + 1) [] _ (.inl hmem)
      rw [hcs] at hc
      obtain ⟨c', hc'⟩ := lkM hc
      refine ⟨c', none, ?_, (newCell (mem_of_lookup hc')).1⟩
      show (cs ++ cl).lookup (nm x) = _
      rw [lookup_append, hc']
    · obtain ⟨_, c, v, hc, oc, g1, g2⟩ := free e
      exact ⟨c, v, (lkFree e).trans hc, oc, keep _ _ g1, g2⟩
  · rcases lkCell hx e1 with ⟨_, h1⟩ | ⟨h1', h1⟩ <;> rcases lkCell hy e2 with ⟨_, h2⟩ | ⟨h2', h2⟩
    · exact B.inj _ _ hx hy (name_of_addr ap h1 h2)
    · obtain ⟨_, c', v, hc, oc, g1, g2⟩ := free h2'
      rw [h2] at hc; injection hc with hc; subst hc
      rw [(newCell h1).2] at g1; contradiction
    · obtain ⟨_, c', v, hc, oc, g1, g2⟩ := free h1'
      rw [h1] at hc; injection hc with hc; subst hc
      rw [(newCell h2).2] at g1; contradiction
    · exact T.fr.cellsA x y c hx hy h1 h2
  · rintro ⟨i, hi, e⟩
    have := T.rel.lt hi
    rcases e with e | e
    · rw [← show s.heap.objs.size = M.a i from e] at this; exact absurd this.1 (Nat.lt_irrefl _)
    · rw [← show s.heap.objs.size = M.d i from e] at this; exact absurd this.2 (Nat.lt_irrefl _)
 have g := T.grow (s' := { s with heap := pushCells (s.heap.push { cls := .type "dict", data := .dict #[] }) (scO nm sc).names }) keep ⟨rfl, rfl, rfl⟩
 refine q cenv { s with heap := pushCells (s.heap.push { cls := .type "dict", data := .dict #[] }) (scO nm sc).names } ⟨T.aok, (T.go g).frs, (T.go g).rel, (T.go g).stays, F⟩ g keep (fun b hb => ?_) deadL
 rcases hb with rfl | ⟨x, hx, hk, hl⟩
 · exact deadL
 · rcases lkCell hx hl with ⟨_, h⟩ | ⟨h, _⟩
   · exact (newCell h).2
   · rw [hk] at h; contradiction
theorem comp_step {R : Result → Shared → Prop} {elt target iter : Expr} {scope : Scope} {pos : Pos} {it acc : Value} (ht : ∀ v, letOwnedTupleGo target it v = pure ())
 (h : wpAny (model PW w) A (pyNext it) (fun r s₁ => match r with
  | none => R (.ok .next) s₁
  | some v => wpAny (model PW w) A (assign target env v) (fun _ s₂ => wpAny (model PW w) A (eval elt env) (fun x s₃ => wpAny (model PW w) A (call (.builtin "list.append") [acc, x]) (fun _ s₄ =>
   codeAny (model PW w) A (.compLoop (.ListComp elt [⟨target, iter, [], 0⟩] scope pos) 0 it acc env) R s₄) (fun _ _ => False) s₃) (fun _ _ => False) s₂) (fun _ _ => False) s₁) (fun _ _ => False) s) :
 codeAny (model PW w) A (.compLoop (.ListComp elt [⟨target, iter, [], 0⟩] scope pos) 0 it acc env) R s := by
 refine codeAny_of_tree ?_
 rw [show A.under (.compLoop (.ListComp elt [⟨target, iter, [], 0⟩] scope pos) 0 it acc env) = A from Around.under_of_weight rfl]
 skip
 refine wpAny_onRaise ?_
 rw [compTurn_list1]
 refine wpAny_bind (wpAny_standAt (wpAny_bind (wpAny_mono h (fun r s₁ h₁ => ?_) fun _ _ h' => h'.elim)))
 induction r using Option.casesOn with
 | none => exact wpAny_pure h₁
 | some v =>
  refine wpAny_bind (wpAny_of_eq (ht v) ?_)
  exact wpAny_bind (wpAny_mono h₁ (fun _ s₂ h₂ => wpAny_bind (wpAny_bind (wpAny_mono h₂ (fun x s₃ h₃ => wpAny_bind (wpAny_mono h₃
   (fun _ s₄ h₄ => wpAny_pure (wpAny_pure ⟨rfl, h₄⟩)) fun _ _ h' => h'.elim)) fun _ _ h' => h'.elim))) fun _ _ h' => h'.elim)
theorem append_exact {la : Addr} {xs : Array Value} {ep : Nat} {x : Value} {Q : Value → Shared → Prop} {E : Value → Shared → Prop} (ho : s.heap.get? la = some { cls := .type "list", data := .seq xs ep }) (hsz : xs.size ≤ sizeLine)
 (hQ : ∀ h' ep', h'.get? la = some { cls := .type "list", data := .seq (xs.push x) ep' } → Heap.SameBut la s.heap h' → Q .none { s with heap := h' }) :
 wpAny (model PW w) A (call (.builtin "list.append") [.ref la, x]) Q E s := by
 have hl : s.heap.IsList la xs := ⟨_, ho, rfl, ep, rfl⟩
 refine wpAny_call_entry slot_list_append hl.typeIs entry_list_append ?_ (args_list_append _ _)
 show wpAny _ _ (updateSeq la (·.push x) >>= fun _ => ret .none) _ _ s
 refine wpAny_bind ?_
 obtain ⟨ep', e⟩ := mapSeq_list (xs := xs) (ep := ep) (f := (·.push x))
 refine wpAny_updateSeq ho rfl (wpAny_pure ⟨.none, rfl, hQ _ ep' ?_ (Heap.SameBut.update ..)⟩)
 rw [← e]; exact Heap.get?_update_self _ ho (by rw [e]; rfl)
theorem VR.offList {h h' : Heap} {a : Addr} {m : Nat} {o : Obj} (ho : h.get? a = some o) (hc : o.cls = .type "list" ∨ o.cls = .type "dict") (hs : Heap.SameBut a h h') {v : AV} {u : Value} (x : VR h M m v u) : VR h' M m v u :=
 x.go (fun b o' hb hq => (hs.2 b fun e => by subst e; rw [ho] at hb; injection hb with hb; subst hb; rcases hq with h | h <;> rcases hc with q | q <;> rw [q] at h <;> simp at h).trans hb) (.refl _ _) (Nat.le_refl _)
theorem Rel.offList (R : Rel w base M H s.heap) {h' : Heap} {a : Addr} {o : Obj} (ho : s.heap.get? a = some o) (hc : o.cls = .type "list" ∨ o.cls = .type "dict") (no : ¬ Owned M H.length a) (hs : Heap.SameBut a s.heap h') : Rel w base M H h' := by
 have ne : ∀ b o', s.heap.get? b = some o' → ((o'.cls ≠ .type "list" ∧ o'.cls ≠ .type "dict") ∨ Owned M H.length b) → h'.get? b = some o' := fun b o' hb h1 => by
  refine (hs.2 b fun e => ?_).trans hb
  subst e
  rw [ho] at hb; injection hb with hb; subst hb
  rcases h1 with h1 | h1
  · exact hc.elim h1.1 h1.2
  · exact no h1
 refine ⟨fun i ob e => ?_, R.apart, R.fresh, R.tab.go fun b o' hb h => ne b o' hb (.inl (by rcases h with h | h <;> rw [h] <;> trivial))⟩
 have hi := nth_lt e
 exact (R.obj i ob e).go (fun b o' hb h => ne b o' hb (.inl (by rcases h with h | h <;> rw [h] <;> trivial))) (.refl _ _) (Nat.le_refl _) hi (fun o' hb => ne _ _ hb (.inr ⟨i, hi, .inl rfl⟩)) fun o' hb => ne _ _ hb (.inr ⟨i, hi, .inr rfl⟩)
theorem FrOk.offList {h h' : Heap} {a : Addr} {o : Obj} (ho : h.get? a = some o) (hc : o.cls = .type "list" ∨ o.cls = .type "dict") (hs : Heap.SameBut a h h') : ∀ {l : List Env}, FrOk base h l → FrOk base h' l := fun x =>
 FrOk.but ho hs (fun q => by rcases hc with c | c <;> rw [c] at q <;> simp at q) x
theorem FrR.offList {h h' : Heap} {m : Nat} {a : Addr} {o : Obj} (ho : h.get? a = some o) (hc : o.cls = .type "list" ∨ o.cls = .type "dict") (ne : a ≠ env.locals) (hs : Heap.SameBut a h h') (F : FrR base z env fr m M h) : FrR base z env fr m M h' :=
 F.keep (fun o e _ => ⟨o.slots, (hs.2 _ ne.symm).trans e⟩) (fun z => z.up fun o' g k => (hs.2 _ fun q => by subst q; rw [ho] at g; injection g with g; subst g; rcases hc with q | q <;> rw [q] at k <;> simp at k).trans g) (fun y => y.offList ho hc hs) F.own
theorem Sit.offList (T : Sit w base A d l z env fr M H s) {h' : Heap} {tk : Nat} {a : Addr} {o : Obj} (ho : s.heap.get? a = some o) (hc : o.cls = .type "list" ∨ o.cls = .type "dict") (no : ¬ Owned M H.length a) (ne : a ≠ env.locals) (hs : Heap.SameBut a s.heap h') (hb : base.get? a = none) : Sit w base A d l z env fr M H { s with heap := h', toks := tk } :=
 ⟨T.aok, T.frs.offList ho hc hs, T.rel.offList ho hc no hs, stays_but T.stays hs hb, T.fr.offList ho hc ne hs⟩
theorem GoF.offList {M₀ : Mp} {H₀ : AH} {s₀ : Shared} (g : GoF w base z env M₀ H₀ s₀ M H s) {h' : Heap} {tk : Nat} {a : Addr} {o : Obj} (ho : s.heap.get? a = some o) (hc : o.cls = .type "list" ∨ o.cls = .type "dict") (no : ¬ Owned M H.length a) (hs : Heap.SameBut a s.heap h') (ha : ∃ o', h'.get? a = some o') (hb : base.get? a = none) (h0 : s₀.heap.get? a = none) :
 GoF w base z env M₀ H₀ s₀ M H { s with heap := h', toks := tk } := by
 have ne : ∀ b ob, s₀.heap.get? b = some ob → b ≠ a := fun b ob e q => by subst q; rw [h0] at e; contradiction
 refine ⟨g.rel.offList ho hc no hs, g.ext, g.len, ⟨fun b ob e i nx => (hs.2 b (ne b ob e)).trans (g.step.inert b ob e i nx), fun b ob e i nx => ?_⟩, ⟨g.same.g, g.same.d, g.same.o⟩, stays_but g.stays hs hb, ⟨fun b ob e => ?_, g.kept.newer, fun b ob e c no nx => (hs.2 b (ne b ob e)).trans (g.kept.others b ob e c no nx)⟩⟩
 · obtain ⟨sl, q⟩ := g.step.frame b ob e i nx
   exact ⟨sl, (hs.2 b (ne b ob e)).trans q⟩
 · obtain ⟨o', q⟩ := g.kept.alive b ob e
   exact ⟨o', (hs.2 b (ne b ob e)).trans q⟩
theorem VRs.snoc {h : Heap} {m : Nat} : ∀ {l : List AV} {vs : List Value} {v : AV} {u : Value}, VRs h M m l vs → VR h M m v u → VRs h M m (l ++ [v]) (vs ++ [u]) := fun x y => VRs.append x ⟨_, [], rfl, y, rfl⟩
theorem Snd.cmpL1 (B : BaseOk w base K) (S : Snd w base K n) {q : Src} {x : Nat} {el : E} {vs acc : List AV} {r : R (List AV)} (hr : Mine.cmpL tb (n + 1) d fr H q x el vs acc = r) (hb : r ≠ .bad) {it la : Addr} {xs : Array Value} {ep : Nat} {M₀ : Mp} {H₀ : AH} {s₀ : Shared} {px : Pos} {iter : Expr} {scope : Scope} {pos : Pos}
 (hx : isFrom z x [.local, .cell] = true) (hw : wfE z el = true) (T : Sit w base A d l z env fr M H s) (g₀ : GoF w base z env M₀ H₀ s₀ M H s) (dead : s₀.heap.get? it = none) (db : base.get? it = none) (hi : IterAt s.heap M H.length it q vs)
 (gl : s.heap.get? la = some { cls := .type "list", data := .seq xs ep }) (ha : VRs s.heap M H.length acc xs.toList) (no : ¬ Owned M H.length la) (deadA : s₀.heap.get? la = none) (dbA : base.get? la = none) (hz : acc.length + vs.length ≤ 10000) :
 codeAny (model PW w) A (.compLoop (.ListComp (el.py nm) [⟨.Name (nm x) px, iter, [], 0⟩] scope pos) 0 (.ref it) (.ref la) env) (CmpR w base z env l M₀ H₀ s₀ la r) s := by
 dsimp only [Mine.cmpL] at hr
 induction ok : srcOk q H using Bool.casesOn with
 | false => rw [ok] at hr; exact absurd hr.symm hb
 | true =>
 rw [ok] at hr
 skip
 refine ob12 hi.obj fun oi gi ci => ?_
 have laIt : la ≠ it := fun e => by rw [e, gi] at gl; injection gl with gl; subst gl; exact (itN ci).2.2.2.2.2 rfl
 refine comp_step (fun v => rfl) (turn_of T g₀ dead db ok hi (fun e s' T' g' hs => ?_) fun v rest e u s₁ T₁ g₁ hs hu' hi' => ?_)
 · subst e
   refine ⟨.next, acc, H, M, xs, ep, fr, rfl, hr.symm, g', T'.fr, T'.frs, hs _ _ laIt gl, ?_, no, by simpa using hz⟩
   exact ha.go (fun b o hb hc => hs b o (fun q => by
    subst q; rw [gi] at hb; injection hb with hb; subst hb
    rcases hc with c | c
    · exact (itN ci).2.2.1 c
    · exact (itN ci).2.2.2.1 c) hb) (.refl _ _) (Nat.le_refl _)
 · subst e
   dsimp only at hr
   have ha₁ : VRs s₁.heap M H.length acc xs.toList := ha.go (fun b o hb hc => hs b o (fun q => by
    subst q; rw [gi] at hb; injection hb with hb; subst hb
    rcases hc with c | c
    · exact (itN ci).2.2.1 c
    · exact (itN ci).2.2.2.1 c) hb) (.refl _ _) (Nat.le_refl _)
   have gl₁ := hs _ _ laIt gl
   refine wpAny_assign_Name (wpAny_mono (stN (l := l) B T₁ hx hu') (fun _ s₂ ⟨g₂, F₂, O₂⟩ => ?_) fun _ _ h => h)
   have T₂ := T₁.f g₂ F₂ O₂
   have laL : la ≠ env.locals := fun e => by
    obtain ⟨_, _, _, ⟨m, ⟨oL, es, ep', gL, cL, dL, _⟩, _⟩, _⟩ := T₁.fr
    rw [← e, gl₁] at gL; cases gL; cases dL
   have laO : ¬ Own z env la := by
    rintro (h | ⟨y, hy, hk, hl⟩)
    · exact laL h
    · obtain ⟨c, v', hc, oc, g1, g2, _⟩ := T₁.fr.cells y hy (.inl hk)
      rw [hl] at hc; injection hc with hc; subst hc
      rw [gl₁] at g1; injection g1 with g1; subst g1; simp at g2
   induction e2 : Mine.ev tb n d (upd fr x v) H el using R.casesOn with
   | ok u₂ H₃ =>
    rw [e2] at hr
    dsimp only at hr
    refine S.evN e2 hw T₂ fun M₃ uv s₃ g₃ hu₃ => ?_
    have gl₃ := g₃.kept.others _ _ (g₂.kept.others _ _ gl₁ (.inr rfl) no laO) (.inr rfl) no (fun h => h)
    have no₃ : ¬ Owned M₃ H₃.length la := notOwned_up g₃.ext g₃.kept (g₂.kept.others _ _ gl₁ (.inr rfl) no laO) no
    have hi₃ := IterAt.goF T₂.fr g₃.f (IterAt.goF T₁.fr g₂ hi')
    have len : xs.size = acc.length := by have := ha.len; simpa using this
    refine append_exact gl₃ (by rw [sizeLine_eq, len]; omega) fun h' ep' gl₄ hs₄ => ?_
    have T₄ : Sit w base A d l z env (upd fr x v) M₃ H₃ { s₃ with heap := h' } := (T₂.go g₃).offList (tk := s₃.toks) gl₃ (.inl rfl) no₃ laL hs₄ dbA
    have g₄ : GoF w base z env M₀ H₀ s₀ M₃ H₃ { s₃ with heap := h' } := ((g₁.trans g₂).trans g₃.f).offList (tk := s₃.toks) gl₃ (.inl rfl) no₃ hs₄ ⟨_, gl₄⟩ dbA deadA
    have ha₄ : VRs h' M₃ H₃.length (acc ++ [u₂]) (xs.push uv).toList := by
     rw [Array.toList_push]
     exact VRs.snoc ((g₃.vrs (g₂.vrs T₁.fr ha₁)).go (fun b o' hb hq => (hs₄.2 b fun e => by subst e; rw [gl₃] at hb; injection hb with hb; subst hb; simp at hq).trans hb) (.refl _ _) (Nat.le_refl _)) (hu₃.offList gl₃ (.inl rfl) hs₄)
    refine ob12 hi₃.obj fun oi₃ gi₃ ci₃ => ?_
    have hi₄ : IterAt h' M₃ H₃.length it q rest := by
     have kk : ∀ b o, s₃.heap.get? b = some o → o.cls ≠ .type "list" → h'.get? b = some o := fun b o hb hc => (hs₄.2 b fun e => by subst e; rw [gl₃] at hb; injection hb with hb; subst hb; exact hc rfl).trans hb
     induction q using Src.casesOn with
     | fix =>
      rcases hi₃ with ⟨t, items, i, ⟨o, g1, c1, d1⟩, ⟨o2, g2, c2, d2⟩, hv⟩ | ⟨x, k, hit, rfl⟩
      · exact .inl ⟨t, items, i, ⟨o, kk _ _ g1 (by rw [c1]; trivial), c1, d1⟩, ⟨o2, kk _ _ g2 (by rw [c2]; trivial), c2, d2⟩, hv.go (fun b o' hb hq => kk b o' hb (by rcases hq with h | h <;> rw [h] <;> trivial)) (.refl _ _) (Nat.le_refl _)⟩
      · exact .inr ⟨x, k, kk _ _ hit (by simp), rfl⟩
     | lst j lj =>
      obtain ⟨hj, i, ⟨o, g1, c1, d1⟩, rfl⟩ := hi₃
      exact ⟨hj, i, ⟨o, kk _ _ g1 (by rw [c1]; trivial), c1, d1⟩, rfl⟩
    exact S.cmpL hr hb hx hw T₄ g₄ dead db hi₄ gl₄ ha₄ no₃ deadA dbA (by simp only [List.length_append, List.length_nil, List.length_cons] at hz ⊢; omega)
   | exc c H₃ => rw [e2] at hr; exact absurd hr.symm hb
   | bad => rw [e2] at hr; exact absurd hr.symm hb
theorem Go.adopt {M₀ : Mp} {H₀ : AH} {s₀ : Shared} (g : Go w base M₀ H₀ s₀ M H s) {la : Addr} {xs : Array Value} {ep : Nat} {vs : List AV} (gl : s.heap.get? la = some { cls := .type "list", data := .seq xs ep }) (hv : VRs s.heap M H.length vs xs.toList) (hz : vs.length ≤ 10000)
 (no : ¬ Owned M H.length la) (h0 : s₀.heap.get? la = none) (hb : base.get? la = none) : Go w base M₀ H₀ s₀ (M.add H.length la la) (H ++ [.list vs]) s := by
 have ln : (H ++ [AO.list vs]).length = H.length + 1 := by simp
 have old : ∀ i, i < H.length → (M.add H.length la la).a i = M.a i ∧ (M.add H.length la la).d i = M.d i := fun i hi => M.add_ext _ la la i hi
 have new : (M.add H.length la la).a H.length = la ∧ (M.add H.length la la).d H.length = la := ⟨if_pos rfl, if_pos rfl⟩
 have R : Rel w base (M.add H.length la la) (H ++ [.list vs]) s.heap := by
  refine ⟨fun i o' e => ?_, fun i j hi hj ne => ?_, fun i hi => ?_, g.rel.tab⟩
  · have hi := nth_lt e
    rw [ln] at hi ⊢
    rcases Nat.lt_succ_iff_lt_or_eq.mp hi with hi | hi
    · rw [nth_app_lt hi] at e
      exact (g.rel.obj i o' e).go (fun b o e _ => e) (M.add_ext _ _ _) (Nat.le_succ _) hi (fun o e => e) fun o e => e
    · subst hi
      rw [nth_app_at] at e; injection e with e; subst e
      exact ⟨xs, ep, by rw [new.1]; exact gl, VRs.go (fun b o e _ => e) (M.add_ext _ _ _) (Nat.le_succ _) hv, hz, by rw [new.1, new.2]⟩
  · rw [ln] at hi hj
    have ap : ∀ i, i < H.length → M.a i ≠ la ∧ M.d i ≠ la := fun i hi => ⟨fun e => no ⟨i, hi, .inl e.symm⟩, fun e => no ⟨i, hi, .inr e.symm⟩⟩
    rcases Nat.lt_succ_iff_lt_or_eq.mp hi with hi | hi <;> rcases Nat.lt_succ_iff_lt_or_eq.mp hj with hj | hj
    · rw [(old i hi).1, (old i hi).2, (old j hj).1, (old j hj).2]; exact g.rel.apart i j hi hj ne
    · subst hj
      rw [(old i hi).1, (old i hi).2, new.1, new.2]
      exact ⟨(ap i hi).1, (ap i hi).1, (ap i hi).2⟩
    · subst hi
      rw [(old j hj).1, (old j hj).2, new.1, new.2]
      exact ⟨(ap j hj).1.symm, (ap j hj).2.symm, (ap j hj).2.symm⟩
    · exact absurd (hi.trans hj.symm) ne
  · rw [ln] at hi
    rcases Nat.lt_succ_iff_lt_or_eq.mp hi with hi | hi
    · rw [(old i hi).1, (old i hi).2]; exact g.rel.fresh i hi
    · subst hi; rw [new.1, new.2]; exact ⟨hb, hb⟩
 have g2 : Ext H₀.length M₀ (M.add H.length la la) := g.ext.trans (M.add_ext _ _ _) g.len
 refine ⟨R, g2, by rw [ln]; exact Nat.le_succ_of_le g.len, g.step, g.same, g.stays, g.kept.alive, fun i h1 h2 => ?_, g.kept.others⟩
 rw [ln] at h2
 rcases Nat.lt_succ_iff_lt_or_eq.mp h2 with h2 | h2
 · rw [(old i h2).1, (old i h2).2]; exact g.kept.newer i h1 h2
 · subst h2; rw [new.1, new.2]; exact ⟨h0, h0⟩
theorem own_lookup {x : Str} : ∀ {names : List (Str × NameKind)}, names.lookup x = some .local → (names.map fun (n, k) => if ownK env n k then (n, NameKind.cell) else (n, k)).lookup x = some .local := by
 intro L
 induction L with
 | nil => intros; contradiction
 | cons A r ih =>
  obtain ⟨n, k⟩ := A
  intro h1
  rw [List.lookup_cons] at h1
  rw [List.map_cons]
  have e : (if ownK env n k = true then (n, NameKind.cell) else (n, k)).1 = n := by split <;> rfl
  rw [List.lookup_cons, e]
  cases q : x == n with
  | true =>
   rw [q] at h1
   have h1 : k = .local := by simpa using h1
   subst h1
   have : ownK env n .local = false := by skip; rfl
   rw [this]; rfl
  | false =>
   rw [q] at h1
   exact ih h1
theorem comp_rule {elt target iter : Expr} {scope : Scope} {pos : Pos} {Q E : Value → Shared → Prop}
 (hs : ∀ x, foldedSetIterable iter env x = pure x) (hkind : scope.kind = .function) (hnames : ∀ x ∈ scope.names, x.2 = .local → scope.names.lookup x.1 = some .local)
 (h : wpAny (model PW w) A (eval iter env) (fun x s₁ => wpAny (model PW w) A (pyIter x) (fun it s₂ => closureFor scope env = pure (clF env scope.names []) ∧ wpAny (model PW w) A (newList []) (fun acc s₃ =>
  wpAny (model PW w) A (newFunctionEnv scope env.globals (clF env scope.names []) [] env.qual none .none (some env)) (fun cenv s₄ =>
   codeAny (model PW w) A (.compStart (.ListComp elt [⟨target, iter, [], 0⟩] scope pos) 0 it acc (cenvOf env scope cenv)) (fun r s' => ∃ m, s'.heap.Ns cenv.locals m ∧ ∀ h', Heap.SameBut cenv.locals s'.heap h' →
    ∃ f, r = .ok f ∧ Q acc { s' with heap := h' }) s₄) E s₃) E s₂) E s₁) E s) (hm : A.mark none = A) :
 wpAny (model PW w) A (eval (.ListComp elt [⟨target, iter, [], 0⟩] scope pos) env) Q E s := by
 rw [eval_ListComp]
 show wpAny (model PW w) A (comprehension _ scope env _ (newList []) false (eval iter env)) Q E s
 unfold comprehension
 refine wpAny_bind (wpAny_mono h (fun x s₁ h₁ => wpAny_bind (wpAny_standAt (wpAny_bind (wpAny_of_eq (hs x) (wpAny_bind (wpAny_holding (wpAny_mono h₁ (fun it s₂ h₂ =>
  wpAny_standIf ?_) fun _ _ h' => h'))))))) fun _ _ h' => h')
 obtain ⟨hce, h₂⟩ := h₂
 refine wpAny_bind (wpAny_mono h₂ (fun acc s₃ h₃ => ?_) fun _ _ h' => h')
 rw [hce]
 refine wpAny_bind (wpAny_pure (wpAny_bind (wpAny_mono h₃ (fun cenv s₄ h₄ => ?_) fun _ _ h' => h')))
 dsimp only
 have hv : ∀ x ∈ (scope.names.filter fun x => (x.2 == .local || x.2 == .cell) && x.1 != (".0" : Str)).reverse, x.2 = .local →
  Env.kindOf (cenvOf env scope cenv) x.1 = some .local := fun x hx hl => own_lookup (hnames x (List.mem_filter.mp (List.mem_reverse.mp hx)).1 hl)
 refine wpAny_holding (wpAny_bind (wpAny_attempt (wpAny_holding (wpAny_run ?_))))
 rw [hm]
 refine codeAny_mono h₄ fun r s' hr => ?_
 refine ob12 hr fun m hn hr => ?_
 refine ob12 (hr s'.heap (.refl ..)) fun f e _ => ?_
 subst e
 exact wpAny_bind (wpAny_holding (wpAny_comp_letGo (cenv := cenvOf env scope cenv) hkind _ s' m hv hn fun h' m' _ hs' => wpAny_pure (let ⟨_, _, q⟩ := hr h' hs'; q)))
theorem IterAt.self {it : Addr} {q : Src} {vs : List AV} (x : IterAt s.heap M H.length it q vs) {Q E : Value → Shared → Prop} (h : Q (.ref it) s) : wpAny (model PW w) A (pyIter (.ref it)) Q E s := by
 induction q using Src.casesOn with
 | fix =>
  rcases x with ⟨t, items, i, hit, _⟩ | ⟨x, k, hit, _⟩
  · exact wpAny_pyIter_tupleiter hit h
  · exact wpAny_pyIter_rangeiter hit h
 | lst j l =>
  obtain ⟨_, i, hit, _⟩ := x
  exact wpAny_pyIter_listiter hit h
theorem IterAt.keeps {h h' : Heap} {m : Nat} {it : Addr} {q : Src} {vs : List AV} (x : IterAt h M m it q vs) (k : ∀ b o, h.get? b = some o → h'.get? b = some o) : IterAt h' M m it q vs := by
 induction q using Src.casesOn with
 | fix =>
  rcases x with ⟨t, items, i, ⟨o, g1, r1⟩, ⟨o2, g2, r2⟩, hv⟩ | ⟨x, k', hit, r⟩
  · exact .inl ⟨t, items, i, ⟨o, k _ _ g1, r1⟩, ⟨o2, k _ _ g2, r2⟩, hv.go (fun b o e _ => k b o e) (.refl _ _) (Nat.le_refl _)⟩
  · exact .inr ⟨x, k', k _ _ hit, r⟩
 | lst j l =>
  obtain ⟨hj, i, ⟨o, g1, r1⟩, r⟩ := x
  exact ⟨hj, i, ⟨o, k _ _ g1, r1⟩, r⟩
structure CompEnd (w : World) (base : Heap) (M : Mp) (H : AH) (s₁ : Shared) (r : R AV) (acc : Value) (c : Addr) (av : AV) (H' : AH) (M' : Mp) (s' : Shared) : Prop where
 res : r = .ok av H'
 go : Go w base M H s₁ M' H' s'
 val : VR s'.heap M' H'.length av acc
 locs : ∃ o es ep, s'.heap.get? c = some o ∧ locK o.cls ∧ o.data = .dict es ep ∧ StrKeys es
 own : ¬ Owned M' H'.length c
 dead : s₁.heap.get? c = none
 fresh : base.get? c = none
theorem locK.off {n : Nat} {a : Addr} {c : Value} (h : locK c) (no : ¬ Owned M n a) : offO M n a c := by
 rcases h with h | h
 · exact .inl (.inl h)
 · exact .inr ⟨h, no⟩
theorem Go.letGo {s₁ : Shared} {M' : Mp} {H' : AH} {s' : Shared} (G : Go w base M H s₁ M' H' s') {c : Addr} {o : Obj} (ho : s'.heap.get? c = some o) (hc : offO M' H'.length c o.cls) (dead : s₁.heap.get? c = none) (fresh : base.get? c = none) {h' : Heap} (hs : Heap.SameBut c s'.heap h') : Go w base M H s₁ M' H' { s' with heap := h' } := by
 have ne : ∀ b o, s₁.heap.get? b = some o → b ≠ c := fun b o e q => by rw [q, dead] at e; contradiction
 refine ⟨G.rel.sameBut ho hc hs, G.ext, G.len, ⟨fun b o e i => (hs.2 b (ne b o e)).trans (G.step.inert b o e i), fun b o e i => ?_⟩, ⟨G.same.g, G.same.d, G.same.o⟩, stays_but G.stays hs fresh, ⟨fun b o e => ?_, G.kept.newer, fun b o e c no nx => (hs.2 b (ne b o e)).trans (G.kept.others b o e c no nx)⟩⟩
 · obtain ⟨sl, q⟩ := G.step.frame b o e i
   exact ⟨sl, (hs.2 b (ne b o e)).trans q⟩
 · obtain ⟨o', q⟩ := G.kept.alive b o e
   exact ⟨o', (hs.2 b (ne b o e)).trans q⟩
theorem CompEnd.plain {s₁ s' : Shared} {r : R AV} {acc : Value} {c : Addr} {av : AV} {H' : AH} {M' : Mp} (x : CompEnd w base M H s₁ r acc c av H' M' s') : ∃ m, s'.heap.Ns c m ∧ ∀ h', Heap.SameBut c s'.heap h' → EvQ w base M H s₁ r acc { s' with heap := h' } := by
 refine ob34 x.locs fun o es ep g k dd kk => ?_
 refine ⟨nsFind es, ⟨o, es, ep, g, dd, kk, fun _ => rfl⟩, fun h' hs => ⟨av, H', M', x.res, x.go.letGo g (k.off x.own) x.dead x.fresh hs, x.val.but g (k.off x.own) hs⟩⟩
theorem Snd.compTail (B : BaseOk w base K) (S : Snd w base K n) {x : Nat} {px : Pos} {el : E} {iter : Expr} {sc : Nms} {p : Pos} {q : Src} {vs : List AV} {r : R AV} {s₁ : Shared}
 (hr : (Mine.cmpL tb n d (capt sc fr) H q x el vs []).bind (fun vs H => .ok (.obj H.length) (H ++ [.list vs])) = r) (hb : r ≠ .bad) (hx : isFrom sc x [.local, .cell] = true) (hsc : blockOk z sc = true) (hw : wfE sc el = true)
 (T₁ : Sit w base A d l z env fr M H s₁) (T : Sit w base A d l z env fr M H s) (g : Go w base M H s₁ M H s) {it : Addr} (dead : s₁.heap.get? it = none) (hi : IterAt s.heap M H.length it q vs) (hz : vs.length ≤ 10000) {E : Value → Shared → Prop} {X : Addr → Value → Result → Shared → Prop}
 (k : ∀ c acc f s' av H' M', CompEnd w base M H s₁ r acc c av H' M' s' → X c acc (.ok f) s') :
 closureFor (scO nm sc) env = pure (clF env (scO nm sc).names []) ∧ wpAny (model PW w) A (newList []) (fun acc s₃ =>
  wpAny (model PW w) A (newFunctionEnv (scO nm sc) env.globals (clF env (scO nm sc).names []) [] env.qual none .none (some env)) (fun cenv s₄ =>
   codeAny (model PW w) A (.compStart (.ListComp (el.py nm) [⟨.Name (nm x) px, iter, [], 0⟩] (scO nm sc) p) 0 (.ref it) acc (cenvOf env (scO nm sc) cenv)) (X cenv.locals acc) s₄) E s₃) E s := by
 obtain ⟨hd, hm⟩ := bkM hsc
 refine ⟨closureFor_eq fun n h => ?_, wpAny_newList ?_ (by decide)⟩
 · refine ob12 (List.mem_map.mp h) fun y hy e => ?_
   obtain ⟨y1, y2⟩ := y
   cases e
   refine ob12 (ifK ((hm _ hy).2.1 rfl)) fun k e mk => ?_
   obtain ⟨c, v, hc, _⟩ := T.fr.cells y1 (hm _ hy).1 (by rw [e]; rcases List.mem_cons.mp mk with rfl | mk; exact .inl rfl; exact .inr (congrArg some (List.mem_singleton.mp mk)))
   rw [hc]; rfl
 · have fresh : s.heap.get? s.heap.objs.size = none := Heap.get?_none_of_le (Nat.le_refl _)
   have g₃ := T.grow (s' := { s with heap := s.heap.push { cls := .type "list", data := .seq ([] : List Value).toArray } }) Step.of_push ⟨rfl, rfl, rfl⟩
   have no : ¬ Owned M H.length s.heap.objs.size := by
    rintro ⟨i, hi, e⟩
    have := T.rel.lt hi
    rcases e with e | e
    · rw [← e] at this; exact absurd this.1 (Nat.lt_irrefl _)
    · rw [← e] at this; exact absurd this.2 (Nat.lt_irrefl _)
   have gl : (s.heap.push { cls := .type "list", data := .seq ([] : List Value).toArray }).get? s.heap.objs.size = some { cls := .type "list", data := .seq ([] : List Value).toArray } := Heap.get?_push_size _ rfl
   refine comp_enter B (T.go g₃) hsc fun cenv s₄ T₄ g₄ k₄ own dl => ?_
   have hi₄ := (hi.keeps Step.of_push).keeps k₄
   have db : base.get? it = none := T₁.c.dead dead
   have own₁ : ∀ b, Own sc (cenvOf env (scO nm sc) cenv) b → s₁.heap.get? b = none := fun b hb => (g.trans g₃).dead (own b hb)
   have g₀ : GoF w base sc (cenvOf env (scO nm sc) cenv) M H s₁ M H s₄ := ((g.trans g₃).trans g₄).f
   have fin : ∀ q' s', CmpR w base sc (cenvOf env (scO nm sc) cenv) l M H s₁ s.heap.objs.size (Mine.cmpL tb n d (capt sc fr) H q x el vs []) q' s' → X cenv.locals (.ref s.heap.objs.size) q' s' := by
    rintro q' s' ⟨f, vs', H', M', xs, ep, fr', rfl, e2, g', F', O', gl', hv', no', hz'⟩
    have G : Go w base M H s₁ M' H' s' := GoF.leave (s₀ := s₁) (fun _ _ e => e) (.refl _) own₁ g'
    obtain ⟨m, ⟨oL, es, ep', gL, cL, dL, kL, _⟩, _⟩ := F'.frame
    have gL' : s'.heap.get? cenv.locals = some oL := gL
    have lne : cenv.locals ≠ s.heap.objs.size := fun e => by
     rw [e, gl'] at gL'
     cases gL'; cases dL
    have := G.adopt gl' hv' hz' no' (g.dead fresh) (T.c.dead fresh)
    rw [e2] at hr
    refine k _ _ f s' _ _ _ ⟨hr.symm, this, ⟨by simp, congrArg Value.ref (if_pos rfl).symm⟩, ⟨oL, es, ep', gL', cL, dL, kL⟩, ?_, (g.trans g₃).dead dl, F'.fresh⟩
    rintro ⟨i, hi, e⟩
    rw [show (H' ++ [AO.list vs']).length = H'.length + 1 by simp] at hi
    rcases Nat.lt_succ_iff_lt_or_eq.mp hi with hi | hi
    · rw [(M'.add_ext _ _ _ i hi).1, (M'.add_ext _ _ _ i hi).2] at e
      exact F'.own ⟨i, hi, e⟩
    · subst hi
      rcases e with e | e <;> exact lne (e.trans (if_pos rfl))
   have start : codeAny (model PW w) A (.compLoop (.ListComp (el.py nm) [⟨.Name (nm x) px, iter, [], 0⟩] (scO nm sc) p) 0 (.ref it) (.ref s.heap.objs.size) (cenvOf env (scO nm sc) cenv)) (X cenv.locals (.ref s.heap.objs.size)) s₄ := codeAny_mono (S.cmpL (px := px) (iter := iter) (scope := scO nm sc) (pos := p) rfl (bind_bad hr hb) hx hw T₄ g₀ dead db hi₄ (k₄ _ _ gl) rfl no (g.dead fresh) (T.c.dead fresh) (by simpa using hz)) fin
   exact codeAny_compStart_list start (hi₄.self start)
theorem blockNames {sc : Nms} (hd : distinctN (sc.map (·.1)) = true) (B : BaseOk w base K) (ids : ∀ y ∈ sc, y.1 < 202) : ∀ x ∈ (scO nm sc).names, x.2 = .local → (scO nm sc).names.lookup x.1 = some .local := fun x hx hl => by
 refine ob12 (List.mem_map.mp hx) fun y hy q2_ => ?_; subst q2_
 show (sc.map fun y => (nm y.1, y.2)).lookup (nm y.1) = _
 rw [lookA_str B ids (ids y hy), dsL hd (show (y.1, y.2) ∈ sc from hy)]
 exact congrArg some hl
theorem Snd.compAny (B : BaseOk w base K) (S : Snd w base K n) {e : E} {iter : Expr} {x : Nat} {px : Pos} {el : E} {sc : Nms} {p : Pos} {r : R AV} (he : (∃ it, e = .comp x px el it sc p ∧ iter = it.py nm) ∨ (∃ rg pr hi pi, e = .compR x px el rg pr hi pi sc p ∧ iter = .Call (.Name (nm rg) pr) [hi.py nm] [] pi))
 (hr : Mine.ev tb (n + 1) d fr H e = r) (hb : r ≠ .bad) (hw : wfE z e = true) (T : Sit w base A d l z env fr M H s) {E : Value → Shared → Prop} {X : Addr → Value → Result → Shared → Prop} (hE : ∀ x s', ExcP w base M H s r x s' → E x s')
 (k : ∀ c acc f s₁ s' av H₁ M₁ H' M', Sit w base A d l z env fr M₁ H₁ s₁ → Go w base M H s M₁ H₁ s₁ → CompEnd w base M₁ H₁ s₁ r acc c av H' M' s' → X c acc (.ok f) s') :
 (∀ x, foldedSetIterable iter env x = pure x) ∧ (∀ x ∈ (scO nm sc).names, x.2 = .local → (scO nm sc).names.lookup x.1 = some .local) ∧
 wpAny (model PW w) A (eval iter env) (fun x' s₁ => wpAny (model PW w) A (pyIter x') (fun itv s₂ => closureFor (scO nm sc) env = pure (clF env (scO nm sc).names []) ∧ wpAny (model PW w) A (newList []) (fun acc s₃ =>
  wpAny (model PW w) A (newFunctionEnv (scO nm sc) env.globals (clF env (scO nm sc).names []) [] env.qual none .none (some env)) (fun cenv s₄ =>
   codeAny (model PW w) A (.compStart (.ListComp (el.py nm) [⟨.Name (nm x) px, iter, [], 0⟩] (scO nm sc) p) 0 itv acc (cenvOf env (scO nm sc) cenv)) (X cenv.locals acc) s₄) E s₃) E s₂) E s₁) E s := by
 rcases he with ⟨it, rfl, rfl⟩ | ⟨rg, pr, hi, pi, rfl, rfl⟩
 · dsimp only [Mine.ev] at hr
   have w1 := and1 hw
   have w2 := and1 (and2 hw)
   have w3 := and1 (and2 (and2 hw))
   obtain ⟨hd, hm⟩ := bkM w2
   refine ⟨fun x => noFold (wnr (and2 (and2 (and2 hw)))) x, blockNames hd B fun y hy => (hm y hy).1, wpAny_mono (S.evB hr hb (and2 (and2 (and2 hw))) T T.refl fun v H₁ M₁ u s₁ hr₁ g₁ hu => ?_) (fun _ _ h => h) hE⟩
   have T₁ := T.go g₁
   induction d using Nat.casesAuxOn with
   | zero => exact absurd hr₁.symm hb
   | succ d =>
   dsimp only at hr₁
   have fresh : s₁.heap.get? s₁.heap.objs.size = none := Heap.get?_none_of_le (Nat.le_refl _)
   induction v using AV.casesOn with
   | tup vs =>
    refine ob23 hu.isTup fun a xs q2_ ht hvs => ?_; subst q2_
    dsimp only at hr₁
    induction hk : Nat.ble vs.length 1000 using Bool.casesOn with
    | false => rw [hk] at hr₁; exact absurd hr₁.symm hb
    | true =>
    rw [hk] at hr₁
    dsimp only at hr₁
    refine wpAny_pyIter_tuple ht ?_
    have k' : ∀ b o, s₁.heap.get? b = some o → (s₁.heap.push { cls := .type "tuple_iterator", data := .fields #[.ref a, .int 0 0] }).get? b = some o := fun _ _ e => Heap.get?_push_of_some _ e
    have g₂ := T₁.grow (s' := { s₁ with heap := s₁.heap.push { cls := .type "tuple_iterator", data := .fields #[.ref a, .int 0 0] } }) k' ⟨rfl, rfl, rfl⟩
    have hi : IterAt (s₁.heap.push { cls := .type "tuple_iterator", data := .fields #[.ref a, .int 0 0] }) M₁ H₁.length s₁.heap.objs.size .fix vs :=
     .inl ⟨a, xs, 0, ⟨_, Heap.get?_push_size _ rfl, rfl, rfl⟩, let ⟨o, g, r⟩ := ht; ⟨o, k' _ _ g, r⟩, g₂.vrs hvs⟩
    exact S.compTail B hr₁ hb w1 w2 w3 T₁.less (T₁.go g₂).less g₂ fresh hi (Nat.le_trans (Nat.le_of_ble_eq_true hk) (by decide)) fun c acc f s' av H' M' x => k c acc f s₁ s' av H₁ M₁ H' M' T₁ g₁ x
   | obj i =>
    obtain ⟨hi, rfl⟩ := hu
    dsimp only at hr₁
    split at hr₁
    · rename_i xs hn
      obtain ⟨ys, ep, g, hv, hz, _⟩ := T₁.rel.obj _ _ hn
      refine wpAny_pyIter_list ⟨_, g, rfl, ep, rfl⟩ ?_
      have k' : ∀ b o, s₁.heap.get? b = some o → (s₁.heap.push { cls := .type "list_iterator", data := .fields #[.ref (M₁.a i), .int 0 0] }).get? b = some o := fun _ _ e => Heap.get?_push_of_some _ e
      have g₂ := T₁.grow (s' := { s₁ with heap := s₁.heap.push { cls := .type "list_iterator", data := .fields #[.ref (M₁.a i), .int 0 0] } }) k' ⟨rfl, rfl, rfl⟩
      have hi : IterAt (s₁.heap.push { cls := .type "list_iterator", data := .fields #[.ref (M₁.a i), .int 0 0] }) M₁ H₁.length s₁.heap.objs.size (.lst i xs) xs :=
       ⟨hi, 0, ⟨_, Heap.get?_push_size _ rfl, rfl, rfl⟩, rfl⟩
      exact S.compTail B hr₁ hb w1 w2 w3 T₁.less (T₁.go g₂).less g₂ fresh hi hz fun c acc f s' av H' M' x => k c acc f s₁ s' av H₁ M₁ H' M' T₁ g₁ x
    · exact absurd hr₁.symm hb
   | _ => exact absurd hr₁.symm hb
 · dsimp only [Mine.ev] at hr
   have hw' : ((isFrom z rg [.globalImplicit] && isBi rg .range) && (isFrom sc x [.local, .cell] && (blockOk z sc && (wfE sc el && wfE z hi)))) = true := hw
   have w0 := and1 hw'
   have w2 := and1 (and2 (and2 hw'))
   obtain ⟨hd, hm⟩ := bkM w2
   refine ⟨fun x => rfl, blockNames hd B fun y hy => (hm y hy).1, wpAny_mono (S.rangeB (M₀ := M) (H₀ := H) (s₀ := s) B hr hb ⟨and1 w0, and2 w0⟩ (and2 (and2 (and2 (and2 hw')))) T T.refl (fun v H₁ e => ?_) fun k' H₁ M₁ u s₁ hr₁ hk g₁ hu => ?_) (fun _ _ h => h) hE⟩
   · induction d using Nat.casesAuxOn with
     | zero => exact absurd e.symm hb
     | succ d =>
      induction v using AV.casesOn with
      | int i =>
       induction i using Int.casesOn with
       | ofNat k =>
        dsimp only at e
        induction q : Nat.blt k 10 using Bool.casesOn with
        | true => exact ⟨k, rfl, Nat.le_of_ble_eq_true q⟩
        | false => rw [q] at e; exact absurd e.symm hb
       | negSucc k => exact absurd e.symm hb
      | _ => exact absurd e.symm hb
   · induction d using Nat.casesAuxOn with
     | zero => exact absurd hr₁.symm hb
     | succ d =>
      refine ob42 hu fun ra t' u' v' q4_ hra => ?_; subst q4_
      have T₁ := T.go g₁
      have hk' : Nat.blt k' 10 = true := Nat.ble_eq_true_of_le hk
      dsimp only at hr₁
      rw [hk'] at hr₁
      refine iter_range hk T₁ hra fun it s' g' hn hi' kk => ?_
      exact S.compTail B hr₁ hb (and1 (and2 hw')) w2 (and1 (and2 (and2 (and2 hw')))) T₁.less (T₁.go g').less g' hn hi' (by simp; omega) fun c acc f s' av H' M' x => k c acc f s₁ s' av H₁ M₁ H' M' T₁ g₁ x
theorem Snd.compS (B : BaseOk w base K) (S : Snd w base K n) {x : Nat} {px : Pos} {el it : E} {sc : Nms} {p : Pos} {r : R AV} (hr : Mine.ev tb (n + 1) d fr H (.comp x px el it sc p) = r) (hb : r ≠ .bad) (hw : wfE z (.comp x px el it sc p) = true) (T : Sit w base A d l z env fr M H s) :
 wpAny (model PW w) A (eval (E.py nm (.comp x px el it sc p)) env) (EvQ w base M H s r) (ExcP w base M H s r) s := by
 obtain ⟨h1, h2, h3⟩ := S.compAny (E := ExcP w base M H s r) (X := fun c acc r' s' => ∃ m, s'.heap.Ns c m ∧ ∀ h', Heap.SameBut c s'.heap h' → ∃ f, r' = .ok f ∧ EvQ w base M H s r acc { s' with heap := h' }) B (.inl ⟨it, rfl, rfl⟩) hr hb hw T (fun _ _ h => h)
  fun c acc f s₁ s' av H₁ M₁ H' M' T₁ g₁ x => let ⟨m, h1, h2⟩ := x.plain; ⟨m, h1, fun h' hs => ⟨f, rfl, EvQ.from g₁ (h2 h' hs)⟩⟩
 exact comp_rule h1 rfl h2 h3 (mark_none T.aok.handled)
theorem Snd.compRS (B : BaseOk w base K) (S : Snd w base K n) {x : Nat} {px : Pos} {el : E} {rg : Nat} {pr : Pos} {hi : E} {pi : Pos} {sc : Nms} {p : Pos} {r : R AV} (hr : Mine.ev tb (n + 1) d fr H (.compR x px el rg pr hi pi sc p) = r) (hb : r ≠ .bad) (hw : wfE z (.compR x px el rg pr hi pi sc p) = true) (T : Sit w base A d l z env fr M H s) :
 wpAny (model PW w) A (eval (E.py nm (.compR x px el rg pr hi pi sc p)) env) (EvQ w base M H s r) (ExcP w base M H s r) s := by
 obtain ⟨h1, h2, h3⟩ := S.compAny (E := ExcP w base M H s r) (X := fun c acc r' s' => ∃ m, s'.heap.Ns c m ∧ ∀ h', Heap.SameBut c s'.heap h' → ∃ f, r' = .ok f ∧ EvQ w base M H s r acc { s' with heap := h' }) B (.inr ⟨rg, pr, hi, pi, rfl, rfl⟩) hr hb hw T (fun _ _ h => h)
  fun c acc f s₁ s' av H₁ M₁ H' M' T₁ g₁ x => let ⟨m, h1, h2⟩ := x.plain; ⟨m, h1, fun h' hs => ⟨f, rfl, EvQ.from g₁ (h2 h' hs)⟩⟩
 exact comp_rule h1 rfl h2 h3 (mark_none T.aok.handled)
theorem comp_rule_use {elt target iter : Expr} {scope : Scope} {pos : Pos} {E : Value → Shared → Prop} {Q : Unit → Shared → Prop} {u : Value → Sem Unit}
 (hs : ∀ x, foldedSetIterable iter env x = pure x) (hkind : scope.kind = .function) (hnames : ∀ x ∈ scope.names, x.2 = .local → scope.names.lookup x.1 = some .local)
 (h : wpAny (model PW w) A (eval iter env) (fun x s₁ => wpAny (model PW w) A (pyIter x) (fun it s₂ => closureFor scope env = pure (clF env scope.names []) ∧ wpAny (model PW w) A (newList []) (fun acc s₃ =>
  wpAny (model PW w) A (newFunctionEnv scope env.globals (clF env scope.names []) [] env.qual none .none (some env)) (fun cenv s₄ =>
   codeAny (model PW w) A (.compStart (.ListComp elt [⟨target, iter, [], 0⟩] scope pos) 0 it acc (cenvOf env scope cenv)) (fun r s' => ∃ f, r = .ok f ∧ wpAny (model PW w) A (u acc) (fun _ s'' => ∃ m, s''.heap.Ns cenv.locals m ∧ ∀ h', Heap.SameBut cenv.locals s''.heap h' →
    Q () { s'' with heap := h' }) E s') s₄) E s₃) E s₂) E s₁) E s) (hm : A.mark none = A) :
 wpAny (model PW w) A (evalThenUse (.ListComp elt [⟨target, iter, [], 0⟩] scope pos) env u) Q E s := by
 show wpAny (model PW w) A (comprehension (.ListComp elt [⟨target, iter, [], 0⟩] scope pos) scope env (firstIterPos [⟨target, iter, [], 0⟩] pos) (newList []) false (eval iter env) (some u) >>= fun _ => pure ()) Q E s
 refine wpAny_bind (wpAny_mono (Q := fun _ s' => Q () s') ?_ (fun _ _ h => wpAny_pure h) fun _ _ h => h)
 unfold comprehension
 refine wpAny_bind (wpAny_mono h (fun x s₁ h₁ => wpAny_bind (wpAny_standAt (wpAny_bind (wpAny_of_eq (hs x) (wpAny_bind (wpAny_holding (wpAny_mono h₁ (fun it s₂ h₂ =>
  wpAny_standIf ?_) fun _ _ h' => h'))))))) fun _ _ h' => h')
 obtain ⟨hce, h₂⟩ := h₂
 refine wpAny_bind (wpAny_mono h₂ (fun acc s₃ h₃ => ?_) fun _ _ h' => h')
 rw [hce]
 refine wpAny_bind (wpAny_pure (wpAny_bind (wpAny_mono h₃ (fun cenv s₄ h₄ => ?_) fun _ _ h' => h')))
 dsimp only
 have hv : ∀ x ∈ (scope.names.filter fun x => (x.2 == .local || x.2 == .cell) && x.1 != (".0" : Str)).reverse, x.2 = .local →
  Env.kindOf (cenvOf env scope cenv) x.1 = some .local := fun x hx hl => own_lookup (hnames x (List.mem_filter.mp (List.mem_reverse.mp hx)).1 hl)
 have hv' : ∀ x ∈ (scope.names.filter fun x => (x.2 == .local || x.2 == .cell) && x.1 != (".0" : Str)).reverse.drop 1 ++ (scope.names.filter fun x => (x.2 == .local || x.2 == .cell) && x.1 != (".0" : Str)).reverse.take 1,
  x.2 = .local → Env.kindOf (cenvOf env scope cenv) x.1 = some .local := fun x hx hl => by
  rcases List.mem_append.mp hx with h1 | h1
  · exact hv x (List.mem_of_mem_drop h1) hl
  · exact hv x (List.mem_of_mem_take h1) hl
 refine wpAny_holding (wpAny_bind (wpAny_attempt (wpAny_holding (wpAny_run ?_))))
 rw [hm]
 refine codeAny_mono h₄ fun r s' hr => ?_
 obtain ⟨f, rfl, hr⟩ := hr
 refine wpAny_bind (wpAny_rule (wpAny_bind (wpAny_holding (wpAny_mono hr (fun _ s'' hr' => ?_) fun _ _ h' => h'))))
 obtain ⟨m, hn, hr'⟩ := hr'
 exact wpAny_bind (wpAny_comp_letGo (cenv := cenvOf env scope cenv) hkind _ s'' m hv' hn fun h' m' _ hs' => wpAny_pure (hr' h' hs'))
theorem FrOk.off {h₁ h h' : Heap} {a : Addr} (dead : h₁.get? a = none) (hs : Heap.SameBut a h h') : ∀ {l : List Env}, FrOk base h₁ l → FrOk base h l → FrOk base h' l
 | [], _, _ => trivial
 | _ :: _, ⟨_, ⟨L, o, _, _, f, _, g, _, _⟩, r⟩, ⟨a1, ⟨L', o', es, ep, f', b', g', c', d'⟩, r'⟩ => by
  rw [f] at f'; injection f' with f'; subst f'
  have ne : L ≠ a := fun e => by rw [e, dead] at g; contradiction
  exact ⟨a1, ⟨L, o', es, ep, f, b', (hs.2 L ne).trans g', c', d'⟩, FrOk.off dead hs r r'⟩
theorem FrR.off {h₁ h h' : Heap} {m : Nat} {M₁ : Mp} {m₁ : Nat} {fr₁ : Fr} {a : Addr} {o : Obj} (F₁ : FrR base z env fr₁ m₁ M₁ h₁) (dead : h₁.get? a = none) (ho : h.get? a = some o) (hc : locK o.cls) (hs : Heap.SameBut a h h') (F : FrR base z env fr m M h) : FrR base z env fr m M h' :=
 F.keep (fun o e _ => ⟨o.slots, (hs.2 _ fun q => by obtain ⟨_, ⟨_, _, _, gL, _⟩, _⟩ := F₁.frame; rw [q, dead] at gL; cases gL).trans e⟩) (fun z => z.up fun o' g k => (hs.2 _ fun q => by subst q; rw [ho] at g; cases g; rcases hc with q | q <;> rw [q] at k <;> simp at k).trans g) (fun x => x.go (fun b o' hb hq => (hs.2 b fun e => by subst e; rw [ho] at hb; cases hb; rcases hc with c | c <;> rw [c] at hq <;> simp at hq).trans hb) (.refl _ _) (Nat.le_refl _)) F.own
theorem GoF.letGo {s₁ : Shared} {M' : Mp} {H' : AH} {s' : Shared} (G : GoF w base z env M H s₁ M' H' s') {c : Addr} {o : Obj} (ho : s'.heap.get? c = some o) (hc : offO M' H'.length c o.cls) (dead : s₁.heap.get? c = none) (fresh : base.get? c = none) {h' : Heap} (hs : Heap.SameBut c s'.heap h') : GoF w base z env M H s₁ M' H' { s' with heap := h' } := by
 have ne : ∀ b o, s₁.heap.get? b = some o → b ≠ c := fun b o e q => by rw [q, dead] at e; contradiction
 refine ⟨G.rel.sameBut ho hc hs, G.ext, G.len, ⟨fun b o e i nx => (hs.2 b (ne b o e)).trans (G.step.inert b o e i nx), fun b o e i nx => ?_⟩, ⟨G.same.g, G.same.d, G.same.o⟩, stays_but G.stays hs fresh, ⟨fun b o e => ?_, G.kept.newer, fun b o e c no nx => (hs.2 b (ne b o e)).trans (G.kept.others b o e c no nx)⟩⟩
 · obtain ⟨sl, q⟩ := G.step.frame b o e i nx
   exact ⟨sl, (hs.2 b (ne b o e)).trans q⟩
 · obtain ⟨o', q⟩ := G.kept.alive b o e
   exact ⟨o', (hs.2 b (ne b o e)).trans q⟩
theorem Snd.asgC (B : BaseOk w base K) (S : Snd w base K n) {e : E} {iter : Expr} {x : Nat} {px : Pos} {el : E} {sc : Nms} {pc : Pos} (he : (∃ it, e = .comp x px el it sc pc ∧ iter = it.py nm) ∨ (∃ rg pr hi pi, e = .compR x px el rg pr hi pi sc pc ∧ iter = .Call (.Name (nm rg) pr) [hi.py nm] [] pi))
 {y : Nat} {py p : Pos} {r : R (Fl × Fr)} (hr : Mine.ex tb (n + 1 + 1) d fr H (.asg (.name y py) e p) = r) (hb : r ≠ .bad) (hw : wfS z (.asg (.name y py) e p) = true) (T : Sit w base A d l z env fr M H s)
 (hsw : swapsWith (e.py nm) (some (.Name (nm y) py)) p.line env = pure true) :
 wpAny (model PW w) A (exec (Mine.S.py nm (.asg (.name y py) e p)) env) (ExQ w base z env l M H s r) (ExcF w base z env l M H s r) s := by
 have heq : e.py nm = .ListComp (el.py nm) [⟨.Name (nm x) px, iter, [], 0⟩] (scO nm sc) pc := by
  rcases he with ⟨it, rfl, rfl⟩ | ⟨rg, pr, hi, pi, rfl, rfl⟩ <;> rfl
 dsimp only [Mine.ex] at hr
 have hb' : Mine.ev tb (n + 1) d fr H e ≠ .bad := bind_bad hr hb
 show wpAny (model PW w) A (exec (.Assign [.Name (nm y) py] (e.py nm) p) env) _ _ s
 rw [exec_Assign_Name_used _ _ _ _ hsw, heq]
 have key : ∀ c acc f s₁ s' av H₁ M₁ H' M', Sit w base A d l z env fr M₁ H₁ s₁ → Go w base M H s M₁ H₁ s₁ → CompEnd w base M₁ H₁ s₁ (Mine.ev tb (n + 1) d fr H e) acc c av H' M' s' →
  ∃ f', (Except.ok f : Result) = .ok f' ∧ wpAny (model PW w) A (assign (.Name (nm y) py) env acc) (fun _ s'' => ∃ m, s''.heap.Ns c m ∧ ∀ h', Heap.SameBut c s''.heap h' → ExQ w base z env l M H s r .next { s'' with heap := h' }) (ExcF w base z env l M H s r) s' := by
  intro c acc f s₁ s' av H₁ M₁ H' M' T₁ g₁ x
  refine ⟨f, rfl, ?_⟩
  rw [x.res] at hr
  have hr : (match Mine.asg tb (n + 1) d fr H' (.name y py) av with | .ok fr H => R.ok (Fl.next, fr) H | _ => .bad) = r := hr
  dsimp only [Mine.asg] at hr
  refine wpAny_assign_Name (wpAny_mono (stN (l := l) B (T₁.go x.go) (and1 hw) x.val) (fun _ s'' ⟨g, F, O⟩ => ?_) fun _ _ h => h)
  refine ob34 x.locs fun o es ep gc kc dc kk => ?_
  have nOwn : ¬ Own z env c := by
   rintro (h | ⟨y', hy, hk, hl⟩)
   · obtain ⟨_, _, _, ⟨_, ⟨oL₁, _, _, gL₁, _⟩, _⟩, _⟩ := T₁.fr
     rw [← h, x.dead] at gL₁; contradiction
   · obtain ⟨c', v', hc, oc, g1, _⟩ := T₁.fr.cells y' hy (.inl hk)
     rw [hl] at hc; injection hc with hc; subst hc
     rw [x.dead] at g1; contradiction
  have gc' : ∃ o', s''.heap.get? c = some o' ∧ o'.cls = o.cls ∧ o'.data = o.data := by
   rcases kc with k | k
   · obtain ⟨sl, q⟩ := g.step.frame c o gc k nOwn
     exact ⟨_, q, rfl, rfl⟩
   · exact ⟨o, g.kept.others c o gc (.inl k) x.own nOwn, rfl, rfl⟩
  refine ob13 gc' fun o' gc' k1 k2 => ?_
  have ox : offO M' H'.length c o'.cls := by rw [k1]; exact kc.off x.own
  refine ⟨nsFind es, ⟨o', es, ep, gc', k2.trans dc, kk, fun _ => rfl⟩, fun h' hs => ?_⟩
  exact ⟨.next, _, H', M', hr.symm, ((g₁.trans x.go).f.trans g).letGo gc' ox (g₁.dead x.dead) x.fresh hs, FrR.off T₁.fr x.dead gc' (by rw [k1]; exact kc) hs F, FrOk.off x.dead hs T₁.frs O, rfl⟩
 obtain ⟨h1, h2, h3⟩ := S.compAny (E := ExcF w base z env l M H s r) (X := fun c acc r' s' => ∃ f, r' = .ok f ∧ wpAny (model PW w) A (assign (.Name (nm y) py) env acc) (fun _ s'' => ∃ m, s''.heap.Ns c m ∧ ∀ h', Heap.SameBut c s''.heap h' →
  ExQ w base z env l M H s r .next { s'' with heap := h' }) (ExcF w base z env l M H s r) s') B he rfl hb' (and2 hw) T (fun x s' q => (ExcP.pass hr T.refl q).f T) key
 exact wpAny_bind (wpAny_standAt (wpAny_bind (wpAny_mono (comp_rule_use (Q := fun _ s' => ExQ w base z env l M H s r .next s') h1 rfl h2 h3 (mark_none T.aok.handled)) (fun _ _ h => wpAny_pure h) fun _ _ h => h)))
theorem Snd.asgAny (B : BaseOk w base K) (S : Snd w base K (n + 1)) (S' : Snd w base K n) {t : Tg} {e : E} {p : Pos} {r : R (Fl × Fr)} (hr : Mine.ex tb (n + 1 + 1) d fr H (.asg t e p) = r) (hb : r ≠ .bad) (hw : wfS z (.asg t e p) = true) (T : Sit w base A d l z env fr M H s) :
 wpAny (model PW w) A (exec (Mine.S.py nm (.asg t e p)) env) (ExQ w base z env l M H s r) (ExcF w base z env l M H s r) s := by
 induction t using Tg.casesOn with
 | att o a pa => exact S.asg1 hr hb hw (by cases e <;> first | rfl | cases (and2 hw)) T
 | sub o i pa => exact S.asg1 hr hb hw (by cases e <;> first | rfl | cases (and2 hw)) T
 | name y py =>
  induction e using E.casesOn with
  | comp x px el it sc pc =>
   have hsw : ∃ b, swapsWith (E.py nm (.comp x px el it sc pc)) (some (.Name (nm y) py)) p.line env = pure b := ⟨_, rfl⟩
   obtain ⟨b, hsw⟩ := hsw
   induction b using Bool.casesOn with
   | false => exact S.asg1 hr hb hw hsw T
   | true => exact S'.asgC B (.inl ⟨it, rfl, rfl⟩) hr hb hw T hsw
  | compR x px el rg pr hi pi sc pc =>
   have hsw : ∃ b, swapsWith (E.py nm (.compR x px el rg pr hi pi sc pc)) (some (.Name (nm y) py)) p.line env = pure b := ⟨_, rfl⟩
   obtain ⟨b, hsw⟩ := hsw
   induction b using Bool.casesOn with
   | false => exact S.asg1 hr hb hw hsw T
   | true => exact S'.asgC B (.inr ⟨rg, pr, hi, pi, rfl, rfl⟩) hr hb hw T hsw
  | raw e => cases (and2 hw)
  | _ => exact S.asg1 hr hb hw rfl T
theorem AOk.in1 (a : AOk A (d + 1) l) : AOk A.in1 d l := ⟨a.handled, a.frames, a.guards, by have := a.depth; show A.depth + _ ≤ _; omega, by have := a.units; show A.units + 1 + _ ≤ _; omega⟩
theorem AOk.make {v : Addr} {us : List Value} (a : AOk A (d + 1) l) : AOk (A.under (.builtin "type.__call__" ⟨.ref v :: us, []⟩)) d l :=
 ⟨a.handled, (show pushEnvs [] A.frames = _ from a.frames), (show pushGuards [] A.guards = _ from a.guards), by have := a.depth; show A.depth + 1 + _ ≤ _; omega, by have := a.units; show A.units + 1 + _ ≤ _; omega⟩
theorem SitC.go (C : SitC w base A d l M H s) {M' : Mp} {H' : AH} {s' : Shared} (g : Go w base M H s M' H' s') : SitC w base A d l M' H' s' := ⟨C.aok, C.frs.step g.step, g.rel, g.stays⟩
theorem SitC.refl (C : SitC w base A d l M H s) : Go w base M H s M H s := ⟨C.rel, .refl _ _, Nat.le_refl _, .refl _, .refl _, C.stays, .refl _ _ _ _⟩
theorem asgN_len : ∀ {xs : List Nat} {vs : List AV} {fr fr' : Fr}, Mine.asgN fr xs vs = some fr' → xs.length = vs.length
 | [], [], _, _, _ => rfl
 | [], _ :: _, _, _, h => by contradiction
 | _ :: _, [], _, _, h => by contradiction
 | _ :: xs, _ :: vs, _, _, h => by simp [asgN_len (xs := xs) (vs := vs) h]
theorem runF_len {f : Fn} {vs : List AV} : ∀ {n d : Nat}, Mine.runF tb n d H f vs ≠ .bad → f.params.length = vs.length
 | 0, d, h => by skip; exact absurd rfl h
 | n + 1, 0, h => by skip; exact absurd rfl h
 | n + 1, d + 1, h => by
  dsimp only [Mine.runF] at h
  try dsimp only at h
  induction q : Mine.asgN [] f.params vs using Option.casesOn with
  | none => rw [q] at h; exact absurd rfl h
  | some fr => exact asgN_len q
abbrev CallQ := @EvQ
theorem callR_tree {r : R AV} {f : Value} {us : List Value} (h : codeAny (model PW w) A (.call f ⟨us, []⟩) (CallR w base M H s r) s) : wpAny (model PW w) A (call f us) (CallQ w base M H s r) (ExcP w base M H s r) s := by
 refine wpAny_call (codeAny_mono h fun q s' x => ?_)
 induction q using Except.casesOn with
 | ok f =>
  obtain ⟨v, av, H', M', rfl, e, g, hv⟩ := x
  exact ⟨av, H', M', e, g, hv⟩
 | error e => exact x
theorem Rel.newC (C : SitC w base A d l M H s) {s' : Shared} (k : ∀ b o, s.heap.get? b = some o → s'.heap.get? b = some o) (sm : Same s s') {a dd : Addr} {o : AO} (ha : s.heap.objs.size ≤ a) (hd : s.heap.objs.size ≤ dd)
 (ho : OR w s'.heap (M.add H.length a dd) (H.length + 1) H.length o) : Go w base M H s (M.add H.length a dd) (H ++ [o]) s' :=
 ⟨C.rel.new C.stays k ha hd ho, M.add_ext _ _ _, by simp, .keeps k, sm, fun b o e => k b o (C.stays b o e), fun b o e => ⟨o, k b o e⟩, fun i h1 h2 => by
  have h2 : i < H.length + 1 := by simpa using h2
  obtain rfl : i = H.length := Nat.le_antisymm (Nat.le_of_lt_succ h2) h1
  have e1 : (M.add H.length a dd).a H.length = a := if_pos rfl
  have e2 : (M.add H.length a dd).d H.length = dd := if_pos rfl
  rw [e1, e2]
  exact ⟨Heap.get?_none_of_le ha, Heap.get?_none_of_le hd⟩, fun b o e _ _ _ => k b o e⟩
theorem make_cls (B : BaseOk w base K) (BF : BaseF w base K) (S : Snd w base K n) {c a : Nat} {ds vs : List AV} {f : Fn} {r : R AV} (hc : tb.cls c = some (a, ds)) (hf : tb.fn a = some f)
 (hr : (Mine.runF tb n d (H ++ [.inst c []]) f (.obj H.length :: (vs ++ ds.drop vs.length))).bind (fun r H' => match r with | .none => .ok (.obj H.length) H' | _ => .bad) = r) (hb : r ≠ .bad) (C : SitC w base A (d + 1) l M H s) {us : List Value} (hv : VRs s.heap M H.length vs us) :
 wpAny (model PW w) A (call (.ref c) us) (CallQ w base M H s r) (ExcP w base M H s r) s := by
 obtain ⟨hi, f', o, fd, hf', F, hbind⟩ := BF.cls c a ds hc
 rw [hf] at hf'; injection hf' with hf'; subst hf'
 have hcs : (tb.cls c).isSome = true := by rw [hc]; rfl
 refine ob05 (B.cls c hcs) fun p1 p2 p3 p4 p5 => ?_
 have X : K.In s.heap := B.kin.keeps C.stays
 refine callR_tree ?_
 have len := runF_len (bind_bad hr hb)
 simp only [List.length_cons, List.length_append] at len
 have lus : us.length = vs.length := hv.len
 have hty : typeIn K (.ref a) = some (.type "function") := by
  unfold typeIn
  show (K.lookup a).map (·.cls) = _
  rw [F.at_]
  exact congrArg some F.cls
 have k : ∀ b ob, s.heap.get? b = some ob → ((s.heap.push emptyDict).push (instObj c s.heap.objs.size)).get? b = some ob := fun b ob e => Heap.get?_push_of_some _ (Heap.get?_push_of_some _ e)
 have sz : (s.heap.push emptyDict).objs.size = s.heap.objs.size + 1 := Heap.size_push ..
 have gi : ((s.heap.push emptyDict).push (instObj c s.heap.objs.size)).get? (s.heap.objs.size + 1) = some (instObj c s.heap.objs.size) := by rw [← sz]; exact Heap.get?_push_size _ rfl
 have gd : ((s.heap.push emptyDict).push (instObj c s.heap.objs.size)).get? s.heap.objs.size = some emptyDict := Heap.get?_push_of_some _ (Heap.get?_push_size _ rfl)
 have e1 : (M.add H.length (s.heap.objs.size + 1) s.heap.objs.size).a H.length = s.heap.objs.size + 1 := if_pos rfl
 have e2 : (M.add H.length (s.heap.objs.size + 1) s.heap.objs.size).d H.length = s.heap.objs.size := if_pos rfl
 have g₁ := Rel.newC (s' := { s with heap := (s.heap.push emptyDict).push (instObj c s.heap.objs.size) }) (o := .inst c []) C k ⟨rfl, rfl, rfl⟩ (Nat.le_succ s.heap.objs.size) (Nat.le_refl _)
  ⟨fun _ => none, #[], 0, by rw [e1, e2]; exact gi, by rw [e2]; exact gd, ⟨fun _ he => by simp at he, fun _ => rfl⟩, hcs, Nat.le_refl _, fun x hx => .no⟩
 have C₁ := C.go g₁
 obtain ⟨hh, gg, dd, tt, os⟩ := s
 refine make_core (makes_of X p5) (looks_findIn X hi) (fun self => bind_fn X self hty) (.inl rfl) ?_
 obtain ⟨us₂, hus₂, hbd⟩ := hbind { heap := (hh.push emptyDict).push (instObj c hh.objs.size), gens := gg, drawn := dd, toks := tt, os := os } (M.add H.length (hh.objs.size + 1) hh.objs.size) (H.length + 1) (.ref (hh.objs.size + 1)) us C₁.stays (by rw [lus]; omega)
 have hv₁ : VRs ((hh.push emptyDict).push (instObj c hh.objs.size)) (M.add H.length (hh.objs.size + 1) hh.objs.size) (H ++ [AO.inst c []]).length (.obj H.length :: (vs ++ ds.drop vs.length)) (.ref (hh.objs.size + 1) :: (us ++ us₂)) := by
  have ln : (H ++ [AO.inst c []]).length = H.length + 1 := by simp
  rw [ln]
  refine ⟨_, _, rfl, ⟨Nat.lt_succ_self _, congrArg Value.ref e1.symm⟩, VRs.append (by rw [← ln]; exact g₁.vrs hv) (by rw [lus] at hus₂; exact hus₂)⟩
 refine codeAny_mono (S.runF rfl (bind_bad hr hb) F ⟨C₁.aok.make, C₁.frs, C₁.rel, C₁.stays⟩ hv₁ hbd) fun q s' x => ?_
 induction q using Except.casesOn with
 | ok fl =>
  obtain ⟨v, av, H', M', rfl, e, g, hv'⟩ := x
  rw [e] at hr
  have hr : (match (generalizing := false) av with | .none => R.ok (AV.obj H.length) H' | _ => .bad) = r := hr
  induction av using AV.casesOn with
  | none =>
   subst hv'
   have ln : H.length < (H ++ [AO.inst c []]).length := by simp
   exact ⟨rfl, _, .obj H.length, H', M', rfl, hr.symm, g₁.trans g, Nat.lt_of_lt_of_le ln g.len, congrArg Value.ref ((g.ext H.length ln).1.trans e1).symm⟩
  | _ => exact absurd hr.symm hb
 | error e =>
  obtain ⟨c', H', M', h1, h2, h3⟩ := x
  exact ⟨c', H', M', bind_exc hr h1, g₁.trans h2, h3⟩
end
section
variable {K : Frag} {w : World} {base : Heap} {n : Nat} {A : Around} {d : Nat} {l : List Env} {z : Nms} {env : Env} {fr : Fr} {M : Mp} {H : AH} {s : Shared} {r : R AV}
theorem CallQ.here (C : SitC w base A d l M H s) {v : AV} {u : Value} {tk : Nat} (e : r = .ok v H) (h : VR s.heap M H.length v u) : CallQ w base M H s r u { s with toks := tk } := ⟨v, H, M, e, C.refl.tok tk, h⟩
theorem isi_sound (C : SitC w base A d l M H s) {x : AV} {k : BI} {b : Bool} {u : Value} (h : instOf x (.bi k) = some b) (hu : VR s.heap M H.length x u) (e : r = .ok (.bool b) H) {E : Value → Shared → Prop} :
 wpAny (model PW w) A (call (.builtin "isinstance") [u, biVal k]) (CallQ w base M H s r) E s := by
 have sub : ∀ {a b : String} {c : Bool}, isSubtype (.type a) (.type b) = pure c → isSubtype (.type a) (.type b) = pure c := fun h => h
 have tup : ∀ {l : List AV}, VR s.heap M H.length (.tup l) u → ∃ a, u = .ref a ∧ ∃ o, s.heap.get? a = some o ∧ o.cls = .type "tuple" := fun h => let ⟨a, xs, e, ⟨o, g, c, _⟩, _⟩ := h.isTup; ⟨a, e, o, g, c⟩
 replace h : instB x k = some b := h
 dsimp only [instB] at h
 split at h
 · dsimp only [instS] at h
   split at h
   · injection h with h; subst h; obtain ⟨_, t, rfl⟩ := hu
     exact call_isinstance_yes (typeIs_str _ _ _) meta_str (by rw [isSubtype_type]; kernel_rfl) (CallQ.here C (tk := s.toks) e rfl)
   · injection h with h; subst h; obtain ⟨t, rfl⟩ := hu
     exact call_isinstance (isinstance_false_int (by decide) meta_str (by rw [isSubtype_type]; kernel_rfl)) (CallQ.here C e rfl)
   · injection h with h; subst h; refine ob12 (tup hu) fun a q1_ ho => ?_; subst q1_
     exact call_isinstance (isinstance_false_tuple (by decide) meta_str (by rw [isSubtype_type]; kernel_rfl)) ⟨ho, CallQ.here C e rfl⟩
   · contradiction
 · dsimp only [instT] at h
   split at h
   · injection h with h; subst h; obtain ⟨_, t, rfl⟩ := hu
     exact call_isinstance (isinstance_false_str (by decide) meta_tuple (by rw [isSubtype_type]; kernel_rfl)) (CallQ.here C e rfl)
   · injection h with h; subst h; obtain ⟨t, rfl⟩ := hu
     exact call_isinstance (isinstance_false_int (by decide) meta_tuple (by rw [isSubtype_type]; kernel_rfl)) (CallQ.here C e rfl)
   · injection h with h; subst h; obtain ⟨a, rfl, o, g, c⟩ := tup hu
     exact call_isinstance_yes (Tx := "tuple") ⟨o, g, c⟩ meta_tuple (by rw [isSubtype_type]; kernel_rfl) (CallQ.here C (tk := s.toks) e rfl)
   · contradiction
 · dsimp only [instI] at h
   split at h
   · injection h with h; subst h; obtain ⟨_, t, rfl⟩ := hu
     exact call_isinstance (isinstance_false_str (by decide) meta_int (by rw [isSubtype_type]; kernel_rfl)) (CallQ.here C e rfl)
   · injection h with h; subst h; obtain ⟨t, rfl⟩ := hu
     exact call_isinstance_yes (typeIs_int _ _ _) meta_int (by rw [isSubtype_type]; kernel_rfl) (CallQ.here C (tk := s.toks) e rfl)
   · injection h with h; subst h; refine ob12 (tup hu) fun a q1_ ho => ?_; subst q1_
     exact call_isinstance (isinstance_false_tuple (by decide) meta_int (by rw [isSubtype_type]; kernel_rfl)) ⟨ho, CallQ.here C e rfl⟩
   · contradiction
 · contradiction
inductive OkT : List AV → Prop
 | mk (a b : Int) : small a = true → small b = true → OkT [.int a, .int b]
theorem okT {l : List AV} (h : okL (.tup l) = true) : OkT l := by
 induction l using List.casesOn with
 | nil => contradiction
 | cons x l => induction x using AV.casesOn with
  | int a => induction l using List.casesOn with
   | nil => contradiction
   | cons y l => induction y using AV.casesOn with
    | int b => induction l using List.casesOn with
     | cons _ _ => contradiction
     | nil =>
      have h : (match small a with | true => small b | false => false) = true := h
      induction q : small a using Bool.casesOn with
      | true => rw [q] at h; exact .mk a b q h
      | false => rw [q] at h; contradiction
    | _ => contradiction
  | _ => contradiction
theorem snap_reads {hp : Heap} (R : Rel w base M H hp) : ∀ (k : Nat), (∀ {v x : AV} {u : Value}, snap k H v = some x → VR hp M H.length v u → okM x = true ∨ okR x = true → ∃ as, Reads hp u (pdOf x) as) ∧
 (∀ {vs xs : List AV} {us : List Value}, snap.snaps k H vs = some xs → VRs hp M H.length vs us → okMs xs = true ∨ okLs xs = true → ∃ as, ReadsAll hp us (pdsOf xs) as)
 | 0 => ⟨fun h => (by skip; contradiction), fun h => (by unfold snap.snaps at h; contradiction)⟩
 | k + 1 => by
  obtain ⟨ih1, ih2⟩ := snap_reads R k
  have okLM : ∀ {x : AV}, okL x = true → okM x = true := fun {x} h => by
   cases x <;> first | exact h | (cases h; done)
  refine ⟨fun {v x u} h hu ho => ?_, fun {vs xs us} h hu ho => ?_⟩
  · dsimp only [snap] at h
    induction v using AV.casesOn with
    | int i => injection h with h; subst h; obtain ⟨t, rfl⟩ := hu; exact ⟨[], .int i t⟩
    | str i => injection h with h; subst h; obtain ⟨_, t, rfl⟩ := hu; exact ⟨[], .str _ t⟩
    | tup l =>
     injection h with h; subst h
     have ho : okL (.tup l) = true := ho.elim id (fun q => by contradiction)
     obtain ⟨a, b, _, _⟩ := okT ho
     · obtain ⟨a', o, xs, ep, rfl, g, c, dd, hv⟩ := hu
       obtain ⟨u1, t1, e1, ⟨tk1, rfl⟩, u2, t2, e2, ⟨tk2, rfl⟩, e3⟩ := hv
       subst e3; subst e2
       have : Reads hp (.ref a') (.tuple [.int a, .int b]) ([] ++ ([] ++ [])) := .tuple g c dd (by rw [e1]; exact .cons (.int a tk1) (.cons (.int b tk2) .nil))
       exact ⟨_, this⟩
    | obj i =>
     obtain ⟨hi, rfl⟩ := hu
     dsimp only at h
     split at h
     · rename_i l hn
       refine ob12 (Option.map_eq_some_iff.mp h) fun xs hx q2_ => ?_; subst q2_
       obtain ⟨ys, ep, g, hv, _⟩ := R.obj _ _ hn
       have ho' : okMs xs = true ∨ okLs xs = true := by
        rcases ho with ho | ho
        · right
          have ho : (match Nat.ble xs.length 10 with | true => okLs xs | false => false) = true := ho
          split at ho
          · exact ho
          · contradiction
        · left
          have ho : (match Nat.ble xs.length 10 with | true => okMs xs | false => false) = true := ho
          split at ho
          · exact ho
          · contradiction
       obtain ⟨as, ha⟩ := ih2 hx hv ho'
       exact ⟨_, .list g rfl rfl ha⟩
     · contradiction
    | _ => contradiction
  · unfold snap.snaps at h
    induction vs using List.casesOn with
    | nil => cases h; cases hu; exact ⟨[], .nil⟩
    | cons v vs =>
     dsimp only at h
     obtain ⟨u, us, rfl, hu, hus⟩ := hu
     induction e1 : snap k H v using Option.casesOn with
     | none => rw [e1] at h; contradiction
     | some a =>
      induction e2 : snap.snaps k H vs using Option.casesOn with
      | none => rw [e1, e2] at h; contradiction
      | some b =>
       rw [e1, e2] at h
       injection h with h; subst h
       have : (okM a = true) ∧ (okMs b = true ∨ okLs b = true) := by
        rcases ho with ho | ho
        · have ho : (match okM a with | true => okMs b | false => false) = true := ho
          induction q : okM a using Bool.casesOn with
          | true => rw [q] at ho; exact ⟨rfl, .inl ho⟩
          | false => rw [q] at ho; contradiction
        · have ho : (match okL a with | true => okLs b | false => false) = true := ho
          induction q : okL a using Bool.casesOn with
          | true => rw [q] at ho; exact ⟨okLM q, .inr ho⟩
          | false => rw [q] at ho; contradiction
       obtain ⟨as, r1⟩ := ih1 e1 hu (.inl this.1)
       obtain ⟨bs, r2⟩ := ih2 e2 hus this.2
       exact ⟨_, .cons r1 r2⟩
theorem int_len {i : Int} (h : small i = true) : (PyData.int i).shown.length ≤ 40 := by
 have h2 := int_text_length_le10 (a := i) (k := 20) (by decide) (Nat.lt_trans (small_lt h) (by decide))
 have h3 : (Str.ofString (toString i)).length = (toString i).length   := PySem.ofString_length _
 show (Str.ofString (toString i)).length ≤ 40
 omega
theorem ascii_mem : ∀ {s : List Nat}, asciiL s = true → ∀ c ∈ s, c < 128
 | a :: l, h, c, hc => by
  dsimp only [asciiL] at h
  induction q : Nat.blt a 128 using Bool.casesOn with
  | false => rw [q] at h; contradiction
  | true =>
   rw [q] at h
   rcases List.mem_cons.mp hc with rfl | hc
   · exact Nat.le_of_ble_eq_true q
   · exact ascii_mem h c hc
structure Shown (x : PyData) (m k : Nat) : Prop where
 len : x.shown.length ≤ m
 ok : x.showable = true
 nod : x.hasDict = false
 dep : x.depth ≤ k
theorem okL_shown {x : AV} (h : okL x = true) : Shown (pdOf x) 300 1 := by
 have int : ∀ {i : Int}, small i = true → (PyData.int i).showable = true := fun {i} h => by
  have : i.natAbs.log2 < 1920 := by
   by_cases z : i.natAbs = 0
   · rw [z]; decide
   · exact (Nat.log2_lt z).mpr (Nat.lt_trans (small_lt h) (by decide))
  simpa [PyData.showable] using this
 induction x using AV.casesOn with
 | int i => exact ⟨Nat.le_trans (int_len h) (by decide), int h, by simp [pdOf, PyData.hasDict], by simp [pdOf, PyData.depth]⟩
 | str s =>
  have h' : (match Nat.ble s.length 20 with | true => asciiL s | false => false) = true := h
  split at h'
  · rename_i q
    have q := Nat.le_of_ble_eq_true q
    refine ⟨?_, by simp [pdOf, PyData.showable], by simp [pdOf, PyData.hasDict], by simp [pdOf, PyData.depth]⟩
    have := StrLaws.reprText_len (strOf s) (fun c hc => Nat.lt_trans (ascii_mem h' c (by simpa [strOf] using hc)) (by decide))
    have l : (strOf s).length = s.length := by rfl
    show (reprText (strOf s)).length ≤ 300
    omega
  · contradiction
 | tup l =>
  obtain ⟨a, b, ha, hh⟩ := okT h
  · have l1 := int_len ha
    have l2 := int_len hh
    have := tupleText_len_le [(PyData.int a).shown, (PyData.int b).shown]
    refine ⟨?_, ?_, ?_, ?_⟩
    · show (PyData.tuple [.int a, .int b]).shown.length ≤ 300
      simp only [PyData.shown, PyData.shownAll] at this l1 l2 ⊢
      simp only [List.map_cons, List.map_nil, List.sum_cons, List.sum_nil, List.length_cons, List.length_nil] at this
      omega
    · show (PyData.tuple [.int a, .int b]).showable = true
      simp only [PyData.showable, PyData.showableAll]
      have i1 := int ha
      have i2 := int hh
      simp only [PyData.showable] at i1 i2
      simp [i1, i2]
    · show (PyData.tuple [.int a, .int b]).hasDict = false
      rfl
    · show (PyData.tuple [.int a, .int b]).depth ≤ 1
      simp [PyData.depth, PyData.depthAll]
 | _ => contradiction
theorem all_shown {m k : Nat} {p : AV → Bool} (hp : ∀ x, p x = true → Shown (pdOf x) m k) : ∀ {l : List AV}, (∀ x ∈ l, p x = true) → ((PyData.shownAll (pdsOf l)).map (·.length)).sum ≤ l.length * m ∧ (PyData.shownAll (pdsOf l)).length = l.length ∧ PyData.showableAll (pdsOf l) = true ∧ PyData.hasDictAll (pdsOf l) = false ∧ PyData.depthAll (pdsOf l) ≤ k := by
 intro L
 induction L with
 | nil =>
  intro _
  simp [pdsOf, PyData.shownAll, PyData.showableAll, PyData.hasDictAll, PyData.depthAll]
 | cons x l ih =>
  intro h
  have a := hp x (h x List.mem_cons_self)
  refine ob05 (ih fun y hy => h y (List.mem_cons_of_mem _ hy)) fun b1 b2 b3 b4 b5 => ?_
  have al := a.len
  have ad := a.dep
  simp only [pdsOf, PyData.shownAll, PyData.showableAll, PyData.hasDictAll, PyData.depthAll, List.map_cons, List.sum_cons, List.length_cons, a.ok, a.nod, b3, b4, b2, Bool.and_self, Bool.or_self, true_and]
  refine ⟨?_, by omega⟩
  rw [Nat.add_mul, Nat.one_mul]; omega
theorem list_shown {m k : Nat} {p : AV → Bool} (hp : ∀ x, p x = true → Shown (pdOf x) m k) {l : List AV} (h : ∀ x ∈ l, p x = true) (hl : l.length ≤ 10) : Shown (pdOf (.lst l)) (10 * m + 23) (k + 1) := by
 refine ob05 (all_shown hp h) fun b1 b2 b3 b4 b5 => ?_
 have := listText_len_le (PyData.shownAll (pdsOf l))
 refine ⟨?_, ?_, ?_, ?_⟩
 · show (PyData.list (pdsOf l)).shown.length ≤ _
   simp only [PyData.shown]
   have : l.length * m ≤ 10 * m := Nat.mul_le_mul_right _ hl
   omega
 · show (PyData.list (pdsOf l)).showable = true
   simpa only [PyData.showable] using b3
 · show (PyData.list (pdsOf l)).hasDict = false
   simpa only [PyData.hasDict] using b4
 · show (PyData.list (pdsOf l)).depth ≤ k + 1
   simp only [PyData.depth]; exact Nat.lt_succ_of_le ‹_›
theorem okLs_mem : ∀ {l : List AV}, okLs l = true → ∀ x ∈ l, okL x = true
 | a :: l, h, x, hx => by
  have h : (match okL a with | true => okLs l | false => false) = true := h
  induction q : okL a using Bool.casesOn with
  | false => rw [q] at h; contradiction
  | true =>
   rw [q] at h
   rcases List.mem_cons.mp hx with rfl | hx
   · exact q
   · exact okLs_mem h x hx
theorem okMs_mem : ∀ {l : List AV}, okMs l = true → ∀ x ∈ l, okM x = true
 | a :: l, h, x, hx => by
  have h : (match okM a with | true => okMs l | false => false) = true := h
  induction q : okM a using Bool.casesOn with
  | false => rw [q] at h; contradiction
  | true =>
   rw [q] at h
   rcases List.mem_cons.mp hx with rfl | hx
   · exact q
   · exact okMs_mem h x hx
theorem Shown.mono {x : PyData} {m k m' k' : Nat} (a : Shown x m k) (h1 : m ≤ m') (h2 : k ≤ k') : Shown x m' k' := ⟨Nat.le_trans a.len h1, a.ok, a.nod, Nat.le_trans a.dep h2⟩
theorem okM_shown {x : AV} (h : okM x = true) : Shown (pdOf x) 3023 2 := by
 induction x using AV.casesOn with
 | lst l =>
  have h : (match Nat.ble l.length 10 with | true => okLs l | false => false) = true := h
  split at h
  · rename_i q
    exact list_shown (fun x => okL_shown) (okLs_mem h) (Nat.le_of_ble_eq_true q)
  · contradiction
 | none => contradiction
 | bool b => contradiction
 | int i => exact (okL_shown (x := .int i) h).mono (by decide) (by decide)
 | str i => exact (okL_shown (x := .str i) h).mono (by decide) (by decide)
 | tup i => exact (okL_shown (x := .tup i) h).mono (by decide) (by decide)
 | _ => contradiction
theorem okR_shown {x : AV} (h : okR x = true) : (∃ l, x = .lst l) ∧ Shown (pdOf x) 30253 3 := by
 induction x using AV.casesOn with
 | lst l =>
  have h : (match Nat.ble l.length 10 with | true => okMs l | false => false) = true := h
  split at h
  · rename_i q
    exact ⟨⟨l, rfl⟩, list_shown (fun x => okM_shown) (okMs_mem h) (Nat.le_of_ble_eq_true q)⟩
  · contradiction
 | _ => contradiction
theorem absI_eq (i : Int) : absI i = if i < 0 then -i else i := by
 induction i using Int.casesOn with
 | ofNat n => rw [if_neg (by have : (0 : Int) ≤ Int.ofNat n := Int.natCast_nonneg n; omega)]; rfl
 | negSucc n => rw [if_pos (Int.negSucc_lt_zero n)]; rfl
theorem bi_sound (C : SitC w base A d l M H s) {k : BI} {vs : List AV} {us : List Value} (e : biCall k vs H = r) (hb : r ≠ .bad) (hv : VRs s.heap M H.length vs us) :
 wpAny (model PW w) A (call (biVal k) us) (CallQ w base M H s r) (ExcP w base M H s r) s := by
 dsimp only [biCall] at e
 split at e
 · rename_i v
   refine ob12 hv.one fun u q1_ hu => ?_; subst q1_
   dsimp only [bi1] at e
   split at e
   · dsimp only [biLen] at e
     split at e
     · obtain ⟨hl, t, rfl⟩ := hu
       have ln : (strOf ‹List Nat›).length = (‹List Nat›).length := by rfl
       refine PyProof.Rows.len_str (by omega) (CallQ.here C e.symm ⟨s.toks + 1, ?_⟩)
       rw [ln]; rfl
     · obtain ⟨hi, rfl⟩ := hu
       split at e
       · rename_i l hn
         obtain ⟨ys, ep, g, hvs, hz, _⟩ := C.rel.obj _ _ hn
         have ln : ys.size = l.length := by have := hvs.len; simpa using this
         exact call_len_list ⟨_, g, rfl, ep, rfl⟩ (by omega) (CallQ.here C e.symm ⟨_, by rw [ln]; rfl⟩)
       · exact absurd e.symm hb
     · exact absurd e.symm hb
   · split at e
     · obtain ⟨t, rfl⟩ := hu
       exact call_abs_int fun u tk => CallQ.here C e.symm ⟨u, by rw [absI_eq]⟩
     · exact absurd e.symm hb
   · split at e
     · obtain ⟨t, rfl⟩ := hu
       exact call_int_int (CallQ.here C (tk := s.toks) e.symm ⟨_, rfl⟩)
     · exact absurd e.symm hb
   · split at e
     · obtain ⟨hl, t, rfl⟩ := hu
       exact ord_of_one (by rfl) (CallQ.here C e.symm ⟨s.toks, by rfl⟩)
     · exact absurd e.symm hb
   ·
    induction q : snap 10 H v using Option.casesOn with
    | none => rw [q] at e; exact absurd e.symm hb
    | some x =>
     rw [q] at e
     dsimp only at e
     induction q2 : okR x using Bool.casesOn with
     | false => rw [q2] at e; exact absurd e.symm hb
     | true =>
      rw [q2] at e
      obtain ⟨⟨l, rfl⟩, sh⟩ := okR_shown q2
      obtain ⟨as, rd⟩ := (snap_reads C.rel 10).1 q hu (.inr q2)
      obtain ⟨a, rfl⟩ : ∃ a, u = .ref a := by cases rd; exact ⟨_, rfl⟩
      refine repr_of_reads' rd sh.ok (fun h => by rw [sh.nod] at h; contradiction) C.aok.guards ?_ (fun _ _ e => e) (fun h' u tk hk => ?_) (by have := sh.len; rw [sizeLine_eq]; exact Nat.le_trans ‹_› (by decide))
      · have h1 := sh.dep
        have h2 := C.aok.units
        have : cLine = 9900 := rfl
        omega
      · refine ⟨.rpr (.lst l), H, M, e.symm, ?_, u, rfl⟩
        exact ⟨C.rel.keeps hk, .refl _ _, Nat.le_refl _, .keeps hk, ⟨rfl, rfl, rfl⟩, fun b o e => hk b o (C.stays b o e), .keeps hk⟩
   · dsimp only [biLst] at e
     split at e
     · obtain ⟨hi, rfl⟩ := hu
       split at e
       · rename_i l hn
         obtain ⟨ys, ep, g, hvs, hz, _⟩ := C.rel.obj _ _ hn
         have ln : ys.size = l.length := by have := hvs.len; simpa using this
         refine call_list_seq _ (.inl rfl) g rfl rfl (fun h' c' hk g' => ?_) (by rw [sizeLine_eq]; omega)
         have e1 : (M.add H.length s.heap.objs.size s.heap.objs.size).a H.length = s.heap.objs.size := if_pos rfl
         have e2 : (M.add H.length s.heap.objs.size s.heap.objs.size).d H.length = s.heap.objs.size := if_pos rfl
         refine ⟨_, _, _, e.symm, Rel.newC (s' := { s with heap := h' }) (o := .list l) C hk ⟨rfl, rfl, rfl⟩ (Nat.le_refl _) (Nat.le_refl _) ⟨ys, c', by rw [e1]; exact g', ?_, hz, by rw [e1, e2]⟩, by simp, congrArg Value.ref e1.symm⟩
         exact VRs.go (fun b o e _ => hk b o e) (Mp.add_ext _ _ _ _) (Nat.le_succ _) hvs
       · exact absurd e.symm hb
     · exact absurd e.symm hb
   · exact absurd e.symm hb
 · rename_i a t
   obtain ⟨u, _, rfl, hu, u2, _, rfl, hu2, hn⟩ := hv
   subst hn
   dsimp only [bi2] at e
   split at e
   · induction q : instOf a t using Option.casesOn with
     | none => rw [q] at e; exact absurd e.symm hb
     | some b =>
      rw [q] at e
      induction t using AV.casesOn with
      | bi k => subst hu2; exact isi_sound C q hu e.symm
      | _ => contradiction
   · exact absurd e.symm hb
 · exact absurd e.symm hb
theorem SitC.less (C : SitC w base A (d + 1) l M H s) : SitC w base A d l M H s := ⟨C.aok.less, C.frs, C.rel, C.stays⟩
theorem call_fn (BF : BaseF w base K) (S : Snd w base K n) {a : Nat} {f : Fn} {vs : List AV} (hf : tb.fn a = some f) (hr : Mine.runF tb n d H f vs = r) (hb : r ≠ .bad) (C : SitC w base A d l M H s) {us : List Value} (hv : VRs s.heap M H.length vs us) :
 codeAny (model PW w) A (.call (.ref a) ⟨us, []⟩) (CallR w base M H s r) s := by
 obtain ⟨o, fd, F, hbind⟩ := BF.fn a f hf
 exact S.runF hr hb F C hv (hbind s us C.stays (hv.len.trans (runF_len (hr ▸ hb)).symm))
theorem Snd.callF1 (B : BaseOk w base K) (BF : BaseF w base K) (S : Snd w base K n) {g : AV} {vs : List AV} (hr : Mine.callF tb (n + 1) d H g vs = r) (hb : r ≠ .bad) {u : Value} {us : List Value} (C : SitC w base A d l M H s) (hu : VR s.heap M H.length g u) (hv : VRs s.heap M H.length vs us) :
 wpAny (model PW w) A (call u us) (CallQ w base M H s r) (ExcP w base M H s r) s := by
 dsimp only [Mine.callF] at hr
 induction g using AV.casesOn with
 | fn a =>
  subst hu
  dsimp only at hr
  induction q : tb.fn a using Option.casesOn with
  | some f => rw [q] at hr; exact callR_tree (call_fn BF S q hr hb C hv)
  | none =>
   rw [q] at hr
   dsimp only at hr
   induction q2 : tb.cls a using Option.casesOn with
   | none => rw [q2] at hr; exact absurd hr.symm hb
   | some p =>
    obtain ⟨f, ds⟩ := p
    rw [q2] at hr
    dsimp only at hr
    induction d using Nat.casesAuxOn with
    | zero => exact absurd hr.symm hb
    | succ d =>
     try dsimp only at hr
     induction q3 : tb.fn f using Option.casesOn with
     | none => rw [q3] at hr; exact absurd hr.symm hb
     | some fn => rw [q3] at hr; exact make_cls B BF S q2 q3 hr hb C hv
 | meth f i =>
  obtain ⟨hi, b, o, rfl, ho, rfl⟩ := hu
  dsimp only at hr
  induction q : tb.fn f using Option.casesOn with
  | none => rw [q] at hr; exact absurd hr.symm hb
  | some fn =>
   rw [q] at hr
   dsimp only at hr
   induction d using Nat.casesAuxOn with
   | zero => exact absurd hr.symm hb
   | succ d =>
    dsimp only at hr
    exact callR_tree (method_call ho (call_fn BF S q hr hb C.less ⟨_, _, rfl, ⟨hi, rfl⟩, hv⟩))
 | bi k => subst hu; exact bi_sound C hr hb hv
 | _ => exact absurd hr.symm hb
theorem attBase {e : E} (h : noCall e = true) {attr : Str} {whole : Sem Value} : attributeBase (E.py nm e) attr env whole = whole := by
 cases e <;> first | rfl | cases h
theorem mth_rule {e : E} {a : Str} {es : List E} {pa p : Pos} {Q X : Value → Shared → Prop} (he : noCall e = true) (hes : wfEs z es = true) (h1 : Nat.beq pa.endLine p.line = true) (h2 : Nat.blt es.length 20 = true)
 (h : wpAny (model PW w) A (eval (e.py nm) env) (fun ov s₁ => ∃ f first, (∀ pl, ∀ {Q' : Value × List Value → Shared → Prop}, Q' (f, first) s₁ → wpAny (model PW w) A (getMethod ov a pl) Q' X s₁) ∧
  wpAny (model PW w) A (spliced (backTo p (starEach (E.pys nm es) env))) (fun us s₂ => KeepP (model PW w) f s₂.heap ∧ wpAny (model PW w) A (call f (first ++ us)) Q X s₂) X s₁) X s) :
 wpAny (model PW w) A (eval (.Call (.Attribute (e.py nm) a pa) (E.pys nm es) [] p) env) Q X s := by
 rw [arm_eval_Call, attBase he]
 refine wpAny_bind (wpAny_mono h (fun ov s₁ ⟨f, first, hm, h₁⟩ => wpAny_bind (wpAny_standAt ?_)) fun _ _ h => h)
 have form : methodCallForm ((E.pys nm es).length + ([] : List Keyword).length) (backTo p (starEach (E.pys nm es) env)) (backToKw p (keywordEach [] env)) = true := by
  have hall : (backTo p (starEach (E.pys nm es) env)).all (!·.1) = true := by
   rw [List.all_eq_true]; intro x hx
   have := List.any_eq_false.mp (plainArgs (p := p) (env := env) hes) x hx
   simpa using this
  have : es.length + 1 ≤ 20 := Nat.le_of_ble_eq_true h2
  unfold methodCallForm
  rw [hall, pys_len]
  show (true && true && decide (es.length + 0 + 0 < 30)) = true
  simp; exact Nat.lt_of_lt_of_le ‹_› (by decide)
 unfold methodCall
 rw [form]
 have hp : methodCallPos true (e.py nm) env pa p = pure p := by
  unfold methodCallPos
  rw [if_pos (by have := Nat.eq_of_beq_eq_true h1; simp [this])]
 rw [hp]
 refine wpAny_bind (wpAny_holding (hm _ ?_))
 refine wpAny_bind (wpAny_pure ?_)
 refine callWith_of (P := KeepP (model PW w) f) (by rw [plainArgs hes]; rfl) (fun h hp => hp) (evalArgs_of hes (wpAny_mono h₁ (fun us s₂ h₂ => h₂) fun _ _ h => h))
theorem keepB (id : String) {M : Model} {h : Heap} : KeepP M (.builtin id) h := ⟨.machine, .inr (.inl rfl), Looks.of_pure rfl⟩
noncomputable def MKs : MK → Str
 | .append => Str.ofString "append"
 | .pop => Str.ofString "pop"
 | .get => Str.ofString "get"
 | .rstrip => Str.ofString "rstrip"
theorem kind_is {a : Nat} {k : MK} (h : tb.kind a = some k) : nm a = MKs k := by
 have : ∀ (l : List (Nat × MK)), (∀ q ∈ l, nm q.1 = MKs q.2) → lookA l a = some k → nm a = MKs k := by
  intro l
  induction l with
  | nil => intro _ h; contradiction
  | cons q r ih =>
   obtain ⟨y, v⟩ := q
   intro hl h
   dsimp only [lookA] at h
   induction q : Nat.beq y a using Bool.casesOn with
   | true => rw [q] at h; injection h with h; subst h; rw [← Nat.eq_of_beq_eq_true q]; exact hl _ List.mem_cons_self
   | false => rw [q] at h; exact ih (fun q hq => hl q (List.mem_cons_of_mem _ hq)) h
 refine this kdL (fun q hq => ?_) h
 dsimp only [kdL] at hq
 simp only [List.mem_cons, List.not_mem_nil, or_false] at hq
 rcases hq with rfl | rfl | rfl | rfl <;> rfl
theorem SitC.put (C : SitC w base A d l M H s) {h' : Heap} {tk : Nat} {i : Nat} {x : Addr} {ox : Obj} {o' : AO} (hi : i < H.length) (hx : x = M.a i ∨ x = M.d i) (gx : s.heap.get? x = some ox) (cx : ox.cls = .type "list" ∨ ox.cls = .type "dict")
 (hs : Heap.SameBut x s.heap h') (ha : ∃ o, h'.get? x = some o) (ho : OR w h' M H.length i o') : Go w base M H s M (Mine.put H i o') { s with heap := h', toks := tk } := by
 have bx : base.get? x = none := by rcases hx with rfl | rfl; exact (C.rel.fresh i hi).1; exact (C.rel.fresh i hi).2
 refine ⟨C.rel.put hi hx gx cx hs ho, .refl _ _, by rw [put_len]; exact Nat.le_refl _, ⟨fun b o e c => (hs.2 b fun q => ?_).trans e, fun b o e c => ⟨o.slots, (hs.2 b fun q => ?_).trans e⟩⟩, ⟨rfl, rfl, rfl⟩,
  fun b o e => (hs.2 b fun q => by subst q; rw [bx] at e; contradiction).trans (C.stays b o e), ⟨fun b o e => ?_, fun j h1 h2 => absurd h2 (by rw [put_len]; exact Nat.not_lt.mpr h1), fun b o e c no _ => (hs.2 b fun q => no ⟨i, hi, by subst q; exact hx⟩).trans e⟩⟩
 · subst q; rw [gx] at e; injection e with e; subst e
   rcases cx with k | k <;> rcases c with c | c | c | c | c | c | c <;> rw [k] at c <;> simp at c
 · subst q; rw [gx] at e; injection e with e; subst e
   rcases cx with k | k <;> rw [k] at c <;> simp at c
 · by_cases q : b = x
   · subst q; exact ha
   · exact ⟨o, (hs.2 b q).trans e⟩
theorem VRs.offL {h h' : Heap} {a : Addr} {m : Nat} {o : Obj} (ho : h.get? a = some o) (hc : o.cls = .type "list") (hs : Heap.SameBut a h h') {v : List AV} {u : List Value} (x : VRs h M m v u) : VRs h' M m v u :=
 x.go (fun b o' hb hq => (hs.2 b fun e => by subst e; rw [ho] at hb; injection hb with hb; subst hb; rcases hq with h | h <;> rw [hc] at h <;> simp at h).trans hb) (.refl _ _) (Nat.le_refl _)
theorem VRs.two {h : Heap} {m : Nat} {a b : AV} {vs : List Value} (x : VRs h M m [a, b] vs) : ∃ u v, vs = [u, v] ∧ VR h M m a u ∧ VR h M m b v := by
 obtain ⟨u, t, e, hu, v, t', e', hv, ht⟩ := x
 subst ht
 exact ⟨u, v, by rw [e, e'], hu, hv⟩
theorem append_sound (B : BaseOk w base K) (C : SitC w base A d l M H s) {i : Nat} {vs : List AV} {us : List Value} (e : mthV .append (.obj i) vs H = r) (hb : r ≠ .bad) (hv : VRs s.heap M H.length vs us) {E : Value → Shared → Prop} :
 wpAny (model PW w) A (call (.builtin "list.append") ([.ref (M.a i)] ++ us)) (CallQ w base M H s r) E s := by
 induction vs using List.casesOn with
 | nil => exact absurd e.symm hb
 | cons v t => induction t using List.casesOn with
 | cons _ _ => exact absurd e.symm hb
 | nil =>
  unfold mthV at e
  dsimp only at e
  refine ob12 hv.one fun u q1_ hu => ?_; subst q1_
  split at e
  · rename_i xs hn
    induction q : Nat.blt xs.length 1000 using Bool.casesOn with
    | false => rw [q] at e; exact absurd e.symm hb
    | true =>
     rw [q] at e
     have q := Nat.le_of_ble_eq_true q
     obtain ⟨ys, ep, g, hvs, hz, hd⟩ := C.rel.obj _ _ hn
     have ln : ys.size = xs.length := by have := hvs.len; simpa using this
     refine append_exact g (by rw [sizeLine_eq]; omega) fun h' ep' g' hs => ?_
     exact ⟨.none, _, M, e.symm, (C.put (tk := s.toks) (o' := .list (xs ++ [v])) (nth_lt hn) (.inl rfl) g (.inl rfl) hs ⟨_, g'⟩ ⟨_, ep', g', by rw [Array.toList_push]; exact VRs.snoc (hvs.offL g rfl hs) (hu.offList g (.inl rfl) hs), by simp; omega, hd⟩), rfl⟩
  · rename_i b hn
    induction q : Nat.blt b 1000 using Bool.casesOn with
    | false => rw [q] at e; exact absurd e.symm hb
    | true =>
     rw [q] at e
     have q := Nat.le_of_ble_eq_true q
     obtain ⟨ys, ep, g, hsz, hz, hd⟩ := C.rel.obj _ _ hn
     refine append_exact g (by rw [sizeLine_eq]; omega) fun h' ep' g' hs => ?_
     exact ⟨.none, _, M, e.symm, (C.put (tk := s.toks) (o' := .junk (b + 1)) (nth_lt hn) (.inl rfl) g (.inl rfl) hs ⟨_, g'⟩ ⟨_, ep', g', by rw [Array.size_push]; exact Nat.lt_succ_of_le ‹_›, by assumption, hd⟩), rfl⟩
  · exact absurd e.symm hb
theorem pop_sound (B : BaseOk w base K) (C : SitC w base A d l M H s) {i : Nat} {vs : List AV} {us : List Value} (e : mthV .pop (.obj i) vs H = r) (hb : r ≠ .bad) (hv : VRs s.heap M H.length vs us) {E : Value → Shared → Prop} :
 wpAny (model PW w) A (call (.builtin "list.pop") ([.ref (M.a i)] ++ us)) (CallQ w base M H s r) E s := by
 induction vs using List.casesOn with
 | cons _ _ => exact absurd e.symm hb
 | nil =>
  unfold mthV at e
  dsimp only at e
  subst hv
  split at e
  · rename_i xs hn
    split at e
    · rename_i x rr hx
      obtain ⟨ys, ep, g, hvs, hz, hd⟩ := C.rel.obj _ _ hn
      have exs : xs = rr.reverse ++ [x] := by rw [← List.reverse_reverse xs, hx]; simp
      have hr := hvs.reverse
      rw [hx] at hr
      obtain ⟨u, t, e1, hu, ht⟩ := hr
      have eys : ys.toList = t.reverse ++ [u] := by rw [← List.reverse_reverse ys.toList, e1]; simp
      have sz : ys.size = t.length + 1 := by rw [← Array.length_toList, eys]; simp
      have hlast : ys[ys.size - 1]? = some u := by rw [← Array.getElem?_toList, eys, sz]; simp
      have hsz : ys.size ≤ sizeLine := by have := hvs.len; rw [sizeLine_eq]; simp at this; omega
      refine call_meets F.slot_list_pop ⟨_, g, rfl⟩ F.entry_list_pop (F.args_list_pop_1 _) (MeetsSeq.list_pop_last (M.a i) ys ep u hlast hsz) ⟨g, ?_⟩
      obtain ⟨ep', e'⟩ := mapSeq_list (xs := ys) (ep := ep) (f := fun xs => xs.eraseIdxIfInBounds (ys.size - 1))
      have g' : (s.heap.update (M.a i) (Obj.mapSeq fun xs => xs.eraseIdxIfInBounds (ys.size - 1))).get? (M.a i) = some { cls := .type "list", data := .seq (ys.eraseIdxIfInBounds (ys.size - 1)) ep' } := by
       rw [← e']; exact Heap.get?_update_self _ g (by rw [e']; rfl)
      have er : (ys.eraseIdxIfInBounds (ys.size - 1)).toList = t.reverse := by
       have hlt : ys.size - 1 < ys.size := by omega
       rw [Array.eraseIdxIfInBounds, dif_pos hlt, Array.toList_eraseIdx, eys, sz]
       simp [List.eraseIdx_append_of_length_le]
      exact ⟨x, _, M, e.symm, (C.put (tk := s.toks) (o' := .list rr.reverse) (nth_lt hn) (.inl rfl) g (.inl rfl) (Heap.SameBut.update ..) ⟨_, g'⟩ ⟨_, ep', g', by rw [er]; exact (VRs.reverse ht).offL g rfl (Heap.SameBut.update ..), by rw [exs] at hz; simp at hz ⊢; exact Nat.le_succ_of_le ‹_›, hd⟩), by rw [put_len]; exact hu.offList g (.inl rfl) (Heap.SameBut.update ..)⟩
    · exact absurd e.symm hb
  · exact absurd e.symm hb
theorem get_end (C : SitC w base A d l M H s) {a : Option AV} {b : Option Value} {dv : AV} {u : Value} {tk : Nat} (y : Says s.heap M H.length a b) (e : R.ok (a.getD dv) H = r) (hd : VR s.heap M H.length dv u) : CallQ w base M H s r (b.getD u) { s with toks := tk } := by
 cases y with
 | yes h => exact CallQ.here C e.symm h
 | no => exact CallQ.here C e.symm hd
theorem get_sound (B : BaseOk w base K) (C : SitC w base A d l M H s) {i : Nat} {vs : List AV} {us : List Value} (e : mthV .get (.obj i) vs H = r) (hb : r ≠ .bad) (hv : VRs s.heap M H.length vs us) {E : Value → Shared → Prop} :
 wpAny (model PW w) A (call (.builtin "dict.get") ([.ref (M.a i)] ++ us)) (CallQ w base M H s r) E s := by
 induction vs using List.casesOn with
 | nil => exact absurd e.symm hb
 | cons k t => induction t using List.casesOn with
 | nil =>
  unfold mthV at e
  dsimp only at e
  refine ob12 hv.one fun u q1_ hu => ?_; subst q1_
  split at e
  · rename_i es hn
    split at e
    · rename_i st
      obtain ⟨_, t, rfl⟩ := hu
      obtain ⟨f, hm, dl, _, _, y⟩ := C.rel.obj _ _ hn
      have sm := C.rel.fresh_ne _ (nth_lt hn) B.sysm.choose_spec
      refine call_meetsIn F.slot_dict_get hm.mapOf.typeIs F.entry_dict_get (F.args_dict_get_2 _ _) (meets_dict_get (strKind PW w) (M.a i) (strKind_is _ _ _ t) sm) ⟨_, hm.mapOf, ?_⟩
      exact get_end C (dv := .none) (u := .none) (y st) e rfl
    · exact absurd e.symm hb
  · exact absurd e.symm hb
 | cons dv t => induction t using List.casesOn with
 | cons _ _ => exact absurd e.symm hb
 | nil =>
  unfold mthV at e
  dsimp only at e
  refine ob23 hv.two fun u ud q2_ hu hd => ?_; subst q2_
  split at e
  · rename_i es hn
    split at e
    · rename_i st
      obtain ⟨_, t, rfl⟩ := hu
      obtain ⟨f, hm, dl, _, _, y⟩ := C.rel.obj _ _ hn
      have sm := C.rel.fresh_ne _ (nth_lt hn) B.sysm.choose_spec
      refine call_meetsIn F.slot_dict_get hm.mapOf.typeIs F.entry_dict_get (F.args_dict_get_3 _ _ _) (meets_dict_get_default (strKind PW w) (M.a i) (strKind_is _ _ _ t) sm ud) ⟨_, hm.mapOf, ?_⟩
      exact get_end C (y st) e hd
    · exact absurd e.symm hb
  · exact absurd e.symm hb
inductive RstV (y : List Nat) : List Nat → List AV → Prop
 | mk (c : Nat) : Nat.beq c 32 = false → y = [c] → RstV y [c] [.str [32]]
theorem rstV {s y : List Nat} {l : List AV} (q : rstripV s l = some y) : RstV y s l := by
 induction s using List.casesOn with
 | nil => contradiction
 | cons c s => induction s using List.casesOn with
  | cons _ _ => contradiction
  | nil => induction l using List.casesOn with
   | nil => contradiction
   | cons v l => induction l using List.casesOn with
    | cons _ _ => induction v using AV.casesOn with
     | str t => induction t using List.casesOn with
      | nil => contradiction
      | cons _ t => induction t using List.casesOn <;> contradiction
     | _ => contradiction
    | nil => induction v using AV.casesOn with
     | str t => induction t using List.casesOn with
      | nil => contradiction
      | cons e t => induction t using List.casesOn with
       | cons _ _ => contradiction
       | nil =>
        have q : (match Nat.beq e 32, Nat.beq c 32 with | true, false => some [c] | _, _ => none) = some y := q
        induction q1 : Nat.beq e 32 using Bool.casesOn with
        | false => rw [q1] at q; contradiction
        | true => induction q2 : Nat.beq c 32 using Bool.casesOn with
         | true => rw [q1, q2] at q; contradiction
         | false =>
          rw [q1, q2] at q; injection q with qq
          obtain rfl := Nat.eq_of_beq_eq_true q1
          exact .mk c q2 qq.symm
     | _ => contradiction
theorem rstrip_sound (C : SitC w base A d l M H s) {x : List Nat} {t : Tok} {vs : List AV} {us : List Value} (hx : x.length ≤ 1000) (e : mthV .rstrip (.str x) vs H = r) (hb : r ≠ .bad) (hv : VRs s.heap M H.length vs us) {E : Value → Shared → Prop} :
 wpAny (model PW w) A (call (.builtin "str.rstrip") ([.str (strOf x) t] ++ us)) (CallQ w base M H s r) E s := by
 have e : (match rstripV x vs with | some s => R.ok (AV.str s) H | none => .bad) = r := e
 induction q : rstripV x vs using Option.casesOn with
 | none => rw [q] at e; exact absurd e.symm hb
 | some y =>
  rw [q] at e
  have e2 : R.ok (AV.str y) H = r := e
  obtain ⟨c, q2, qq⟩ := rstV q
  · · subst qq
      obtain ⟨u, rfl, _, tu, rfl⟩ := hv.one
      have same : stripSame (strOf [32]).cps.contains false true (strOf [c]) = true := by
       simp [stripSame, stripLo, stripHi, strOf, Str.length, (Nat.ne_of_beq_eq_false q2)]
      have G := gives_str_rstrip_chars (strOf [c]) (strOf [32]) t tu
      rw [if_pos same] at G
      refine call_gives (rest := [.str (strOf [32]) tu]) F.slot_str_rstrip (typeIs_str _ _ _) F.entry_str_rstrip (F.args_str_rstrip_2 _ _) G ?_
      exact CallQ.here C (tk := s.toks) (v := .str [c]) e2.symm ⟨hx, t, rfl⟩
theorem getM_dict {i : Nat} {es : List (AV × AV)} (C : SitC w base A d l M H s) (hn : nth H i = some (.dict es)) {pl : Sem Bool} {Q : Value × List Value → Shared → Prop} {E : Value → Shared → Prop} (q : Q (.builtin "dict.get", [.ref (M.a i)]) s) :
 wpAny (model PW w) A (getMethod (.ref (M.a i)) "get" pl) Q E s := by
 obtain ⟨f, hm, _⟩ := C.rel.obj _ _ hn
 obtain ⟨o, es', ep, g, ⟨h1, h2, _⟩, _⟩ := hm
 exact getMethod_builtin (T := "dict") ⟨o, g, h1⟩ F.plainAttrs_dict F.slot_dict_get F.type_dict_get (fun a e => by injection e with e; subst e; exact ⟨o, g, h2⟩) q
theorem getM_pop {x : Addr} {xs : Array Value} {ep : Nat} (g : s.heap.get? x = some { cls := .type "list", data := .seq xs ep }) {pl : Sem Bool} {Q : Value × List Value → Shared → Prop} {E : Value → Shared → Prop} (q : Q (.builtin "list.pop", [.ref x]) s) :
 wpAny (model PW w) A (getMethod (.ref x) "pop" pl) Q E s :=
 getMethod_builtin (T := "list") ⟨_, g, rfl⟩ F.plainAttrs_list F.slot_list_pop F.type_list_pop (fun a e => by injection e with e; subst e; exact ⟨_, g, rfl⟩) q
theorem getM_append {x : Addr} {xs : Array Value} {ep : Nat} (g : s.heap.get? x = some { cls := .type "list", data := .seq xs ep }) {pl : Sem Bool} {Q : Value × List Value → Shared → Prop} {E : Value → Shared → Prop} (q : Q (.builtin "list.append", [.ref x]) s) :
 wpAny (model PW w) A (getMethod (.ref x) "append" pl) Q E s := Calls.getMethod_list_append g rfl rfl q
theorem getM_rstrip {x : Str} {t : Tok} {pl : Sem Bool} {Q : Value × List Value → Shared → Prop} {E : Value → Shared → Prop} (q : Q (.builtin "str.rstrip", [.str x t]) s) :
 wpAny (model PW w) A (getMethod (.str x t) "rstrip" pl) Q E s :=
 getMethod_builtin (T := "str") (typeIs_str _ _ _) F.plainAttrs_str F.slot_str_rstrip F.type_str_rstrip (fun a e => by contradiction) q
theorem Snd.mthS (B : BaseOk w base K) (BF : BaseF w base K) (S : Snd w base K n) {e : E} {a : Nat} {es : List E} {pa p : Pos} (hr : Mine.ev tb (n + 1) d fr H (.mth e a es pa p) = r) (hb : r ≠ .bad) (hw : wfE z (.mth e a es pa p) = true) (T : Sit w base A d l z env fr M H s) :
 wpAny (model PW w) A (eval (E.py nm (.mth e a es pa p)) env) (EvQ w base M H s r) (ExcP w base M H s r) s := by
 dsimp only [Mine.ev] at hr
 have hw' : ((wfE z e && noCall e) && ((Nat.blt a 202 && !badAt a) && (wfEs z es && (Nat.beq pa.endLine p.line && Nat.blt es.length 20)))) = true := hw
 have w4 := and1 (and2 (and2 hw'))
 obtain ⟨h200, hbad⟩ := attrOk (and1 (and2 hw'))
 refine mth_rule (and2 (and1 hw')) w4 (and1 (and2 (and2 (and2 hw')))) (and2 (and2 (and2 (and2 hw')))) (S.evB hr hb (and1 (and1 hw')) T T.refl fun x H₁ M₁ u s₁ hr₁ g₁ hu => ?_)
 have T₁ := T.go g₁
 have fin : ∀ {k : MK} {xv : AV} (id : String) (first : Value), VR s₁.heap M₁ H₁.length xv first → ((Mine.evs tb n d fr H₁ es).bind fun vs H => mthV k xv vs H) = r →
  (∀ {M₂ : Mp} {H₂ : AH} {s₂ : Shared} {vs : List AV} {us : List Value}, Go w base M₁ H₁ s₁ M₂ H₂ s₂ → SitC w base A d l M₂ H₂ s₂ → mthV k xv vs H₂ = r → VRs s₂.heap M₂ H₂.length vs us → wpAny (model PW w) A (call (.builtin id) ([first] ++ us)) (CallQ w base M₂ H₂ s₂ r) (ExcP w base M H s r) s₂) →
  wpAny (model PW w) A (spliced (backTo p (starEach (E.pys nm es) env))) (fun us s₂ => KeepP (model PW w) (.builtin id) s₂.heap ∧ wpAny (model PW w) A (call (.builtin id) ([first] ++ us)) (EvQ w base M H s r) (ExcP w base M H s r) s₂) (ExcP w base M H s r) s₁ := by
  intro k xv id first hx hr₂ sound
  refine S.evsB hr₂ hb w4 T₁ g₁ fun vs H₂ M₂ us s₂ hr₃ g₂ hvs => ⟨keepB id, ?_⟩
  exact wpAny_mono (sound g₂ (T₁.go g₂).c hr₃ hvs) (fun _ _ q => EvQ.from (g₁.trans g₂) q) fun _ _ h => h
 induction x using AV.casesOn with
 | obj i =>
  obtain ⟨hi, rfl⟩ := hu
  dsimp only at hr₁
  split at hr₁
  · rename_i c at_ hn
    split at hr₁
    · rename_i f hl hm
      refine ob21 (T₁.inst (K := K) hn) fun xs ep O => ?_
      refine ob03 (B.cls c O.cls) fun p1 p2 _ => ?_
      have hat := B.attr c a O.cls h200 hbad
      rw [hm] at hat
      refine ob03 (B.meth c a f hm) fun m1 m2 m3 => ?_
      refine ⟨.ref f, [.ref (M₁.a i)], fun pl Q' q => method_fn (T₁.kin B) O.inst (plainGet_of p1).1 (plainGet_of p1).2 hat m1 (by show (lookIn _ _).map _ = _; rw [lookIn_ns O.keys, (O.has a h200).mis hl]; rfl) q, ?_⟩
      refine S.evsB hr₁ hb w4 T₁ g₁ fun vs H₂ M₂ us s₂ hr₂ g₂ hvs => ?_
      have hf : VR s₂.heap M₂ H₂.length (.fn f) (.ref f) := rfl
      have hx : VR s₂.heap M₂ H₂.length (.obj i) (.ref (M₁.a i)) := g₂.vr (show VR s₁.heap M₁ H₁.length (.obj i) (.ref (M₁.a i)) from ⟨hi, rfl⟩)
      refine ⟨keeper BF ((T₁.go g₂).kin B) (hr₂ ▸ hb) hf, ?_⟩
      exact wpAny_mono (S.callF hr₂ hb (T₁.go g₂).c hf ⟨_, _, rfl, hx, hvs⟩) (fun _ _ q => EvQ.from (g₁.trans g₂) q) fun _ _ q => ExcP.from (g₁.trans g₂) q
    · exact absurd hr₁.symm hb
  · rename_i o hne hn
    split at hr₁
    · rename_i k hk
      split at hr₁
      · rename_i hok
        induction k using MK.casesOn with
        | append =>
         have gg : ∃ xs ep, s₁.heap.get? (M₁.a i) = some { cls := .type "list", data := .seq xs ep } := by
          induction o using AO.casesOn with
          | list l => obtain ⟨ys, ep, g, _⟩ := T₁.rel.obj _ _ hn; exact ⟨ys, ep, g⟩
          | junk b => obtain ⟨ys, ep, g, _⟩ := T₁.rel.obj _ _ hn; exact ⟨ys, ep, g⟩
          | _ => contradiction
         refine ob21 gg fun xs ep g => ?_
         refine ⟨.builtin "list.append", [.ref (M₁.a i)], fun pl Q' q => by rw [(kind_is hk)]; exact getM_append g q, ?_⟩
         refine fin "list.append" (.ref (M₁.a i)) (show VR _ _ _ (.obj i) _ from ⟨hi, rfl⟩) hr₁ fun g₂ C₂ e hv => ?_
         rw [← (g₂.ext i hi).1]
         exact append_sound B C₂ e hb hv
        | pop =>
         have gg : ∃ xs ep, s₁.heap.get? (M₁.a i) = some { cls := .type "list", data := .seq xs ep } := by
          induction o using AO.casesOn with
          | list l => obtain ⟨ys, ep, g, _⟩ := T₁.rel.obj _ _ hn; exact ⟨ys, ep, g⟩
          | _ => contradiction
         refine ob21 gg fun xs ep g => ?_
         refine ⟨.builtin "list.pop", [.ref (M₁.a i)], fun pl Q' q => by rw [(kind_is hk)]; exact getM_pop g q, ?_⟩
         refine fin "list.pop" (.ref (M₁.a i)) (show VR _ _ _ (.obj i) _ from ⟨hi, rfl⟩) hr₁ fun g₂ C₂ e hv => ?_
         rw [← (g₂.ext i hi).1]
         exact pop_sound B C₂ e hb hv
        | get =>
         induction o using AO.casesOn with
         | dict es' =>
          refine ⟨.builtin "dict.get", [.ref (M₁.a i)], fun pl Q' q => by rw [(kind_is hk)]; exact getM_dict T₁.c hn q, ?_⟩
          refine fin "dict.get" (.ref (M₁.a i)) (show VR _ _ _ (.obj i) _ from ⟨hi, rfl⟩) hr₁ fun g₂ C₂ e hv => ?_
          rw [← (g₂.ext i hi).1]
          exact get_sound B C₂ e hb hv
         | _ => contradiction
        | rstrip => contradiction <;> contradiction
      · exact absurd hr₁.symm hb
    · exact absurd hr₁.symm hb
  · exact absurd hr₁.symm hb
 | str x =>
  obtain ⟨hx, t, rfl⟩ := hu
  induction hk : tb.kind a using Option.casesOn with
  | none => simp only [hk] at hr₁; exact absurd hr₁.symm hb
  | some k =>
   induction k using MK.casesOn with
   | rstrip =>
    simp only [hk] at hr₁
    refine ⟨.builtin "str.rstrip", [.str (strOf x) t], fun pl Q' q => by rw [(kind_is hk)]; exact getM_rstrip q, ?_⟩
    exact fin "str.rstrip" (.str (strOf x) t) (show VR _ _ _ (.str x) _ from ⟨hx, t, rfl⟩) hr₁ fun g₂ C₂ e hv => rstrip_sound C₂ hx e hb hv
   | _ => simp only [hk] at hr₁; exact absurd hr₁.symm hb
 | _ => exact absurd hr₁.symm hb
theorem Snd.evo1 (S : Snd w base K n) {o : Option E} (hr : Mine.evo tb (n + 1) d fr H o = r) (hb : r ≠ .bad) (hw : wfEo z o = true) (T : Sit w base A d l z env fr M H s) :
 wpAny (model PW w) A (evalPart (E.pyo nm o) env) (EvQ w base M H s r) (ExcP w base M H s r) s := by
 induction o using Option.casesOn with
 | none => skip; exact wpAny_pure (EvQ.here (v := .none) T hr.symm rfl)
 | some e => skip; exact S.ev hr hb hw T
theorem natOf_part {h : Heap} {m : Nat} {v : AV} {u : Value} {k : Option Nat} (e : natOf v = some k) (hu : VR h M m v u) : IsPart u (k.map Int.ofNat) ∧ (∀ j, k = some j → ∃ t, u = .int (j : Int) t) ∧ (k = none → u = .none) := by
 unfold natOf at e
 split at e
 · obtain ⟨t, rfl⟩ := hu
   split at e
   · injection e with e; subst e; exact ⟨.int _ _, fun j q => (by injection q with q; subst q; exact ⟨t, rfl⟩), nofun⟩
   · contradiction
 · cases e; cases hu; exact ⟨.none, nofun, fun _ => rfl⟩
 · contradiction
theorem slice0 (lo hi : Option Nat) : Txt.slice (strOf []) (lo.map Int.ofNat) (hi.map Int.ofNat) = strOf (slcL [] lo hi) := by
 have : slcL ([] : List Nat) lo hi = [] := by simp [slcL]
 rw [this]
 have h := Txt.slice_le (strOf []) (lo.map Int.ofNat) (hi.map Int.ofNat)
 have h0 : (strOf []).length = 0 := rfl
 rw [h0] at h
 have : (Txt.slice (strOf []) (lo.map Int.ofNat) (hi.map Int.ofNat)).cps = #[] := by
  have : (Txt.slice (strOf []) (lo.map Int.ofNat) (hi.map Int.ofNat)).cps.size = 0 := Nat.le_zero.mp h
  exact Array.eq_empty_of_size_eq_zero this
 cases q : Txt.slice (strOf []) (lo.map Int.ofNat) (hi.map Int.ofNat) with
 | mk c => rw [q] at this; skip; subst this; rfl
theorem slice1 (c : Nat) (lo hi : Option Nat) : Txt.slice (strOf [c]) (lo.map Int.ofNat) (hi.map Int.ofNat) = strOf (slcL [c] lo hi) := by
 have hl : (strOf [c]).length = 1 := rfl
 have h1 : (1 : Int) > 0 := by decide
 have key : ∀ a b : Nat, a ≤ 1 → b ≤ 1 → (if ((1 : Int) == 1 && (sliceRange (a : Int) (b : Int) 1).length == 1) = true then strOf [c] else ⟨((sliceRange (a : Int) (b : Int) 1).filterMap ((strOf [c]).cps[·]?)).toArray⟩) = strOf (slcL [c] (some a) (some b)) := by
  intro a b ha hb
  have ha : a = 0 ∨ a = 1 := by omega
  have hb : b = 0 ∨ b = 1 := by omega
  rcases ha with rfl | rfl <;> rcases hb with rfl | rfl <;> rfl
 unfold Txt.slice Builtin.Str.strSliceIndices
 rw [hl]
 simp only [if_pos h1]
 induction lo using Option.casesOn with
 | none =>
  induction hi using Option.casesOn with
  | none => exact key 0 1 (by decide) (by decide)
  | some b =>
   simp only [Option.map_some, Option.map_none, Int.ofNat_eq_natCast]
   have e : max (0 : Int) (min (if (b : Int) < 0 then (b : Int) + ((1 : Nat) : Int) else (b : Int)) ((1 : Nat) : Int)) = ((if b = 0 then 0 else 1 : Nat) : Int) := by
    split <;> split <;> omega
   rw [e]
   refine (key 0 (if b = 0 then 0 else 1) (by decide) (by split <;> decide)).trans ?_
   cases b <;> simp [slcL]
 | some a =>
  have ea : max (0 : Int) (min (if (a : Int) < 0 then (a : Int) + ((1 : Nat) : Int) else (a : Int)) ((1 : Nat) : Int)) = ((if a = 0 then 0 else 1 : Nat) : Int) := by
   split <;> split <;> omega
  induction hi using Option.casesOn with
  | none =>
   simp only [Option.map_some, Option.map_none, Int.ofNat_eq_natCast]
   rw [ea]
   refine (key (if a = 0 then 0 else 1) 1 (by split <;> decide) (by decide)).trans ?_
   cases a <;> simp [slcL]
  | some b =>
   simp only [Option.map_some, Int.ofNat_eq_natCast]
   have e : max (0 : Int) (min (if (b : Int) < 0 then (b : Int) + ((1 : Nat) : Int) else (b : Int)) ((1 : Nat) : Int)) = ((if b = 0 then 0 else 1 : Nat) : Int) := by
    split <;> split <;> omega
   rw [e, ea]
   refine (key (if a = 0 then 0 else 1) (if b = 0 then 0 else 1) (by split <;> decide) (by split <;> decide)).trans ?_
   cases a <;> cases b <;> simp [slcL]
theorem idxTailO {value slice : Expr} {o i : Value} {T id : String} {ops : List Value} {Q E : Value → Shared → Prop} (hT : s.TypeIs o T)
 (hl : typeLookup (.type T) "__getitem__" = pure (some (.builtin id))) (hs : subscripted slice false o i = operate ops (getItem o i)) (h : wpAny (model PW w) A (getItem o i) Q E s) :
 wpAny (model PW w) A (subscriptTail value slice o i) Q E s := by
 unfold subscriptTail
 refine wpAny_bind ?_
 rw [getitemInPython_of_ne hT.not_modules]
 refine wpAny_bind (wpAny_specialOf hT hl ?_)
 have fin : wpAny (model PW w) A (subscripted slice false o i) (fun r s₃ => wpAny (model PW w) A (letTemporaryGo value o r >>= fun _ => pure r) Q E s₃) E s := by
  rw [hs]
  exact wpAny_operating (wpAny_mono h (fun r s₃ h₃ => wpAny_bind (wpAny_letTemporaryGo (wpAny_pure h₃))) fun _ _ x => x)
 first
  | exact wpAny_pure (wpAny_bind fin)
  | exact wpAny_bind (wpAny_pure (wpAny_bind fin))
  | exact wpAny_bind fin
theorem Snd.evoB {α : Type} (S : Snd w base K n) {fr : Fr} {e : Option E} {f : AV → AH → R α} {r : R α} (hr : (Mine.evo tb n d fr H e).bind f = r) (hb : r ≠ .bad) (hw : wfEo z e = true) (T : Sit w base A d l z env fr M H s)
 {M₀ : Mp} {H₀ : AH} {s₀ : Shared} (g : Go w base M₀ H₀ s₀ M H s) {Q : Value → Shared → Prop}
 (k : ∀ av H' M' v s', f av H' = r → Go w base M H s M' H' s' → VR s'.heap M' H'.length av v → Q v s') :
 wpAny (model PW w) A (evalPart (E.pyo nm e) env) Q (ExcP w base M₀ H₀ s₀ r) s :=
 wpAny_mono (S.evo rfl (bind_bad hr hb) hw T) (fun v s' ⟨av, H', M', h1, h2, h3⟩ => k av H' M' v s' (bind_ok hr h1) h2 h3) fun v s' q => q.pass hr g
theorem slc_len {α : Type} (l : List α) (lo hi : Option Nat) : (slcL l lo hi).length ≤ l.length := by
 unfold slcL; simp; omega
theorem VRs.slc {h : Heap} {m : Nat} : ∀ {l : List AV} {vs : List Value}, VRs h M m l vs → (∀ k, VRs h M m (l.take k) (vs.take k)) ∧ ∀ k, VRs h M m (l.drop k) (vs.drop k)
 | [], _, x => by subst x; exact ⟨fun k => by rw [List.take_nil, List.take_nil]; rfl, fun k => by rw [List.drop_nil, List.drop_nil]; rfl⟩
 | a :: l, _, ⟨v, t, e, hv, hr⟩ => by
  subst e
  refine ⟨fun k => ?_, fun k => ?_⟩
  · induction k using Nat.casesAuxOn with
    | zero => rfl
    | succ k => exact ⟨v, _, rfl, hv, (VRs.slc hr).1 k⟩
  · induction k using Nat.casesAuxOn with
    | zero => exact ⟨v, t, rfl, hv, hr⟩
    | succ k => exact (VRs.slc hr).2 k
theorem Snd.slcS (B : BaseOk w base K) (S : Snd w base K n) {e : E} {lo hi : Option E} {ps p : Pos} (hr : Mine.ev tb (n + 1) d fr H (.slc e lo hi ps p) = r) (hb : r ≠ .bad) (hw : wfE z (.slc e lo hi ps p) = true) (T : Sit w base A d l z env fr M H s) :
 wpAny (model PW w) A (eval (E.py nm (.slc e lo hi ps p)) env) (EvQ w base M H s r) (ExcP w base M H s r) s := by
 dsimp only [Mine.ev] at hr
 skip
 refine Subscript_ (S.evB hr hb (and1 hw) T T.refl fun x H₁ M₁ u s₁ hr₁ g₁ hu => ?_)
 have T₁ := T.go g₁
 refine wpAny_Slice (S.evoB hr₁ hb (and1 (and2 hw)) T₁ g₁ fun a H₂ M₂ ua s₂ hr₂ g₂ ha => ?_)
 refine S.evoB hr₂ hb (and2 (and2 hw)) (T₁.go g₂) (g₁.trans g₂) fun b H₃ M₃ ub s₃ hr₃ g₃ hbv => ?_
 have T₃ := (T₁.go g₂).go g₃
 replace ha := g₃.vr ha
 replace hu := g₃.vr (g₂.vr hu)
 rw [evalPart_none]
 refine wpAny_pure ?_
 have hs : ∀ o i, subscripted (.Slice (E.pyo nm lo) (E.pyo nm hi) none ps) false o i = operate [i, o] (getItem o i) := fun o i => rfl
 induction qa : natOf a using Option.casesOn with
 | none => simp only [qa] at hr₃; exact absurd hr₃.symm hb
 | some la =>
  induction qb : natOf b using Option.casesOn with
  | none => simp only [qa, qb] at hr₃; exact absurd hr₃.symm hb
  | some lb =>
   simp only [qa, qb] at hr₃
   refine ob03 (natOf_part qa ha) fun pa a1 a2 => ?_
   refine ob03 (natOf_part qb hbv) fun pb b1 b2 => ?_
   have G := (g₁.trans g₂).trans g₃
   induction x using AV.casesOn with
   | str xs =>
    obtain ⟨hl, t, rfl⟩ := hu
    dsimp only at hr₃
    induction q : Nat.ble xs.length 1 using Bool.casesOn with
    | false => rw [q] at hr₃; exact absurd hr₃.symm hb
    | true =>
     rw [q] at hr₃
     have hx : Txt.slice (strOf xs) (la.map Int.ofNat) (lb.map Int.ofNat) = strOf (slcL xs la lb) := by
      have q := Nat.le_of_ble_eq_true q
      rcases xs with _ | ⟨c, _ | ⟨c2, xs⟩⟩
      · exact slice0 la lb
      · exact slice1 c la lb
      · simp at q
     have fin : ∀ h' t' k, (∀ b o, s₃.heap.get? b = some o → h'.get? b = some o) → EvQ w base M H s r (.str (Txt.slice (strOf xs) (la.map Int.ofNat) (lb.map Int.ofNat)) t') { s₃ with heap := h', toks := k } := fun h' t' k hk => by
      rw [hx]
      exact ⟨_, H₃, M₃, hr₃.symm, G.trans (T₃.grow (s' := { s₃ with heap := h', toks := k }) hk ⟨rfl, rfl, rfl⟩), Nat.le_trans (slc_len xs la lb) hl, t', rfl⟩
     have kept : KeptH fun h' => ∀ b o, s₃.heap.get? b = some o → h'.get? b = some o := fun h ob hp b o e => Heap.get?_push_of_some _ (hp b o e)
     have szl : (strOf xs).length ≤ sizeLine := by
      have : (strOf xs).length = xs.length := by rfl
      rw [sizeLine_eq]; exact Nat.le_trans ‹_› (by decide)
     induction la using Option.casesOn with
     | none =>
      obtain rfl := a2 rfl
      induction lb using Option.casesOn with
      | none =>
       obtain rfl := b2 rfl
       obtain ⟨T', id, hlk, hT, hg⟩ := SBH.sliceItem_nn (prog := PW) (w := w) (A := A) (E := ExcP w base M H s r) kept (s := s₃) (fun _ _ e => e) fin szl
       exact idxTailO hT hlk (hs _ _) hg
      | some j =>
       obtain ⟨tj, rfl⟩ := b1 j rfl
       obtain ⟨T', id, hlk, hT, hg⟩ := SBH.sliceItem_ns (prog := PW) (w := w) (A := A) (E := ExcP w base M H s r) (uj := tj) kept (s := s₃) (fun _ _ e => e) fin szl
       exact idxTailO hT hlk (hs _ _) hg
     | some i =>
      obtain ⟨ti, rfl⟩ := a1 i rfl
      induction lb using Option.casesOn with
      | none =>
       obtain rfl := b2 rfl
       obtain ⟨T', id, hlk, hT, hg⟩ := SBH.sliceItem_sn (prog := PW) (w := w) (A := A) (E := ExcP w base M H s r) (ui := ti) kept (s := s₃) (fun _ _ e => e) fin szl
       exact idxTailO hT hlk (hs _ _) hg
      | some j =>
       obtain ⟨tj, rfl⟩ := b1 j rfl
       obtain ⟨T', id, hlk, hT, hg⟩ := SBH.sliceItem_ss (prog := PW) (w := w) (A := A) (E := ExcP w base M H s r) (ui := ti) (uj := tj) kept (s := s₃) (fun _ _ e => e) fin szl
       exact idxTailO hT hlk (hs _ _) hg
   | obj i =>
    obtain ⟨hi', rfl⟩ := hu
    dsimp only at hr₃
    split at hr₃
    · rename_i xs hn
      induction q : oneSide la lb using Bool.casesOn with
      | false => rw [q] at hr₃; exact absurd hr₃.symm hb
      | true =>
       rw [q] at hr₃
       obtain ⟨ao, hao, hn⟩ : ∃ ao, nth H₃ i = some ao ∧ lstAt (some ao) = some xs := by
        induction q : nth H₃ i using Option.casesOn with
        | none => rw [q] at hn; contradiction
        | some ao => rw [q] at hn; exact ⟨ao, rfl, hn⟩
       refine ob23 ((T₃.rel.obj _ _ hao).lst hn) fun ys ep g hvs hz => ?_
       have ln : ys.size = xs.length := by have := hvs.len; simpa using this
       have hl : s₃.heap.IsList (M₃.a i) ys := ⟨_, g, rfl, ep, rfl⟩
       have pick : VRs s₃.heap M₃ H₃.length (slcL xs la lb) (slicePick ys (la.map Int.ofNat) (lb.map Int.ofNat) none).toList := by
        induction la using Option.casesOn with
        | none => induction lb using Option.casesOn with
         | none => contradiction
         | some b =>
          show VRs _ _ _ (slcL xs none (some b)) (slicePick ys none (some (b : Int)) none).toList
          rw [slicePick_upto']
          simpa [slcL] using (hvs.slc.1 b)
        | some a => induction lb using Option.casesOn with
         | some b => contradiction
         | none =>
          show VRs _ _ _ (slcL xs (some a) none) (slicePick ys (some (a : Int)) none none).toList
          rw [slicePick_from']
          simpa [slcL] using (hvs.slc.2 a)
       have k0 : ∀ b o, s₃.heap.get? b = some o → (s₃.heap.push { cls := .type "slice", data := .fields #[ua, ub, .none] }).get? b = some o := fun b o e => Heap.get?_push_of_some _ e
       refine idxTailO (s := { s₃ with heap := s₃.heap.push { cls := .type "slice", data := .fields #[ua, ub, .none] } }) (Heap.IsList.typeIs (s := { s₃ with heap := s₃.heap.push { cls := .type "slice", data := .fields #[ua, ub, .none] } }) (hl.push _)) list_getitem_lookup (hs _ _)
        (wpAny_getItem_list_slice (hl.push _) (Heap.IsSliceOf.new ..) pa pb .none (by trivial) ?_ (by rw [sizeLine_eq]; omega))
       have g₄ := T₃.grow (s' := { s₃ with heap := s₃.heap.push { cls := .type "slice", data := .fields #[ua, ub, .none] } }) k0 ⟨rfl, rfl, rfl⟩
       have e1 := (T₃.go g₄).push1 (OR.list (g₄.vrs pick) (Nat.le_trans (slc_len xs la lb) hz))
       rw [Array.toArray_toList] at e1
       exact ⟨_, _, _, hr₃.symm, (G.trans g₄).trans e1, VR.new⟩
    · exact absurd hr₃.symm hb
   | _ => exact absurd hr₃.symm hb
theorem VRs.rep {h : Heap} {m : Nat} {v : AV} {u : Value} (x : VR h M m v u) : ∀ k, VRs h M m (List.replicate k v) (List.replicate k u)
 | 0 => rfl
 | k + 1 => ⟨u, _, rfl, x, VRs.rep x k⟩
theorem joined_one (u : Value) : ∀ (k : Nat) (acc : Array Value), (List.foldl (fun x1 x2 => x1 ++ x2) acc (List.replicate k #[u])).toList = acc.toList ++ List.replicate k u
 | 0, acc => by simp
 | k + 1, acc => by
  rw [List.replicate_succ, List.foldl_cons, joined_one u k, List.replicate_succ]
  simp
theorem mul_plain {la : Addr} {items : Array Value} {ep : Nat} {x : Int} {u : Tok} {Q E : Value → Shared → Prop} (hl : s.heap.get? la = some { cls := .type "list", data := .seq items ep })
 (hlo : -(2 ^ 63 : Int) ≤ x) (hhi : x < 2 ^ 63) (hsz : items.size * x.toNat ≤ 2 ^ 24)
 (h : Q (.ref s.heap.objs.size) { s with heap := s.heap.push { cls := .type "list", data := .seq (List.foldl (fun x1 x2 => x1 ++ x2) #[] (List.replicate (if items.isEmpty = true then 0 else x.toNat) items)) } }) :
 wpAny (model PW w) A (binaryOp .Mult (.ref la) (.int x u)) Q E s :=
 wpAny_binaryOp_repeat_ref (T := "list") (U := "int") (by decide) ⟨_, hl, rfl⟩ (fun s' => typeIs_int s' x u) noFill_list_mul F.fills_int_mul F.slot_int_rmul repeat_list F.slot_int_index.lookup
  (call_meets F.slot_int_rmul (typeIs_int s x u) F.entry_int_rmul (F.args_int_rmul_2 _ _) (int___rmul___int_list x u la items ep)
   ⟨hl, rfl, ⟨_, hl, rfl⟩, call_meets F.slot_list_mul ⟨_, hl, rfl⟩ F.entry_list_mul (F.args_list_mul_2 _ _)
    (AutoListH.list___mul___list_int_3 la items ep x u (by simp [Builtin.List.listFitsIndex]; omega) (by omega) (by simp [Builtin.List.listTooLong, sizeLine]; assumption)) ⟨hl, h⟩⟩)
theorem bop_sound (T : Sit w base A d l z env fr M H s) {op : BOp} {x y : AV} {u v : Value} (hr : bop op x y H = r) (hb : r ≠ .bad) (hx : VR s.heap M H.length x u) (hy : VR s.heap M H.length y v) {E : Value → Shared → Prop} :
 wpAny (model PW w) A (binaryOp op.py u v) (EvQ w base M H s r) E s := by
 unfold bop at hr
 split at hr
 · rename_i i
   split at hr
   · rename_i j
     obtain ⟨t, rfl⟩ := hx
     obtain ⟨t', rfl⟩ := hy; exact bop_int T hr hb
   · exact absurd hr.symm hb
 · rename_i i
   obtain ⟨hi, rfl⟩ := hx
   split at hr
   · rename_i j
     obtain ⟨hj, rfl⟩ := hy
     unfold bopL at hr
     split at hr
     · split at hr
       · rename_i xs ys h1 h2
         refine ob03 (two hr hb) fun q1 q2 hr => ?_
         have q1 := Nat.le_of_ble_eq_true q1
         have q2 := Nat.le_of_ble_eq_true q2
         obtain ⟨us, e1, g1, v1, z1, _⟩ := T.rel.obj _ _ h1
         obtain ⟨vs, e2, g2, v2, z2, _⟩ := T.rel.obj _ _ h2
         have l1 : us.size = xs.length := by have := v1.len; simpa using this
         have l2 : vs.size = ys.length := by have := v2.len; simpa using this
         have := T.push1 (OR.list (w := w) (VRs.append v1 v2) (by simp; omega))
         rw [show (us.toList ++ vs.toList).toArray = us ++ vs by simp] at this
         exact P.add_list g1 g2 ⟨_, _, _, hr.symm, this, VR.new⟩ (by rw [sizeLine_eq]; omega)
       · exact absurd hr.symm hb
     · exact absurd hr.symm hb
   · rename_i j
     obtain ⟨t', rfl⟩ := hy
     unfold bopM at hr
     split at hr
     · split at hr
       · rename_i k
         split at hr
         · rename_i v h1 h2
           have h2 := Nat.le_of_ble_eq_true h2
           obtain ⟨us, e1, g1, v1, z1, _⟩ := T.rel.obj _ _ h1
           refine ob12 v1.one fun u eu hu => ?_
           obtain rfl : us = #[u] := by rw [← Array.toArray_toList (xs := us), eu]
           have hk : (Int.ofNat k).toNat = k := rfl
           have hk2 : (Int.ofNat k) = (k : Int) := rfl
           refine mul_plain g1 (by rw [hk2]; exact Int.natCast_nonneg _) (by rw [hk2]; omega) (by rw [hk]; show 1 * k ≤ _; omega) ?_
           have := T.push1 (OR.list (w := w) (VRs.rep hu k) (by simp; omega))
           have e : (List.foldl (fun x1 x2 => x1 ++ x2) #[] (List.replicate (if (#[u] : Array Value).isEmpty = true then 0 else (Int.ofNat k).toNat) #[u])) = (List.replicate k u).toArray := by
            rw [if_neg (by simp), hk]
            apply Array.toList_inj.mp
            rw [joined_one]; simp
           rw [← e] at this
           exact ⟨_, _, _, hr.symm, this, VR.new⟩
         · exact absurd hr.symm hb
       · exact absurd hr.symm hb
     · exact absurd hr.symm hb
   · exact absurd hr.symm hb
 · exact absurd hr.symm hb
theorem Snd.binS (S : Snd w base K n) {op : BOp} {a b : E} {p : Pos} (hr : Mine.ev tb (n + 1) d fr H (.bin op a b p) = r) (hb : r ≠ .bad) (hw : wfE z (.bin op a b p) = true) (T : Sit w base A d l z env fr M H s) :
 wpAny (model PW w) A (eval (E.py nm (.bin op a b p)) env) (EvQ w base M H s r) (ExcP w base M H s r) s := by
 dsimp only [Mine.ev] at hr
 refine wpAny_BinOp (S.evB hr hb (and1 hw) T T.refl fun x H₁ M₁ u s₁ hr₁ g₁ hu => ?_)
 refine S.evB hr₁ hb (and2 hw) (T.go g₁) g₁ fun y H₂ M₂ v s₂ hr₂ g₂ hv => ?_
 exact wpAny_mono (bop_sound ((T.go g₁).go g₂) hr₂ hb (g₂.vr hu) hv) (fun _ _ q => EvQ.from (g₁.trans g₂) q) fun _ _ h => h
end
abbrev supObj (x : Addr) : Obj := { cls := .type "super", dict := none, data := .fields #[.ref 41, .ref x, .ref 41], slots := #[] }
abbrev wrapObj (x : Addr) : Obj := { cls := .type "method-wrapper", data := .fields #[.builtin "Exception.__init__", .ref x] }
namespace F
theorem typ_exc_init : typeOf (.builtin "Exception.__init__") = pure (.type "wrapper_descriptor") := by show builtinType _ = _; rw [builtinType_eq_fast]; kernel_rfl
theorem slot_wd_get : Slot "wrapper_descriptor" "__get__" "wrapper_descriptor.__get__" := .of (owner := "wrapper_descriptor") (n := "__get__") (by rw [typeLookup_type, builtinLookup_eq_fast]; kernel_rfl) (by decide +kernel) (by decide +kernel) (by decide +kernel) (by first | exact .inl (by decide +kernel) | exact .inr (by decide +kernel)) (by rw [isSubtype_type]; kernel_rfl)
theorem entry_wd_get : entryFor table "wrapper_descriptor.__get__" = some Builtin.«wrapper_descriptor.__get__» := entryFor_of_tree (by kernel_rfl)
theorem args_wd_get (a b c : Value) : argsOk "wrapper_descriptor.__get__" ⟨[a, b, c], []⟩ := by unfold argsOk; kernel_rfl
end F
section
variable {w : World} {A : Around} {E : Value → Shared → Prop} {h : Heap} {g : Array GenState} {d : Drawn} {t : Nat} {os : OsState} {K : Frag}
set_option maxHeartbeats 2000000 in
theorem sup_ga {name : Str} (hn : (name == ("__class__" : Str)) = false) (hf : alongIn K name [.type "Exception", .type "BaseException", .type "object"] = some (some (.builtin "Exception.__init__"))) {so x : Addr} {ox : Obj} {tk : Tok} {Q : Fin → Shared → Prop}
 (hso : h.get? so = some (supObj x)) (hno : Looks (model PW w) h (opaqueClassAbove (.ref 41)) none)
 (hC : Looks (model PW w) h (mroOf (.ref 41)) [.ref 41, .type "Exception", .type "BaseException", .type "object"]) (X : K.In h)
 (hx : h.get? x = some ox) (hxc : ox.cls = .ref 41) (hsub : Looks (model PW w) h (isSubtype (.ref 41) (.type "Exception")) true) (hx41 : x ≠ 41)
 (hq : Q (.done (.ret (.ref h.objs.size))) ⟨h.push (wrapObj x), g, d, t, os⟩) :
 wpAny (model PW w) A (Builtin.«super.__getattribute__» ⟨[.ref so, .str name tk], []⟩) Q E ⟨h, g, d, t, os⟩ := by
 have hlk := F.slot_wd_get.lookup
 have hown : (".".intercalate ("Exception.__init__".cutAt '.').dropLast) = "Exception" := by decide +kernel
 have hTf : (⟨h, g, d, t, os⟩ : Shared).TypeIs (.builtin "Exception.__init__") "wrapper_descriptor" := F.typ_exc_init
 have hne : (Value.ref x == Value.ref 41) = false := by simp [hx41]
 have hdt : (supObj x).data = .fields #[.ref 41, .ref x, .ref 41] := rfl
 have f0 : (#[.ref 41, .ref x, .ref 41] : Array Value)[0]? = some (.ref 41) := rfl
 have f1 : (#[.ref 41, .ref x, .ref 41] : Array Value)[1]? = some (.ref x) := rfl
 have f2 : (#[.ref 41, .ref x, .ref 41] : Array Value)[2]? = some (.ref 41) := rfl
 have hl : (([.ref 41, .type "Exception", .type "BaseException", .type "object"] : List Value).dropWhile (· != .ref 41)).drop 1 = [.type "Exception", .type "BaseException", .type "object"] := by rfl
 unfold Builtin.«super.__getattribute__»
 repeat (first
  | (with_reducible refine wpAny_field hso hdt f0 ?_) | (with_reducible refine wpAny_field hso hdt f1 ?_) | (with_reducible refine wpAny_field hso hdt f2 ?_)
  | (with_reducible refine ks_wpAny_notOpaque hno ?_)
  | (with_reducible refine Looks.at hC ?_; rw [hl])
  | (refine ks_forIn_along X (fun _ _ => rfl) rfl ?_ hf)
  | (with_reducible refine wpAny_of_eq F.typ_exc_init ?_)
  | (with_reducible refine wpAny_call_entry F.slot_wd_get hTf F.entry_wd_get ?_ (F.args_wd_get _ _ _))
  | (with_reducible refine ⟨_, rfl, ?_⟩)
  | (with_reducible refine wpAny_loadPart_at hx ?_; rw [hxc])
  | (rw [hown]; with_reducible refine Looks.at hsub ?_)
  | (with_reducible refine wpAny_newObj_type ?_ (by size_fits))
  | (simp only [hn, hne, Bool.or_false, Bool.false_eq_true, if_false])
  | wp_step
  | dsimp only)
 all_goals exact hq
theorem sup_method {name : Str} (hn : (name == ("__class__" : Str)) = false) (hf : alongIn K name [.type "Exception", .type "BaseException", .type "object"] = some (some (.builtin "Exception.__init__"))) {so x : Addr} {ox : Obj} {pl : Sem Bool} {Q : Value × List Value → Shared → Prop}
 (hso : h.get? so = some (supObj x)) (hno : Looks (model PW w) h (opaqueClassAbove (.ref 41)) none)
 (hC : Looks (model PW w) h (mroOf (.ref 41)) [.ref 41, .type "Exception", .type "BaseException", .type "object"]) (X : K.In h)
 (hx : h.get? x = some ox) (hxc : ox.cls = .ref 41) (hsub : Looks (model PW w) h (isSubtype (.ref 41) (.type "Exception")) true) (hx41 : x ≠ 41)
 (hq : Q (.ref h.objs.size, []) ⟨h.push (wrapObj x), g, d, t + 1, os⟩) :
 wpAny (model PW w) A (getMethod (.ref so) name pl) Q E ⟨h, g, d, t, os⟩ := by
 have hcan := PySem.F.ks_canon_super_ga
 have hT : ∀ t', (⟨h, g, d, t', os⟩ : Shared).TypeIs (.ref so) "super" := fun _ => ⟨_, hso, rfl⟩
 unfold getMethod
 refine wpAny_bind (wpAny_specialOf (hT _) PySem.F.ks_slot_super_ga.lookup ?_)
 show wpAny _ _ (if (Manifest.canonical "super.__getattribute__" != "object.__getattribute__") = true then _ else _) _ _ _
 rw [if_pos hcan]
 unfold getAttr getAttrBy
 refine wpAny_bind (wpAny_bind (wpAny_mkText (wpAny_holding (wpAny_bind (wpAny_typeOf (hT _) (wpAny_bind (wpAny_of_eq PySem.F.ks_slot_super_ga.lookup ?_)))))))
 show wpAny _ _ (getAttrByItsOwn (.ref so) (.str name t) (.type "super") (.builtin "super.__getattribute__") true false) _ _ _
 unfold getAttrByItsOwn hookBefore callGetattribute boundAndCalled
 refine wpAny_bind (wpAny_of_eq (show (if onTheHeap (.type "super") then typeLookup (.type "super") "__getattr__" else pure none) = pure none from rfl) ?_)
 refine wpAny_bind (wpAny_attempt (wpAny_holding ?_))
 show wpAny _ _ (bindSpecial (.builtin "super.__getattribute__") (.ref so) >>= _) _ _ _
 refine wpAny_bind (wpAny_of_eq (PySem.F.ks_slot_super_ga.bind _) ?_)
 refine wpAny_mono (Q := fun v s' => v = .ref h.objs.size ∧ s' = ⟨h.push (wrapObj x), g, d, t + 1, os⟩) (E := fun _ _ => False)
  (wpAny_call_entry PySem.F.ks_slot_super_ga (hT _) PySem.F.ks_entry_super_ga (sup_ga hn hf hso hno hC X hx hxc hsub hx41 ⟨_, rfl, rfl, rfl⟩) (PySem.F.ks_gaArgs_super _ _)) (fun v s' hv => ?_) fun _ _ z => z.elim
 obtain ⟨rfl, rfl⟩ := hv
 exact wpAny_pure (wpAny_pure hq)
theorem wrap_call {b x : Addr} {vs : Array Value} {rest : List Value} {di : Option Addr} {Q : Value → Shared → Prop} {nm q : Str} {N : Addr} {bs : List Value} {hdct : Bool} {sn : List Str} {sub : List Value} {ab : Bool} {col : Option Bool} {dd : Option Addr} {k0 k1 k2 k3 k5 : Option Value}
 (hC : h.get? 41 = some (excClassObj nm q 41 N bs [.type "Exception", .type "BaseException", .type "object"] hdct sn sub ab col dd k0 k1 k2 k3 k5 "Exception.__new__")) (hb : h.get? b = some (wrapObj x)) (hx : h.get? x = some { cls := .ref 41, dict := di, data := .fields vs }) (h0 : ∃ t0, vs[0]? = some t0) (hr : rest.length ≤ 100)
 (hq : ∀ h' t0, h'.get? x = some { cls := .ref 41, dict := di, data := .fields (vs.setIfInBounds 0 t0) } → (∀ y o, y ≠ x → h.get? y = some o → h'.get? y = some o) → Q .none ⟨h', g, d, t, os⟩) :
 wpAny (model PW w) A (call (.ref b) rest) Q E ⟨h, g, d, t, os⟩ := by
 obtain ⟨t0, h0⟩ := h0
 refine wpAny_call (codeAny_of_tree ?_)
 show wpAny _ A.in1 (callAny (.ref b) _) _ _ _
 unfold callAny
 refine wpAny_bind (wpAny_load hb ?_)
 refine wpAny_ite_split (fun _ => ?_) (fun q => absurd (show ((Value.type "method-wrapper" == Value.type "method" || Value.type "method-wrapper" == Value.type "builtin_function_or_method" || Value.type "method-wrapper" == Value.type "method-wrapper") = true) by decide) q)
 show wpAny _ _ (if ((Value.type "method-wrapper") != Value.type "method") = true then (do
  checkBoundCall "Exception.__init__" ⟨.ref x :: rest, []⟩
  again (Code.builtin "Exception.__init__" ⟨.ref x :: rest, []⟩)) else _) _ _ _
 rw [if_pos (by decide)]
 have F := PySem.F.excBase_Exception
 have hcB : (Value.ref 41 :: ([.type "Exception", .type "BaseException", .type "object"] : List Value)).contains (.type "Exception") = true := by decide
 refine wpAny_bind ?_
 unfold checkBoundCall
 simp only [F.initKind, F.initRow]
 have hne : (Manifest.AttrKind.slot != .method && Manifest.AttrKind.slot != .classMethod) = true := by decide
 have hshort := F.noStar
 repeat (first | rw [if_pos hne] | (with_reducible refine wpAny_loadPart_at hx ?_) | (with_reducible refine wpAny_loadPart_at hC ?_) | wp_step)
 refine wpAny_onRaise ?_
 rw [show ∀ (a b : String) (n : Nat), Bind.check ⟨.positional, "*", "Exception", .self, [⟨"args", .varPos, false⟩]⟩ a b n (List.map (fun x => x.fst) ({ pos := Value.ref x :: rest } : Args).kw) = pure () from
  fun a b n => check_star_args _ _ _ _ _ _]
 have hsz : 0 < vs.size := (Array.getElem?_eq_some_iff.mp h0).1
 have hx₁ := Heap.get?_push_of_some (h := h) { cls := .type "tuple", data := .seq rest.toArray } hx
 refine wpAny_pure (wpAny_pure ⟨Code.quiet_builtin _ (by decide +kernel), codeAny_builtin F.initEntry ?_⟩)
 unfold Builtin.«BaseException.__init__»
 dsimp only
 rw [if_neg (by simp)]
 unfold newTuple Builtin.BaseException.bexcPut
 have fin : ∀ {Q' : Unit → Shared → Prop} {E' : Value → Shared → Prop} {A' : Around}, (∀ h' t0, h'.get? x = some { cls := .ref 41, dict := di, data := .fields (vs.setIfInBounds 0 t0) } → (∀ y o, y ≠ x → h.get? y = some o → h'.get? y = some o) → Q' () ⟨h', g, d, t, os⟩) →
  wpAny (model PW w) A' (match t0 with | .ref a => letGo [t0] [] | _ => pure ()) Q' E' { (⟨h.push { cls := .type "tuple", data := .seq rest.toArray }, g, d, t, os⟩ : Shared) with heap := (h.push { cls := .type "tuple", data := .seq rest.toArray }).update x (Obj.mapFields (·.setIfInBounds 0 (.ref h.objs.size))) } := by
  intro Q' E' A' hh
  have q : Q' () { (⟨h.push { cls := .type "tuple", data := .seq rest.toArray }, g, d, t, os⟩ : Shared) with heap := (h.push { cls := .type "tuple", data := .seq rest.toArray }).update x (Obj.mapFields (·.setIfInBounds 0 (.ref h.objs.size))) } :=
   hh _ _ (Heap.get?_update_self _ hx₁ rfl) fun y o ne e => by
    rw [Heap.get?_update_other _ _ (Ne.symm ne)]
    exact Heap.get?_push_of_some _ e
  cases t0 <;> first | exact wpAny_pure q | exact wpAny_letGo q
 refine wpAny_bind (wpAny_newObj_type (wpAny_bind (wpAny_bind (wpAny_field hx₁ rfl h0 (wpAny_bind (wpAny_setField hx₁ rfl hsz (fin ?_)))))) (by show rest.toArray.size ≤ sizeLine; rw [List.size_toArray, sizeLine_eq]; exact Nat.le_trans ‹_› (by decide)))
 intro h' t1 e1 e2
 exact wpAny_pure (hq h' t1 e1 e2)
end
end Mine
end
section
open PySem PySem.W PyProof.Rows PySem.Calls PySem.Builtin PySem.Builtin.ObjectAttr
namespace Mine
theorem refuse_exc (self : Value) : refuseLoop self "__setattr__" [.ref 41, .type "Exception", .type "BaseException", .type "object"] = pure () := by
 rw [refuseLoop_ref]
 kernel_rfl
section
variable {w : World} {A : Around} {E : Value → Shared → Prop} {s : Shared} {K : Frag} {x : Addr} {R : Result → Shared → Prop}
theorem osa_exc {ox : Obj} {od : Option Obj} {name : Str} {tk : Tok} {v : Value} {r : Option Value} (X : K.In s.heap) (I : InstAt s.heap x ox 41 od) {cd : ClassData} (hc : clsIn K 41 = some cd) (ho : cd.mro = [.ref 41, .type "Exception", .type "BaseException", .type "object"]) (ht : takerIn K 41 name = some r)
 (h : ∀ b, wpAny (model PW w) A.in1 (match r with | some a => setByDescriptor a (.ref x) v | none => storeInOwnDict (.ref x) (.ref 41) (.str name tk) name v b)
  (fun fin s' => match fin with | .done f => R (.ok f) s' | .again c' => c'.quiet = true ∧ codeAny (model PW w) A c' R s') (fun e s' => R (.error e) s') s) :
 codeAny (model PW w) A (.call (.builtin "object.__setattr__") ⟨[.ref x, .str name tk, v], []⟩) R s := by
 have SF := PySem.F.store_object
 have sub : Looks (model PW w) s.heap (isInstance (.ref x) (.type "object")) true := I.type.andThen (looks_mroIn X (by unfold mroIn; rw [hc, Option.bind_some, ho]; decide))
 refine codeAny_call_builtin SF.slot.plain SF.entry (@check_slot (model PW w) _ _ s "object.__setattr__" "object" "__setattr__" (.ref x) [.str name tk, v] [] _ SF.kind SF.split sub (SF.args (.ref x) (.str name tk) v) ?_)
 refine ob12 (Option.bind_eq_some_iff.mp ht) fun attr ha hr => ?_
 have hm : Looks (model PW w) s.heap (mroOf (.ref 41)) cd.mro := (looks_clsIn X hc).andThen .now
 have L3 : Looks (model PW w) s.heap (storeTaker? attr) r := by
  induction attr using Option.casesOn with
  | none => injection hr with hr; subst hr; exact .now
  | some a =>
   refine ob12 (Option.map_eq_some_iff.mp hr) fun b hb q2_ => ?_; subst q2_
   refine (looks_takesIn X hb).andThen ?_
   cases b <;> exact .now
 rw [osa_eq, refuse_eq]
 refine wpAny_bind (wpAny_bind (I.type.here (wpAny_bind (hm.here ?_))))
 rw [ho, refuse_exc]
 refine wpAny_pure (wpAny_bind (I.type.here (wpAny_bind ((looks_findIn X ha).here (wpAny_bind (L3.here ?_))))))
 exact h _
theorem set_exc0 {name : Str} {v : Value} {vs : Array Value} {cd : ClassData} {Q : Unit → Shared → Prop} (X : K.In s.heap) (hx : s.heap.get? x = some { cls := .ref 41, data := .fields vs }) (hc : clsIn K 41 = some cd) (ho : cd.mro = [.ref 41, .type "Exception", .type "BaseException", .type "object"])
 (hd : cd.hasDict = true) (hs : findIn K (.ref 41) "__setattr__" = some (some (.builtin "object.__setattr__"))) (ht : takerIn K 41 name = some none)
 (hq : ∀ h' es ep t, h'.get? x = some { cls := .ref 41, dict := some s.heap.objs.size, data := .fields vs } → h'.get? s.heap.objs.size = some { cls := .type "dict", data := .dict es ep } → StrKeys es → es.size = 1 → (∀ y, nsFind es y = if y = name then some v else none) →
  (∀ y o, y ≠ x → s.heap.get? y = some o → h'.get? y = some o) → Q () { s with heap := h', toks := t }) :
 wpAny (model PW w) A (setAttr (.ref x) name v) Q E s := by
 have I : InstAt s.heap x { cls := .ref 41, data := .fields vs } 41 none := ⟨hx, rfl, rfl, trivial⟩
 refine set_plain X I hs (osa_exc (s := { s with toks := s.toks + 1 }) X I hc ho ht fun b => ?_)
 refine wpAny_bind (wpAny_pure (wpAny_bind (wpAny_bind (wpAny_loadPart hx (wpAny_bind ((looks_clsIn X hc).here (s := { s with toks := s.toks + 1 }) ?_))))))
 rw [hd]
 have hx₁ := Heap.get?_push_of_some (h := s.heap) { cls := .type "dict", data := .dict #[] } hx
 have hxs : x ≠ s.heap.objs.size := Nat.ne_of_lt (Heap.lt_size hx)
 show wpAny _ _ (do
  let d ← alloc { cls := Value.type "dict", data := Data.dict #[] }
  update x fun o => { cls := o.cls, dict := some d, data := o.data, slots := o.slots }
  dictMade (.ref 41) x d) _ _ _
 refine wpAny_bind (wpAny_alloc' ?_)
 refine wpAny_bind (wpAny_update' hx₁ ?_)
 refine wpAny_pure (a := some s.heap.objs.size) ?_
 have hgd : ((s.heap.push { cls := .type "dict", data := .dict #[] }).update x fun o => { cls := o.cls, dict := some s.heap.objs.size, data := o.data, slots := o.slots }).get? s.heap.objs.size
  = some { cls := .type "dict", data := .dict #[] } := (Heap.get?_update_ne _ _ _ _ hxs.symm).trans (Heap.get?_push_at rfl rfl)
 have hxd : ((s.heap.push { cls := .type "dict", data := .dict #[] }).update x fun o => { cls := o.cls, dict := some s.heap.objs.size, data := o.data, slots := o.slots }).get? x
  = some { cls := .ref 41, dict := some s.heap.objs.size, data := .fields vs } := Heap.get?_update_self _ hx₁ rfl
 show wpAny _ _ (storeInDict s.heap.objs.size (.str name _) name v) _ _ _
 unfold storeInDict newKeyGuard
 refine wpAny_bind (wpAny_pure (wpAny_bind (nsSet_at hgd (fun e he => absurd he (by simp)) fun h' es' ep' g' k' f' z1 z2 hs => ?_)))
 have hsz : es'.size = 1 := z1 rfl
 refine wpAny_bind (wpAny_lookBehind g' (pastItsLine_dict (by rw [sizeLine_eq]; omega)) (wpAny_pure ?_))
 exact hq h' es' ep' _ ((hs.2 x hxs).trans hxd) g' k' hsz f' fun y o ne e => (hs.2 y (Nat.ne_of_lt (Heap.lt_size e))).trans ((Heap.get?_update_ne _ _ _ _ ne).trans (Heap.get?_push_of_some _ e))
theorem set_exc1 {name : Str} {v : Value} {vs : Array Value} {cd : ClassData} {D : Addr} {es : Array DictEntry} {ep : Nat} {Q : Unit → Shared → Prop} (X : K.In s.heap) (hx : s.heap.get? x = some { cls := .ref 41, dict := some D, data := .fields vs })
 (hD : s.heap.get? D = some { cls := .type "dict", data := .dict es ep }) (hk : StrKeys es) (hz : es.size ≤ 100) (hc : clsIn K 41 = some cd) (ho : cd.mro = [.ref 41, .type "Exception", .type "BaseException", .type "object"])
 (hd : cd.hasDict = true) (hs : findIn K (.ref 41) "__setattr__" = some (some (.builtin "object.__setattr__"))) (ht : takerIn K 41 name = some none)
 (hq : ∀ h' es' ep' t, h'.get? x = some { cls := .ref 41, dict := some D, data := .fields vs } → h'.get? D = some { cls := .type "dict", data := .dict es' ep' } → StrKeys es' → (∀ y, nsFind es' y = if y = name then some v else nsFind es y) →
  (∀ y o, y ≠ D → s.heap.get? y = some o → h'.get? y = some o) → Q () { s with heap := h', toks := t }) :
 wpAny (model PW w) A (setAttr (.ref x) name v) Q E s := by
 have I : InstAt s.heap x { cls := .ref 41, dict := some D, data := .fields vs } 41 (some { cls := .type "dict", data := .dict es ep }) := ⟨hx, rfl, rfl, hD⟩
 refine set_plain X I hs (osa_exc (s := { s with toks := s.toks + 1 }) X I hc ho ht fun b => ?_)
 refine wpAny_bind (wpAny_pure (wpAny_bind (wpAny_bind (wpAny_loadPart hx (wpAny_bind ((looks_clsIn X hc).here (s := { s with toks := s.toks + 1 }) ?_))))))
 rw [hd]
 refine wpAny_pure (a := some D) ?_
 show wpAny _ _ (storeInDict D (.str name _) name v) _ _ _
 unfold storeInDict newKeyGuard
 have ne : x ≠ D := fun q => by rw [q, hD] at hx; cases hx
 refine wpAny_bind (wpAny_pure (wpAny_bind (nsSet_at (s := { s with toks := s.toks + 1 }) hD hk fun h' es' ep' g' k' f' z1 z2 hs => ?_)))
 have hsz : es'.size ≤ es.size + 1 := by
  induction q : nsFind es name using Option.casesOn with
  | none => exact Nat.le_of_eq (z1 q)
  | some u => rw [z2 (by rw [q]; simp)]; exact Nat.le_succ _
 refine wpAny_bind (wpAny_lookBehind g' (pastItsLine_dict (by rw [sizeLine_eq]; omega)) (wpAny_pure ?_))
 exact hq h' es' ep' _ ((hs.2 x ne).trans hx) g' k' f' fun y o ne e => (hs.2 y ne).trans e
end
end Mine
end
section
open PySem PySem.W PyProof.Rows PySem.Calls
namespace Mine
noncomputable def initBody (p : Nat → Pos) : List Stmt := [
 .Expr (.Call (.Attribute (.Call (.Name "super" (p 0)) [] [] (p 1)) "__init__" (p 2)) [.Name "code" (p 3)] [] (p 4)) (p 5),
 .Assign [.Attribute (.Name "self" (p 6)) "code" (p 7)] (.Name "code" (p 8)) (p 9),
 .Assign [.Attribute (.Name "self" (p 10)) "told" (p 11)] (.Name "told" (p 12)) (p 13)]
noncomputable def initNames : List (Str × NameKind) := [("self", .local), ("code", .local), ("told", .local), ("__class__", .free), ("super", .globalImplicit)]
noncomputable def iBs (x c t : Value) : List (Str × Value) := [("self", x), ("code", c), ("told", t)]
noncomputable def initClo : List (Str × Addr) := [("__class__", 25)]
inductive CK41 (K : Frag) : Prop
 | mk (q bs sn sub ab col dd k0 k1 k2 k3 k5) : K.lookup 41 = some (excClassObj "BasicError" q 41 40 bs [.type "Exception", .type "BaseException", .type "object"] true sn sub ab col dd k0 k1 k2 k3 k5 "Exception.__new__") → CK41 K
inductive FnX (base : Heap) (K : Frag) : Prop
 | mk (o : Obj) (fd : FuncData) (ar rest p) : K.lookup 38 = some o → o.cls = .type "function" → o.data = .func fd → fd.body = .stmts (initBody p) → (p 2).endLine = (p 4).line → fd.scope.kind = .function →
  fd.scope.names = initNames → fd.scope.isCoroutine = false → fd.scope.isGenerator = false →
  fd.globals = mainGlobals → fd.builtins = builtinsNs → fd.closure = initClo → fd.code = .ref 37 → fd.params.posonlyargs ++ fd.params.args = ar :: rest → ar.arg = ("self" : Str) →
  (base.CodeRec fd.code fd.qualname ∧ ∀ s : Shared, base.StaysIn s.heap → ∀ x c : Value, ∃ v, BindsTo s fd ⟨[x, c], []⟩ (iBs x c v)) → FnX base K
structure BaseX (w : World) (base : Heap) (K : Frag) : Prop where
 cls : CK41 K
 ns : ∃ mN, base.Ns 40 mN ∧ mN "__init__" = some (.ref 38)
 fn : FnX base K
 cell : ∃ o, K.lookup 25 = some o ∧ o.data = .cell (some (.ref 41))
 code : ∃ o vs file t, K.lookup 37 = some o ∧ o.data = .fields vs ∧ vs[2]? = some (.str file t) ∧ ((PW.main.file : Str) == file) = true
 sup : ∃ mg mb, base.Ns mainGlobals mg ∧ base.Ns builtinsNs mb ∧ mg "super" = none ∧ mb "super" = some (.type "super")
 top : (PW.main.scope.names.lookup ("super" : Str)).isSome = false
 any_ : nsIn K cStatics "thirdparty.any" = some none
 seta : findIn K (.ref 41) "__setattr__" = some (some (.builtin "object.__setattr__"))
 tkc : takerIn K 41 "code" = some none
 tkt : takerIn K 41 "told" = some none
 gata : findIn K (.ref 41) "__getattribute__" = some (some (.builtin "BaseException.__getattribute__"))
 gat : findIn K (.ref 41) "__getattr__" = some none
 cod : findIn K (.ref 41) "code" = some none
 own : alongIn K "__init__" [.type "Exception", .type "BaseException", .type "object"] = some (some (.builtin "Exception.__init__"))
section
variable {w : World} {A : Around} {E : Value → Shared → Prop} {s : Shared} {K : Frag} {base : Heap}
theorem superCall {c : Code} {env : Env} {p0 p1 apos pos pn : Pos} {name x : Str} (hpos : apos.endLine = pos.line) {Q : Value → Shared → Prop}
 (h : _root_.PySem.wpAt (model PW w) A c (attributeBase (.Call (.Name "super" p0) [] [] p1) name env (eval (.Call (.Name "super" p0) [] [] p1) env)) (fun ov s₁ => ∀ pl : Sem Bool, wpAny (model PW w) A (getMethod ov name pl) (fun fx s₂ => wpAny (model PW w) A (callWith pos fx.1 fx.2 (backTo pos (starEach [.Name x pn] env)) []) Q E s₂) E s₁) E s) :
 _root_.PySem.wpAt (model PW w) A c (eval (.Call (.Attribute (.Call (.Name "super" p0) [] [] p1) name apos) [.Name x pn] [] pos) env) Q E s := by
 have he : eval (.Call (.Attribute (.Call (.Name "super" p0) [] [] p1) name apos) [.Name x pn] [] pos) env = (do
  let ov ← attributeBase (.Call (.Name "super" p0) [] [] p1) name env (eval (.Call (.Name "super" p0) [] [] p1) env)
  standAt apos.atName
  methodCall (.Call (.Name "super" p0) [] [] p1) name apos pos env ov 1 (backTo pos (starEach [.Name x pn] env)) []) := rfl
 rw [he]
 refine PySem.wpAt_bind (ks_wpAt_mono h (fun ov s₁ h₁ => wpAt_of_wpAny (wpAny_bind (wpAny_standAt ?_))) fun _ _ x => x)
 unfold methodCall
 rw [show methodCallForm 1 (backTo pos (starEach [.Name x pn] env)) [] = true from rfl]
 have hp : ∀ o : Expr, methodCallPos true o env apos pos = pure pos := by
  intro o
  unfold methodCallPos
  rw [if_pos (by simp [hpos])]
 rw [hp]
 refine wpAny_bind (wpAny_holding ?_)
 unfold calleeOf
 rw [if_pos rfl]
 refine wpAny_mono (h₁ _) (fun fx s₂ h₂ => ?_) fun _ _ x => x
 exact wpAny_bind (wpAny_pure h₂)
theorem init_body (B : BaseOk w base K) (X : BaseX w base K) (st : base.StaysIn s.heap) {e : Addr} {t0 : Value} {c told : Value} {L a : Addr} {p : Nat → Pos} {o : Obj} {fd : FuncData} {ar : Arg} {rest : List Arg} (hf : s.heap.get? a = some o) (hfd : o.data = .func fd)
 (hk : fd.scope.kind = .function) (hnm : fd.scope.names = initNames) (hgl : fd.globals = mainGlobals) (hbi : fd.builtins = builtinsNs)
 (hcl : fd.closure = initClo) (hco : fd.code = .ref 37) (hpar : fd.params.posonlyargs ++ fd.params.args = ar :: rest) (har : ar.arg = ("self" : Str)) (hpos : (p 2).endLine = (p 4).line)
 (he : s.heap.get? e = some { cls := .ref 41, data := .fields #[t0, .none, .none, .none, .bool false, .none] }) (hb : base.get? e = none)
 (hL : s.heap.Ns L (fun x => (iBs (.ref e) c told).reverse.lookup x)) (hLb : base.get? L = none)
 {Q : Flow → Shared → Prop}
 (hq : ∀ h' t D t1 es ep, h'.get? e = some { cls := .ref 41, dict := some D, data := .fields #[t1, .none, .none, .none, .bool false, .none] } → h'.get? D = some { cls := .type "dict", data := .dict es ep } → StrKeys es → nsFind es "code" = some c → base.get? D = none →
  s.heap.get? D = none → (∀ y o, y ≠ e → s.heap.get? y = some o → h'.get? y = some o) → Q .next { s with heap := h', toks := t }) :
 _root_.PySem.wpAt (model PW w) A (.func (initBody p) (callEnv fd L a)) (execs (initBody p) (callEnv fd L a)) Q E s := by
 have hks : (callEnv fd L a).kindOf "super" = some .globalImplicit := by show fd.scope.names.lookup _ = _; rw [hnm]; decide +kernel
 have hkc : (callEnv fd L a).kindOf "__class__" = some .free := by show fd.scope.names.lookup _ = _; rw [hnm]; decide +kernel
 have hkself : (callEnv fd L a).kindOf "self" = some .local := by show fd.scope.names.lookup _ = _; rw [hnm]; decide +kernel
 have hkcode : (callEnv fd L a).kindOf "code" = some .local := by show fd.scope.names.lookup _ = _; rw [hnm]; decide +kernel
 have hktold : (callEnv fd L a).kindOf "told" = some .local := by show fd.scope.names.lookup _ = _; rw [hnm]; decide +kernel
 have l1 : (iBs (.ref e) c told).reverse.lookup ("self" : Str) = some (.ref e) := rfl
 have l2 : (iBs (.ref e) c told).reverse.lookup ("code" : Str) = some c := rfl
 have l3 : (iBs (.ref e) c told).reverse.lookup ("told" : Str) = some told := rfl
 obtain ⟨q, bs, sn, sub, ab, col, dd, k0, k1, k2, k3, k5, hK41⟩ := X.cls
 have KI : K.In s.heap := B.kin.keeps st
 have hcd : clsIn K 41 = some { name := "BasicError", bases := bs, mro := [.ref 41, .type "Exception", .type "BaseException", .type "object"], ns := 40, qualname := q, hasDict := true, slotNames := sn, subclasses := sub, abstract := ab, collection := col, hasDel := false } := by
  unfold clsIn; rw [hK41]
 refine ob12 X.cell fun oc hc1 hc2 => ?_
 refine ob44 X.code fun o37 vs37 file tf g1 g2 g3 g4 => ?_
 refine ob24 X.sup fun mg mb ng nb hmg hmb => ?_
 have ne41 : e ≠ 41 := fun q => by rw [q] at hb; rw [B.kin _ _ hK41] at hb; contradiction
 have neL : e ≠ L := fun q => by subst q; refine ob33 hL fun o es ep g d _ => ?_; rw [he] at g; cases g; cases d
 obtain ⟨hh, g, d, t, os⟩ := s
 have loadL : ∀ {h₁ : Heap} {t₁ : Nat} {x : Str} {v : Value} {A : Around} {Q : Value → Shared → Prop}, (∀ y o, y ≠ e → hh.get? y = some o → h₁.get? y = some o) → (callEnv fd L a).kindOf x = some .local → (iBs (.ref e) c told).reverse.lookup x = some v → Q v ⟨h₁, g, d, t₁, os⟩ → wpAny (model PW w) A (loadName (callEnv fd L a) x) Q E ⟨h₁, g, d, t₁, os⟩ := by
  intro h₁ t₁ x v A Q k hk' hl q
  refine wpAny_loadName_local (m := fun x => (iBs (.ref e) c told).reverse.lookup x) hk hk' ?_ hl q
  refine ob32 hL fun o es ep g r => ?_
  exact ⟨o, es, ep, k _ _ (Ne.symm neL) g, r⟩
 refine ks_wpAt_execs_cons (ks_wpAt_Expr_any (superCall hpos (ks_wpAt_super_base hks hkc (by decide +kernel) rfl hf hfd (by rw [hpar]; rfl) hco (KI _ _ g1) g2 g3 g4 X.top ?_)) (by unfold interactive; rw [show (callEnv fd L a).scope.kind = .function from hk]; rfl))
 refine ks_loadName_global hk hks (loadGlobal_builtin (by rw [show (callEnv fd L a).globals = mainGlobals from hgl]; exact ng.keeps st) hmg (by rw [show (callEnv fd L a).builtins = builtinsNs from hbi]; exact nb.keeps st) hmb ⟨rfl, ?_⟩)
 refine wpAny_loadName_free hk hkc (c := 25) (by show fd.closure.lookup _ = _; rw [hcl]; rfl) ⟨oc, KI _ _ hc1, hc2⟩ ?_
 rw [har]
 refine loadL (fun _ _ _ e => e) hkself l1 ?_
 refine ks_wpAny_isType_cls (KI _ _ hK41) rfl ⟨rfl, ?_⟩
 refine ks_wpAny_call_super (KI _ _ hK41) rfl he rfl (fun c e => by contradiction) (looks_mroIn KI (by unfold mroIn; rw [hcd, Option.bind_some]; simp)) (fun h1 e1 k1 pl => ?_)
 have KI1 : K.In h1 := KI.keeps k1
 refine sup_method (by decide +kernel) X.own e1 (looks_opaque KI1 X.any_) ((looks_clsIn KI1 hcd).andThen .now) KI1 (k1 _ _ he) rfl (looks_mroIn KI1 (by unfold mroIn; rw [hcd, Option.bind_some]; simp)) ne41 ?_
 have hwr : (h1.push (wrapObj e)).get? h1.objs.size = some (wrapObj e) := Heap.get?_push_size _ rfl
 have k1' : ∀ y o, hh.get? y = some o → (h1.push (wrapObj e)).get? y = some o := fun y o e => Heap.get?_push_of_some _ (k1 y o e)
 have keep : ∀ {M : Model}, ∀ h : Heap, h.get? h1.objs.size = some (wrapObj e) → ∃ k, (k = Keeper.frame ∨ k = Keeper.machine ∨ k = Keeper.boundFrame) ∧ Looks M h (keeperOf (.ref h1.objs.size)) k := fun h hb =>
  ⟨.machine, .inr (.inl rfl), fun A Q E s kk q => wpAny_bind (wpAny_load (kk _ _ hb) (wpAny_pure q))⟩
 refine callWith_of (P := fun h => h.get? h1.objs.size = some (wrapObj e)) rfl (fun h hp => keep h hp) ?_
 rw [show backTo (p 4) (starEach [.Name (Str.ofString "code") (p 3)] (callEnv fd L a)) = [(false, eval (.Name (Str.ofString "code") (p 3)) (callEnv fd L a))] from rfl]
 refine evalArgs_plain ?_
 unfold spliced
 refine wpAny_bind (wpAny_Name (loadL (fun y o _ ey => k1' y o ey) hkcode l2 ?_) (by decide +kernel))
 refine wpAny_bind (wpAny_pure (wpAny_bind (wpAny_holding (wpAny_pure (wpAny_pure ?_)))))
 refine ⟨hwr, ?_⟩
 refine wrap_call (k1' _ _ (KI _ _ hK41)) hwr (k1' _ _ he) ⟨t0, rfl⟩ (by simp) (fun h2 t2 e2 k2 => ?_)
 have k2' : ∀ y o, y ≠ e → hh.get? y = some o → h2.get? y = some o := fun y o ne ey => k2 y o ne (k1' y o ey)
 have st2 : base.StaysIn h2 := fun y o ey => k2' y o (fun q => by subst q; rw [hb] at ey; contradiction) (st y o ey)
 have KI2 : K.In h2 := B.kin.keeps st2
 refine ks_wpAt_execs_cons (wpAt_of_wpAny (plainObj_wpAny_Assign_Attribute (wpAny_Name (loadL k2' hkcode l2 ?_) (by decide +kernel))))
 refine wpAny_Name (loadL k2' hkself l1 ?_) (by decide +kernel)
 have e2' : h2.get? e = some { cls := .ref 41, data := .fields #[t2, .none, .none, .none, .bool false, .none] } := e2
 refine set_exc0 (s := ⟨h2, g, d, _, os⟩) KI2 e2' hcd rfl rfl X.seta X.tkc (fun h3 es3 ep3 t3 e3 d3 s3 y3 z3 k3 => ?_)
 have dead : ∀ y, h2.get? y = none → y ≠ e → hh.get? y = none := fun y hy ne => by
  cases q : hh.get? y with
  | none => rfl
  | some o => rw [k2' y o ne q] at hy; contradiction
 have dD : h2.get? h2.objs.size = none := Heap.get?_none_of_le (Nat.le_refl _)
 have neD : h2.objs.size ≠ e := fun q => by rw [q, e2'] at dD; contradiction
 have D0 := dead _ dD neD
 have k3' : ∀ y o, y ≠ e → hh.get? y = some o → h3.get? y = some o := fun y o ne ey => k3 y o ne (k2' y o ne ey)
 have st3 : base.StaysIn h3 := fun y o ey => k3' y o (fun q => by subst q; rw [hb] at ey; contradiction) (st y o ey)
 refine ks_wpAt_execs_cons (wpAt_of_wpAny (plainObj_wpAny_Assign_Attribute (wpAny_Name (loadL k3' hktold l3 ?_) (by decide +kernel))))
 refine wpAny_Name (loadL k3' hkself l1 ?_) (by decide +kernel)
 refine set_exc1 (s := ⟨h3, g, d, _, os⟩) (B.kin.keeps st3) e3 d3 s3 (by rw [y3]; decide) hcd rfl rfl X.seta X.tkt (fun h4 es4 ep4 t4 e4 d4 s4 f4 k4 => ?_)
 have k4' : ∀ y o, y ≠ e → hh.get? y = some o → h4.get? y = some o := fun y o ne ey => k4 y o (fun q => by subst q; rw [D0] at ey; contradiction) (k3' y o ne ey)
 have hcode : nsFind es4 ("code" : Str) = some c := by
  rw [f4, if_neg (by decide +kernel), z3, if_pos rfl]
 have db : base.get? h2.objs.size = none := by
  cases q : base.get? h2.objs.size with
  | none => rfl
  | some o => rw [st _ _ q] at D0; contradiction
 refine fun Γ pp hc hΓ => ?_
 rw [show execs [] (callEnv fd L a) = pure .next from rfl, Sem.wp_pure']
 exact (hq h4 t4 h2.objs.size t2 es4 ep4 e4 d4 s4 hcode db D0 k4')
end
section
variable {M : Model} {A : Around} {E : Value → Shared → Prop} {env : Env}
variable {nm q : Str} {C N : Addr} {bs bm : List Value} {hdct : Bool} {sn : List Str} {sub : List Value} {ab : Bool} {col : Option Bool} {dd : Option Addr} {k0 k1 k2 k3 k5 : Option Value} {newId : String}
theorem raise_made {s : Shared} {x : Sem Value} {Q : Flow → Shared → Prop} (hbase : bm.contains (.type "BaseException") = true) (hh : A.handled = none)
 (h : wpAny M A x (fun v s₁ => ∃ e t D, v = .ref e ∧ s₁.heap.get? C = some (excClassObj nm q C N bs bm hdct sn sub ab col dd k0 k1 k2 k3 k5 newId) ∧
  s₁.heap.get? e = some { cls := .ref C, dict := some D, data := .fields #[t, .none, .none, .none, .bool false, .none] } ∧ E (.ref e) s₁) E s) :
 wpAny M A (raiseStmt env (some x) none) Q E s := by
 have hcB : (Value.ref C :: bm).contains (.type "BaseException") = true := by rw [List.contains_cons, hbase, Bool.or_true]
 unfold raiseStmt
 refine wpAny_bind (wpAny_mono h (fun v s₁ h₁ => ?_) fun _ _ x => x)
 refine ob34 h₁ fun e t D q3_ hC he hE => ?_; subst q3_
 obtain ⟨hp, g, d, tk, os⟩ := s₁
 repeat (first | with_reducible refine wpAny_loadPart_at he ?_ | with_reducible refine wpAny_loadPart_at hC ?_ | (with_reducible refine wpAny_isSubtype_exc hC ?_; rw [hcB]) | wp_step)
 exact wpAny_raiseNew_none hh hE
end
section
variable {K : Frag} {w : World} {base : Heap} {n : Nat} {A : Around} {d : Nat} {l : List Env} {z : Nms} {env : Env} {fr : Fr} {M : Mp} {H : AH} {s : Shared}
theorem exc_made (B : BaseOk w base K) (X : BaseX w base K) (st : base.StaysIn s.heap) (hd : A.depth + 10 ≤ 900) {c : Value} {E : Value → Shared → Prop} {Q : Value → Shared → Prop}
 (hq : ∀ e h' t D t1 es ep, s.heap.get? e = none → h'.get? e = some { cls := .ref 41, dict := some D, data := .fields #[t1, .none, .none, .none, .bool false, .none] } → h'.get? D = some { cls := .type "dict", data := .dict es ep } → StrKeys es → nsFind es "code" = some c → base.get? D = none → D ≠ e →
  (∀ y o, s.heap.get? y = some o → h'.get? y = some o) → Q (.ref e) { s with heap := h', toks := t }) :
 wpAny (model PW w) A (call (.ref 41) [c]) Q E s := by
 obtain ⟨q, bs, sn, sub, ab, col, dd, k0, k1, k2, k3, k5, hK41⟩ := X.cls
 refine ob12 X.ns fun mN hns hin => ?_
 obtain ⟨o, fd, ar, rest, p, f1, f2, f3, f4, hpos, f5, f6, f7, f8, f9, f10, f11, f12, f13, f14, f15, f16⟩ := X.fn
 have KI : K.In s.heap := B.kin.keeps st
 obtain ⟨hh, g, dr, t, os⟩ := s
 refine wpAny_call_exc_init PySem.F.excBase_Exception (KI _ _ hK41) (hns.keeps st) hin (KI _ _ f1) f2 (fun h' e hm => ?_)
 refine ob13 hm.there fun t0 he ht0 _ => ?_
 have st' : base.StaysIn h' := fun b ob eb => hm.keeps b ob (st b ob eb)
 have KI' : K.In h' := B.kin.keeps st'
 have hbe : base.get? e = none := by
  cases q : base.get? e with
  | none => rfl
  | some o => have := st _ _ q; rw [hm.new] at this; contradiction
 obtain ⟨tv, hbind⟩ := f16 ⟨h', g, dr, t, os⟩ st' (.ref e) c
 refine wpAny_call (ks_codeAny_call_defAt (fd := fd) (body := initBody p) (binds := iBs (.ref e) c tv) ?_ (KI' _ _ f1) f3 ((B.limit).keeps st') (f15.keeps st') f4 hbind ?_ ?_ (fun h₀ hns₀ k₀ => ?_) f7 f8 f5)
 · show A.depth + 1 < 1000; omega
 · rw [f6]; decide
 · rw [f6]
   intro y hy
   (dsimp only [iBs] at hy; simp only [List.mem_cons, List.not_mem_nil, or_false] at hy)
   rcases hy with rfl | rfl | rfl
   · exact (show initNames.lookup ("self" : Str) = some .local by decide +kernel)
   · exact (show initNames.lookup ("code" : Str) = some .local by decide +kernel)
   · exact (show initNames.lookup ("told" : Str) = some .local by decide +kernel)
 · have st0 : base.StaysIn h₀ := fun b ob eb => k₀ b ob (st' b ob eb)
   have dL : h'.get? h'.objs.size = none := Heap.get?_none_of_le (Nat.le_refl _)
   refine init_body (s := ⟨h₀, g, dr, _, os⟩) B X st0 (k₀ _ _ (KI' _ _ f1)) f3 f5 f6 f9 f10 f11 f12 f13 f14 hpos (k₀ _ _ he) hbe hns₀ ?_ (fun h'' t' D t1 es ep e1 e2 e3 e4 e5 e6 e7 => ?_)
   · cases q : base.get? h'.objs.size with
     | none => rfl
     | some o => rw [st' _ _ q] at dL; contradiction
   · refine ⟨rfl, hq e h'' t' D t1 es ep hm.new e1 e2 e3 e4 e5 (fun q => ?_) (fun y o ey => e7 y o (fun q => ?_) (k₀ _ _ (hm.keeps _ _ ey)))⟩
     · subst q; rw [k₀ _ _ he] at e6; contradiction
     · subst q
       have := hm.new
       rw [ey] at this; contradiction
inductive RseV (c : List Nat) (H : AH) (r : R (Fl × Fr)) : Nat → List E → Prop
 | mk (d : Nat) (s : List Nat) (k : Nat) (p : Pos) : eqN s c = true → r = .exc c H → RseV c H r (d + 4) [.c (.str s) k p]
theorem rseV {es : List E} {c : List Nat} {x : Nat} {px pc p : Pos} {r : R (Fl × Fr)} (hr : Mine.ex tb (n + 1) d fr H (.rse c x px es pc p) = r) (hb : r ≠ .bad) : RseV c H r d es := by
 match d, hr with
 | 0, hr | 1, hr | 2, hr | 3, hr => exact absurd hr.symm hb
 | d + 4, hr =>
 induction es using List.casesOn with
 | nil => exact absurd hr.symm hb
 | cons e t => induction e using E.casesOn with
  | c v k p => induction v using AV.casesOn with
   | str s => induction t using List.casesOn with
    | cons _ _ => exact absurd hr.symm hb
    | nil =>
     have hr : (match eqN s c with | true => R.exc c H | false => .bad) = r := hr
     induction q : eqN s c using Bool.casesOn with
     | true => rw [q] at hr; exact .mk d s k p q hr.symm
     | false => rw [q] at hr; exact absurd hr.symm hb
   | _ => exact absurd hr.symm hb
  | _ => exact absurd hr.symm hb
theorem Snd.rse (B : BaseOk w base K) (X : BaseX w base K) (S : Snd w base K n) {c : List Nat} {x : Nat} {px : Pos} {es : List E} {pc p : Pos} {r : R (Fl × Fr)} (hr : Mine.ex tb (n + 1) d fr H (.rse c x px es pc p) = r) (hb : r ≠ .bad) (hw : wfS z (.rse c x px es pc p) = true) (T : Sit w base A d l z env fr M H s) :
 wpAny (model PW w) A (exec (Mine.S.py nm (.rse c x px es pc p)) env) (ExQ w base z env l M H s r) (ExcF w base z env l M H s r) s := by
 obtain ⟨d, st, k, pk, heq, rr⟩ := rseV hr hb
 have heq := (eqN_iff _ _).mp heq
 subst heq
 subst rr
 obtain ⟨hw1, hw2⟩ := and1 hw |> fun q => (⟨and1 q, and2 q⟩ : _ ∧ _)
 obtain ⟨q, bs, sn, sub, ab, col, dd, k0, k1, k2, k3, k5, hK41⟩ := X.cls
 have hg : tb.glob x = some (.fn 41) := isFn_eq hw2
 show wpAny _ _ (exec (.Raise (some (.Call (.Name (nm x) px) (E.pys nm [.c (.str st) k pk]) [] pc)) none p) env) _ _ _
 rw [arm_exec_Raise]
 refine wpAny_bind (wpAny_standAt ?_)
 show wpAny _ _ (raiseStmt env (some (do let v ← eval (.Call (.Name (nm x) px) (E.pys nm [.c (.str st) k pk]) [] pc) env; standAt p; pure v)) none) _ _ _
 refine raise_made (C := 41) (nm := "BasicError") (q := q) (N := 40) (bs := bs) (bm := [.type "Exception", .type "BaseException", .type "object"]) (hdct := true) (sn := sn) (sub := sub) (ab := ab) (col := col) (dd := dd) (k0 := k0) (k1 := k1) (k2 := k2) (k3 := k3) (k5 := k5) (newId := "Exception.__new__") (by decide) T.aok.handled ?_
 refine wpAny_bind (Call_ (gl_any B S hw1 hg T fun u s₁ g₁ hu => ?_) (callNode (f := .gl x px) rfl))
 subst hu
 have keep : ∀ h : Heap, K.In h → ∃ k, (k = Keeper.frame ∨ k = Keeper.machine ∨ k = Keeper.boundFrame) ∧ Looks (model PW w) h (keeperOf (.ref 41)) k := fun h hh =>
  ⟨.machine, .inr (.inl rfl), fun A Q E s kk q => by obtain ⟨a1, a2, a3, a4, a5⟩ := s; exact wpAny_keeperOf_exc (kk _ _ (hh _ _ hK41)) q⟩
 refine callWith_of (P := fun h => K.In h) (by rw [plainArgs (and2 hw)]; rfl) (fun h hp => keep h hp) (evalArgs_of (and2 hw) ?_)
 rw [E.pys, star (e := .c (.str st) k pk) (fun _ => by simp)]
 show wpAny _ _ (spliced ((false, eval (E.py nm (.c (.str st) k pk)) env) :: [])) _ _ _
 unfold spliced
 refine wpAny_bind (wpAny_mono (S.c (r := .ok (.str st) H) (by rfl) (by simp) (and1 (and2 hw)) (T.go g₁)) (fun v s₂ hv => ?_) fun _ _ ⟨c, H', M', e, _, _⟩ => by contradiction)
 obtain ⟨av, H₂, M₂, e2, g₂, hv⟩ := hv
 cases e2
 obtain ⟨_, tk, rfl⟩ := hv
 refine wpAny_bind (wpAny_pure (wpAny_bind (wpAny_holding (wpAny_pure (wpAny_pure ?_)))))
 have T₂ := (T.go g₁).go g₂
 refine ⟨T₂.kin B, ?_⟩
 refine exc_made B X T₂.stays (by have := T₂.aok.depth; omega) (fun e h' t D t1 es ep e0 e1 e2 e3 e4 e5 e6 e7 => ?_)
 refine wpAny_bind (wpAny_standAt (wpAny_pure ?_))
 refine ⟨e, t1, D, rfl, e7 _ _ (T₂.kin B _ _ hK41), e1, ?_⟩
 have g₃ : Go w base M₂ H s₂ M₂ H { s₂ with heap := h', toks := t } := T₂.grow e7 ⟨rfl, rfl, rfl⟩
 refine ⟨st, H, M₂, rfl, ((g₁.trans g₂).trans g₃).f, ⟨e, _, D, fun y => nsFind es y, _, tk, rfl, e1, rfl, rfl, rfl, ?_, ⟨_, es, ep, e2, rfl, e3, fun _ => rfl⟩, e4, e5, e6, fun o ho => ?_, .inl rfl⟩, ((g₁.trans g₂).trans g₃).step |> fun st => T.frs.step st⟩
 · cases q : base.get? e with
   | none => rfl
   | some o => have := T₂.stays _ _ q; rw [e0] at this; contradiction
 · rw [e2] at ho; injection ho with ho; subst ho; rfl
end
end Mine
end
section
open PySem PySem.W PyProof.Rows PySem.Calls PySem.Spec
namespace Mine
theorem among_snoc {pos : Pos} {a b : Int} {c v : Value} : ∀ (l : List Value), TriplesOk l → codeAmong pos (l ++ [rawInt a, rawInt b, c]) = some v → codeAmong pos l = some v ∨ v = c := by
 intro l h e
 fun_induction TriplesOk l with
 | case1 =>
  right
  simp only [List.nil_append, codeAmong, rawInt] at e
  split at e
  · exact (Option.some.inj e).symm
  · simp at e
 | case2 a t b u x rest ih =>
  simp only [List.cons_append, codeAmong] at e ⊢
  split at e
  · rename_i hc; rw [if_pos hc]; exact .inl e
  · rename_i hc; rw [if_neg hc]; exact ih h e
 | case3 l h1 h2 => exact h.elim
section
variable {M : Model} {A : Around} {E : Value → Shared → Prop} {s : Shared} {name : Str} {params : Arguments} {body : Expr} {scope : Scope} {env : Env} {pos : Pos} {firstLine : Nat} {mg : Str → Option Value}
 {clos : List (Str × Addr)} {Q : Value → Shared → Prop}
theorem LamCode.go {h h' : Heap} {cv : Value} (k : ∀ b o, h.get? b = some o → o.cls = .type "code" → h'.get? b = some o) (x : LamCode h cv) : LamCode h' cv :=
 let ⟨c, o, vs, t, e, g, r, q⟩ := x; ⟨c, o, vs, t, e, k _ _ g r, r, q⟩
theorem tab_snoc {h : Heap} {ps : Array Value} {c : Addr} {a b : Int} (ht : TriplesOk ps.toList) (hl : ∀ pos cv, codeAmong pos ps.toList = some cv → LamCode h cv) (hc : LamCode h (.ref c)) (hP : h.get? lawTab = some (tabObj (ps ++ #[rawInt a, rawInt b, .ref c]))) : TabOk h := by
 refine ⟨_, hP, ?_, fun pos cv e => ?_⟩
 · rw [show (ps ++ #[rawInt a, rawInt b, .ref c]).toList = ps.toList ++ [rawInt a, rawInt b, .ref c] by simp]
   exact TriplesOk_snoc _ _ _ _ ht
 · rw [show (ps ++ #[rawInt a, rawInt b, .ref c]).toList = ps.toList ++ [rawInt a, rawInt b, .ref c] by simp] at e
   rcases among_snoc _ ht e with e | rfl
   · exact hl _ _ e
   · exact hc
theorem lam_make (hcl : closureFor scope env = pure clos) (hge0 : env.globals = mainGlobals) (hg : s.heap.Ns mainGlobals mg) (hcode : env.code = .ref lawCode) (C : CodeHd s.heap lawCode lawTab) (TB : TabOk s.heap) (hgP : mainGlobals ≠ lawTab) (hb : s.heap.BuiltinsAt mg lawTab)
 (hq : ∀ f cv pm ctv h' tk, h'.get? f = some { cls := .type "function", data := .func (kla_fn name lamQual params body scope clos pm cv ctv) } → s.heap.get? f = none → LamCode h' cv → TabOk h' → (∃ ps, h'.get? lawTab = some (tabObj ps)) →
  (∀ b o, b ≠ lawTab → s.heap.get? b = some o → h'.get? b = some o) → Q (.ref f) { s with heap := h', toks := tk }) :
 wpAny M A (makeFunction name lamQual params (.expr body) scope env [] [] [] pos firstLine) Q E s := by
 obtain ⟨ps, hP, ht, hl⟩ := TB
 induction hnf : codeAmong pos ps.toList using Option.casesOn with
 | some cv =>
  refine kla_makeFunctionHit hcl hge0 hg hcode C hP ht hnf hb fun ctv h' tk k hsz => ?_
  have kk : ∀ b o, s.heap.get? b = some o → (h'.push { cls := .type "function", data := .func (kla_fn name lamQual params body scope clos ((mg "__name__").getD .none) cv ctv) }).get? b = some o := fun b o e => Heap.get?_push_of_some _ (k b o e)
  exact hq _ cv _ ctv _ tk (Heap.get?_push_size _ rfl) (Heap.get?_none_of_le hsz) ((hl _ _ hnf).go fun b o e _ => kk b o e) ⟨ps, kk _ _ hP, ht, fun p cv e => (hl p cv e).go fun b o e _ => kk b o e⟩ ⟨ps, kk _ _ hP⟩ fun b o _ e => kk b o e
 | none =>
  obtain ⟨bm, ob, hbm, hne0, _, hneP, hbo, hcls, hdict, hdata⟩ := hb
  have newCode : ∀ {h₁ h' : Heap} {c' P' : Addr}, (∀ b o, s.heap.get? b = some o → h₁.get? b = some o) → Heap.ExtBut lawTab h₁ h' → s.heap.objs.size ≤ c' → c' < h'.objs.size → h'.CodeRec (.ref c') lamQual → h'.TableAt c' P' #[] → h'.get? lawTab = some (tabObj (ps ++ #[rawInt pos.line, rawInt pos.col, .ref c'])) → ∀ (pm ctv : Value) (tk : Nat),
   Q (.ref h'.objs.size) { s with heap := h'.push { cls := .type "function", data := .func (kla_fn name lamQual params body scope clos pm (.ref c') ctv) }, toks := tk } := by
   intro h₁ h' c' P' k1 hx hge hlt hrec htc htb pm ctv tk
   obtain ⟨⟨oc, vc, e1, e2, e3, _⟩, _⟩ := htc
   refine ob44 hrec fun c₂ o₂ v₂ t₂ q1 q2 q3 q4 => ?_
   injection q1 with q1; subst q1
   rw [e1] at q2; injection q2 with q2; subst q2
   have kb : ∀ b o, b ≠ lawTab → s.heap.get? b = some o → h'.get? b = some o := fun b o ne e => hx b o ne (k1 b o e)
   have lc : LamCode h' (.ref c') := ⟨c', oc, v₂, t₂, rfl, e1, e2, q3, q4⟩
   have up : ∀ b o, h'.get? b = some o → (h'.push { cls := .type "function", data := .func (kla_fn name lamQual params body scope clos pm (.ref c') ctv) }).get? b = some o := fun b o e => Heap.get?_push_of_some _ e
   have sz : s.heap.objs.size ≤ h'.objs.size := Nat.le_of_lt (Nat.lt_of_le_of_lt hge hlt)
   refine hq _ (.ref c') pm ctv _ tk (Heap.get?_push_size _ rfl) (Heap.get?_none_of_le sz) (lc.go fun b o e _ => up b o e) (tab_snoc ht (fun p cv e => ((hl p cv e).go fun b o e c => kb b o (fun q => by subst q; rw [hP] at e; cases e; cases c) e).go fun b o e _ => up b o e) (lc.go fun b o e _ => up b o e) (up _ _ htb)) ⟨_, up _ _ htb⟩ fun b o ne e => up _ _ (kb b o ne e)
  rw [makeFunction_eq]
  simp only [List.zip_nil_right, List.filterMap_nil, List.isEmpty_nil, if_true, pure_bind]
  unfold makeTail
  rw [hcl, hge0]
  refine wpAny_bind (wpAny_pure ?_)
  induction clos using List.casesOn with
  | nil =>
   simp only [List.isEmpty_nil, if_true]
   refine wpAny_bind (wpAny_pure ?_)
   refine wpAny_bind (wpAny_functionCodeX hcode (C.code hP ht) (C.tab hP) hnf fun c' h' tk hx hge hlt _ hrec htb hn => ?_)
   refine ob13 hn fun P' _ _ htc => ?_
   refine wpAny_bind (wpAny_builtinsFor (hg.extBut hx hgP) hbm hne0 (hx _ _ hneP hbo) hcls hdict hdata ?_)
   refine wpAny_bind (wpAny_nsGet (hg.extBut hx hgP) ?_)
   exact wpAny_bind (wpAny_pure (wpAny_newObj_type (newCode (fun _ _ e => e) hx hge hlt hrec htc htb.2 _ _ _) (by size_fits)))
  | cons q r =>
   simp only [List.isEmpty_cons, Bool.false_eq_true, if_false]
   refine wpAny_bind (wpAny_newTextTuple ?_)
   refine wpAny_bind (wpAny_functionCodeX hcode ((C.keeps fun b o e => Heap.get?_push_of_some _ e).code (Heap.get?_push_of_some _ hP) ht) ((C.keeps fun b o e => Heap.get?_push_of_some _ e).tab (Heap.get?_push_of_some _ hP)) hnf fun c' h' tk hx hge hlt _ hrec htb hn => ?_)
   refine ob13 hn fun P' _ _ htc => ?_
   have hx' : Heap.ExtBut lawTab s.heap h' := fun b o hb' e => hx b o hb' (Heap.get?_push_of_some _ e)
   have hge' : s.heap.objs.size ≤ c' := Nat.le_trans (by rw [Heap.size_push]; exact Nat.le_succ _) hge
   refine wpAny_bind (wpAny_builtinsFor ((hg.push _).extBut hx hgP) hbm hne0 (hx' _ _ hneP hbo) hcls hdict hdata ?_)
   refine wpAny_bind (wpAny_nsGet ((hg.push _).extBut hx hgP) ?_)
   exact wpAny_bind (wpAny_pure (wpAny_newObj_type (newCode (fun b o e => Heap.get?_push_of_some _ e) hx hge' hlt hrec htc htb.2 _ _ _) (by size_fits)))
end
noncomputable def noArgs : Arguments := ⟨[], [], none, [], [], none, []⟩
section
variable {K : Frag} {w : World} {base : Heap} {n : Nat} {A A' : Around} {d d' : Nat} {l l' : List Env} {z : Nms} {env : Env} {fr : Fr} {M M' : Mp} {H H' : AH} {s s' : Shared}
theorem lamOk_mem {sc : Nms} (h : lamOk sc = true) : ∀ y ∈ sc, y.2 = .free ∨ y.2 = .globalImplicit := by
 intro y hy
 have := List.all_eq_true.mp h y hy
 obtain ⟨x, k⟩ := y
 cases k <;> first | exact .inl rfl | exact .inr rfl | cases this
theorem lam_enter (B : BaseOk w base K) {sc : Nms} (hsc : blockOk z sc = true) (hl : lamOk sc = true) (F : FrR base z env fr H.length M s.heap) (C : SitC w base A (d + 1) l M H s) {f : Addr} {cv pm ctv : Value} {body : Expr}
 (hf : s.heap.get? f = some { cls := .type "function", data := .func (kla_fn "<lambda>" lamQual noArgs body (scO nm sc) (clF env (scO nm sc).names []) pm cv ctv) }) (hcv : LamCode s.heap cv) {R : Result → Shared → Prop}
 (h : ∀ env₁ s₁, Sit w base (A.deeper env₁) d (env₁ :: l) sc env₁ (capt sc fr) M H s₁ → env₁.frame = some env₁.locals → Go w base M H s M H s₁ →
  wpAny (model PW w) (A.deeper env₁) (eval body env₁) (fun v s' => R (.ok (.ret v)) s')
   (fun e s' => wpAny (model PW w) (A.deeper env₁) (leaving env₁ e) (fun _ s'' => R (.error e) s'') (fun e' s'' => R (.error e') s'') s') s₁) :
 codeAny (model PW w) A (.call (.ref f) ⟨[], []⟩) R s := by
 have hroom : A.depth < recursionLimit := Nat.lt_of_le_of_lt (Nat.le_trans (Nat.le_add_right _ _) C.aok.depth) (by decide)
 obtain ⟨hd, hm⟩ := bkM hsc
 have nocell : ∀ y ∈ (scO nm sc).names, y.2 ≠ .cell := fun y hy => by
  refine ob12 (List.mem_map.mp hy) fun y' hy' e => ?_
  rw [← e]
  rcases (lamOk_mem hl) y' hy' with h | h <;> (show y'.2 ≠ _; rw [h]; decide)
 obtain ⟨cc, oc, vs, tq, e1, e2, _, e3, e4⟩ := hcv
 refine kla_callFunE hroom hf rfl rfl rfl rfl ⟨cc, oc, vs, tq, e1, e2, e3, e4⟩ ?_
 rw [show bindArgs (kla_fn "<lambda>" lamQual noArgs body (scO nm sc) (clF env (scO nm sc).names []) pm cv ctv) ⟨[], []⟩ = pure [] from rfl]
 refine wpAny_pure ?_
 simp only [newFunctionEnv, Option.isSome_none, Bool.false_eq_true, if_false]
 refine wpAny_bind (wpAny_alloc ?_)
 refine wpAny_bind (wpAny_layCells _ (fun name kind cells => by cases hkc : kind == NameKind.cell <;> simp [hkc]) _ _ _ _ ?_)
 simp only [List.forIn_nil]
 refine wpAny_bind (wpAny_pure (wpAny_pure ?_))
 have keep : ∀ b ob, s.heap.get? b = some ob → (pushCells (s.heap.push { cls := .type "frame", data := .dict #[] }) (scO nm sc).names).get? b = some ob := fun b ob e => pushCells_keeps _ _ b ob (Heap.get?_push_of_some _ e)
 have gL : (pushCells (s.heap.push { cls := .type "frame", data := .dict #[] }) (scO nm sc).names).get? s.heap.objs.size = some { cls := .type "frame", data := .dict #[] } := pushCells_keeps _ _ _ _ (Heap.get?_push_size _ rfl)
 have namesEq : (scO nm sc).names = sc.map fun y => (nm y.1, y.2) := rfl
 have ids : ∀ y ∈ sc, y.1 < 202 := fun y hy => (hm y hy).1
 have inNames : ∀ {x : Nat} {k : NameKind}, x < 202 → (nm x, k) ∈ (scO nm sc).names → lookA sc x = some k := fun {x k} hx h => by
  refine ob12 (List.mem_map.mp h) fun y hy e => ?_
  obtain ⟨y1, y2⟩ := y
  have e1 : nm y1 = nm x := congrArg Prod.fst e
  have e2 : y2 = k := congrArg Prod.snd e
  subst e2
  rw [← B.inj _ _ (ids _ hy) hx e1]
  exact dsL hd hy
 have free : ∀ {x : Nat}, lookA sc x = some .free → x < 202 ∧ CellIn env s.heap x := fun {x} h => by
  have hy := lAm h
  refine ob12 (ifK ((hm _ hy).2.1 rfl)) fun k e mk => ?_
  exact ⟨ids _ hy, F.cells x (ids _ hy) (by rw [e]; rcases List.mem_cons.mp mk with rfl | mk; exact .inl rfl; exact .inr (congrArg some (List.mem_singleton.mp mk)))⟩
 have hfree : ∀ n, (n, NameKind.free) ∈ (scO nm sc).names → (env.cells.lookup n).isSome = true := fun n h => by
  refine ob12 (List.mem_map.mp h) fun y hy e => ?_
  obtain ⟨y1, y2⟩ := y
  cases e
  obtain ⟨_, c, v, hc, _⟩ := free (dsL hd hy)
  rw [hc]; rfl
 have clm := closes_mem (env := env) (scO nm sc).names [] hfree (fun _ _ h => by contradiction)
 have noCells : ∀ (names : List (Str × NameKind)) (k : Nat) (acc : List (Str × Addr)), (∀ y ∈ names, y.2 ≠ .cell) → cellsFrom k names acc = acc := by
  intro names
  induction names with
  | nil => intro k acc _; rfl
  | cons y r ih =>
   intro k acc hy
   obtain ⟨nn, kk⟩ := y
   unfold cellsFrom
   rw [if_neg (by simpa using hy _ List.mem_cons_self)]
   exact ih k acc fun y h => hy y (List.mem_cons_of_mem _ h)
 rw [noCells _ _ _ nocell]
 have deadL : s.heap.get? s.heap.objs.size = none := Heap.get?_none_of_le (Nat.le_refl _)
 let env₁ : Env := { scope := scO nm sc, locals := s.heap.objs.size, globals := mainGlobals, cells := clF env (scO nm sc).names [], qual := lamQual ++ ".<locals>.", func := some f, code := cv, frame := some s.heap.objs.size, builtins := builtinsNs }
 have lkFree : ∀ {x : Nat}, lookA sc x = some .free → env₁.cells.lookup (nm x) = env.cells.lookup (nm x) := fun {x} h => by
  obtain ⟨c, hc⟩ := (fun n h => closes_has (env := env) (scO nm sc).names [] n (.inl h)) (nm x) (by rw [namesEq]; exact List.mem_map.mpr ⟨(x, .free), lAm h, rfl⟩)
  obtain ⟨c', hc'⟩ := lkM hc
  skip
  rw [hc', clm _ _ (mem_of_lookup hc')]
 have lkBack : ∀ {x : Nat} {c : Addr}, x < 202 → env₁.cells.lookup (nm x) = some c → lookA sc x = some .free ∧ env.cells.lookup (nm x) = some c := fun {x c} hx h => by
  exact ⟨inNames hx ((fun n c h => (closes_names (env := env) (scO nm sc).names [] n c h).resolve_right (fun h => by contradiction)) _ _ (mem_of_lookup h)), clm _ _ (mem_of_lookup h)⟩
 have notNew : ¬ Owned M H.length s.heap.objs.size := by
  rintro ⟨i, hi, e⟩
  have := C.rel.lt hi
  rcases e with e | e
  · rw [e] at this; exact absurd this.1 (Nat.lt_irrefl _)
  · rw [e] at this; exact absurd this.2 (Nat.lt_irrefl _)
 have ok : EnvOk sc env₁ := ⟨rfl, fun x hx => .inl (lookA_str B ids hx), rfl, rfl, fun e => absurd rfl ((hm _ (lAm e)).2.2 rfl)⟩
 have F₁ : FrR base sc env₁ (capt sc fr) H.length M (pushCells (s.heap.push { cls := .type "frame", data := .dict #[] }) (scO nm sc).names) := by
  refine ⟨ok, C.dead deadL, fun x c hx hk e => ?_, ⟨fun _ => none, ⟨_, #[], 0, gL, .inl rfl, rfl, fun _ he => by simp at he, fun _ => rfl⟩, fun x v e => ?_⟩, fun x hx e => ?_, fun x y c hx hy e1 e2 => ?_, notNew⟩
  · rcases (lamOk_mem hl) _ (lAm hk) with h | h <;> contradiction
  · obtain ⟨hfx, hv⟩ := look_capt sc e
    obtain ⟨_, _, fh⟩ := F.frame
    obtain ⟨hx, u, hu, hk⟩ := fh x v hv
    refine ⟨hx, u, hu.go (fun b o e _ => keep b o e) (.refl _ _) (Nat.le_refl _), .inr ⟨.inr hfx, ?_⟩⟩
    rcases hk with ⟨hk, _⟩ | ⟨_, c, hc, oc, g1, g2⟩
    · refine ob12 (ifK ((hm _ (lAm hfx)).2.1 rfl)) fun k e1 mk => ?_
      rw [hk] at e1; injection e1 with e1; subst e1
      simp at mk
    · exact ⟨c, (lkFree hfx).trans hc, oc, keep _ _ g1, g2⟩
  · rcases e with e | e
    · rcases (lamOk_mem hl) _ (lAm e) with h | h <;> contradiction
    · obtain ⟨_, c, v, hc, oc, g1, g2⟩ := free e
      exact ⟨c, v, (lkFree e).trans hc, oc, keep _ _ g1, g2⟩
  · exact F.cellsA x y c hx hy (lkBack hx e1).2 (lkBack hy e2).2
 have g : Go w base M H s M H { s with heap := pushCells (s.heap.push { cls := .type "frame", data := .dict #[] }) (scO nm sc).names } :=
  ⟨C.rel.keeps keep, .refl _ _, Nat.le_refl _, .keeps keep, ⟨rfl, rfl, rfl⟩, fun b o e => keep b o (C.stays b o e), .keeps keep⟩
 have T₁ : Sit w base (A.deeper env₁) d (env₁ :: l) sc env₁ (capt sc fr) M H { s with heap := pushCells (s.heap.push { cls := .type "frame", data := .dict #[] }) (scO nm sc).names } :=
  ⟨⟨C.aok.handled, (by show A.frames.map _ = _; rw [C.aok.frames]; rfl), C.aok.guards, by have := C.aok.depth; show A.depth + 1 + _ ≤ _; omega, by have := C.aok.units; show A.units + 3 + _ ≤ _; omega⟩, ⟨(by show ScopeKind.function ≠ _; decide), ⟨s.heap.objs.size, _, #[], 0, rfl, C.dead deadL, gL, rfl, rfl⟩, C.frs.step (.keeps keep)⟩, g.rel, g.stays, F₁⟩
 exact ⟨B.limit.keeps g.stays, kla_codeExpr (h env₁ _ T₁ rfl g)⟩
end
section
variable {K : Frag} {w : World} {base : Heap} {n : Nat} {A : Around} {d : Nat} {l : List Env} {z : Nms} {env : Env} {fr : Fr} {M : Mp} {H : AH} {s : Shared}
theorem landing_own {M : Model} {L : Addr} {x : Value} {code : List Nat} {Q : Unit → Shared → Prop} {E : Value → Shared → Prop} (hfr : A.frames = some (env :: l)) (O : FrOk base s.heap (env :: l)) (hf : env.frame = some L)
 (st : base.StaysIn s.heap) (hx : Flies base s.heap x code) (h : ∀ h', base.StaysIn h' → Flies base h' x code → Left s.heap h' → Q () { s with heap := h' }) : wpAny M A (noteFrame x env) (fun _ s₂ => wpAny M A (setFlight x none) Q E s₂) E s := by
 obtain ⟨e, oe, D, m, vs, t, rfl, he, hc, hdd, hd, hbe, hn, hm, hbD, hDe, hDc, hv⟩ := hx
 have fin : ∀ {s₁ : Shared} {vs₁ : Array Value}, s₁.heap.get? e = some { oe with data := .fields vs₁ } → Left s.heap s₁.heap → ∀ h' T vs', base.StaysIn h' → base.get? T = none → h'.get? e = some { oe with data := .fields vs' } → vs'[1]? = some (.ref T) → s₁.heap.get? T = none →
  (∃ oT ts, h'.get? T = some oT ∧ oT.cls = .type "traceback" ∧ oT.data = .fields ts ∧ ts[3]? = some .none) → Left s₁.heap h' → (Flies base h' (.ref e) code ∧ Left s.heap h') := fun {s₁ vs₁} he₁ l1 h' T vs' kb bT g1 g2 g3 ⟨oT, ts, g4, g5, g6, g7⟩ l2 => by
  refine ⟨⟨e, _, D, m, vs', t, rfl, g1, hc, hdd, rfl, hbe, (l1.trans l2).ns hn hDc, hm, hbD, hDe, fun o ho => ?_, .inr ⟨T, oT, ts, g2, bT, fun q => ?_, fun q => ?_, g4, g5, g6, g7⟩⟩, l1.trans l2⟩
  · refine ob32 hn fun oD _ _ gD _ => ?_
    have c := hDc oD gD
    have := (l1.trans l2).exact D oD gD (by rw [c]; trivial) (by rw [c]; trivial) (by rw [c]; trivial)
    rw [this] at ho; injection ho with ho; subst ho; exact c
  · subst q; rw [he₁] at g3; contradiction
  · subst q
    refine ob32 hn fun oD _ _ gD _ => ?_
    have c := hDc oD gD
    rw [l1.exact T oD gD (by rw [c]; trivial) (by rw [c]; trivial) (by rw [c]; trivial)] at g3; contradiction
 unfold noteFrame
 simp only [hf]
 rcases hv with h1 | ⟨T, oT, ts, h1, bT, hTe, hTD, hT, cT, dT, h3⟩
 · refine wpAny_bind (wpAny_field he hd h1 ?_)
   rw [if_neg (by decide)]
   refine entry_own hfr O hf he hc hd (Array.getElem?_eq_some_iff.mp h1).1 st hbe fun h' T vs' a b c dd ee ff g => ?_
   obtain ⟨p, q⟩ := fin (s₁ := s) (vs₁ := vs) (by rw [he]; obtain ⟨_, _, _, _⟩ := oe; subst hd; rfl) (.keeps fun _ _ e => e) h' T vs' a b c dd ee ff g
   exact h h' a p q
 · refine wpAny_bind (wpAny_field he hd h1 ?_)
   rw [if_pos (show (Value.ref T != Value.none) = true from by simp)]
   refine wpAny_bind (wpAny_field hT dT h3 ?_)
   rw [if_neg (show ¬ ((Value.none == rawInt L) = true) from by simp [rawInt])]
   refine wpAny_bind (wpAny_setField hT dT (Array.getElem?_eq_some_iff.mp h3).1 ?_)
   have l1 : Left s.heap (s.heap.update T (Obj.mapFields (·.setIfInBounds 3 Value.none))) := Left.upd hT (.inr cT) (Obj.isFreed_of_fields (Obj.data_mapFields dT (·.setIfInBounds 3 Value.none)))
   have he₁ : (s.heap.update T (Obj.mapFields (·.setIfInBounds 3 Value.none))).get? e = some oe := (Heap.get?_update_other _ _ hTe).trans he
   have st₁ : base.StaysIn (s.heap.update T (Obj.mapFields (·.setIfInBounds 3 Value.none))) := fun b o hb => (Heap.get?_update_other _ _ fun q => by subst q; rw [bT] at hb; contradiction).trans (st b o hb)
   have O₁ : FrOk base (s.heap.update T (Obj.mapFields (·.setIfInBounds 3 Value.none))) (env :: l) := FrOk.but hT (Heap.SameBut.update ..) (fun q => by rw [cT] at q; simp at q) O
   refine entry_own (s := { s with heap := s.heap.update T (Obj.mapFields (·.setIfInBounds 3 Value.none)) }) hfr O₁ hf he₁ hc hd (Array.getElem?_eq_some_iff.mp h1).1 st₁ hbe fun h' T' vs' a b c dd ee ff g => ?_
   obtain ⟨p, q⟩ := fin (s₁ := { s with heap := s.heap.update T (Obj.mapFields (·.setIfInBounds 3 Value.none)) }) (vs₁ := vs) (by show _ = _; rw [he₁]; obtain ⟨_, _, _, _⟩ := oe; subst hd; rfl) l1 h' T' vs' a b c dd ee ff g
   exact h h' a p q
theorem F_ga_sub : plainId "BaseException.__getattribute__" = true := by decide +kernel
theorem F_ga_kind : builtinKind "BaseException.__getattribute__" = some .slot := by decide +kernel
theorem F_ga_split : splitId "BaseException.__getattribute__" = some ("BaseException", "__getattribute__") := by decide +kernel
theorem F_ga_bind (x : Addr) : bindSpecial (.builtin "BaseException.__getattribute__") (.ref x) = pure (.builtin "BaseException.__getattribute__", [.ref x]) := by
 have hop : withoutEnding? "BaseException.__getattribute__" "#opaque" = none := by decide +kernel
 have hdat : withoutEnding? "BaseException.__getattribute__" "#data" = none := by decide +kernel
 simp only [bindSpecial, typeOf, builtinType, hop, hdat, F_ga_kind]; rfl
theorem get_exc {x : Addr} {ox : Obj} {od : Option Obj} {name : Str} {v : Value} {cd : ClassData} {expr : Bool} {Q : Value → Shared → Prop} {E : Value → Shared → Prop} (X : K.In s.heap) (I : InstAt s.heap x ox 41 od) (hc : clsIn K 41 = some cd) (ho : cd.mro = [.ref 41, .type "Exception", .type "BaseException", .type "object"])
 (hga : findIn K (.ref 41) "__getattribute__" = some (some (.builtin "BaseException.__getattribute__"))) (hgat : findIn K (.ref 41) "__getattr__" = some none) (hf : findObj K 41 od name = some (.value v)) (hh : handedIn v = true)
 (h : Q v { s with toks := s.toks + 1 }) : wpAny (model PW w) A (getAttr (.ref x) name expr) Q E s := by
 obtain ⟨hp, g, dr, t, os⟩ := s
 have L2 : Looks (model PW w) hp (hookBefore (.ref 41)) none := looks_hook X hgat
 have hx1 : (onTheHeap (Value.ref 41) && Value.builtin "BaseException.__getattribute__" == Value.builtin "object.__getattribute__") = false := by decide +kernel
 unfold getAttr getAttrBy
 refine wpAny_bind (wpAny_mkText (wpAny_holding (wpAny_bind ((I.type (M := model PW w)).at (wpAny_bind ((looks_findIn (M := model PW w) X hga).at ?_))))))
 dsimp only
 rw [hx1]
 skip
 unfold getAttrByItsOwn
 refine wpAny_bind (L2.at (wpAny_bind (wpAny_attempt (wpAny_holding ?_))))
 have sub : Looks (model PW w) hp (isInstance (.ref x) (.type "BaseException")) true := I.type.andThen (looks_mroIn X (by unfold mroIn; rw [hc, Option.bind_some, ho]; decide))
 unfold callGetattribute
 rw [show (expr && onTheHeap (Value.builtin "BaseException.__getattribute__")) = false by cases expr <;> rfl]
 skip
 unfold boundAndCalled
 refine wpAny_bind (wpAny_of_eq (F_ga_bind x) ?_)
 refine wpAny_mono (Q := fun u s' => u = v ∧ s' = ⟨hp, g, dr, t + 1, os⟩) (E := fun _ _ => False) (wpAny_call (codeAny_call_builtin F_ga_sub PySem.F.entry_bexc_ga (@check_slot (model PW w) _ _ ⟨hp, g, dr, t + 1, os⟩ "BaseException.__getattribute__" "BaseException" "__getattribute__" (.ref x) [.str name t] [] _ F_ga_kind F_ga_split sub (PySem.F.args_bexc_ga _ _) ?_))) (fun u s' hu => ?_) fun _ _ z => z.elim
 · refine wpAny_bind (wpAny_pure (wpAny_bind (wpAny_pure ?_)))
   refine wpAny_bind ((I.type (M := model PW w)).at (wpAny_bind ((looks_find (M := model PW w) X I hf).at ?_)))
   exact wpAny_pure ⟨rfl, rfl⟩
 · obtain ⟨rfl, rfl⟩ := hu
   show wpAny _ _ (handedOut _) _ _ _
   rw [handedOut_of hh]; exact wpAny_pure h
end
noncomputable def lcTry (p : Nat → Pos) : Stmt := .Try [.Expr (.Call (.Name (nm 200) (p 0)) [] [] (p 1)) (p 2)] [.ExceptHandler (some (.Name (nm 23) (p 3))) (some (nm 201)) [.Return (some (.Attribute (.Name (nm 201) (p 4)) "code" (p 5))) (p 6)] (p 7)] [] [] (p 8)
noncomputable def lcRet (p : Nat → Pos) : Stmt := .Return (some (.Constant (.str (strOf [])) 0 (p 9))) (p 10)
noncomputable def lcNames : Nms := [(200, .local), (201, .local), (23, .globalImplicit)]
noncomputable def lcFn (p : Nat → Pos) : Fn := { params := [200], names := lcNames, fast := [], body := [.raw (lcTry p), .raw (lcRet p)] }
structure BaseL (w : World) (base : Heap) (K : Frag) : Prop where
 fn : ∃ p o fd, FnOk base K 863 (lcFn p) o fd ∧ ∀ (s : Shared) (us : List Value), base.StaysIn s.heap → us.length = 1 → Binds w s fd (lcFn p) us us
 hd : CodeHd base lawCode lawTab
 bi : ∃ mg, base.Ns mainGlobals mg ∧ base.BuiltinsAt mg lawTab
 ne : mainGlobals ≠ lawTab
structure LcEnv (env : Env) : Prop where
 kind : env.scope.kind = .function
 k0 : env.kindOf (nm 200) = some .local
 k1 : env.kindOf (nm 201) = some .local
 k2 : env.kindOf (nm 23) = some .globalImplicit
 globals : env.globals = mainGlobals
 builtins : env.builtins = builtinsNs
 frame : env.frame = some env.locals
section
variable {K : Frag} {w : World} {base : Heap} {n : Nat} {A : Around} {d : Nat} {l : List Env} {z : Nms} {env : Env} {fr : Fr} {M : Mp} {H : AH} {s : Shared}
theorem law_enter (B : BaseOk w base K) {p : Nat → Pos} {o : Obj} {fd : FuncData} (F : FnOk base K 863 (lcFn p) o fd) (C : SitC w base A (d + 1) l M H s) {v : Value} (hbind : Binds w s fd (lcFn p) [v] [v]) {R : Result → Shared → Prop}
 (h : ∀ env s₁ es ep, LcEnv env → SitC w base (A.deeper env) d (env :: l) M H s₁ → (∀ b o, s.heap.get? b = some o → s₁.heap.get? b = some o) → Same s s₁ → s₁.heap.get? env.locals = some { cls := .type "frame", data := .dict es ep } → StrKeys es → nsFind es (nm 200) = some v → s.heap.get? env.locals = none →
  wpAny (model PW w) (A.deeper env) (execs [lcTry p, lcRet p] env) (fun fl s' => R (.ok (.ret (match fl with | .ret v => v | _ => .none))) s')
   (fun e s' => wpAny (model PW w) (A.deeper env) (leaving env e) (fun _ s'' => R (.error e) s'') (fun e' s'' => R (.error e') s'') s') s₁) :
 codeAny (model PW w) A (.call (.ref 863) ⟨[v], []⟩) R s := by
 have ho : s.heap.get? 863 = some o := C.stays _ _ (B.kin _ _ F.at_)
 have hroom : A.depth < recursionLimit := Nat.lt_of_le_of_lt (Nat.le_trans (Nat.le_add_right _ _) C.aok.depth) (by decide)
 refine codeAny_call_function hroom ho F.data F.cor F.gen F.body (F.code.keeps C.stays) ?_
 rw [F.closure]
 refine hbind ?_
 have hnames : fd.scope.names = [(nm 200, .local), (nm 201, .local), (nm 23, .globalImplicit)] := F.names
 simp only [newFunctionEnv, Option.isSome_none, Bool.false_eq_true, if_false]
 refine wpAny_bind (wpAny_alloc ?_)
 refine wpAny_bind (wpAny_layCells _ (fun name kind cells => by cases hkc : kind == NameKind.cell <;> simp [hkc]) _ _ _ _ ?_)
 have pc : ∀ h : Heap, pushCells h fd.scope.names = h := fun h => by rw [hnames]; rfl
 rw [pc]
 have gL : (s.heap.push { cls := .type "frame", data := .dict #[] }).get? s.heap.objs.size = some { cls := .type "frame", data := .dict #[] } := Heap.get?_push_size _ rfl
 have keep : ∀ b ob, s.heap.get? b = some ob → (s.heap.push { cls := .type "frame", data := .dict #[] }).get? b = some ob := fun b ob e => Heap.get?_push_of_some _ e
 have deadL : s.heap.get? s.heap.objs.size = none := Heap.get?_none_of_le (Nat.le_refl _)
 show wpAny _ _ (do forIn [(nm 200, v)] _ _; pure _) _ _ _
 rw [List.forIn_cons]
 let env : Env := { scope := fd.scope, locals := s.heap.objs.size, globals := fd.globals, cells := cellsFrom (s.heap.push { cls := .type "frame", data := .dict #[] }).objs.size fd.scope.names [], qual := fd.qualname ++ ".<locals>.", func := some 863, code := fd.code, frame := some s.heap.objs.size, builtins := fd.builtins }
 have k0 : env.kindOf (nm 200) = some .local := by show fd.scope.names.lookup _ = _; rw [hnames]; kernel_rfl
 have k1 : env.kindOf (nm 201) = some .local := by show fd.scope.names.lookup _ = _; rw [hnames]; kernel_rfl
 have k2 : env.kindOf (nm 23) = some .globalImplicit := by show fd.scope.names.lookup _ = _; rw [hnames]; kernel_rfl
 have E0 : LcEnv env := ⟨F.kind, k0, k1, k2, F.globals, F.builtins, rfl⟩
 refine wpAny_bind (wpAny_bind (wpAny_bind ?_))
 rw [show storeName _ (nm 200) v = storeName env (nm 200) v from rfl, storeName_local k0 (by rw [F.kind]; rfl)]
 refine nsSet_at (s := { s with heap := s.heap.push { cls := .type "frame", data := .dict #[] } }) (a := env.locals) gL (fun _ he => by simp at he) fun h' es' ep' g' k' f' z1 z2 hs => ?_
 have up : ∀ b ob, s.heap.get? b = some ob → h'.get? b = some ob := fun b ob e => (hs.2 b fun q => by rw [q] at e; rw [show env.locals = s.heap.objs.size from rfl, deadL] at e; contradiction).trans (keep b ob e)
 refine wpAny_pure (by
  show wpAny (model PW w) A.in1 (forIn ([] : List (Str × Value)) PUnit.unit _) _ _ _
  rw [List.forIn_nil]
  refine wpAny_pure (wpAny_pure ?_)
  have C₁ : SitC w base (A.deeper env) d (env :: l) M H { s with heap := h', toks := s.toks + 1 } :=
   ⟨⟨C.aok.handled, (by show A.frames.map _ = _; rw [C.aok.frames]; rfl), C.aok.guards, by have := C.aok.depth; show A.depth + 1 + _ ≤ _; omega, by have := C.aok.units; show A.units + 3 + _ ≤ _; omega⟩,
    ⟨(by show fd.scope.kind ≠ _; rw [F.kind]; decide), ⟨s.heap.objs.size, _, es', ep', rfl, C.dead deadL, g', rfl, rfl⟩, C.frs.step (.keeps up)⟩, C.rel.keeps up, fun b ob e => up b ob (C.stays b ob e)⟩
  exact ⟨B.limit.keeps C₁.stays, codeAny_func (h env _ es' ep' E0 C₁ up ⟨rfl, rfl, rfl⟩ g' k' (by rw [f', if_pos rfl]) deadL)⟩)
theorem Go.frameGo {M' : Mp} {H' : AH} {s' : Shared} (G : Go w base M H s M' H' s') {c : Addr} {o : Obj} (ho : s'.heap.get? c = some o) (hc : o.cls = .type "frame") (dead : s.heap.get? c = none) (fresh : base.get? c = none) {h' : Heap} {tk : Nat} (hs : Heap.SameBut c s'.heap h') : Go w base M H s M' H' { s' with heap := h', toks := tk } := by
 have ne : ∀ b o, s.heap.get? b = some o → b ≠ c := fun b o e q => by rw [q, dead] at e; contradiction
 refine ⟨G.rel.sameBut ho (.inl (.inl hc)) hs, G.ext, G.len, ⟨fun b o e i => (hs.2 b (ne b o e)).trans (G.step.inert b o e i), fun b o e i => ?_⟩, ⟨G.same.g, G.same.d, G.same.o⟩, stays_but G.stays hs fresh, ⟨fun b o e => ?_, G.kept.newer, fun b o e c no nx => (hs.2 b (ne b o e)).trans (G.kept.others b o e c no nx)⟩⟩
 · obtain ⟨sl, q⟩ := G.step.frame b o e i
   exact ⟨sl, (hs.2 b (ne b o e)).trans q⟩
 · obtain ⟨o', q⟩ := G.kept.alive b o e
   exact ⟨o', (hs.2 b (ne b o e)).trans q⟩
theorem flight_own {M₁ : Model} {x : Value} {code : List Nat} {Q : Unit → Shared → Prop} {E : Value → Shared → Prop} (st : base.StaysIn s.heap) (hx : Flies base s.heap x code)
 (h : ∀ h', base.StaysIn h' → Flies base h' x code → Left s.heap h' → Q () { s with heap := h' }) : wpAny M₁ A (setFlight x none) Q E s := by
 obtain ⟨e, oe, D, m, vs, t, rfl, he, hc, hdd, hd, hbe, hn, hm, hbD, hDe, hDc, hv⟩ := hx
 unfold setFlight
 rcases hv with h1 | ⟨T, oT, ts, h1, bT, hTe, hTD, hT, cT, dT, h3⟩
 · refine wpAny_bind (wpAny_field he hd h1 ?_)
   rw [if_neg (by decide)]
   exact wpAny_pure (h s.heap st ⟨e, oe, D, m, vs, t, rfl, he, hc, hdd, hd, hbe, hn, hm, hbD, hDe, hDc, .inl h1⟩ (.keeps fun _ _ e => e))
 · refine wpAny_bind (wpAny_field he hd h1 ?_)
   rw [if_pos (show (Value.ref T != Value.none) = true from by simp)]
   have hfr' := Obj.isFreed_of_fields (Obj.data_mapFields dT (·.setIfInBounds 3 Value.none))
   have hsz := (Array.getElem?_eq_some_iff.mp h3).1
   have l1 : Left s.heap (s.heap.update T (Obj.mapFields (·.setIfInBounds 3 Value.none))) := Left.upd hT (.inr cT) hfr'
   refine wpAny_setField hT dT hsz (h _ (fun b o hb => (Heap.get?_update_other _ _ fun q => by subst q; rw [bT] at hb; contradiction).trans (st b o hb)) ⟨e, oe, D, m, vs, t, rfl, (Heap.get?_update_other _ _ hTe).trans he, hc, hdd, hd, hbe, l1.ns hn hDc, hm, hbD, hDe, fun o ho => ?_, .inr ⟨T, _, _, h1, bT, hTe, hTD, Heap.get?_update_self _ hT hfr', ?_, Obj.data_mapFields dT _, by simp [hsz]⟩⟩ l1)
   · rw [Heap.get?_update_other _ _ hTD] at ho
     exact hDc o ho
   · rw [Obj.cls_mapFields]; exact cT
def LcQ (w : World) (base : Heap) (M : Mp) (H : AH) (s : Shared) (r : R AV) (f : Flow) (s' : Shared) : Prop :=
 (f = .next ∧ ∃ v H' M', r = .ok v H' ∧ Go w base M H s M' H' s') ∨ (∃ c t H' M', f = .ret (.str (strOf c) t) ∧ r = .exc c H' ∧ Go w base M H s M' H' s')
theorem law_catch (B : BaseOk w base K) (X : BaseX w base K) {p : Nat → Pos} (N : LcEnv env) {M₀ : Mp} {H₀ : AH} {s₀ : Shared} {r : R AV} {c : List Nat} {x : Value} (hr : r = .exc c H) (g : Go w base M₀ H₀ s₀ M H s) (hx : Flies base s.heap x c)
 {es : Array DictEntry} {ep : Nat} {dd : Option Addr} {sl : Array (Option Value)} (hL : s.heap.get? env.locals = some ⟨.type "frame", dd, .dict es ep, sl⟩) (hk : StrKeys es) (dead : s₀.heap.get? env.locals = none) (fresh : base.get? env.locals = none) {E : Value → Shared → Prop} :
 wpAny (model PW w) A (handleBy x env [.ExceptHandler (some (.Name (nm 23) (p 3))) (some (nm 201)) [.Return (some (.Attribute (.Name (nm 201) (p 4)) "code" (p 5))) (p 6)] (p 7)]) (fun f s' => LcQ w base M₀ H₀ s₀ r f s') E s := by
 obtain ⟨q, bs, sn, sub, ab, col, ddd, k0, k1, k2, k3, k5, hK41⟩ := X.cls
 have KI : K.In s.heap := B.kin.keeps g.stays
 have hcd : clsIn K 41 = some { name := "BasicError", bases := bs, mro := [.ref 41, .type "Exception", .type "BaseException", .type "object"], ns := 40, qualname := q, hasDict := true, slotNames := sn, subclasses := sub, abstract := ab, collection := col, hasDel := false } := by
  unfold clsIn; rw [hK41]
 obtain ⟨mg, mb, ng, nb, gl⟩ := B.glob
 have h23 : tb.glob 23 = some (.fn 41) := by kernel_rfl
 obtain ⟨u, hu, hn⟩ := gl 23 _ h23
 have hu : u = .ref 41 := hu M
 subst hu
 obtain ⟨e, oe, D, m, vs, tt, rfl, he, hce, hdd, hdt, hbe, hns, hcode, hbD, hDe, hDc, hv⟩ := id hx
 have ng' := ng.keeps g.stays
 refine wpAny_handleBy_cons (codeAny_handlers_test ?_) (by intro q; contradiction)
 have lg : ∀ {A' : Around} {Q E' : Value → Shared → Prop}, Q (.ref 41) s → wpAny (model PW w) A' (eval (.Name (nm 23) (p 3)) env) Q E' s := fun {A' Q E'} hq => by
  refine Name_function_global N.kind N.k2 ?_ (B.nodbg 23 (by decide))
  rcases hn with h | ⟨h, h2⟩
  · exact loadGlobal_global (N.globals ▸ ng') h hq
  · exact loadGlobal_builtin (N.globals ▸ ng') h (N.builtins ▸ (nb.keeps g.stays)) h2 hq
 refine lg ?_
 refine wpAny_excMatches_sub_self (KI _ _ hK41) he hce (by decide) ?_
 refine codeAny_handlers_suite_as (flight_own g.stays hx fun h₁ st₁ fx₁ lf₁ => ?_)
 obtain ⟨slL, hL₁⟩ := lf₁.frame _ _ hL rfl
 have g₁ : Go w base M₀ H₀ s₀ M H { s with heap := h₁ } := g.trans (Left.go (s := s) (s' := { s with heap := h₁ }) lf₁ g.rel st₁ ⟨rfl, rfl, rfl⟩)
 rw [storeName_local N.k1 (by rw [N.kind]; rfl)]
 refine nsSet_at (s := { s with heap := h₁ }) hL₁ hk fun h₂ es₂ ep₂ gL₂ sk₂ f₂ _ _ hs₂ => ?_
 have g₂ : Go w base M₀ H₀ s₀ M H { s with heap := h₂, toks := s.toks + 1 } := g₁.frameGo (tk := s.toks + 1) hL₁ rfl dead fresh hs₂
 have KI₂ : K.In h₂ := B.kin.keeps g₂.stays
 obtain ⟨e1, oe1, D1, m1, vs1, t1, ee, he1, hce1, hdd1, hdt1, _, ⟨oD, esD, epD, gD, dD, kD, fD⟩, hcode1, hbD1, hDe1, hDc1, _⟩ := fx₁
 injection ee with ee; subst ee
 have neL : e ≠ env.locals := fun q => by rw [q] at he1; rw [hL₁] at he1; cases he1; cases hce1
 have cD : oD.cls = .type "dict" := hDc1 oD gD
 have neD : D1 ≠ env.locals := fun q => by rw [q] at gD; rw [hL₁] at gD; injection gD with gD; subst gD; simp at cD
 have I : InstAt h₂ e oe1 41 (some oD) := ⟨(hs₂.2 e neL).trans he1, hce1, by unfold notCls; rw [hdt1], by rw [hdd1]; exact ((hs₂.2 D1 neD).trans gD)⟩
 have hl : lookIn "code" oD = some (some (.str (strOf c) t1)) := by
  obtain ⟨c0, dd0, dt0, sl0⟩ := oD
  dsimp only at dD
  subst dD
  rw [lookIn_ns kD, fD, hcode1]
 refine wpAny_execs_cons (wpAny_Return_some (Attribute_any_ (wpAny_Name (wpAny_loadName_local (m := fun y => nsFind es₂ y) N.kind N.k1 ⟨_, es₂, ep₂, gL₂, rfl, sk₂, fun _ => rfl⟩ (by rw [f₂, if_pos rfl]) ?_) (B.nodbg 201 (by decide))) (attNode (e := .loc 201 (p 4)) rfl)))
 refine get_exc (s := { s with heap := h₂, toks := s.toks + 1 }) KI₂ I hcd rfl X.gata X.gat (find_own (by unfold hasDictIn; rw [hcd]; rfl) X.cod (fun f hf => by contradiction) hl) rfl ?_
 refine wpAny_nameGoes (m := fun y => nsFind es₂ y) N.k1 ⟨_, es₂, ep₂, gL₂, rfl, sk₂, fun _ => rfl⟩ (by rw [N.kind]; rfl) (fun h₃ m₃ hn₃ hs₃ => ?_)
 exact .inr ⟨c, t1, H, M, rfl, hr, g₂.frameGo (tk := s.toks + 1 + 1 + 1) gL₂ rfl dead fresh hs₃⟩
theorem law_try (B : BaseOk w base K) (X : BaseX w base K) (S : Snd w base K n) {p : Nat → Pos} (N : LcEnv env) (C : SitC w base A (d + 2) (env :: l) M H s) {z₀ : Nms} {env₀ : Env} (F : FrR base z₀ env₀ fr H.length M s.heap)
 {sc : Nms} {b : E} (hsc : blockOk z₀ sc = true) (hl : lamOk sc = true) (hwe : wfE sc b = true) {f : Addr} {cv pm ctv : Value}
 (hf : s.heap.get? f = some { cls := .type "function", data := .func (kla_fn "<lambda>" lamQual noArgs (b.py nm) (scO nm sc) (clF env₀ (scO nm sc).names []) pm cv ctv) }) (hcv : LamCode s.heap cv)
 {r : R AV} (hr : Mine.ev tb n d (capt sc fr) H b = r) (hb : r ≠ .bad) {M₀ : Mp} {H₀ : AH} {s₀ : Shared} (g : Go w base M₀ H₀ s₀ M H s)
 {es : Array DictEntry} {ep : Nat} (hL : s.heap.get? env.locals = some { cls := .type "frame", data := .dict es ep }) (hk : StrKeys es) (hv : nsFind es (nm 200) = some (.ref f)) (dead : s₀.heap.get? env.locals = none) {E : Value → Shared → Prop} :
 wpAny (model PW w) A (exec (lcTry p) env) (fun f s' => LcQ w base M₀ H₀ s₀ r f s') E s := by
 have fresh : base.get? env.locals = none := by
  obtain ⟨_, ⟨L', _, _, _, hf', hn', _⟩, _⟩ := C.frs
  rw [N.frame] at hf'; injection hf' with hf'; subst hf'; exact hn'
 refine wpAny_Try_except (wpAny_execs_cons (wpAny_Expr_any (Call_ (wpAny_Name (wpAny_loadName_local (m := fun y => nsFind es y) N.kind N.k0 ⟨_, es, ep, hL, rfl, hk, fun _ => rfl⟩ hv ?_) (B.nodbg 200 (by decide))) (callNode (f := .loc 200 (p 0)) rfl)) (by unfold interactive; rw [N.kind]; rfl) rfl))
 have keep : ∀ h : Heap, h.get? f = s.heap.get? f → ∃ k, (k = Keeper.frame ∨ k = Keeper.machine ∨ k = Keeper.boundFrame) ∧ Looks (model PW w) h (keeperOf (.ref f)) k := fun h hh =>
  ⟨.frame, .inl rfl, fun A Q E s kk q => wpAny_bind (wpAny_load (kk _ _ (hh.trans hf)) (wpAny_pure q))⟩
 refine callWith_of (P := fun h => h.get? f = s.heap.get? f) rfl (fun h hp => keep h hp) (evalArgs_of (z := z₀) (es := []) rfl ?_)
 refine wpAny_pure ⟨rfl, ?_⟩
 refine wpAny_call (lam_enter B hsc hl F C hf hcv (fun env₃ s₃ T₃ hf₃ g₃ => ?_))
 have T₃' : Sit w base (A.deeper env₃) d (env₃ :: env :: l) sc env₃ (capt sc fr) M H s₃ :=
  ⟨⟨T₃.aok.handled, T₃.aok.frames, T₃.aok.guards, Nat.le_trans (by omega) T₃.aok.depth, Nat.le_trans (by omega) T₃.aok.units⟩, T₃.frs, T₃.rel, T₃.stays, T₃.fr⟩
 refine wpAny_mono (S.ev hr hb hwe T₃') (fun v s₄ q => ?_) fun x s₄ q => ?_
 · obtain ⟨av, H₄, M₄, er, g₄, _⟩ := q
   exact wpAny_execs_nil (wpAny_execs_nil (.inl ⟨rfl, av, H₄, M₄, er, (g.trans g₃).trans g₄⟩))
 · obtain ⟨c, H₄, M₄, er, g₄, fx⟩ := q
   refine leaving_own T₃.aok.frames (T₃.frs.step g₄.step) hf₃ g₄.stays fx fun h₅ st₅ fx₅ lf₅ => ?_
   have g₅ : Go w base M₀ H₀ s₀ M₄ H₄ { s₄ with heap := h₅ } := ((g.trans g₃).trans g₄).trans (Left.go (s := s₄) (s' := { s₄ with heap := h₅ }) lf₅ g₄.rel st₅ ⟨rfl, rfl, rfl⟩)
   have O₅ : FrOk base h₅ (env :: l) := (C.frs.step ((g₃.trans g₄).step)).step (Left.go (s := s₄) (s' := { s₄ with heap := h₅ }) lf₅ g₄.rel st₅ ⟨rfl, rfl, rfl⟩).step
   refine landing_own (s := { s₄ with heap := h₅ }) C.aok.frames O₅ N.frame st₅ fx₅ fun h₆ st₆ fx₆ lf₆ => ?_
   have gx : Go w base M H s M₄ H₄ { s₄ with heap := h₆ } := ((g₃.trans g₄).trans (Left.go (s := s₄) (s' := { s₄ with heap := h₅ }) lf₅ g₄.rel st₅ ⟨rfl, rfl, rfl⟩)).trans (Left.go (s := { s₄ with heap := h₅ }) (s' := { s₄ with heap := h₆ }) lf₆ g₅.rel st₆ ⟨rfl, rfl, rfl⟩)
   obtain ⟨sl, hL₆⟩ := gx.step.frame _ _ hL rfl
   exact law_catch B X N er (g.trans gx) fx₆ hL₆ hk dead fresh
theorem SitC.keepGo (C : SitC w base A d l M H s) {s' : Shared} (keep : ∀ b o, s.heap.get? b = some o → s'.heap.get? b = some o) (sm : Same s s') : Go w base M H s M H s' :=
 ⟨C.rel.keeps keep, .refl _ _, Nat.le_refl _, .keeps keep, sm, fun b o e => keep b o (C.stays b o e), .keeps keep⟩
def LcV (w : World) (base : Heap) (M : Mp) (H : AH) (s : Shared) (r : R AV) (v : Value) (s' : Shared) : Prop :=
 ∃ c t H' M', v = .str (strOf c) t ∧ Go w base M H s M' H' s' ∧ ((c = [] ∧ ∃ x, r = .ok x H') ∨ r = .exc c H')
theorem law_call (B : BaseOk w base K) (X : BaseX w base K) (BL : BaseL w base K) (S : Snd w base K n) (C : SitC w base A (d + 3) l M H s) {z₀ : Nms} {env₀ : Env} (F : FrR base z₀ env₀ fr H.length M s.heap)
 {sc : Nms} {b : E} (hsc : blockOk z₀ sc = true) (hl : lamOk sc = true) (hwe : wfE sc b = true) {f : Addr} {cv pm ctv : Value}
 (hf : s.heap.get? f = some { cls := .type "function", data := .func (kla_fn "<lambda>" lamQual noArgs (b.py nm) (scO nm sc) (clF env₀ (scO nm sc).names []) pm cv ctv) }) (hcv : LamCode s.heap cv)
 {r : R AV} (hr : Mine.ev tb n d (capt sc fr) H b = r) (hb : r ≠ .bad) {E : Value → Shared → Prop} :
 wpAny (model PW w) A (call (.ref 863) [.ref f]) (LcV w base M H s r) E s := by
 refine ob32 BL.fn fun p o fd hF hbind => ?_
 refine wpAny_call (law_enter B hF C (hbind s [.ref f] C.stays rfl) (fun env s₁ es ep N C₁ up sm hL hk hv dead => ?_))
 have g₁ : Go w base M H s M H s₁ := C.keepGo up sm
 refine wpAny_execs_cons (wpAny_mono (law_try (E := fun _ _ => False) B X S N C₁ (F.go g₁) hsc hl hwe (up _ _ hf) (hcv.go fun b o e _ => up b o e) hr hb g₁ hL hk hv dead) (fun fl s₂ q => ?_) fun _ _ q => q.elim)
 rcases q with ⟨rfl, v, H', M', er, g⟩ | ⟨c, t, H', M', rfl, er, g⟩
 · refine wpAny_execs_cons (wpAny_Return_some (Constant_str ?_))
   exact ⟨[], _, H', M', rfl, ⟨g.rel, g.ext, g.len, g.step, ⟨g.same.g, g.same.d, g.same.o⟩, g.stays, g.kept⟩, .inl ⟨rfl, v, er⟩⟩
 · exact ⟨c, t, H', M', rfl, g, .inr er⟩
theorem tab_go (T : Sit w base A d l z env fr M H s) (hb : base.get? lawTab = none) {h' : Heap} {tk : Nat} (TB : TabOk h') (al : ∃ ps, h'.get? lawTab = some (tabObj ps)) (k : ∀ b o, b ≠ lawTab → s.heap.get? b = some o → h'.get? b = some o) : Go w base M H s M H { s with heap := h', toks := tk } := by
 refine ob12 T.rel.tab.tab fun ps hP _ => ?_
 have ne : ∀ b o, s.heap.get? b = some o → o.cls ≠ .none → b ≠ lawTab := fun b o e c q => by rw [q, hP] at e; injection e with e; subst e; exact c rfl
 refine ⟨⟨fun i o e => ?_, T.rel.apart, T.rel.fresh, TB⟩, .refl _ _, Nat.le_refl _, ⟨fun b o e i => k b o (ne b o e ?_) e, fun b o e c => ⟨o.slots, k b o (ne b o e (by rw [c]; trivial)) e⟩⟩, ⟨rfl, rfl, rfl⟩, fun b o e => k b o (fun q => by rw [q, hb] at e; contradiction) (T.stays b o e),
  ⟨fun b o e => ?_, fun i h1 h2 => absurd h2 (Nat.not_lt.mpr h1), fun b o e c _ _ => k b o (ne b o e (by rcases c with c | c <;> rw [c] <;> trivial)) e⟩⟩
 · have q := T.rel.obj i o e
   refine ob24 (OR.cls q) fun oa od ga gd ca cd => ?_
   refine q.go (fun b o' hb hc => k b o' (ne b o' hb (by rcases hc with h | h <;> rw [h] <;> trivial)) hb) (.refl _ _) (Nat.le_refl _) (nth_lt e) (fun o' hb => ?_) fun o' hb => ?_
   · rw [ga] at hb; injection hb with hb; subst hb
     exact k _ _ (ne _ _ ga (by rcases ca with h | h | ⟨c, h, _⟩ <;> rw [h] <;> simp)) ga
   · rw [gd] at hb; injection hb with hb; subst hb
     exact k _ _ (ne _ _ gd (by rcases cd with h | h <;> rw [h] <;> trivial)) gd
 · rcases i with h | h | h | h | h | h | h <;> rw [h] <;> trivial
 · by_cases q : b = lawTab
   · subst q; exact ⟨_, al.choose_spec⟩
   · exact ⟨o, k b o q e⟩
theorem Snd.tryc (B : BaseOk w base K) (X : BaseX w base K) (BL : BaseL w base K) (hb0 : base.get? lawTab = none) (S : Snd w base K n) {f : Nat} {pn pl p : Pos} {b : E} {sc : Nms} {r : R AV} (hr : Mine.ev tb (n + 1) d fr H (.tryc f pn b sc pl p) = r) (hb : r ≠ .bad) (hw : wfE z (.tryc f pn b sc pl p) = true) (T : Sit w base A d l z env fr M H s) :
 wpAny (model PW w) A (eval (E.py nm (.tryc f pn b sc pl p)) env) (EvQ w base M H s r) (ExcP w base M H s r) s := by
 dsimp only [Mine.ev] at hr
 obtain rfl := Nat.eq_of_beq_eq_true (and1 (and2 (and1 hw)))
 have hg : tb.glob 195 = some (.fn 863) := isFn_eq (and2 (and2 (and1 hw)))
 match d, hr, T with
 | d + 3, hr, T =>
  dsimp only at hr
  have hb' : Mine.ev tb n d (capt sc fr) H b ≠ .bad := by intro q; rw [q] at hr; exact hb hr.symm
  obtain ⟨_, _, _, hF, _⟩ := BL.fn
  obtain ⟨mg, hmg, hbi⟩ := BL.bi
  obtain ⟨kk, hk, hm⟩ := ifK (and1 (and1 hw))
  obtain rfl : kk = .globalImplicit := by simpa using hm
  obtain ⟨hcode, hqual⟩ := T.fr.ok.lam hk
  obtain ⟨hd, hmm⟩ := bkM (and1 (and2 (and2 hw)))
  show wpAny _ _ (eval (.Call (.Name (nm 195) pn) [.Lambda noArgs (b.py nm) (scO nm sc) pl] [] p) env) _ _ _
  refine Call_ (gl_any B S (and1 (and1 hw)) hg T fun u s₁ g₁ hu => ?_) (callNode (f := .gl 195 pn) rfl)
  subst hu
  have T₁ := T.go g₁
  refine callWith_of (P := fun h => K.In h) rfl (fun h hp => keeps_K hF.keep.1 h hp) ?_
  rw [show backTo p (starEach [.Lambda noArgs (b.py nm) (scO nm sc) pl] env) = [(false, eval (.Lambda noArgs (b.py nm) (scO nm sc) pl) env)] from rfl]
  refine evalArgs_plain ?_
  unfold spliced
  have hfree : ∀ n, (n, NameKind.free) ∈ (scO nm sc).names → (env.cells.lookup n).isSome = true := fun n h => by
   obtain ⟨y, hy, e⟩ := List.mem_map.mp h
   obtain ⟨y1, y2⟩ := y
   cases e
   obtain ⟨k, e, mk⟩ := ifK ((hmm _ hy).2.1 rfl)
   obtain ⟨c, v, hc, _⟩ := T₁.fr.cells y1 (hmm _ hy).1 (by rw [e]; rcases List.mem_cons.mp mk with rfl | mk; exact .inl rfl; exact .inr (congrArg some (List.mem_singleton.mp mk)))
   rw [hc]; rfl
  refine wpAny_bind (kla_eval rfl ?_)
  rw [show env.qual ++ "<lambda>" = lamQual by rw [hqual]; decide +kernel]
  obtain ⟨bm, ob, b1, b2, b3, b4, b5, b6⟩ := hbi
  refine lam_make (closureFor_eq hfree) T₁.fr.ok.globals (hmg.keeps T₁.stays) hcode (BL.hd.keeps T₁.stays) T₁.rel.tab BL.ne ⟨bm, ob, b1, b2, b3, b4, T₁.stays _ _ b5, b6⟩ (fun f cv pm ctv h' tk hf dead lc TB al k => ?_)
  have g₂ := tab_go (tk := tk) T₁ hb0 TB al k
  refine wpAny_bind (wpAny_pure (wpAny_bind (wpAny_holding (wpAny_pure (wpAny_pure ?_)))))
  refine ⟨(T₁.go g₂).kin B, ?_⟩
  refine wpAny_mono (law_call (s := { s₁ with heap := h', toks := tk }) B X BL S (T₁.go g₂).c (T₁.go g₂).fr (and1 (and2 (and2 hw))) (and1 (and2 hw)) (and2 (and2 (and2 hw))) hf lc rfl hb') (fun v s₃ q => ?_) fun _ _ q => q
  obtain ⟨c, t, H', M', rfl, g₃, q⟩ := q
  have G := (g₁.trans g₂).trans g₃
  rcases q with ⟨rfl, x, er⟩ | er
  · rw [er] at hr
    exact ⟨.str [], H', M', hr.symm, G, Nat.zero_le _, t, rfl⟩
  · rw [er] at hr
    dsimp only at hr
    induction hz : Nat.ble c.length 1000 using Bool.casesOn with
    | true => rw [hz] at hr; exact ⟨.str c, H', M', hr.symm, G, Nat.le_of_ble_eq_true hz, t, rfl⟩
    | false => rw [hz] at hr; exact absurd hr.symm hb
 | 0, hr, T => exact absurd hr.symm hb
 | 1, hr, T => exact absurd hr.symm hb
 | 2, hr, T => exact absurd hr.symm hb
theorem fm_lt {α β : Type} (g : α → Option β) : ∀ l : List α, (∃ x ∈ l, g x = none) → (l.filterMap g).length < l.length := by
 intro L
 induction L with
 | nil =>
  rintro ⟨x, h, _⟩
  contradiction
 | cons a r ih =>
  rintro ⟨x, h, e⟩
  have le : ∀ r : List α, (r.filterMap g).length ≤ r.length := fun r => List.length_filterMap_le ..
  rw [List.filterMap_cons]
  induction q : g a using Option.casesOn with
  | none => have := le r; simp only [List.length_cons]; exact Nat.lt_succ_of_le ‹_›
  | some b =>
   rcases List.mem_cons.mp h with rfl | h
   · rw [q] at e; contradiction
   · have := ih ⟨x, h, e⟩
     simp only [List.length_cons]; exact Nat.lt_succ_of_le ‹_›
theorem pys_mem : ∀ {l : List Tg} {t : Tg}, t ∈ l → t.py nm ∈ Tg.pys nm l
 | a :: r, t, h => by
  rcases List.mem_cons.mp h with rfl | h
  · exact List.mem_cons_self
  · exact List.mem_cons_of_mem _ (pys_mem h)
theorem wfTs_mem : ∀ {l : List Tg} {t : Tg}, wfTs z l = true → t ∈ l → wfT z t = true
 | a :: r, t, h, m => by
  rcases List.mem_cons.mp m with rfl | m
  · exact and1 h
  · exact wfTs_mem (and2 h) m
theorem inOrder_stores (ok : EnvOk z env) {ts : List Tg} {k : Nat} {pt : Pos} {e : E} (hi : inOrder z ts e = true) (hts : wfTs z ts = true) (hc : isComp e = false) : swappedStores [.Tuple (Tg.pys nm ts) k pt] (e.py nm) env = pure none := by
 induction e using E.casesOn with
 | tup es k' p' =>
  have any : (foldedAll (.tup es k' p') || ts.any (fun t => match t with | .name x _ => !isFrom z x [.local] | _ => true)) = true := hi
  induction hfold : foldedAll (.tup es k' p') using Bool.casesOn with
  | true =>
   have hfold : (E.pys nm es).all (foldedForSure 8) = true := hfold
   unfold swappedStores
   show (if _ then _ else _) = _
   split
   · rfl
   split
   · rfl
   dsimp only
   split
   · rfl
   · first | rfl | (rw [hfold]; rfl)
  | false =>
  rw [hfold, Bool.false_or] at any
  refine ob12 (List.any_eq_true.mp any) fun t ht hx => ?_
  unfold swappedStores
  show (if _ then _ else _) = _
  split
  · rfl
  split
  · rfl
  dsimp only
  split
  · rfl
  · rename_i hno
    exfalso
    apply hno
    rw [Bool.or_eq_true]
    left
    rw [bne_iff_ne]
    refine Nat.ne_of_lt (fm_lt _ _ ⟨t.py nm, pys_mem ht, ?_⟩)
    induction t using Tg.casesOn with
    | name x px =>
     have w := wfTs_mem hts ht
     have hx' : isFrom z x [.local] = false := by simpa using hx
     refine ob12 (ifK (show isFrom z x [.local, .cell] = true from w)) fun kk hk hm => ?_
     have kc : kk = .cell := by
      simp only [List.mem_cons, List.not_mem_nil, or_false] at hm
      rcases hm with rfl | rfl
      · exfalso
        delta isFrom at hx'
        rw [hk] at hx'
        have : Nat.blt x 202 = true := and1 (show isFrom z x [.local, .cell] = true from w)
        rw [this] at hx'
        simp at hx'
      · rfl
     subst kc
     have := ok.is (ifL (show isFrom z x [.local, .cell] = true from w)) hk (by decide)
     show (if (env.kindOf (nm x) == some .local && _) = true then _ else _) = _
     rw [this, if_neg (by simp)]
    | att o a p => rfl
    | sub o i p => rfl
 | raw x => contradiction
 | _ => rfl
theorem isAM_or {op : BOp} (h : isAM op = true) : op = .add ∨ op = .mul := by cases op <;> first | exact .inl rfl | exact .inr rfl | cases h
theorem Snd.zero : Snd w base K 0 where
 runF := fun hr hb => by skip; exact absurd hr.symm hb
 callF := fun hr hb => by skip; exact absurd hr.symm hb
 ev := fun hr hb => by skip; exact absurd hr.symm hb
 evo := fun hr hb => by skip; exact absurd hr.symm hb
 te := fun hr hb => by skip; exact absurd hr.symm hb
 teA := fun hr hb => by skip; exact absurd hr.symm hb
 teO := fun hr hb => by skip; exact absurd hr.symm hb
 evs := fun hr hb => by skip; exact absurd hr.symm hb
 ex := fun hr hb => by skip; exact absurd hr.symm hb
 exs := fun hr hb => by skip; exact absurd hr.symm hb
 asg := fun hr hb => by skip; exact absurd hr.symm hb
 asgs := fun hr hb => by skip; exact absurd hr.symm hb
 forL := fun hr hb => by skip; exact absurd hr.symm hb
 cmpL := fun hr hb => by skip; exact absurd hr.symm hb
 whl := fun hr hb => by skip; exact absurd hr.symm hb
theorem Snd.step (B : BaseOk w base K) (BF : BaseF w base K) (X : BaseX w base K) (BL : BaseL w base K) (hb0 : base.get? lawTab = none) (S : Snd w base K n) (S' : n = 0 ∨ ∃ m, n = m + 1 ∧ Snd w base K m) : Snd w base K (n + 1) where
 runF := fun hr hb => S.runF1 B hr hb
 callF := fun hr hb _ _ _ _ _ _ C hg hv => S.callF1 B BF hr hb C hg hv
 ev := fun {d fr H e r} hr hb {A l z env M s} hw T => by
  induction e using E.casesOn with
  | c v k p => exact S.c hr hb hw T
  | loc x p => exact S.loc B hr hb hw T
  | gl x p => exact S.gl B hr hb hw T
  | bin op a b p => exact S.binS hr hb hw T
  | neg a p => exact S.neg hr hb hw T
  | cmp op a b p => exact S.cmp B hr hb hw T
  | cmp2 o1 o2 a b c p => exact S.cmp2 B hr hb hw T
  | ife t a b p => exact S.ife hr hb hw T
  | tup l k p => exact S.tup hr hb hw T
  | lst l p => exact S.lst hr hb hw T
  | dct p => exact S.dct hr hb hw T
  | idx e i p => exact S.idx B hr hb hw T
  | slc e lo hi ps p => exact S.slcS B hr hb hw T
  | att e a p => exact S.att B hr hb hw T
  | call f l p => exact S.callE B BF hr hb hw T
  | mth e a l pa p => exact S.mthS B BF hr hb hw T
  | comp x px el it sc p => exact S.compS B hr hb hw T
  | compR x px el rg pr hi pi sc p => exact S.compRS B hr hb hw T
  | tryc f pn b sc pl p => exact S.tryc B X BL hb0 hr hb hw T
  | not t p => skip; exact absurd hr.symm hb
  | and l p => skip; exact absurd hr.symm hb
  | or l p => skip; exact absurd hr.symm hb
  | raw e => skip; exact absurd hr.symm hb
 evo := fun hr hb _ _ _ _ _ _ hw T => S.evo1 hr hb hw T
 te := fun hr hb _ _ _ _ _ _ hw T => S.te1 B hr hb hw T
 teA := fun hr hb _ _ _ _ _ _ hw T => S.teA1 hr hb hw T
 teO := fun hr hb _ _ _ _ _ _ hw T => S.teO1 hr hb hw T
 evs := fun hr hb _ _ _ _ _ _ _ hw T => S.evs1 hr hb hw T
 ex := fun {d fr H e r} hr hb {A l z env M s} hw T => by
  cases e with
  | asg t e p =>
   rcases S' with rfl | ⟨m, rfl, S'⟩
   · delta Mine.ex at hr
     skip
     skip
     exact absurd hr.symm hb
   · exact S.asgAny B S' hr hb hw T
  | asgT l k pt e p => exact S.asgT1 hr hb (and1 hw) (by simpa using and2 hw) T (inOrder_stores T.fr.ok (and2 (and2 (and1 hw))) (and1 (and1 hw)) (by simpa using and2 hw))
  | asgS l k pt es ke pe p => exact S.asgSw B hr hb hw T
  | augn x px op e p => exact S.augn B hr hb (and1 hw) (isAM_or (and2 hw)) T
  | auga o a pa op e p => exact S.auga B hr hb (and1 hw) (isAM_or (and2 hw)) T
  | ret e p => exact S.ret hr hb hw T
  | ife t a b p => exact S.ifs hr hb hw T
  | whl t b p => exact S.whlS hr hb hw T
  | for_ t it b p => exact S.forS hr hb hw T
  | forR t rg pr hi pi b p => exact S.forRS B hr hb hw T
  | forZ x px y py k pt z pz a c pi b p => exact S.forZS B hr hb hw T
  | rse c x px args pc p => exact S.rse B X hr hb hw T
  | exp e p => exact S.expS hr hb (and1 hw) (by simpa using and2 hw) T
  | raw s => skip; exact absurd hr.symm hb
 exs := fun hr hb _ _ _ _ _ _ hw T => S.exs1 hr hb hw T
 asg := fun hr hb _ _ _ _ _ _ _ hw T hv => S.asg' B hr hb hw T hv
 asgs := fun hr hb _ _ _ _ _ _ _ hw T hv => S.asgS1 hr hb hw T hv
 forL := fun hr hb => fun h1 h2 T g h3 h4 h5 => S.forL1 hr hb h1 h2 T g h3 h4 h5
 cmpL := fun hr hb => S.cmpL1 B hr hb
 whl := fun hr hb => fun h1 h2 T g => S.whl1 hr hb h1 h2 T g
theorem snd_all (B : BaseOk w base K) (BF : BaseF w base K) (X : BaseX w base K) (BL : BaseL w base K) (hb0 : base.get? lawTab = none) : ∀ n, Snd w base K n ∧ Snd w base K (n + 1)
 | 0 => ⟨.zero, Snd.zero.step B BF X BL hb0 (.inl rfl)⟩
 | n + 1 => let ⟨a, b⟩ := snd_all B BF X BL hb0 n; ⟨b, b.step B BF X BL hb0 (.inr ⟨n, rfl, a⟩)⟩
end
noncomputable def kA : List Nat := [3, 0, 2, 25, 37, 38, 40, 41, 180, 181, 262, 263, 530, 531, 795, 796, 863, 713, 732, 739] ++ fnL.map (·.1)
noncomputable def kL (P : Params) (l : List Nat) : Frag := l.map fun a => (a, ((s17 P).fin.get a).getD default)
theorem kIn (P : Params) : ∀ (l : List Nat), (l.all fun a => Nat.blt a 874 && ((s17 P).fin.get a).any fun o => !o.isFreed) = true → (kL P l).In (H₁ P) := by
 intro L
 induction L with
 | nil =>
  intro _
  exact fun a o e => by injection e
 | cons b l ih =>
  intro h
  intro a o e
  rw [List.all_cons] at h
  have h1 := and1 h
  have h2 := and2 h
  change (List.lookup a ((b, ((s17 P).fin.get b).getD default) :: kL P l)) = some o at e
  rw [List.lookup_cons] at e
  cases q : a == b with
  | false => rw [q] at e; exact ih h2 a o e
  | true =>
   rw [q] at e
   have q' : a = b := by simpa using q
   subst q'
   have lt : a < 874 := Nat.le_of_ble_eq_true (and1 h1)
   have h3 := and2 h1
   induction g : (s17 P).fin.get a using Option.casesOn with
   | none => rw [g] at h3; injection h3
   | some ob =>
    rw [g] at h3 e
    obtain rfl : ob = o := Option.some.inj e
    show (absHeap (s17 P).fin 874 {}).get? a = _
    rw [abs_get lt g]
    obtain ⟨c, dd, dt, sl⟩ := ob
    cases dt <;> first | rfl | cases h3
theorem kAll (P : Params) : ((kA.all fun a => Nat.blt a 874 && ((s17 P).fin.get a).any fun o => !o.isFreed)) = true := by kernel_rfl
theorem clsFacts (P : Params) : ([181, 263, 531, 796].all fun c => plainGet (kL P kA) c Str.empty && hasDictIn (kL P kA) c && plainOver (kL P kA) c && (findIn (kL P kA) (.ref c) "__setattr__" == some (some (.builtin "object.__setattr__"))) && makesIn (kL P kA) c && keepIn (kL P kA) (.ref c)) = true := by kernel_rfl
theorem attrFacts (P : Params) : ([181, 263, 531, 796].all fun c => (List.range 202).all fun x => badAt x || findIn (kL P kA) (.ref c) (nm x) == some ((tb.meth c x).map Value.ref)) = true := by kernel_rfl
theorem methFacts (P : Params) : (mtL.all fun q => typeIn (kL P kA) (.ref q.2) == some (.type "function") && specialIn (kL P kA) (.ref q.2) "__get__" == some (some (.builtin "function.__get__")) && takesIn (kL P kA) (.ref q.2) == some false) = true := by kernel_rfl
theorem nmFacts : ((List.range 202).all fun x => !(nm x == ("__debug__" : Str)) && !(nm x == ("__classdict__" : Str)) && !copiedNames.contains (nm x)) = true := by kernel_rfl
theorem nmInj : ((List.range 202).all fun x => (List.range 202).all fun y => Nat.beq x y || !(nm x == nm y)) = true := by kernel_rfl
noncomputable def funcAt (P : Params) (a : Nat) : Option FuncData := match (s17 P).fin.get a with | some ⟨_, _, .func fd, _⟩ => some fd | _ => none
theorem bodies (P : Params) : fnL.map (fun q => (funcAt P q.1).map (·.body)) = fnL.map (fun q => some (.stmts (Mine.S.pys nm q.2.body))) := by kernel_rfl
theorem fnNames (P : Params) : fnL.map (fun q => (funcAt P q.1).map (·.scope.names)) = fnL.map (fun q => some (q.2.names.map fun y => (nm y.1, y.2))) := by kernel_rfl
theorem fnWf : (fnL.all fun q => wfSs q.2.names q.2.body && (q.2.names.all (fun y => Nat.blt y.1 202)) && (q.2.params.all fun x => isFrom q.2.names x [.local, .cell]) && (q.2.names.all fun y => match y.2 with | .free => false | _ => true)) = true := by kernel_rfl
theorem fnShapes (P : Params) : (fnL.all fun q => (funcAt P q.1).any fun fd => fd.scope.kind == .function && !fd.scope.isGenerator && !fd.scope.isCoroutine && Nat.beq fd.globals mainGlobals && Nat.beq fd.builtins builtinsNs && fd.closure.isEmpty) = true := by kernel_rfl
theorem fnCodes (P : Params) : (fnL.all fun q => (funcAt P q.1).any fun fd => match fd.code with
 | .ref c => (match (s17 P).fin.get c with
  | some (⟨_, _, .fields vs, _⟩ : Obj) => Nat.blt c 874 && (match vs[1]? with | some (Value.str s _) => s == fd.qualname | _ => false)
  | _ => false)
 | _ => false) = true := by kernel_rfl
theorem fnCls (P : Params) : (fnL.all fun q => match (s17 P).fin.get q.1 with | some ⟨.type t, _, _, _⟩ => t == "function" | _ => false) = true := by kernel_rfl
theorem fnLam (P : Params) : (fnL.all fun q => Nat.beq q.1 873 || (match lookA q.2.names 195 with | some .globalImplicit => false | _ => true)) = true := by kernel_rfl
theorem lawFn (P : Params) : (funcAt P 873).map (fun fd => (fd.code, fd.qualname)) = some (.ref lawCode, ("law" : Str)) := by kernel_rfl
theorem lawTabAt (P : Params) : (s17 P).fin.get lawTab = some (tabObj #[]) := by kernel_rfl
theorem excFacts (P : Params) : (findIn (kL P kA) (.ref 41) "__setattr__" == some (some (.builtin "object.__setattr__")) && takerIn (kL P kA) 41 "code" == some none && takerIn (kL P kA) 41 "told" == some none &&
 findIn (kL P kA) (.ref 41) "__getattribute__" == some (some (.builtin "BaseException.__getattribute__")) && findIn (kL P kA) (.ref 41) "__getattr__" == some none && findIn (kL P kA) (.ref 41) "code" == some none && nsIn (kL P kA) cStatics "thirdparty.any" == some none &&
 alongIn (kL P kA) "__init__" [.type "Exception", .type "BaseException", .type "object"] == some (some (.builtin "Exception.__init__"))) = true := by kernel_rfl
theorem supFacts (P : Params) : (nsIn (kL P kA) mainGlobals "super" == some none && nsIn (kL P kA) builtinsNs "super" == some (some (.type "super")) && nsIn (kL P kA) 40 "__init__" == some (some (.ref 38))) = true := by kernel_rfl
theorem cls41 (P : Params) : CK41 (kL P kA) :=
 ⟨"BasicError", [.type "Exception"], [], [], false, none, none, some (.ref 22), none, some (.str "BasicError" 200), some (.str "BasicError" 208), some (.bool true), by kernel_rfl⟩
theorem cell25 (P : Params) : ∃ o, (kL P kA).lookup 25 = some o ∧ o.data = .cell (some (.ref 41)) := ⟨{ cls := .type "cell", data := .cell (some (.ref 41)) }, by kernel_rfl, rfl⟩
theorem topSuper : (PW.main.scope.names.lookup ("super" : Str)).isSome = false := by kernel_rfl
noncomputable def globAt (P : Params) (x : Nat) : Option Value := match nsIn (kL P kA) mainGlobals (nm x) with
 | some (some u) => some u
 | some none => (match nsIn (kL P kA) builtinsNs (nm x) with | some (some u) => some u | _ => none)
 | none => none
noncomputable def intOf : Value → Option Int
 | .int i _ => some i
 | _ => none
noncomputable def seqOf : Data → Option (Array Value × Nat)
 | .seq xs n => some (xs, n)
 | _ => none
noncomputable def intA : AV → Option Int
 | .int i => some i
 | _ => none
noncomputable def tupO (q : Option Obj) (l : List AV) (a : Addr) : Bool := match q with
 | some o => o.cls == .type "tuple" && (Nat.blt a 874 && (match seqOf o.data with
  | some p => p.1.toList.map intOf == l.map intA && (Nat.beq l.length 2 && (l.map intA).all Option.isSome)
  | none => false))
 | none => false
noncomputable def tupIs (P : Params) (l : List AV) (a : Addr) : Bool := tupO ((s17 P).fin.get a) l a
noncomputable def valIs (P : Params) (v : AV) (u : Value) : Bool := match v with
 | .fn a => u == .ref a
 | .bi k => u == biVal k
 | .int i => intOf u == some i
 | .str l => match u with | .str t _ => Nat.ble l.length 1000 && strOf l == t | _ => false
 | .tup l => match u with | .ref a => tupIs P l a | _ => false
 | _ => false
theorem globFacts (P : Params) : (glL.all fun q => (globAt P q.1).any (valIs P q.2)) = true := by kernel_rfl
section
variable {w : World} {base : Heap}
theorem range_all {p : Nat → Bool} {n : Nat} (h : ((List.range n).all p) = true) {x : Nat} (hx : x < n) : p x = true := List.all_eq_true.mp h x (List.mem_range.mpr hx)
theorem cls_mem {c : Nat} (h : (tb.cls c).isSome = true) : c ∈ [181, 263, 531, 796] := by
 have : ∀ (l : List (Nat × (Nat × List AV))), (lookA l c).isSome = true → c ∈ l.map (·.1) := by
  intro l
  induction l with
  | nil => intro h; contradiction
  | cons q r ih =>
   obtain ⟨y, v⟩ := q
   intro h
   dsimp only [lookA] at h
   induction q : Nat.beq y c using Bool.casesOn with
   | true => rw [Nat.eq_of_beq_eq_true q]; exact List.mem_cons_self
   | false => rw [q] at h; exact List.mem_cons_of_mem _ (ih h)
 exact this clL h
theorem lookA_memG {α : Type} : ∀ {l : List (Nat × α)} {x : Nat} {v : α}, lookA l x = some v → (x, v) ∈ l
 | (y, u) :: r, x, v, h => by
  dsimp only [lookA] at h
  induction q : Nat.beq y x using Bool.casesOn with
  | true => rw [q] at h; injection h with h; subst h; rw [Nat.eq_of_beq_eq_true q]; exact List.mem_cons_self
  | false => rw [q] at h; exact List.mem_cons_of_mem _ (lookA_memG h)
theorem baseOk (K0 : (kL w.params kA).In base) (hg : ∃ o, base.get? sysModules = some o) (lim : base.NoLimit)
 (gl : GlobR base) : BaseOk w base (kL w.params kA) where
 kin := K0
 cls := fun c hc => by
  have := List.all_eq_true.mp (clsFacts w.params) c (cls_mem hc)
  simp only [Bool.and_eq_true, beq_iff_eq] at this
  obtain ⟨⟨⟨⟨⟨a, b⟩, c'⟩, d⟩, e⟩, f⟩ := this
  exact ⟨a, b, c', d, e⟩
 attr := fun c x hc hx hb => by
  have := range_all (List.all_eq_true.mp (attrFacts w.params) c (cls_mem hc)) hx
  simp only [hb, Bool.false_or, beq_iff_eq] at this
  exact this
 meth := fun c x f h => by
  have hm : ∃ q ∈ mtL, q.2 = f := by
   have e : (match Nat.beq c 796 with | true => lookA mtL x | false => none) = some f := h
   split at e
   · exact ⟨(x, f), lookA_memG e, rfl⟩
   · contradiction
  refine ob12 hm fun q hq q2_ => ?_; subst q2_
  have := List.all_eq_true.mp (methFacts w.params) q hq
  simp only [Bool.and_eq_true, beq_iff_eq] at this
  exact ⟨this.1.1, this.1.2, this.2⟩
 sysm := hg
 glob := gl
 nodbg := fun x hx => by have := range_all nmFacts hx; simp only [Bool.and_eq_true, Bool.not_eq_true'] at this; exact this.1.1
 nocd := fun x hx => by have := range_all nmFacts hx; simp only [Bool.and_eq_true, Bool.not_eq_true'] at this; exact this.1.2
 nocopy := fun x hx => by have := range_all nmFacts hx; simp only [Bool.and_eq_true, Bool.not_eq_true'] at this; exact this.2
 inj := fun x y hx hy e => by
  have := range_all (range_all nmInj hx) hy
  rw [e] at this
  simp only [beq_self_eq_true, Bool.not_true, Bool.or_false] at this
  exact Nat.eq_of_beq_eq_true this
 limit := lim
theorem kL_look (P : Params) : ∀ {l : List Nat} {a : Nat}, a ∈ l → (kL P l).lookup a = some (((s17 P).fin.get a).getD default) := by
 intro L
 induction L with
 | nil => intros; contradiction
 | cons b r ih =>
  intro a h
  show (List.lookup a ((b, ((s17 P).fin.get b).getD default) :: kL P r)) = _
  rw [List.lookup_cons]
  cases q : a == b with
  | true =>
   have q' : a = b := by simpa using q
   rw [q']
  | false =>
   rcases List.mem_cons.mp h with rfl | h
   · simp at q
   · exact ih h
theorem map_at {α β : Type} {f g : α → β} : ∀ {l : List α}, l.map f = l.map g → ∀ x ∈ l, f x = g x := by
 intro L
 induction L with
 | nil => intros; contradiction
 | cons a r ih =>
  intro h x hx
  rw [List.map_cons, List.map_cons] at h
  injection h with h1 h2
  rcases List.mem_cons.mp hx with rfl | hx
  · exact h1
  · exact ih h2 x hx
theorem fn_in {a : Nat} {f : Fn} (h : tb.fn a = some f) : (a, f) ∈ fnL := lookA_memG h
theorem fnOk (hc : ∀ c o, c < 874 → (s17 w.params).fin.get c = some o → (∃ vs, o.data = .fields vs) → c ≠ lawTab → base.get? c = some o) {a : Nat} {f : Fn} (h : tb.fn a = some f) : ∃ o fd, FnOk base (kL w.params kA) a f o fd ∧ funcAt w.params a = some fd := by
 have hm := fn_in h
 have k0 : a ∈ kA := List.mem_append_right _ (List.mem_map.mpr ⟨_, hm, rfl⟩)
 have hb := map_at (bodies w.params) _ hm
 have hn := map_at (fnNames w.params) _ hm
 have hs := List.all_eq_true.mp (fnShapes w.params) _ hm
 have hco := List.all_eq_true.mp (fnCodes w.params) _ hm
 have hcl := List.all_eq_true.mp (fnCls w.params) _ hm
 have hwf := List.all_eq_true.mp fnWf _ hm
 have hla := List.all_eq_true.mp (fnLam w.params) _ hm
 dsimp only at hb hn hs hco hcl hla
 have hlk := kL_look w.params k0
 induction hg : (s17 w.params).fin.get a using Option.casesOn with
 | none => rw [hg] at hcl; injection hcl
 | some o =>
  rw [hg] at hcl hlk
  induction hf : funcAt w.params a using Option.casesOn with
  | none => rw [hf] at hb; injection hb
  | some fd =>
   rw [hf] at hb hn hs hco
   have hod : o.data = .func fd := by
    unfold funcAt at hf
    rw [hg] at hf
    obtain ⟨c, dd, dt, sl⟩ := o
    cases dt <;> cases hf
    rfl
   have hoc : o.cls = .type "function" := by
    obtain ⟨c, dd, dt, sl⟩ := o
    cases c <;> first | cases hcl | (dsimp only at hcl; rw [beq_iff_eq.mp hcl])
   simp only [Option.any_some, Bool.and_eq_true, beq_iff_eq, Bool.not_eq_true'] at hs
   obtain ⟨⟨⟨⟨⟨s1, s2⟩, s3⟩, s4⟩, s5⟩, s6⟩ := hs
   simp only [Bool.and_eq_true] at hwf
   obtain ⟨⟨⟨w1, w2⟩, w3⟩, w4⟩ := hwf
   refine ⟨o, fd, ⟨hlk, hoc, hod, Option.some.inj hb, s1, Option.some.inj hn, s2, s3, Nat.eq_of_beq_eq_true s4, Nat.eq_of_beq_eq_true s5, List.isEmpty_iff.mp s6, ?_, w1, fun y hy => Nat.le_of_ble_eq_true (List.all_eq_true.mp w2 y hy), fun x hx => List.all_eq_true.mp w3 x hx, fun y hy e => ?_, fun e => ?_⟩, rfl⟩
   · rw [Option.any_some] at hco
     split at hco
     · rename_i c hcd
       split at hco
       · rename_i cc dd vs sl hgc
         rw [Bool.and_eq_true] at hco
         obtain ⟨q1, q2⟩ := hco
         split at q2
         · rename_i t tk hv
           refine ⟨c, _, vs, tk, hcd, hc c _ (Nat.le_of_ble_eq_true q1) hgc ⟨vs, rfl⟩ (fun e => ?_), rfl, ?_⟩
           · subst e
             rw [lawTabAt] at hgc
             cases hgc
             simp at hv
           · rw [hv, beq_iff_eq.mp q2]
         · injection q2
       · injection hco
     · injection hco
   · have := List.all_eq_true.mp w4 y hy
     rw [e] at this; injection this
   · rw [e] at hla
     simp only [Bool.or_false] at hla
     have ha : a = 873 := Nat.eq_of_beq_eq_true hla
     subst ha
     have := lawFn w.params
     rw [hf] at this
     have := Option.some.inj this
     exact ⟨congrArg Prod.fst this, congrArg Prod.snd this⟩
end
theorem bindsAll (P : Params) (v : Nat → Value) : (fnL.filter fun q => !Nat.beq q.1 178).map (fun q => (funcAt P q.1).map fun fd => bindArgs fd ⟨(List.range q.2.params.length).map v, []⟩) =
 (fnL.filter fun q => !Nat.beq q.1 178).map (fun q => some (pure ((q.2.params.map nm).zip ((List.range q.2.params.length).map v)))) := by kernel_rfl
theorem noList (P : Params) : (kA.all fun a => ((s17 P).fin.get a).any fun o => !(o.cls == Value.type "list")) = true := by kernel_rfl
theorem no870 : kA.contains 870 = false := by kernel_rfl
theorem f171 (P : Params) : (s17 P).fin.get 171 = some { cls := .type "tuple", data := .seq #[.int 16 394, .int 9 395, .int 2000 396, .int 20 397, .int 2000 398] 0 } := by kernel_rfl
theorem f30 (P : Params) : (s17 P).fin.get 30 = some { cls := .type "tuple", data := .seq #[.str (Str.ofString "") 212] 0 } := by kernel_rfl
theorem f1 (P : Params) : ((s17 P).fin.get 1).any (fun o => o.cls == Value.type "dict" && !o.isFreed) = true := by kernel_rfl
theorem f4 (P : Params) : (s17 P).fin.get 4 = some { cls := .type "module", dict := some 0, data := .plain } := by kernel_rfl
theorem f872 (P : Params) : (s17 P).fin.get 872 = some { cls := .type "code", data := .fields #[.str "law" 1433, .str "law" 1434, .str "/claim/cut.py" 1435, .int 668 0, .int 1 0, .int 0 0, .int 0 0, .int 3 0, .ref 869, .bool true, .int 181 0, .ref 870, .none, .none, .none, .ref 871, .int 1436 0, .int 668 0, .str "/claim/cut.py" 1437] } := by kernel_rfl
theorem f37 (P : Params) : (s17 P).fin.get 37 = some { cls := .type "code", data := .fields #[.str "__init__" 213, .str "BasicError.__init__" 214, .str "/claim/cut.py" 215, .int 9 0, .int 3 0, .int 0 0, .int 0 0, .int 3 0, .ref 32, .bool true, .int 181 0, .ref 33, .none, .ref 34, .ref 35, .ref 36, .int 220 0, .int 9 0, .str "/claim/cut.py" 221] } := by kernel_rfl
theorem f862 (P : Params) : (s17 P).fin.get 862 = some { cls := .type "code", data := .fields #[.str "_law_code" 1419, .str "_law_code" 1420, .str "/claim/cut.py" 1421, .int 656 0, .int 1 0, .int 0 0, .int 0 0, .int 3 0, .ref 857, .bool true, .int 181 0, .ref 858, .none, .ref 859, .ref 860, .ref 861, .int 1424 0, .int 656 0, .str "/claim/cut.py" 1425] } := by kernel_rfl
noncomputable def par178 : Arguments := { posonlyargs := [], args := [⟨"self", none, ⟨109, 17, 109, 21⟩⟩, ⟨"bits", none, ⟨109, 23, 109, 27⟩⟩, ⟨"digits", none, ⟨109, 32, 109, 38⟩⟩, ⟨"most_steps", none, ⟨109, 42, 109, 52⟩⟩, ⟨"most_depth", none, ⟨109, 59, 109, 69⟩⟩, ⟨"room", none, ⟨109, 74, 109, 78⟩⟩], vararg := none, kwonlyargs := [], kw_defaults := [], kwarg := none, defaults := [.Constant (.int 16) 0 ⟨109, 28, 109, 30⟩, .Constant (.int 9) 0 ⟨109, 39, 109, 40⟩, .Constant (.int 2000) 0 ⟨109, 53, 109, 57⟩, .Constant (.int 20) 0 ⟨109, 70, 109, 72⟩, .Constant (.int 2000) 0 ⟨109, 79, 109, 83⟩] }
noncomputable def par38 : Arguments := { posonlyargs := [], args := [⟨"self", none, ⟨9, 17, 9, 21⟩⟩, ⟨"code", none, ⟨9, 23, 9, 27⟩⟩, ⟨"told", none, ⟨9, 29, 9, 33⟩⟩], vararg := none, kwonlyargs := [], kw_defaults := [], kwarg := none, defaults := [.Constant (.str "") 0 ⟨9, 34, 9, 36⟩] }
noncomputable def par863 : Arguments := { posonlyargs := [], args := [⟨"work", none, ⟨656, 14, 656, 18⟩⟩], vararg := none, kwonlyargs := [], kw_defaults := [], kwarg := none, defaults := [] }
theorem g178 (P : Params) : (funcAt P 178).map (fun fd => (fd.params, fd.kwdefaults, fd.qualname, fd.defaults)) = some (par178, .none, Str.ofString "World.__init__", .ref 171) := by kernel_rfl
theorem g38 (P : Params) : (funcAt P 38).map (fun fd => (fd.params, fd.kwdefaults, fd.qualname, fd.defaults)) = some (par38, .none, Str.ofString "BasicError.__init__", .ref 30) := by kernel_rfl
theorem g863 (P : Params) : (funcAt P 863).map (fun fd => (fd.params, fd.kwdefaults, fd.qualname, fd.defaults)) = some (par863, .none, Str.ofString "_law_code", .none) := by kernel_rfl
noncomputable def p38 : Nat → Pos
 | 0 => ⟨10, 8, 10, 13⟩ | 1 => ⟨10, 8, 10, 15⟩ | 2 => ⟨10, 8, 10, 24⟩ | 3 => ⟨10, 25, 10, 29⟩ | 4 => ⟨10, 8, 10, 30⟩ | 5 => ⟨10, 8, 10, 30⟩
 | 6 => ⟨11, 8, 11, 12⟩ | 7 => ⟨11, 8, 11, 17⟩ | 8 => ⟨11, 20, 11, 24⟩ | 9 => ⟨11, 8, 11, 24⟩ | 10 => ⟨12, 8, 12, 12⟩ | 11 => ⟨12, 8, 12, 17⟩ | 12 => ⟨12, 20, 12, 24⟩ | _ => ⟨12, 8, 12, 24⟩
noncomputable def p863 : Nat → Pos
 | 0 => ⟨658, 8, 658, 12⟩ | 1 => ⟨658, 8, 658, 14⟩ | 2 => ⟨658, 8, 658, 14⟩ | 3 => ⟨659, 11, 659, 21⟩ | 4 => ⟨660, 15, 660, 20⟩ | 5 => ⟨660, 15, 660, 25⟩ | 6 => ⟨660, 8, 660, 25⟩ | 7 => ⟨659, 4, 660, 25⟩ | 8 => ⟨657, 4, 660, 25⟩ | 9 => ⟨661, 11, 661, 13⟩ | _ => ⟨661, 4, 661, 13⟩
theorem b38 (P : Params) : (funcAt P 38).map (fun fd => (fd.body, fd.scope, fd.globals, fd.builtins, fd.closure, fd.code)) = some (.stmts (initBody p38), { kind := .function, names := initNames, isGenerator := false, isCoroutine := false }, mainGlobals, builtinsNs, initClo, .ref 37) := by kernel_rfl
theorem b863 (P : Params) : (funcAt P 863).map (fun fd => (fd.body, fd.scope, fd.globals, fd.builtins, fd.closure, fd.code)) = some (.stmts (Mine.S.pys nm (lcFn p863).body), { kind := .function, names := lcNames.map fun y => (nm y.1, y.2), isGenerator := false, isCoroutine := false }, mainGlobals, builtinsNs, [], .ref 862) := by kernel_rfl
theorem cls38 (P : Params) : ((s17 P).fin.get 38).any (fun o => o.cls == Value.type "function") = true := by kernel_rfl
theorem cls863 (P : Params) : ((s17 P).fin.get 863).any (fun o => o.cls == Value.type "function") = true := by kernel_rfl
theorem nsFacts (P : Params) : (nsIn (kL P kA) mainGlobals "__builtins__" == some (some (.ref 4)) && nsIn (kL P kA) mainGlobals "law" == some (some (.ref 873))) = true := by kernel_rfl
theorem initFacts (P : Params) : (clL.all fun q => findIn (kL P kA) (.ref q.1) "__init__" == some (some (.ref q.2.1))) = true := by kernel_rfl
section
variable {w : World} {h₁ : Heap} {sc : Addr} {xs : Array Value} {ep : Nat}
noncomputable abbrev bs (h₁ : Heap) (sc : Addr) : Heap := hideAll h₁ [lawTab, sc]
abbrev Yh (w : World) (h₁ : Heap) : Prop := ∀ b o, (H₁ w.params).get? b = some o → h₁.get? b = some o
theorem base_get (Y : Yh w h₁) (hs : h₁.get? sc = some { cls := .type "list", data := .seq xs ep }) {a : Addr} {o : Obj} (lt : a < 874) (e : (s17 w.params).fin.get a = some o)
 (nf : alive o = some o) (n1 : a ≠ lawTab) (n2 : o.cls ≠ .type "list") : (bs h₁ sc).get? a = some o := by
 have e1 : (H₁ w.params).get? a = some o := by
  show (absHeap (s17 w.params).fin 874 {}).get? a = _
  rw [abs_get lt e, nf]
 have e2 := Y a o e1
 refine hideAll_get _ e2 fun m => ?_
 rcases List.mem_cons.mp m with q | m
 · exact n1 q
 · rcases List.mem_cons.mp m with q | m
   · rw [q, hs] at e2; injection e2 with e2; subst e2; exact n2 rfl
   · cases m
theorem look_mem (P : Params) : ∀ {l : List Nat} {a : Addr} {o : Obj}, (kL P l).lookup a = some o → a ∈ l
 | [], _, _, h => by contradiction
 | b :: r, a, o, h => by
  change (List.lookup a ((b, ((s17 P).fin.get b).getD default) :: kL P r)) = some o at h
  rw [List.lookup_cons] at h
  cases q : a == b with
  | true =>
   have q' : a = b := by simpa using q
   rw [q']; exact List.mem_cons_self
  | false => rw [q] at h; exact List.mem_cons_of_mem _ (look_mem P h)
theorem kinB (Y : Yh w h₁) (hs : h₁.get? sc = some { cls := .type "list", data := .seq xs ep }) : (kL w.params kA).In (bs h₁ sc) := by
 intro a o e
 have hm := look_mem w.params e
 have e2 := Y a o (kIn w.params kA (kAll w.params) a o e)
 have hk := kL_look w.params hm
 refine hideAll_get _ e2 fun m => ?_
 rcases List.mem_cons.mp m with q | m
 · have := no870
   rw [q] at hm
   rw [List.contains_eq_mem] at this
   have : decide (lawTab ∈ kA) = false := this
   simp [hm] at this
 · rcases List.mem_cons.mp m with q | m
   · rw [q, hs] at e2
     have nl := List.all_eq_true.mp (noList w.params) a hm
     induction hg : (s17 w.params).fin.get a using Option.casesOn with
     | none => rw [hg] at nl; injection nl
     | some o' =>
      rw [hg] at nl hk
      rw [e] at hk
      have : o = o' := Option.some.inj hk
      subst this
      injection e2 with e2; subst e2
      rw [Option.any_some] at nl
      simp at nl
   · cases m
theorem ns_some_of {K : Frag} {h : Heap} {N : Addr} {mg : Str → Option Value} {n : Str} {v : Value} (X : K.In h) (G : h.Ns N mg) (e : nsIn K N n = some (some v)) : mg n = some v := by
 refine ob34 G fun o es ep ho hd _ hf => ?_
 unfold nsIn at e
 split at e
 · rename_i c d es' n' sl q
   have := X _ _ q
   rw [ho] at this
   injection this with this; subst this
   injection hd with hd; subst hd
   split at e
   · rename_i en he
     (injection e with ee; injection ee with e; subst e)
     rw [← hf]
     unfold nsFind findBy
     rw [← Array.find?_toList, he]
     rfl
   · split at e <;> cases e
 · contradiction
end
theorem in178 (x : List Value) (i1 i2 i3 i4 i5 : Value) (fd : FuncData) (h : fd.params = par178) (hk : fd.kwdefaults = .none) :
 (∀ a, ∃ k, bindArgs fd ⟨[a], []⟩ = seqItems? fd.defaults >>= k ∧ k (some #[i1, i2, i3, i4, i5]) = pure ([38, 25, 16, 39, 40, 41].map nm |>.zip [a, i1, i2, i3, i4, i5])) ∧
 (∀ a b, ∃ k, bindArgs fd ⟨[a, b], []⟩ = seqItems? fd.defaults >>= k ∧ k (some #[i1, i2, i3, i4, i5]) = pure ([38, 25, 16, 39, 40, 41].map nm |>.zip [a, b, i2, i3, i4, i5])) ∧
 (∀ a b c, ∃ k, bindArgs fd ⟨[a, b, c], []⟩ = seqItems? fd.defaults >>= k ∧ k (some #[i1, i2, i3, i4, i5]) = pure ([38, 25, 16, 39, 40, 41].map nm |>.zip [a, b, c, i3, i4, i5])) ∧
 (∀ a b c d, ∃ k, bindArgs fd ⟨[a, b, c, d], []⟩ = seqItems? fd.defaults >>= k ∧ k (some #[i1, i2, i3, i4, i5]) = pure ([38, 25, 16, 39, 40, 41].map nm |>.zip [a, b, c, d, i4, i5])) ∧
 (∀ a b c d e, ∃ k, bindArgs fd ⟨[a, b, c, d, e], []⟩ = seqItems? fd.defaults >>= k ∧ k (some #[i1, i2, i3, i4, i5]) = pure ([38, 25, 16, 39, 40, 41].map nm |>.zip [a, b, c, d, e, i5])) ∧
 (∀ a b c d e f, ∃ k, bindArgs fd ⟨[a, b, c, d, e, f], []⟩ = seqItems? fd.defaults >>= k ∧ k (some #[i1, i2, i3, i4, i5]) = pure ([38, 25, 16, 39, 40, 41].map nm |>.zip [a, b, c, d, e, f])) := by
 obtain ⟨nm0, qn, pr, bd, sco, gl, cl, df, kd, dc, pm, an, cd, ct, bu⟩ := fd
 dsimp only at h hk
 subst h; subst hk
 refine ⟨fun a => ⟨_, rfl, ?_⟩, fun a b => ⟨_, rfl, ?_⟩, fun a b c => ⟨_, rfl, ?_⟩, fun a b c d => ⟨_, rfl, ?_⟩, fun a b c d e => ⟨_, rfl, ?_⟩, fun a b c d e f => ⟨_, rfl, ?_⟩⟩
 all_goals kernel_rfl
theorem in38 (i : Value) (fd : FuncData) (h : fd.params = par38) (hk : fd.kwdefaults = .none) (x c : Value) : ∃ k, bindArgs fd ⟨[x, c], []⟩ = seqItems? fd.defaults >>= k ∧ k (some #[i]) = pure (iBs x c i) := by
 obtain ⟨nm0, qn, pr, bd, sco, gl, cl, df, kd, dc, pm, an, cd, ct, bu⟩ := fd
 dsimp only at h hk
 subst h; subst hk
 refine ⟨_, rfl, ?_⟩
 kernel_rfl
theorem in863 (fd : FuncData) (h : fd.params = par863) (hk : fd.kwdefaults = .none) (hd : fd.defaults = .none) (x : Value) : bindArgs fd ⟨[x], []⟩ = pure [(nm 200, x)] := by
 obtain ⟨nm0, qn, pr, bd, sco, gl, cl, df, kd, dc, pm, an, cd, ct, bu⟩ := fd
 dsimp only at h hk hd
 subst h; subst hk; subst hd
 kernel_rfl
section
variable {w : World} {h₁ : Heap} {sc : Addr} {xs : Array Value} {ep : Nat}
theorem range_get (us : List Value) : (List.range us.length).map (fun i => us.getD i .none) = us := by
 apply List.ext_getElem
 · simp
 · intro i h1 h2
   simp at h1
   simp [List.getD, h1]
theorem binds_of {s : Shared} {a : Addr} {f : Fn} {fd : FuncData} (h : tb.fn a = some f) (ne : a ≠ 178) (hf : funcAt w.params a = some fd) (us : List Value) (hl : us.length = f.params.length) : Binds w s fd f us us := by
 have hm : (a, f) ∈ fnL.filter (fun q => !Nat.beq q.1 178) := List.mem_filter.mpr ⟨fn_in h, by
  induction q : Nat.beq a 178 using Bool.casesOn with
  | false => rfl
  | true => exact absurd (Nat.eq_of_beq_eq_true q) ne⟩
 have := map_at (bindsAll w.params (fun i => us.getD i .none)) _ hm
 dsimp only at this
 rw [hf, Option.map_some, ← hl, range_get] at this
 intro A' Q E hq
 rw [Option.some.inj this]
 exact wpAny_pure hq
theorem fn178 {f : Fn} (h : tb.fn 178 = some f) : f = cx31 := by
 have : tb.fn 178 = some cx31 := rfl
 rw [this] at h; exact (Option.some.inj h).symm
theorem binds178 (s : Shared) (ht : s.heap.get? 171 = some { cls := .type "tuple", data := .seq #[.int 16 394, .int 9 395, .int 2000 396, .int 20 397, .int 2000 398] 0 }) {fd : FuncData} (hf : funcAt w.params 178 = some fd) (us : List Value) (x : Value) (hl : us.length ≤ 5) :
 Binds w s fd cx31 (x :: us) (x :: (us ++ ([Value.int 16 394, .int 9 395, .int 2000 396, .int 20 397, .int 2000 398].drop us.length))) := by
 have g := g178 w.params
 rw [hf] at g
 have g := Option.some.inj g
 have g1 : fd.params = par178 := congrArg Prod.fst g
 have g2 : fd.kwdefaults = .none := congrArg (fun q => q.2.1) g
 have g3 : fd.defaults = .ref 171 := congrArg (fun q => q.2.2.2) g
 obtain ⟨q1, q2, q3, q4, q5, q6⟩ := in178 [] (.int 16 394) (.int 9 395) (.int 2000 396) (.int 20 397) (.int 2000 398) fd g1 g2
 suffices key : BindsTo s fd ⟨x :: us, []⟩ ((cx31.params.map nm).zip (x :: (us ++ ([Value.int 16 394, .int 9 395, .int 2000 396, .int 20 397, .int 2000 398].drop us.length)))) from by intro A2 Q E hq; exact key _ _ _ _ hq
 match us, hl with
 | [], _ => refine ob12 (q1 x) fun k h1 h2 => ?_; exact BindsTo.of_defaults g3 ht rfl h1 h2
 | [a], _ => refine ob12 (q2 x a) fun k h1 h2 => ?_; exact BindsTo.of_defaults g3 ht rfl h1 h2
 | [a, b], _ => refine ob12 (q3 x a b) fun k h1 h2 => ?_; exact BindsTo.of_defaults g3 ht rfl h1 h2
 | [a, b, c], _ => refine ob12 (q4 x a b c) fun k h1 h2 => ?_; exact BindsTo.of_defaults g3 ht rfl h1 h2
 | [a, b, c, d], _ => refine ob12 (q5 x a b c d) fun k h1 h2 => ?_; exact BindsTo.of_defaults g3 ht rfl h1 h2
 | [a, b, c, d, e], _ => refine ob12 (q6 x a b c d e) fun k h1 h2 => ?_; exact BindsTo.of_defaults g3 ht rfl h1 h2
 | _ :: _ :: _ :: _ :: _ :: _ :: _, hl => simp only [List.length_cons] at hl; omega
theorem hcB (Y : Yh w h₁) (hs : h₁.get? sc = some { cls := .type "list", data := .seq xs ep }) :
 ∀ c o, c < 874 → (s17 w.params).fin.get c = some o → (∃ vs, o.data = .fields vs) → c ≠ lawTab → (bs h₁ sc).get? c = some o := by
 intro c o lt e ⟨vs, hd⟩ ne
 have e1 : (H₁ w.params).get? c = some o := by
  show (absHeap (s17 w.params).fin 874 {}).get? c = _
  rw [abs_get lt e]
  obtain ⟨cc, dd, dt, sl⟩ := o
  dsimp only at hd
  subst hd; rfl
 have e2 := Y c o e1
 refine hideAll_get _ e2 fun m => ?_
 rcases List.mem_cons.mp m with q | m
 · exact ne q
 · rcases List.mem_cons.mp m with q | m
   · rw [q, hs] at e2; cases e2; cases hd
   · cases m
theorem cls_pairs {c a : Nat} {ds : List AV} (h : tb.cls c = some (a, ds)) : (c = 181 ∧ a = 178 ∧ ds = [.int 16, .int 9, .int 2000, .int 20, .int 2000]) ∨ (a ≠ 178 ∧ ds = [] ∧ ∃ f, tb.fn a = some f) := by
 have hm := lookA_memG (l := clL) h
 simp only [clL, List.mem_cons, Prod.mk.injEq, List.not_mem_nil, or_false] at hm
 rcases hm with ⟨rfl, rfl, rfl⟩ | ⟨rfl, rfl, rfl⟩ | ⟨rfl, rfl, rfl⟩ | ⟨rfl, rfl, rfl⟩
 · exact .inl ⟨rfl, rfl, rfl⟩
 · exact .inr ⟨by decide, rfl, _, rfl⟩
 · exact .inr ⟨by decide, rfl, _, rfl⟩
 · exact .inr ⟨by decide, rfl, _, rfl⟩
theorem t171 (Y : Yh w h₁) (hs : h₁.get? sc = some { cls := .type "list", data := .seq xs ep }) : (bs h₁ sc).get? 171 = some { cls := .type "tuple", data := .seq #[.int 16 394, .int 9 395, .int 2000 396, .int 20 397, .int 2000 398] 0 } :=
 base_get Y hs (by decide) (f171 w.params) rfl (by decide) (by intro e; injection e with e; exact absurd e (by decide))
theorem vrs_drop (h : Heap) (M : Mp) (m k : Nat) : VRs h M m ([AV.int 16, .int 9, .int 2000, .int 20, .int 2000].drop k) ([Value.int 16 394, .int 9 395, .int 2000 396, .int 20 397, .int 2000 398].drop k) := by
 have i : ∀ (i : Int) (t : Nat), VR h M m (.int i) (.int i t) := fun i t => ⟨t, rfl⟩
 rcases k with _ | _ | _ | _ | _ | k
 · exact ⟨_, _, rfl, i _ _, _, _, rfl, i _ _, _, _, rfl, i _ _, _, _, rfl, i _ _, _, _, rfl, i _ _, rfl⟩
 · exact ⟨_, _, rfl, i _ _, _, _, rfl, i _ _, _, _, rfl, i _ _, _, _, rfl, i _ _, rfl⟩
 · exact ⟨_, _, rfl, i _ _, _, _, rfl, i _ _, _, _, rfl, i _ _, rfl⟩
 · exact ⟨_, _, rfl, i _ _, _, _, rfl, i _ _, rfl⟩
 · exact ⟨_, _, rfl, i _ _, rfl⟩
 · show VRs h M m ([AV.int 16, .int 9, .int 2000, .int 20, .int 2000].drop (k + 5)) _
   rw [List.drop_eq_nil_of_le (by simp), List.drop_eq_nil_of_le (by simp)]; rfl
theorem baseF (Y : Yh w h₁) (hs : h₁.get? sc = some { cls := .type "list", data := .seq xs ep }) : BaseF w (bs h₁ sc) (kL w.params kA) where
 fn := fun a f h => by
  refine ob22 (fnOk (hcB Y hs) h) fun o fd F hf => ?_
  refine ⟨o, fd, F, fun s us st hl => ?_⟩
  by_cases e : a = 178
  · subst e
    obtain rfl := fn178 h
    have hl : us.length = 6 := hl
    match us, hl with
    | x :: us, hl =>
     have hl5 : us.length = 5 := by simpa using hl
     have b : Binds w s fd cx31 (x :: us) (x :: (us ++ ([Value.int 16 394, .int 9 395, .int 2000 396, .int 20 397, .int 2000 398].drop us.length))) := binds178 (w := w) s (st _ _ (t171 Y hs)) hf us x (by omega)
     rw [hl5, show List.drop 5 [Value.int 16 394, .int 9 395, .int 2000 396, .int 20 397, .int 2000 398] = [] from rfl, List.append_nil] at b
     exact b
  · exact binds_of h e hf us hl
 cls := fun c a ds h => by
  have hi := List.all_eq_true.mp (initFacts w.params) _ (lookA_memG (l := clL) h)
  refine ⟨by simpa using hi, ?_⟩
  rcases cls_pairs h with ⟨rfl, rfl, rfl⟩ | ⟨ne, rfl, f, hf⟩
  · refine ob22 (fnOk (hcB Y hs) (show tb.fn 178 = some cx31 from rfl)) fun o fd F hf => ?_
    refine ⟨cx31, o, fd, rfl, F, fun s M m x us st hl => ⟨_, vrs_drop _ _ _ us.length, binds178 s (st _ _ (t171 Y hs)) hf us x ?_⟩⟩
    have hl : us.length + ([AV.int 16, .int 9, .int 2000, .int 20, .int 2000].drop us.length).length + 1 = 6 := hl
    rw [List.length_drop] at hl
    simp only [List.length_cons, List.length_nil] at hl
    omega
  · refine ob22 (fnOk (hcB Y hs) hf) fun o fd F hfa => ?_
    refine ⟨f, o, fd, hf, F, fun s M m x us st hl => ⟨[], by rw [List.drop_nil]; rfl, ?_⟩⟩
    rw [List.append_nil]
    exact binds_of hf ne hfa (x :: us) (by rw [List.drop_nil] at hl; simpa using hl)
 clsK := fun c hc => by
  have := List.all_eq_true.mp (clsFacts w.params) c (cls_mem hc)
  simp only [Bool.and_eq_true] at this
  exact this.2
theorem obj_of (a : Addr) (P : Params) {fd : FuncData} (hf : funcAt P a = some fd) (hc : ((s17 P).fin.get a).any (fun o => o.cls == Value.type "function") = true) (hm : a ∈ kA) : ∃ o, (kL P kA).lookup a = some o ∧ o.cls = .type "function" ∧ o.data = .func fd := by
 have hk := kL_look P hm
 unfold funcAt at hf
 induction hg : (s17 P).fin.get a using Option.casesOn with
 | none => rw [hg] at hf; contradiction
 | some o =>
  rw [hg] at hf hc hk
  refine ⟨o, hk, by simpa using hc, ?_⟩
  obtain ⟨c, dd, dt, sl⟩ := o
  cases dt <;> cases hf
  rfl
theorem mem_kA {a : Nat} (h : (kA.any (Nat.beq a)) = true) : a ∈ kA := by
 refine ob12 (List.any_eq_true.mp h) fun b hb e => ?_
 rw [Nat.eq_of_beq_eq_true e]; exact hb
theorem baseX (Y : Yh w h₁) (hs : h₁.get? sc = some { cls := .type "list", data := .seq xs ep }) {mg mb : Str → Option Value} (hg : h₁.Ns mainGlobals mg) (hb : h₁.Ns builtinsNs mb)
 (g1 : (bs h₁ sc).Ns mainGlobals mg) (g2 : (bs h₁ sc).Ns builtinsNs mb) (g40 : ∃ m, (bs h₁ sc).Ns 40 m) : BaseX w (bs h₁ sc) (kL w.params kA) := by
 have kin := kinB Y hs
 have sf := supFacts w.params
 have ef := excFacts w.params
 simp only [Bool.and_eq_true, beq_iff_eq] at sf ef
 obtain ⟨⟨s1, s2⟩, s3⟩ := sf
 obtain ⟨⟨⟨⟨⟨⟨⟨e1, e2⟩, e3⟩, e4⟩, e5⟩, e6⟩, e7⟩, e8⟩ := ef
 refine { cls := cls41 w.params, ns := ?_, fn := ?_, cell := cell25 w.params, code := ?_, sup := ⟨mg, mb, g1, g2, mg_none_of kin g1 s1, ns_some_of kin g2 s2⟩, top := topSuper, any_ := e7, seta := e1, tkc := e2, tkt := e3, gata := e4, gat := e5, cod := e6, own := e8 }
 · obtain ⟨m, hm⟩ := g40
   exact ⟨m, hm, ns_some_of kin hm s3⟩
 · have b := b38 w.params
   have g := g38 w.params
   induction hf : funcAt w.params 38 using Option.casesOn with
   | none => rw [hf] at b; injection b
   | some fd =>
    rw [hf] at b g
    have b := Option.some.inj b
    have g := Option.some.inj g
    refine ob13 (obj_of 38 w.params hf (cls38 w.params) (mem_kA (by kernel_rfl))) fun o ho hc hd => ?_
    have b1 : fd.body = .stmts (initBody p38) := congrArg (fun q => q.1) b
    have b2 : fd.scope = { kind := .function, names := initNames, isGenerator := false, isCoroutine := false } := congrArg (fun q => q.2.1) b
    have b3 : fd.globals = mainGlobals := congrArg (fun q => q.2.2.1) b
    have b4 : fd.builtins = builtinsNs := congrArg (fun q => q.2.2.2.1) b
    have b5 : fd.closure = initClo := congrArg (fun q => q.2.2.2.2.1) b
    have b6 : fd.code = .ref 37 := congrArg (fun q => q.2.2.2.2.2) b
    have c1 : fd.params = par38 := congrArg (fun q => q.1) g
    have c2 : fd.kwdefaults = .none := congrArg (fun q => q.2.1) g
    have c3 : fd.qualname = Str.ofString "BasicError.__init__" := congrArg (fun q => q.2.2.1) g
    have c4 : fd.defaults = .ref 30 := congrArg (fun q => q.2.2.2) g
    have t37 := base_get Y hs (by decide) (f37 w.params) rfl (by decide) (by intro e; injection e with e; exact absurd e (by decide))
    have t30 := base_get Y hs (by decide) (f30 w.params) rfl (by decide) (by intro e; injection e with e; exact absurd e (by decide))
    refine ⟨o, fd, ⟨"self", none, ⟨9, 17, 9, 21⟩⟩, _, p38, ho, hc, hd, b1, rfl, by rw [b2], by rw [b2], by rw [b2], by rw [b2], b3, b4, b5, b6, by rw [c1]; rfl, rfl, ?_, fun s st x c => ?_⟩
    · rw [b6, c3]; exact ⟨37, _, _, 214, rfl, t37, rfl, rfl⟩
    · refine ob12 (in38 (.str (Str.ofString "") 212) fd c1 c2 x c) fun k h1 h2 => ?_
      exact ⟨_, BindsTo.of_defaults c4 (st _ _ t30) rfl h1 h2⟩
 · have hk := kL_look w.params (mem_kA (a := 37) (by kernel_rfl))
   rw [f37] at hk
   exact ⟨_, _, _, _, hk, rfl, rfl, by kernel_rfl⟩
theorem baseL (Y : Yh w h₁) (hs : h₁.get? sc = some { cls := .type "list", data := .seq xs ep }) {mg : Str → Option Value} (g1 : (bs h₁ sc).Ns mainGlobals mg) : BaseL w (bs h₁ sc) (kL w.params kA) := by
 have kin := kinB Y hs
 have t872 := base_get Y hs (by decide) (f872 w.params) rfl (by decide) (by intro e; injection e with e; exact absurd e (by decide))
 have t862 := base_get Y hs (by decide) (f862 w.params) rfl (by decide) (by intro e; injection e with e; exact absurd e (by decide))
 have t4 := base_get Y hs (by decide) (f4 w.params) rfl (by decide) (by intro e; injection e with e; exact absurd e (by decide))
 have nf := nsFacts w.params
 simp only [Bool.and_eq_true, beq_iff_eq] at nf
 refine { fn := ?_, hd := ⟨_, _, _, _, _, _, _, _, _, t872, rfl, rfl, rfl, rfl, rfl, rfl, rfl, rfl, by decide⟩, bi := ⟨mg, g1, 4, _, mg_of kin g1 nf.1, by decide, by decide, by decide, t4, rfl, rfl, rfl⟩, ne := by decide }
 have b := b863 w.params
 have g := g863 w.params
 induction hf : funcAt w.params 863 using Option.casesOn with
 | none => rw [hf] at b; contradiction
 | some fd =>
  rw [hf] at b g
  have b := Option.some.inj b
  have g := Option.some.inj g
  refine ob13 (obj_of 863 w.params hf (cls863 w.params) (mem_kA (by kernel_rfl))) fun o ho hc hd => ?_
  have b1 : fd.body = .stmts (Mine.S.pys nm (lcFn p863).body) := congrArg (fun q => q.1) b
  have b2 : fd.scope = { kind := .function, names := lcNames.map fun y => (nm y.1, y.2), isGenerator := false, isCoroutine := false } := congrArg (fun q => q.2.1) b
  have b3 : fd.globals = mainGlobals := congrArg (fun q => q.2.2.1) b
  have b4 : fd.builtins = builtinsNs := congrArg (fun q => q.2.2.2.1) b
  have b5 : fd.closure = [] := congrArg (fun q => q.2.2.2.2.1) b
  have b6 : fd.code = .ref 862 := congrArg (fun q => q.2.2.2.2.2) b
  have c1 : fd.params = par863 := congrArg (fun q => q.1) g
  have c2 : fd.kwdefaults = .none := congrArg (fun q => q.2.1) g
  have c3 : fd.qualname = Str.ofString "_law_code" := congrArg (fun q => q.2.2.1) g
  have c4 : fd.defaults = .none := congrArg (fun q => q.2.2.2) g
  refine ⟨p863, o, fd, ⟨ho, hc, hd, b1, by rw [b2], by rw [b2]; rfl, by rw [b2], by rw [b2], b3, b4, b5, ?_, rfl, ?_, ?_, ?_, ?_⟩, fun s us st hl => ?_⟩
  · rw [b6, c3]; exact ⟨862, _, _, 1420, rfl, t862, rfl, rfl⟩
  · intro y hy; (dsimp only [lcFn, lcNames] at hy; simp only [List.mem_cons, List.not_mem_nil, or_false] at hy); rcases hy with rfl | rfl | rfl <;> decide
  · intro x hx; (dsimp only [lcFn] at hx; simp only [List.mem_cons, List.not_mem_nil, or_false] at hx); subst hx; rfl
  · intro y hy; (dsimp only [lcFn, lcNames] at hy; simp only [List.mem_cons, List.not_mem_nil, or_false] at hy); rcases hy with rfl | rfl | rfl <;> (intro e; injection e)
  · intro e; exact absurd e (by decide)
  · obtain ⟨x, rfl⟩ := List.length_eq_one_iff.mp hl
    · intro A' Q E hq
      rw [in863 fd c1 c2 c4 x]
      exact wpAny_pure hq
end
end Mine
end
section
open PySem
namespace Mine.Lw
section
variable {n d : Nat} {fr fr' : Fr} {H H1 H2 H3 H4 : AH} {p pn pl pa ps pi pr px py pt pe pc pz : Pos} {e a b e1 e2 e3 t el it : E} {l : List E} {v u x y z : AV} {vs : List AV} {r : R AV} {c c' : Bool} {k m i j nn : Nat} {op o1 o2 : COp} {at_ : List (Nat × AV)} {s : List Nat} {sc : Nms}
theorem cond_t {α : Type} {A B r : α} (h : A = r) : cond true A B = r := h
theorem cond_f {α : Type} {A B r : α} (h : B = r) : cond false A B = r := h
theorem ev_c : ev tb (n+1) d fr H (.c v k p) = .ok v H := by rfl
theorem ev_loc (h : look fr k = some v) : ev tb (n+1) d fr H (.loc k p) = .ok v H := by (dsimp only [ev]; simp only [h])
theorem ev_gl (h : tb.glob k = some v) : ev tb (n+1) d fr H (.gl k p) = .ok v H := by (dsimp only [ev]; simp only [h])
theorem ev_bin {bo : BOp} (h1 : ev tb n d fr H a = .ok x H1) (h2 : ev tb n d fr H1 b = .ok y H2) (h3 : bop bo x y H2 = r) : ev tb (n+1) d fr H (.bin bo a b p) = r := by (dsimp only [ev]; (dsimp only [R.bind]; simp only [h1, h2, h3]))
theorem ev_neg {w : Int} (h1 : ev tb n d fr H a = .ok (.int w) H1) (h3 : sm (-w) H1 = r) : ev tb (n+1) d fr H (.neg a p) = r := by (dsimp only [ev]; (dsimp only [R.bind]; simp only [h1, h3]))
theorem ev_cmp (h1 : ev tb n d fr H a = .ok x H1) (h2 : ev tb n d fr H1 b = .ok y H2) (h3 : cmpV op x y H2 = some c) : ev tb (n+1) d fr H (.cmp op a b p) = .ok (.bool c) H2 := by (dsimp only [ev]; (dsimp only [R.bind]; simp only [h1, h2, h3]))
theorem ev_ife (h1 : te tb n d fr H t = .ok c H1) (h2 : cond c (ev tb n d fr H1 a) (ev tb n d fr H1 b) = r) : ev tb (n+1) d fr H (.ife t a b p) = r := by cases c <;> (dsimp only [ev]; (delta R.bind; simpa only [h1, cond] using h2))
theorem ev_tup (h1 : evs tb n d fr H l = .ok vs H1) (h2 : Nat.ble vs.length 1000 = true) : ev tb (n+1) d fr H (.tup l k p) = .ok (.tup vs) H1 := by (dsimp only [ev]; (dsimp only [R.bind]; simp only [h1, h2]))
theorem ev_lst (h1 : evs tb n d fr H l = .ok vs H1) (h2 : Nat.ble vs.length 1000 = true) : ev tb (n+1) d fr H (.lst l p) = .ok (.obj H1.length) (H1 ++ [.list vs]) := by (dsimp only [ev]; (dsimp only [R.bind]; simp only [h1, h2]))
theorem ev_dctB (h : isBook p = true) : ev tb (n+1) d fr H (.dct p) = .ok (.obj H.length) (H ++ [.book []]) := by (dsimp only [ev]; simp only [h])
theorem ev_idx (h1 : ev tb n d fr H a = .ok x H1) (h2 : ev tb n d fr H1 b = .ok y H2) (h3 : idxV x y H2 = some v) : ev tb (n+1) d fr H (.idx a b p) = .ok v H2 := by (dsimp only [ev]; (dsimp only [R.bind]; simp only [h1, h2, h3]))
theorem ev_att (h1 : ev tb n d fr H e = .ok (.obj i) H1) (h2 : nth H1 i = some (.inst k at_)) (h3 : look at_ j = some v) : ev tb (n+1) d fr H (.att e j p) = .ok v H1 := by (dsimp only [ev]; delta attV; (dsimp only [R.bind]; simp only [h1, h2, h3]))
theorem ev_attm (h1 : ev tb n d fr H e = .ok (.obj i) H1) (h2 : nth H1 i = some (.inst k at_)) (h3 : look at_ j = none) (h4 : tb.meth k j = some m) : ev tb (n+1) d fr H (.att e j p) = .ok (.meth m i) H1 := by (dsimp only [ev]; delta attV; (dsimp only [R.bind]; simp only [h1, h2, h3, h4]))
theorem ev_call (h1 : ev tb n d fr H e = .ok x H1) (h2 : evs tb n d fr H1 l = .ok vs H2) (h3 : callF tb n d H2 x vs = r) : ev tb (n+1) d fr H (.call e l p) = r := by (dsimp only [ev]; (dsimp only [R.bind]; simp only [h1, h2, h3]))
theorem mth_append {xs : List AV} (h1 : nth H i = some (.list xs)) (h2 : Nat.blt xs.length 1000 = true) : mthV .append (.obj i) [v] H = .ok .none (put H i (.list (xs ++ [v]))) := by (delta mthV; simp only [h1, h2])
theorem mth_get {es : List (AV × AV)} (h1 : nth H i = some (.dict es)) (h2 : (dget es (.str s)).getD .none = v) : mthV .get (.obj i) [.str s] H = .ok v H := by (delta mthV; simp only [h1, h2])
theorem mth_get2 {es : List (AV × AV)} (h1 : nth H i = some (.dict es)) (h2 : (dget es (.str s)).getD u = v) : mthV .get (.obj i) [.str s, u] H = .ok v H := by (delta mthV; simp only [h1, h2])
theorem ev_compR {us : List AV} {hi : E} (h1 : ev tb n (d+1) fr H hi = .ok (.int (.ofNat m)) H1) (h2 : Nat.blt m 10 = true) (h3 : cmpL tb n d (capt sc fr) H1 .fix k el ((List.range m).map fun i => .int (.ofNat i)) [] = .ok us H2) : ev tb (n+1) (d+1) fr H (.compR k px el j pr hi pi sc p) = .ok (.obj H2.length) (H2 ++ [.list us]) := by (dsimp only [ev]; (dsimp only [R.bind]; simp only [h1, h2, h3]))
theorem cmpL_nil {q : Src} (h : srcOk q H = true) : cmpL tb (n+1) d fr H q k el [] vs = .ok vs H := by (dsimp only [cmpL]; simp only [h])
theorem cmpL_cons {q : Src} {us ws : List AV} (h : srcOk q H = true) (h1 : ev tb n d (upd fr k v) H el = .ok u H1) (h2 : cmpL tb n d (upd fr k v) H1 q k el us (vs ++ [u]) = .ok ws H2) : cmpL tb (n+1) d fr H q k el (v :: us) vs = .ok ws H2 := by (dsimp only [cmpL]; simp only [h, h1, h2])
theorem ev_slc {lo hi : Option E} {xs : List AV} {lo' hi' : Option Nat} (h1 : ev tb n d fr H e = .ok (.obj i) H1) (h2 : evo tb n d fr H1 lo = .ok x H2) (h3 : evo tb n d fr H2 hi = .ok y H3) (h4 : natOf x = some lo') (h5 : natOf y = some hi') (h6 : lstAt (nth H3 i) = some xs) (h7 : oneSide lo' hi' = true) : ev tb (n+1) d fr H (.slc e lo hi ps p) = .ok (.obj H3.length) (H3 ++ [.list (slcL xs lo' hi')]) := by (dsimp only [ev]; (dsimp only [R.bind]; simp only [h1, h2, h3, h4, h5, h6, h7]))
theorem evo_none : evo tb (n+1) d fr H none = .ok .none H := by rfl
theorem evo_some (h : ev tb n d fr H e = r) : evo tb (n+1) d fr H (some e) = r := by (dsimp only [evo]; assumption)
theorem evs_nil : evs tb (n+1) d fr H [] = .ok [] H := by rfl
theorem evs_cons (h1 : ev tb n d fr H e = .ok v H1) (h2 : evs tb n d fr H1 l = .ok vs H2) : evs tb (n+1) d fr H (e :: l) = .ok (v :: vs) H2 := by (dsimp only [evs]; (dsimp only [R.bind]; simp only [h1, h2]))
theorem te_not (h : te tb n d fr H t = .ok c H1) : te tb (n+1) d fr H (.not t p) = .ok (!c) H1 := by (dsimp only [te]; (dsimp only [R.bind]; simp only [h]))
theorem te_and {rb : R Bool} (h : teA tb n d fr H l = rb) : te tb (n+1) d fr H (.and l p) = rb := by (dsimp only [te]; assumption)
theorem te_or {rb : R Bool} (h : teO tb n d fr H l = rb) : te tb (n+1) d fr H (.or l p) = rb := by (dsimp only [te]; assumption)
theorem te_cmp (h1 : ev tb n d fr H a = .ok x H1) (h2 : ev tb n d fr H1 b = .ok y H2) (h3 : cmpV op x y H2 = some c) : te tb (n+1) d fr H (.cmp op a b p) = .ok c H2 := by (dsimp only [te]; (dsimp only [R.bind]; simp only [h1, h2, h3]))
theorem te_cmp2 (h1 : ev tb n d fr H a = .ok x H1) (h2 : ev tb n d fr H1 b = .ok y H2) (h3 : cmpV o1 x y H2 = some true) (h4 : ev tb n d fr H2 e = .ok z H3) (h5 : cmpV o2 y z H3 = some c) : te tb (n+1) d fr H (.cmp2 o1 o2 a b e p) = .ok c H3 := by (dsimp only [te]; (dsimp only [R.bind]; simp only [h1, h2, h3, h4, h5]))
theorem te_call (h1 : ev tb n d fr H (.call e l p) = .ok (.bool c) H1) : te tb (n+1) d fr H (.call e l p) = .ok c H1 := by (dsimp only [te]; (dsimp only [R.bind]; simp only [h1]))
theorem teA_nil : teA tb (n+1) d fr H [] = .ok true H := by rfl
theorem teA_cons {rb : R Bool} (h1 : te tb n d fr H t = .ok c H1) (h2 : cond c (teA tb n d fr H1 l) (.ok false H1) = rb) : teA tb (n+1) d fr H (t :: l) = rb := by cases c <;> (dsimp only [teA]; (delta R.bind; simpa only [h1, cond] using h2))
theorem teO_nil : teO tb (n+1) d fr H [] = .ok false H := by rfl
theorem teO_cons {rb : R Bool} (h1 : te tb n d fr H t = .ok c H1) (h2 : cond c (.ok true H1) (teO tb n d fr H1 l) = rb) : teO tb (n+1) d fr H (t :: l) = rb := by cases c <;> (dsimp only [teO]; (delta R.bind; simpa only [h1, cond] using h2))
noncomputable def fin : R (Fl × Fr) → R AV
 | .ok (.ret v, _) H => .ok v H
 | .ok (.next, _) H => .ok .none H
 | .exc c H => .exc c H
 | .bad => .bad
theorem fin_ret : fin (.ok (.ret v, fr) H) = .ok v H := rfl
theorem fin_next : fin (.ok (.next, fr) H) = .ok .none H := rfl
theorem fin_exc : fin (.exc s H) = .exc s H := rfl
variable {S1 : S} {l1 l2 : List S} {q : R (Fl × Fr)} {tg : Tg}
theorem run_fin {f : Fn} (h2 : asgN [] f.params vs = some fr) : runF tb (n+1) (d+1) H f vs = fin (exs tb n d fr H f.body) := by
 dsimp only [runF]; rw [h2]; dsimp only; generalize exs tb n d fr H f.body = q
 match q with
 | .ok (.ret _, _) _ => rfl
 | .ok (.next, _) _ => rfl
 | .exc _ _ => rfl
 | .bad => rfl
theorem call_fn {f : Fn} (h1 : tb.fn k = some f) (h2 : asgN [] f.params vs = some fr) (h3 : exs tb n d fr H f.body = q) (h4 : fin q = r) : callF tb (n+2) (d+1) H (.fn k) vs = r := by
 subst h4; subst h3; (dsimp only [callF]; simp only [h1]); exact run_fin h2
theorem call_meth {f : Fn} (h1 : tb.fn k = some f) (h2 : asgN [] f.params (.obj i :: vs) = some fr) (h3 : exs tb n d fr H f.body = q) (h4 : fin q = r) : callF tb (n+2) (d+2) H (.meth k i) vs = r := by
 subst h4; subst h3; (dsimp only [callF]; simp only [h1]); exact run_fin h2
theorem call_bi {bi : BI} (h : biCall bi vs H = r) : callF tb (n+1) d H (.bi bi) vs = r := by (dsimp only [callF]; assumption)
theorem exs_nil : exs tb (n+1) d fr H [] = .ok (.next, fr) H := by rfl
theorem exs_cons (h1 : ex tb n d fr H S1 = .ok (.next, fr') H1) (h2 : exs tb n d fr' H1 l1 = q) : exs tb (n+1) d fr H (S1 :: l1) = q := by (dsimp only [exs]; simp only [h1, h2])
theorem exs_ret (h1 : ex tb n d fr H S1 = .ok (.ret v, fr') H1) : exs tb (n+1) d fr H (S1 :: l1) = .ok (.ret v, fr') H1 := by (dsimp only [exs]; simp only [h1])
theorem ex_asg {rf : Fr} (h1 : ev tb n d fr H e = .ok v H1) (h2 : asg tb n d fr H1 tg v = .ok rf H2) : ex tb (n+1) d fr H (.asg tg e p) = .ok (.next, rf) H2 := by (dsimp only [ex]; (dsimp only [R.bind]; simp only [h1, h2]))
theorem ex_asgT {lt : List Tg} {rf : Fr} (h1 : ev tb n d fr H e = .ok (.tup vs) H1) (h2 : asgs tb n d fr H1 lt vs = .ok rf H2) : ex tb (n+1) d fr H (.asgT lt k pt e p) = .ok (.next, rf) H2 := by (dsimp only [ex]; (dsimp only [R.bind]; simp only [h1, h2]))
theorem ex_asgS {lx : List (Nat × Pos)} {rf : Fr} (h1 : evs tb n d fr H l = .ok vs H1) (h2 : asgN fr (lx.map (·.1)).reverse vs.reverse = some rf) : ex tb (n+1) d fr H (.asgS lx k pt l j pe p) = .ok (.next, rf) H1 := by (dsimp only [ex]; (dsimp only [R.bind]; simp only [h1, h2]))
theorem ex_augn {w : Int} {bo : BOp} (h0 : look fr k = some (.int w)) (h1 : ev tb n d fr H e = .ok u H1) (h2 : bop bo (.int w) u H1 = .ok v H2) : ex tb (n+1) d fr H (.augn k px bo e p) = .ok (.next, upd fr k v) H2 := by (dsimp only [ex]; (dsimp only [R.bind]; simp only [h0, h1, h2]))
theorem ex_auga {w : Int} {bo : BOp} (h0 : ev tb n d fr H a = .ok x H1) (h1 : attV x k H1 = some (.int w)) (h2 : ev tb n d fr H1 e = .ok u H2) (h3 : bop bo (.int w) u H2 = .ok v H3) (h4 : setA x k v H3 = some H4) : ex tb (n+1) d fr H (.auga a k pa bo e p) = .ok (.next, fr) H4 := by (dsimp only [ex]; (dsimp only [R.bind]; simp only [h0, h1, h2, h3, h4]))
theorem ex_ret (h1 : ev tb n d fr H e = .ok v H1) : ex tb (n+1) d fr H (.ret e p) = .ok (.ret v, fr) H1 := by (dsimp only [ex]; (dsimp only [R.bind]; simp only [h1]))
theorem ex_ife (h1 : te tb n d fr H t = .ok c H1) (h2 : cond c (exs tb n d fr H1 l1) (exs tb n d fr H1 l2) = q) : ex tb (n+1) d fr H (.ife t l1 l2 p) = q := by cases c <;> (dsimp only [ex]; (delta R.bind; simpa only [h1, cond] using h2))
theorem ex_exp (h1 : ev tb n d fr H e = .ok v H1) : ex tb (n+1) d fr H (.exp e p) = .ok (.next, fr) H1 := by (dsimp only [ex]; (dsimp only [R.bind]; simp only [h1]))
theorem ex_rse {s' : List Nat} (h : eqN s s' = true) : ex tb (n+1) (d+4) fr H (.rse s' k px [.c (.str s) j pn] pc p) = .exc s' H := by (dsimp only [ex]; simp only [h])
theorem ex_whl (h : whl tb n d fr H t l1 = q) : ex tb (n+1) (d+1) fr H (.whl t l1 p) = q := by (dsimp only [ex]; assumption)
theorem ex_forT (h1 : ev tb n (d+1) fr H it = .ok (.tup vs) H1) (h2 : forL tb n d fr H1 .fix tg vs l1 = q) : ex tb (n+1) (d+1) fr H (.for_ tg it l1 p) = q := by (dsimp only [ex]; (dsimp only [R.bind]; simp only [h1, h2]))
theorem ex_forO (h1 : ev tb n (d+1) fr H it = .ok (.obj i) H1) (h2 : nth H1 i = some (.list vs)) (h3 : forL tb n d fr H1 (.lst i vs) tg vs l1 = q) : ex tb (n+1) (d+1) fr H (.for_ tg it l1 p) = q := by (dsimp only [ex]; (dsimp only [R.bind]; simp only [h1, h2, h3]))
theorem ex_forR {hi : E} (h1 : ev tb n (d+1) fr H hi = .ok (.int (.ofNat m)) H1) (h2 : Nat.blt m 10 = true) (h3 : forL tb n d fr H1 .fix tg ((List.range m).map fun i => .int (.ofNat i)) l1 = q) : ex tb (n+1) (d+1) fr H (.forR tg k pr hi pi l1 p) = q := by (dsimp only [ex]; (dsimp only [R.bind]; simp only [h1, h2, h3]))
theorem ex_forZ {xx yy zz : Nat} {u1 v1 : AV} (h1 : ev tb n (d+1) fr H a = .ok (.obj i) H1) (h2 : ev tb n (d+1) fr H1 b = .ok (.obj j) H2) (h3 : nth H2 i = some (.list [u1])) (h4 : nth H2 j = some (.list [v1])) (h5 : exs tb n d (upd (upd fr xx u1) yy v1) H2 l1 = .ok (.next, fr') H3) (h6 : nth H3 i = some (.list [u])) (h7 : nth H3 j = some (.list [v])) : ex tb (n+1) (d+1) fr H (.forZ xx px yy py k pt zz pz a b pi l1 p) = .ok (.next, fr') H3 := by (dsimp only [ex]; (dsimp only [R.bind]; simp only [h1, h2, h3, h4, h5, h6, h7]))
theorem forL_nil {q : Src} (h : srcOk q H = true) : forL tb (n+1) d fr H q tg [] l1 = .ok (.next, fr) H := by (dsimp only [forL]; simp only [h])
theorem forL_cons {q : Src} {rf : Fr} {q' : R (Fl × Fr)} (h : srcOk q H = true) (h1 : asg tb n d fr H tg v = .ok rf H1) (h2 : exs tb n d rf H1 l1 = .ok (.next, fr') H2) (h3 : forL tb n d fr' H2 q tg vs l1 = q') : forL tb (n+1) d fr H q tg (v :: vs) l1 = q' := by (dsimp only [forL]; simp only [h, h1, h2, h3])
theorem asg_name : asg tb (n+1) d fr H (.name k p) v = .ok (upd fr k v) H := by rfl
theorem asg_att (h1 : ev tb n d fr H e = .ok x H1) (h2 : setA x k v H1 = some H2) : asg tb (n+1) d fr H (.att e k p) v = .ok fr H2 := by (dsimp only [asg]; simp only [h1, h2])
theorem asg_sub (h1 : ev tb n d fr H a = .ok x H1) (h2 : ev tb n d fr H1 b = .ok y H2) (h3 : setI x y v H2 = some H3) : asg tb (n+1) d fr H (.sub a b p) v = .ok fr H3 := by (dsimp only [asg]; simp only [h1, h2, h3])
theorem asgs_nil : asgs tb (n+1) d fr H [] [] = .ok fr H := by rfl
theorem asgs_cons {lt : List Tg} {rf rf' : Fr} (h1 : asg tb n d fr H tg v = .ok rf H1) (h2 : asgs tb n d rf H1 lt vs = .ok rf' H2) : asgs tb (n+1) d fr H (tg :: lt) (v :: vs) = .ok rf' H2 := by (dsimp only [asgs]; simp only [h1, h2])
theorem srcOk_fix : srcOk .fix H = true := rfl
theorem set_att {at_ : List (Nat × AV)} (h : nth H i = some (.inst k at_)) (h2 : Nat.blt at_.length 100 = true) : setA (.obj i) j v H = some (put H i (.inst k (upd at_ j v))) := by (delta setA; simp only [h, h2])
theorem isin_dict {es : List (AV × AV)} (h : nth H i = some (.dict es)) (h2 : (dget es (.str s)).isSome = c) : cmpV .isin (.str s) (.obj i) H = some c := by (delta cmpV cmpIn; simp only [h, h2])
theorem notin_dict {es : List (AV × AV)} (h : nth H i = some (.dict es)) (h2 : (dget es (.str s)).isNone = c) : cmpV .notin (.str s) (.obj i) H = some c := by (delta cmpV cmpNotin; simp only [h, h2])
theorem len_obj {xs : List AV} (h : nth H i = some (.list xs)) : biCall .len [.obj i] H = .ok (.int (.ofNat xs.length)) H := by (delta biCall bi1 biLen; simp only [h])
theorem att_v (h2 : nth H i = some (.inst k at_)) (h3 : look at_ j = some v) : attV (.obj i) j H = some v := by (delta attV; simp only [h2, h3])
end
noncomputable def mthS (n d : Nat) (fr : Fr) (H : AH) (i j : Nat) (l : List E) : AO → R AV
 | .inst c at_ => match look at_ j, tb.meth c j with
  | none, some f => (evs tb n d fr H l).bind fun vs H => callF tb n d H (.fn f) (.obj i :: vs)
  | _, _ => .bad
 | o => match tb.kind j with
  | some k => match mkOk k o with
   | true => (evs tb n d fr H l).bind fun vs H => mthV k (.obj i) vs H
   | false => .bad
  | none => .bad
theorem ev_mthG {n d : Nat} {fr : Fr} {H H1 : AH} {e : E} {i j : Nat} {l : List E} {pa p : Pos} {o : AO} {r : R AV} (h1 : ev tb n d fr H e = .ok (.obj i) H1) (h2 : nth H1 i = some o) (h3 : mthS n d fr H1 i j l o = r) : ev tb (n+1) d fr H (.mth e j l pa p) = r := by
 subst h3; cases o <;> (dsimp only [ev]; delta mthS; (dsimp only [R.bind]; simp only [h1, h2])) <;> rfl
theorem mthS_inst {n d : Nat} {fr : Fr} {H H2 : AH} {i j k m : Nat} {l : List E} {at_ : List (Nat × AV)} {vs : List AV} {r : R AV} (h3 : look at_ j = none) (h4 : tb.meth k j = some m) (h5 : evs tb n d fr H l = .ok vs H2) (h6 : callF tb n d H2 (.fn m) (.obj i :: vs) = r) : mthS n d fr H i j l (.inst k at_) = r := by
 subst h6; (delta mthS; (dsimp only [R.bind]; simp only [h3, h4, h5]))
theorem mthS_list {n d : Nat} {fr : Fr} {H H2 : AH} {i j : Nat} {l : List E} {xs vs : List AV} {mk : MK} {r : R AV} (h3 : tb.kind j = some mk) (h4 : mkOk mk (.list xs) = true) (h5 : evs tb n d fr H l = .ok vs H2) (h6 : mthV mk (.obj i) vs H2 = r) : mthS n d fr H i j l (.list xs) = r := by
 subst h6; (delta mthS; (dsimp only [R.bind]; simp only [h3, h4, h5]))
theorem mthS_dict {n d : Nat} {fr : Fr} {H H2 : AH} {i j : Nat} {l : List E} {xs : List (AV × AV)} {vs : List AV} {mk : MK} {r : R AV} (h3 : tb.kind j = some mk) (h4 : mkOk mk (.dict xs) = true) (h5 : evs tb n d fr H l = .ok vs H2) (h6 : mthV mk (.obj i) vs H2 = r) : mthS n d fr H i j l (.dict xs) = r := by
 subst h6; (delta mthS; (dsimp only [R.bind]; simp only [h3, h4, h5]))
noncomputable def nxt (n d : Nat) (l : List S) : R (Fl × Fr) → R (Fl × Fr)
 | .ok (.next, fr) H => exs tb n d fr H l
 | .ok (.ret v, fr) H => .ok (.ret v, fr) H
 | .exc c H => .exc c H
 | .bad => .bad
theorem exs_step {n d : Nat} {fr : Fr} {H : AH} {S1 : S} {l : List S} {q1 q : R (Fl × Fr)} (h1 : ex tb n d fr H S1 = q1) (h2 : nxt n d l q1 = q) : exs tb (n+1) d fr H (S1 :: l) = q := by
 subst h1; subst h2; dsimp only [exs]; generalize ex tb n d fr H S1 = q
 match q with
 | .ok (.ret _, _) _ => rfl
 | .ok (.next, _) _ => rfl
 | .exc _ _ => rfl
 | .bad => rfl
theorem nxt_next {n d : Nat} {fr : Fr} {H : AH} {l : List S} {q : R (Fl × Fr)} (h : exs tb n d fr H l = q) : nxt n d l (.ok (.next, fr) H) = q := h
theorem nxt_ret {n d : Nat} {fr : Fr} {H : AH} {l : List S} {v : AV} : nxt n d l (.ok (.ret v, fr) H) = .ok (.ret v, fr) H := rfl
theorem nxt_exc {n d : Nat} {H : AH} {l : List S} {c : List Nat} : nxt n d l (.exc c H) = .exc c H := rfl
theorem call_f {n d k : Nat} {fr : Fr} {H : AH} {vs : List AV} {r : R AV} {f : Fn} (h1 : tb.fn k = some f) (h2 : asgN [] f.params vs = some fr) (h3 : fin (exs tb n d fr H f.body) = r) : callF tb (n+2) (d+1) H (.fn k) vs = r := call_fn h1 h2 rfl h3
theorem call_m {n d k i : Nat} {fr : Fr} {H : AH} {vs : List AV} {r : R AV} {f : Fn} (h1 : tb.fn k = some f) (h2 : asgN [] f.params (.obj i :: vs) = some fr) (h3 : fin (exs tb n d fr H f.body) = r) : callF tb (n+2) (d+2) H (.meth k i) vs = r := call_meth h1 h2 rfl h3
theorem fin_of {n d : Nat} {fr : Fr} {H : AH} {l : List S} {q : R (Fl × Fr)} {r : R AV} (h : exs tb n d fr H l = q) (h2 : fin q = r) : fin (exs tb n d fr H l) = r := h ▸ h2
structure Bx (p : Prop) : Prop where
 h : p
theorem lookI {fr : Fr} {x : Nat} {v : Option AV} (h : Bx (look fr x = v)) : look fr x = v := h.h
theorem globI {x : Nat} {v : Option AV} (h : Bx (tb.glob x = v)) : tb.glob x = v := h.h
theorem methI {x y : Nat} {v : Option Nat} (h : Bx (tb.meth x y = v)) : tb.meth x y = v := h.h
theorem kindI {x : Nat} {v : Option MK} (h : Bx (tb.kind x = v)) : tb.kind x = v := h.h
theorem mkI {m : MK} {x : AO} {v : Bool} (h : Bx (mkOk m x = v)) : mkOk m x = v := h.h
theorem idxI {x y : AV} {H : AH} {v : Option AV} (h : Bx (idxV x y H = v)) : idxV x y H = v := h.h
theorem bopI {o : BOp} {x y : AV} {H : AH} {v : R AV} (h : Bx (bop o x y H = v)) : bop o x y H = v := h.h
theorem smI {x : Int} {H : AH} {v : R AV} (h : Bx (sm x H = v)) : sm x H = v := h.h
theorem bleI {x y : Nat} {v : Bool} (h : Bx (Nat.ble x y = v)) : Nat.ble x y = v := h.h
theorem bltI {x y : Nat} {v : Bool} (h : Bx (Nat.blt x y = v)) : Nat.blt x y = v := h.h
theorem eqNI {x y : List Nat} {v : Bool} (h : Bx (eqN x y = v)) : eqN x y = v := h.h
theorem isKeyI {x : AV} {v : Bool} (h : Bx (isKey x = v)) : isKey x = v := h.h
theorem dgetI {x : List (AV × AV)} {y : AV} {v : Option AV} (h : Bx (dget x y = v)) : dget x y = v := h.h
theorem dgetI2 {x : List (AV × AV)} {y u v : AV} (h : Bx ((dget x y).getD u = v)) : (dget x y).getD u = v := h.h
theorem dgetI3 {x : List (AV × AV)} {y : AV} {v : Bool} (h : Bx ((dget x y).isSome = v)) : (dget x y).isSome = v := h.h
theorem dgetI4 {x : List (AV × AV)} {y : AV} {v : Bool} (h : Bx ((dget x y).isNone = v)) : (dget x y).isNone = v := h.h
theorem isBookI {p : Pos} {v : Bool} (h : Bx (isBook p = v)) : isBook p = v := h.h
theorem natOfI {x : AV} {v : Option (Option Nat)} (h : Bx (natOf x = v)) : natOf x = v := h.h
theorem oneI {x y : Option Nat} {v : Bool} (h : Bx (oneSide x y = v)) : oneSide x y = v := h.h
theorem cmpT {o : COp} {x y : AV} {H : AH} (h : Bx (cmpV o x y H = some true)) : cmpV o x y H = some true := h.h
theorem cmpF {o : COp} {x y : AV} {H : AH} (h : Bx (cmpV o x y H = some false)) : cmpV o x y H = some false := h.h
section
variable {α : Type} {H G : List α} {i j : Nat} {x o : α}
theorem nth_put_ne : ∀ {H : List α} {i j : Nat}, i ≠ j → nth (put H i x) j = nth H j
 | [], _, _, _ => rfl
 | _ :: _, 0, 0, h => absurd rfl h
 | _ :: _, 0, _ + 1, _ => rfl
 | _ :: _, _ + 1, 0, _ => rfl
 | _ :: r, i + 1, j + 1, h => nth_put_ne (H := r) fun e => h (congrArg Nat.succ e)
theorem nth_put_eq : ∀ {H : List α} {i : Nat} {y : α}, nth H i = some y → nth (put H i x) i = some x
 | [], _, _, h => by cases h
 | _ :: _, 0, _, _ => rfl
 | _ :: r, i + 1, y, h => nth_put_eq (H := r) (i := i) h
theorem nth_lt' : ∀ {H : List α} {i : Nat} {o : α}, nth H i = some o → i < H.length
 | [], _, _, h => by cases h
 | _ :: _, 0, _, _ => Nat.zero_lt_succ _
 | _ :: r, i + 1, o, h => Nat.succ_lt_succ (nth_lt' (H := r) h)
theorem nth_app : ∀ {H : List α} {i : Nat} {o : α}, nth H i = some o → nth (H ++ G) i = some o
 | [], _, _, h => by cases h
 | _ :: _, 0, _, h => h
 | _ :: r, i + 1, o, h => nth_app (H := r) (i := i) h
theorem nth_new : ∀ {H : List α} {o : α}, nth (H ++ [o]) H.length = some o
 | [], _ => rfl
 | _ :: r, _ => nth_new (H := r)
theorem len_put : ∀ {H : List α} {i : Nat}, (put H i x).length = H.length
 | [], _ => rfl
 | _ :: _, 0 => rfl
 | _ :: r, i + 1 => congrArg Nat.succ (len_put (H := r))
theorem nth_putn (h : nth H j = some o) (ne : i ≠ j) : nth (put H i x) j = some o := (nth_put_ne ne).trans h
end
inductive K3 | dec | whole | text
noncomputable def K3.s : K3 → List Nat
 | .dec => [100, 101, 99, 105, 109, 97, 108]
 | .whole => [119, 104, 111, 108, 101]
 | .text => [116, 101, 120, 116]
inductive Pl | nA | nB | nP | nC | a0 | a1 | b0 | b1
structure Cells where
 a : AV
 b : AV
 p : AV
 c : AV
 a0 : AV
 a1 : AV
 b0 : AV
 b1 : AV
noncomputable def Cells.get (c : Cells) : Pl → AV
 | .nA => c.a | .nB => c.b | .nP => c.p | .nC => c.c | .a0 => c.a0 | .a1 => c.a1 | .b0 => c.b0 | .b1 => c.b1
noncomputable def Cells.set (c : Cells) (v : AV) : Pl → Cells
 | .nA => { c with a := v } | .nB => { c with b := v } | .nP => { c with p := v } | .nC => { c with c := v }
 | .a0 => { c with a0 := v } | .a1 => { c with a1 := v } | .b0 => { c with b0 := v } | .b1 => { c with b1 := v }
noncomputable abbrev sA : List Nat := [65]
noncomputable abbrev sB : List Nat := [66]
noncomputable abbrev sP : List Nat := [66, 37]
noncomputable abbrev sC : List Nat := [67, 36]
noncomputable abbrev keyI (s : List Nat) (k : Int) : AV := .tup [.str s, .int k]
noncomputable def Pl.word : Pl → List Nat
 | .nA => sA | .nB => sB | .nP => sP | .nC => sC | .a0 => sA | .a1 => sA | .b0 => sB | .b1 => sB
noncomputable def Pl.item : Pl → Bool
 | .a0 | .a1 | .b0 | .b1 => true
 | _ => false
noncomputable def Pl.sub : Pl → Nat
 | .a1 | .b1 => 1
 | _ => 0
noncomputable def Pl.key : Pl → AV
 | .nA => .str sA | .nB => .str sB | .nP => .str sP | .nC => .str sC | .a0 => keyI sA 0 | .a1 => keyI sA 1 | .b0 => keyI sB 0 | .b1 => keyI sB 1
noncomputable def namesD (c : Cells) : List (AV × AV) := [(.str sA, c.a), (.str sB, c.b), (.str sP, c.p), (.str sC, c.c)]
noncomputable def bookD (c : Cells) : List (AV × AV) := [(.str sA, c.a), (keyI sA 0, c.a0), (keyI sA 1, c.a1), (.str sB, c.b), (keyI sB 0, c.b0), (keyI sB 1, c.b1), (.str sP, c.p), (.str sC, c.c)]
noncomputable def kindsD (a b : K3) : List (AV × AV) := [(.str sA, .str a.s), (.str sB, .str b.s)]
noncomputable def wAt (sp : Nat) : List (Nat × AV) := [(25, .int 16), (16, .int 9), (39, .int 2000), (40, .int 20), (41, .int 2000), (42, .obj 5), (43, .obj 6), (1, .obj 7), (44, .obj 8), (45, .obj 9), (46, .str []), (47, .obj 10), (48, .obj 11), (49, .obj 12), (50, .obj 13), (51, .obj 24), (52, .int (.ofNat sp)), (53, .int 0), (54, .int 1), (55, .int 0), (56, .int 0), (57, .int 0), (58, .bool false), (59, .int 0), (60, .str []), (61, .bool false), (62, .obj 15), (63, .obj 16)]
noncomputable def rAt : List (Nat × AV) := [(64, .obj 4), (158, .none), (159, .obj 18), (25, .int 16), (16, .int 9), (162, .obj 20), (163, .obj 22)]
noncomputable def gAt (hi it : Nat) : List (Nat × AV) := [(5, .str K3.dec.s), (92, .obj hi), (53, .int 0), (95, .obj it), (41, .int 2)]
noncomputable abbrev dat1 : AV := .tup [.int 10, .str [53]]
structure Sg where
 f0 : AO
 xs : List Nat
 c : Nat
 sp : Nat
 w : Cells
 b : Cells
 ka : K3
 kb : K3
 asks : Nat
noncomputable def Sg.kind (g : Sg) : Pl → K3
 | .nA => g.ka | .nB => g.kb | .nP => .whole | .nC => .text | _ => .dec
structure Core (g : Sg) (H : AH) : Prop where
 len : 52 ≤ H.length
 h0 : nth H 0 = some g.f0
 h2 : nth H 2 = some (.list (g.xs.map fun k => .int (.ofNat k)))
 h3 : nth H 3 = some (.list [.int (.ofNat g.c), .obj 2])
 h4 : nth H 4 = some (.inst 181 (wAt g.sp))
 h5 : nth H 5 = some (.dict (namesD g.w))
 h6 : nth H 6 = some (.dict [(.str sA, .obj 26), (.str sB, .obj 38)])
 h7 : nth H 7 = some (.dict (kindsD g.ka g.kb))
 h13 : nth H 13 = some (.dict [])
 h17 : nth H 17 = some (.book (bookD g.b))
 h19 : nth H 19 = some (.inst 796 rAt)
 h22 : ∃ l, nth H 22 = some (.list l) ∧ l.length ≤ g.asks
 h24 : nth H 24 = some (.list [dat1, dat1, dat1, dat1, dat1, dat1, dat1, dat1, dat1])
 h26 : nth H 26 = some (.inst 263 (gAt 27 29))
 h38 : nth H 38 = some (.inst 263 (gAt 39 41))
 h27 : nth H 27 = some (.list [.int 1])
 h39 : nth H 39 = some (.list [.int 1])
 h29 : nth H 29 = some (.list [g.w.a0, g.w.a1])
 h41 : nth H 41 = some (.list [g.w.b0, g.w.b1])
 h49 : nth H 49 = some (.dict (kindsD g.ka g.kb))
structure Keep (H H' : AH) : Prop where
 len : H.length ≤ H'.length
 old : ∀ j o, 52 ≤ j → nth H j = some o → nth H' j = some o
theorem Keep.refl (H : AH) : Keep H H := ⟨Nat.le_refl _, fun _ _ _ e => e⟩
theorem Keep.trans {H1 H2 H3 : AH} (x : Keep H1 H2) (y : Keep H2 H3) : Keep H1 H3 := ⟨Nat.le_trans x.len y.len, fun j o l e => y.old j o l (x.old j o l e)⟩
theorem Keep.app {H H' : AH} {G : AH} (x : Keep H H') : Keep H (H' ++ G) := ⟨by have := x.len; simp only [List.length_append]; omega, fun j o l e => nth_app (x.old j o l e)⟩
theorem Keep.put {H H' : AH} {i : Nat} {y : AO} (x : Keep H H') (hi : i < 52) : Keep H (put H' i y) := ⟨by rw [len_put]; exact x.len, fun j o l e => nth_putn (x.old j o l e) (by exact Nat.ne_of_lt (Nat.lt_of_lt_of_le ‹_› ‹_›))⟩
theorem Core.app {g : Sg} {H G : AH} (C : Core g H) : Core g (H ++ G) :=
 ⟨by have := C.len; simp only [List.length_append]; exact Nat.lt_add_right _ ‹_›, nth_app C.h0, nth_app C.h2, nth_app C.h3, nth_app C.h4, nth_app C.h5, nth_app C.h6, nth_app C.h7, nth_app C.h13, nth_app C.h17, nth_app C.h19, let ⟨l, e, z⟩ := C.h22; ⟨l, nth_app e, z⟩, nth_app C.h24, nth_app C.h26, nth_app C.h38, nth_app C.h27, nth_app C.h39, nth_app C.h29, nth_app C.h41, nth_app C.h49⟩
theorem Core.putB {g : Sg} {H : AH} {i : Nat} {y : AO} (C : Core g H) (hi : 52 ≤ i) : Core g (put H i y) :=
 ⟨by rw [len_put]; exact C.len, nth_putn C.h0 (by omega), nth_putn C.h2 (by omega), nth_putn C.h3 (by omega), nth_putn C.h4 (by omega), nth_putn C.h5 (by omega), nth_putn C.h6 (by omega), nth_putn C.h7 (by omega), nth_putn C.h13 (by omega), nth_putn C.h17 (by omega), nth_putn C.h19 (by omega), let ⟨l, e, z⟩ := C.h22; ⟨l, nth_putn e (by omega), z⟩, nth_putn C.h24 (by omega), nth_putn C.h26 (by omega), nth_putn C.h38 (by omega), nth_putn C.h27 (by omega), nth_putn C.h39 (by omega), nth_putn C.h29 (by omega), nth_putn C.h41 (by omega), nth_putn C.h49 (by omega)⟩
theorem Core.ask {g : Sg} {H : AH} {l : List AV} {v : AV} {k : Nat} (C : Core g H) (e : nth H 22 = some (.list l)) (hk : g.asks + 1 ≤ k) : Core { g with asks := k } (put H 22 (.list (l ++ [v]))) := by
 have z : l.length ≤ g.asks := by refine ob12 C.h22 fun l' e' z => ?_; rw [e'] at e; (injection e with ee; injection ee with e; subst e); exact z
 exact ⟨by rw [len_put]; exact C.len, nth_putn C.h0 (by decide), nth_putn C.h2 (by decide), nth_putn C.h3 (by decide), nth_putn C.h4 (by decide), nth_putn C.h5 (by decide), nth_putn C.h6 (by decide), nth_putn C.h7 (by decide), nth_putn C.h13 (by decide), nth_putn C.h17 (by decide), nth_putn C.h19 (by decide), ⟨_, nth_put_eq e, by rw [List.length_append]; simp only [List.length_cons, List.length_nil]; exact Nat.lt_of_le_of_lt ‹_› ‹_›⟩, nth_putn C.h24 (by decide), nth_putn C.h26 (by decide), nth_putn C.h38 (by decide), nth_putn C.h27 (by decide), nth_putn C.h39 (by decide), nth_putn C.h29 (by decide), nth_putn C.h41 (by decide), nth_putn C.h49 (by decide)⟩
theorem Core.more {g : Sg} {H : AH} {k : Nat} (C : Core g H) (hk : g.asks ≤ k) : Core { g with asks := k } H :=
 { len := C.len, h0 := C.h0, h2 := C.h2, h3 := C.h3, h4 := C.h4, h5 := C.h5, h6 := C.h6, h7 := C.h7, h13 := C.h13, h17 := C.h17, h19 := C.h19, h22 := let ⟨l, e, z⟩ := C.h22; ⟨l, e, Nat.le_trans z hk⟩, h24 := C.h24, h26 := C.h26, h38 := C.h38, h27 := C.h27, h39 := C.h39, h29 := C.h29, h41 := C.h41, h49 := C.h49 }
theorem Core.put {g g' : Sg} {H : AH} {i : Nat} {y z : AO} (C : Core g H) (e : nth H i = some z)
 (h0 : i = 0 ∧ y = g'.f0 ∨ i ≠ 0 ∧ g'.f0 = g.f0) (h2 : i ≠ 2 ∧ g'.xs = g.xs)
 (h3 : i = 3 ∧ y = .list [.int (.ofNat g'.c), .obj 2] ∨ i ≠ 3 ∧ g'.c = g.c)
 (h4 : i = 4 ∧ y = .inst 181 (wAt g'.sp) ∨ i ≠ 4 ∧ g'.sp = g.sp)
 (h5 : i = 5 ∧ y = .dict (namesD g'.w) ∨ i ≠ 5 ∧ namesD g'.w = namesD g.w)
 (h67 : i ≠ 6 ∧ i ≠ 7 ∧ i ≠ 13 ∧ i ≠ 19 ∧ i ≠ 22 ∧ i ≠ 24 ∧ i ≠ 26 ∧ i ≠ 38 ∧ i ≠ 27 ∧ i ≠ 39 ∧ i ≠ 49)
 (h17 : i = 17 ∧ y = .book (bookD g'.b) ∨ i ≠ 17 ∧ g'.b = g.b)
 (h29 : i = 29 ∧ y = .list [g'.w.a0, g'.w.a1] ∨ i ≠ 29 ∧ g'.w.a0 = g.w.a0 ∧ g'.w.a1 = g.w.a1)
 (h41 : i = 41 ∧ y = .list [g'.w.b0, g'.w.b1] ∨ i ≠ 41 ∧ g'.w.b0 = g.w.b0 ∧ g'.w.b1 = g.w.b1)
 (hk : g'.ka = g.ka ∧ g'.kb = g.kb ∧ g'.asks = g.asks) : Core g' (Mine.put H i y) := by
 obtain ⟨n6, n7, n13, n19, n22, n24, n26, n38, n27, n39, n49⟩ := h67
 refine ob03 hk fun ka kb kk => ?_
 refine ⟨by rw [len_put]; exact C.len, ?_, ?_, ?_, ?_, ?_, nth_putn C.h6 n6, ?_, nth_putn C.h13 n13, ?_, nth_putn C.h19 n19, ?_, nth_putn C.h24 n24, nth_putn C.h26 n26, nth_putn C.h38 n38, nth_putn C.h27 n27, nth_putn C.h39 n39, ?_, ?_, ?_⟩
 · rcases h0 with ⟨rfl, rfl⟩ | ⟨n, q⟩
   · exact nth_put_eq e
   · rw [q]; exact nth_putn C.h0 n
 · rw [h2.2]; exact nth_putn C.h2 h2.1
 · rcases h3 with ⟨rfl, rfl⟩ | ⟨n, q⟩
   · exact nth_put_eq e
   · rw [q]; exact nth_putn C.h3 n
 · rcases h4 with ⟨rfl, rfl⟩ | ⟨n, q⟩
   · exact nth_put_eq e
   · rw [q]; exact nth_putn C.h4 n
 · rcases h5 with ⟨rfl, rfl⟩ | ⟨n, q⟩
   · exact nth_put_eq e
   · rw [q]; exact nth_putn C.h5 n
 · rw [ka, kb]; exact nth_putn C.h7 n7
 · rcases h17 with ⟨rfl, rfl⟩ | ⟨n, q⟩
   · exact nth_put_eq e
   · rw [q]; exact nth_putn C.h17 n
 · rw [kk]; exact let ⟨l, e, z⟩ := C.h22; ⟨l, nth_putn e n22, z⟩
 · rcases h29 with ⟨rfl, rfl⟩ | ⟨n, q, q'⟩
   · exact nth_put_eq e
   · rw [q, q']; exact nth_putn C.h29 n
 · rcases h41 with ⟨rfl, rfl⟩ | ⟨n, q, q'⟩
   · exact nth_put_eq e
   · rw [q, q']; exact nth_putn C.h41 n
 · rw [ka, kb]; exact nth_putn C.h49 n49
def GU (H : AH) (p : Pl) (v : AV) : Prop := match p.item with
 | false => v = .tup [.str [110, 97, 109, 101], .str p.word]
 | true => ∃ j, v = .tup [.str [105, 116, 101, 109], .str p.word, .obj j] ∧ 52 ≤ j ∧ nth H j = some (.list [.tup [.str K3.whole.s, .int (.ofNat p.sub)]])
def GT (H : AH) (p : Pl) (v : AV) : Prop := match p.item with
 | false => v = .tup [.str [110, 97, 109, 101], .str p.word]
 | true => ∃ j, v = .tup [.str [105, 116, 101, 109], .str p.word, .obj j] ∧ 52 ≤ j ∧ nth H j = some (.list [.int (.ofNat p.sub)])
theorem GU.keep {H H' : AH} {p : Pl} {v : AV} (x : GU H p v) (k : Keep H H') : GU H' p v := by
 induction p <;> first | exact x | exact let ⟨j, e, z, n⟩ := x; ⟨j, e, z, k.old _ _ z n⟩
theorem GT.keep {H H' : AH} {p : Pl} {v : AV} (x : GT H p v) (k : Keep H H') : GT H' p v := by
 induction p <;> first | exact x | exact let ⟨j, e, z, n⟩ := x; ⟨j, e, z, k.old _ _ z n⟩
noncomputable abbrev aDec (c e : Int) : AV := .tup [.int c, .int e]
noncomputable def allV : List AV := [aDec 5 0, aDec 4 4, aDec 25 (-1), aDec 35 (-1), aDec 7 0, aDec 2 0, aDec 4 0, .int 7, .int 5, .int 2, .int 4, .str [116], .str [53]]
inductive Res | ok (v : AV) | exc (c : List Nat)
noncomputable def Res.at (H : AH) : Res → R AV
 | .ok v => .ok v H
 | .exc c => .exc c H
noncomputable abbrev sTM : List Nat := [84, 77]
noncomputable abbrev sOV : List Nat := [79, 86]
noncomputable def decOf (v : AV) : Res := match v with
 | .int i => .ok (aDec i 0)
 | .str _ => .exc sTM
 | v => .ok v
noncomputable def wholeT (c : AV) : AV → Res
 | .int (.negSucc _) => match eqV c (.int 25) with | true => .ok (.int 2) | false => .ok (.int 4)
 | .int (.ofNat 0) => .ok c
 | _ => .exc sOV
noncomputable def wholeOf (v : AV) : Res := match v with
 | .tup [c, e] => wholeT c e
 | .str _ => .exc sTM
 | v => .ok v
noncomputable def keptAs : K3 → AV → Res
 | .dec, v => decOf v
 | .whole, v => wholeOf v
 | .text, .str s => .ok (.str s)
 | .text, _ => .exc sTM
theorem all13 {P : AV → Prop} (h1 : P (aDec 5 0)) (h2 : P (aDec 4 4)) (h3 : P (aDec 25 (-1))) (h4 : P (aDec 35 (-1))) (h5 : P (aDec 7 0)) (h6 : P (aDec 2 0)) (h7 : P (aDec 4 0)) (h8 : P (.int 7)) (h9 : P (.int 5)) (h10 : P (.int 2)) (h11 : P (.int 4)) (h12 : P (.str [116])) (h13 : P (.str [53])) {v : AV} (hv : v ∈ allV) : P v := by
 have := List.forall_mem_cons.mpr ⟨h1, List.forall_mem_cons.mpr ⟨h2, List.forall_mem_cons.mpr ⟨h3, List.forall_mem_cons.mpr ⟨h4, List.forall_mem_cons.mpr ⟨h5, List.forall_mem_cons.mpr ⟨h6, List.forall_mem_cons.mpr ⟨h7, List.forall_mem_cons.mpr ⟨h8, List.forall_mem_cons.mpr ⟨h9, List.forall_mem_cons.mpr ⟨h10, List.forall_mem_cons.mpr ⟨h11, List.forall_mem_cons.mpr ⟨h12, List.forall_mem_cons.mpr ⟨h13, fun x hx => absurd hx (List.not_mem_nil)⟩⟩⟩⟩⟩⟩⟩⟩⟩⟩⟩⟩⟩
 exact this v hv
theorem suited_ok {v : AV} (hv : v ∈ allV) (k : K3) (n d : Nat) (H : AH) : callF tb (n+60) (d+10) H (.fn 156) [v, .str k.s, .int 16, .int 9] = (keptAs k v).at H := by
 cases k
 all_goals refine all13 (P := fun v => callF tb (n+60) (d+10) H (.fn 156) [v, .str (K3.s _), .int 16, .int 9] = (keptAs _ v).at H) ?_ ?_ ?_ ?_ ?_ ?_ ?_ ?_ ?_ ?_ ?_ ?_ ?_ hv
 all_goals kernel_rfl
theorem kept_ok {v : AV} (hv : v ∈ allV) (k : K3) (n d : Nat) (H : AH) : callF tb (n+60) (d+10) H (.fn 828) [v, .str k.s] = (keptAs k v).at H := by
 cases k
 all_goals refine all13 (P := fun v => callF tb (n+60) (d+10) H (.fn 828) [v, .str (K3.s _)] = (keptAs _ v).at H) ?_ ?_ ?_ ?_ ?_ ?_ ?_ ?_ ?_ ?_ ?_ ?_ ?_ hv
 all_goals kernel_rfl
theorem keptAs_in {v u : AV} (hv : v ∈ allV) {k : K3} (e : keptAs k v = .ok u) : u ∈ allV := by
 revert e
 revert u
 cases k
 all_goals refine all13 (P := fun v => ∀ {u : AV}, keptAs _ v = .ok u → u ∈ allV) ?_ ?_ ?_ ?_ ?_ ?_ ?_ ?_ ?_ ?_ ?_ ?_ ?_ hv
 all_goals (intro u e; first | contradiction | (injection e with e; subst e; repeat (first | exact List.Mem.head _ | apply List.Mem.tail)))
theorem keptAs_x {v : AV} {c : List Nat} (hv : v ∈ allV) {k : K3} (e : keptAs k v = .exc c) : c = sTM ∨ c = sOV := by
 revert e
 revert c
 cases k
 all_goals refine all13 (P := fun v => ∀ {u : List Nat}, keptAs _ v = .exc u → u = sTM ∨ u = sOV) ?_ ?_ ?_ ?_ ?_ ?_ ?_ ?_ ?_ ?_ ?_ ?_ ?_ hv
 all_goals (intro u e; first | contradiction | (injection e with e; subst e; first | exact .inl rfl | exact .inr rfl))
theorem aVs {v : AV} (hv : v ∈ allV) : (∀ n H, snap (n+1) H v = some v) ∧ okL v = true ∧ okM v = true ∧ eqV v v = true :=
 all13 (P := fun v => (∀ n H, snap (n+1) H v = some v) ∧ okL v = true ∧ okM v = true ∧ eqV v v = true) ⟨fun _ _ => rfl, rfl, rfl, rfl⟩ ⟨fun _ _ => rfl, rfl, rfl, rfl⟩ ⟨fun _ _ => rfl, rfl, rfl, rfl⟩ ⟨fun _ _ => rfl, rfl, rfl, rfl⟩ ⟨fun _ _ => rfl, rfl, rfl, rfl⟩ ⟨fun _ _ => rfl, rfl, rfl, rfl⟩ ⟨fun _ _ => rfl, rfl, rfl, rfl⟩ ⟨fun _ _ => rfl, rfl, rfl, rfl⟩ ⟨fun _ _ => rfl, rfl, rfl, rfl⟩ ⟨fun _ _ => rfl, rfl, rfl, rfl⟩ ⟨fun _ _ => rfl, rfl, rfl, rfl⟩ ⟨fun _ _ => rfl, rfl, rfl, rfl⟩ ⟨fun _ _ => rfl, rfl, rfl, rfl⟩ hv
section
variable {n d i j k : Nat} {fr : Fr} {H H1 : AH} {p : Pos} {c : Bool} {x : AV} {xs r : List AV}
theorem nthI {α : Type} {H : List α} {o : Option α} (h : nth H i = o) : nth H i = o := h
theorem neI {a b : Nat} (h : Bx (a ≠ b)) : a ≠ b := h.h
theorem te_loc (h1 : ev tb n d fr H (.loc k p) = .ok (.bool c) H1) : te tb (n+1) d fr H (.loc k p) = .ok c H1 := by (dsimp only [te]; (dsimp only [R.bind]; simp only [h1]))
theorem mth_pop (h : nth H i = some (.list xs)) (h2 : xs.reverse = x :: r) : mthV .pop (.obj i) [] H = .ok x (put H i (.list r.reverse)) := by (delta mthV; simp only [h, h2])
theorem bop_addL (h1 : nth H i = some (.list xs)) (h2 : nth H j = some (.list r)) (h3 : Nat.blt xs.length 1000 = true) (h4 : Nat.blt r.length 1000 = true) : bop .add (.obj i) (.obj j) H = .ok (.obj H.length) (H ++ [.list (xs ++ r)]) := by (delta bop bopL; simp only [h1, h2, h3, h4])
theorem revI {α : Type} {a b : List α} (h : Bx (a.reverse = b)) : a.reverse = b := h.h
noncomputable def whlS (n d : Nat) (fr : Fr) (t : E) (b : List S) : R Bool → R (Fl × Fr)
 | .ok true H => match exs tb n d fr H b with
  | .ok (.next, fr) H => whl tb n d fr H t b
  | .ok (.ret v, fr) H => .ok (.ret v, fr) H
  | _ => .bad
 | .ok false H => .ok (.next, fr) H
 | _ => .bad
theorem whl_step {t : E} {b : List S} {q : R (Fl × Fr)} (h1 : te tb n d fr H t = .ok c H1) (h2 : whlS n d fr t b (.ok c H1) = q) : whl tb (n+1) d fr H t b = q := by subst h2; cases c; ((dsimp only [whl]; (dsimp only [whlS]; simp only [h1]))); ((dsimp only [whl]; (dsimp only [whlS]; simp only [h1])) <;> rfl)
theorem whlS_t {t : E} {b : List S} {H2 : AH} {fr' : Fr} {q : R (Fl × Fr)} (h2 : exs tb n d fr H1 b = .ok (.next, fr') H2) (h3 : whl tb n d fr' H2 t b = q) : whlS n d fr t b (.ok true H1) = q := by (dsimp only [whlS]; simp only [h2, h3])
theorem whlS_f {t : E} {b : List S} : whlS n d fr t b (.ok false H1) = .ok (.next, fr) H1 := rfl
theorem lstI {o : AO} {xs : List AV} (h : nth H i = some o) (h2 : lstAt (some o) = some xs) : lstAt (nth H i) = some xs := by rw [h]; exact h2
theorem lstI2 {xs : List AV} : lstAt (some (.list xs)) = some xs := rfl
theorem okI {α : Type} {a : α} : R.ok a H = R.ok a H := rfl
theorem excI {α : Type} {a : List Nat} : (R.exc a H : R α) = R.exc a H := rfl
theorem fin_retE {v w : AV} (h : Bx (v = w)) : fin (.ok (.ret v, fr) H) = .ok w H := by rw [h.h]; rfl
theorem ex_forZN {px py pt pz pi : Pos} {a b : E} {l1 : List S} {H2 H3 : AH} {f1 f2 fr' : Fr} {xx yy zz kk : Nat} {u1 v1 u v : AV} (h1 : ev tb n (d+1) fr H a = .ok (.obj i) H1) (h2 : ev tb n (d+1) fr H1 b = .ok (.obj j) H2) (h3 : nth H2 i = some (.list [u1])) (h4 : nth H2 j = some (.list [v1])) (hu : upd fr xx u1 = f1) (hv : upd f1 yy v1 = f2) (h5 : exs tb n d f2 H2 l1 = .ok (.next, fr') H3) (h6 : nth H3 i = some (.list [u])) (h7 : nth H3 j = some (.list [v])) : ex tb (n+1) (d+1) fr H (.forZ xx px yy py kk pt zz pz a b pi l1 p) = .ok (.next, fr') H3 := by subst hu; subst hv; exact ex_forZ h1 h2 h3 h4 h5 h6 h7
noncomputable def notS : R Bool → R Bool
 | .ok b H => .ok (!b) H
 | r => r
theorem te_notN {t : E} {r : R Bool} (h : te tb n d fr H t = .ok c H1) (h2 : notS (.ok c H1) = r) : te tb (n+1) d fr H (.not t p) = r := by subst h2; exact te_not h
theorem notS_t : notS (.ok true H) = .ok false H := rfl
theorem notS_f : notS (.ok false H) = .ok true H := rfl
theorem appN {u : AV} : [] ++ [u] = [u] := rfl
theorem appC {a u : AV} {l l' : List AV} (h : l ++ [u] = l') : (a :: l) ++ [u] = a :: l' := by subst h; rfl
theorem biI {b : BI} {l : List AV} {r : R AV} (h : Bx (biCall b l H = r)) : biCall b l H = r := h.h
theorem bi_list (h : nth H i = some (.list xs)) : biCall .list [.obj i] H = .ok (.obj H.length) (H ++ [.list xs]) := by (delta biCall bi1 biLst; simp only [h])
noncomputable def idxS : AO → AV → Option AV
 | .list l, .int (.ofNat k) => nth l k
 | .dict es, .str x => dget es (.str x)
 | .book es, x => match isKey x with | true => dget es x | false => none
 | _, _ => none
theorem idxG {o : AO} {x : AV} {r : Option AV} (h : nth H i = some o) (h2 : idxS o x = r) : idxV (.obj i) x H = r := by
 subst h2; (delta idxV; simp only [h]); cases o <;> first | rfl | (cases x <;> first | rfl | (rename_i kk; cases kk <;> rfl))
theorem idxS_l {v : AV} {m : Nat} (h2 : Bx (nth xs m = some v)) : idxS (.list xs) (.int (.ofNat m)) = some v := h2.h
theorem idxS_d {v : AV} {es : List (AV × AV)} {s : List Nat} (h2 : dget es (.str s) = some v) : idxS (.dict es) (.str s) = some v := h2
theorem idxS_b {v x : AV} {es : List (AV × AV)} (hk : isKey x = true) (h2 : dget es x = some v) : idxS (.book es) x = some v := by
 cases x <;> first | (cases hk; done) | ((dsimp only [idxS]; simp only [hk, h2]))
noncomputable def setS (H : AH) (i : Nat) (v : AV) : AO → AV → Option AH
 | .list l, .int (.ofNat k) => match Nat.blt k l.length with | true => some (put H i (.list (put l k v))) | false => none
 | .dict es, .str x => match Nat.blt es.length 1000 with | true => some (put H i (.dict (dput es (.str x) v))) | false => none
 | .book es, x => match isKey x, Nat.blt es.length 1000 with | true, true => some (put H i (.book (dput es x v))) | _, _ => none
 | _, _ => none
theorem setG {o : AO} {x v : AV} {r : Option AH} (h : nth H i = some o) (h2 : setS H i v o x = r) : setI (.obj i) x v H = r := by
 subst h2; (delta setI; simp only [h]); cases o <;> first | rfl | (cases x <;> first | rfl | (rename_i kk; cases kk <;> rfl))
theorem setS_l {v : AV} {m : Nat} (h2 : Nat.blt m xs.length = true) : setS H i v (.list xs) (.int (.ofNat m)) = some (put H i (.list (put xs m v))) := by (dsimp only [setS]; simp only [h2])
theorem setS_d {v : AV} {es : List (AV × AV)} {s : List Nat} (h2 : Nat.blt es.length 1000 = true) : setS H i v (.dict es) (.str s) = some (put H i (.dict (dput es (.str s) v))) := by (dsimp only [setS]; simp only [h2])
theorem setS_b {v x : AV} {es : List (AV × AV)} (hk : isKey x = true) (h2 : Nat.blt es.length 1000 = true) : setS H i v (.book es) x = some (put H i (.book (dput es x v))) := by
 cases x <;> first | (cases hk; done) | ((dsimp only [setS]; simp only [hk, h2]))
theorem upd_nil {v : AV} {k : Nat} : upd [] k v = [(k, v)] := rfl
theorem upd_hit {v u : AV} {k y : Nat} {l : Fr} (h : Bx (Nat.beq y k = true)) : upd ((y, u) :: l) k v = (y, v) :: l := by (dsimp only [upd]; simp only [h.h])
theorem upd_miss {v u : AV} {k y : Nat} {l l' : Fr} (h : Bx (Nat.beq y k = false)) (h2 : upd l k v = l') : upd ((y, u) :: l) k v = (y, u) :: l' := by (dsimp only [upd]; simp only [h.h, h2])
theorem asg_nameN {v : AV} {fr' : Fr} (h : upd fr k v = fr') : asg tb (n+1) d fr H (.name k p) v = .ok fr' H := by subst h; exact asg_name
theorem ex_augnN {px : Pos} {e : E} {u v : AV} {H2 : AH} {fr' : Fr} {w : Int} {bo : BOp} (h0 : look fr k = some (.int w)) (h1 : ev tb n d fr H e = .ok u H1) (h2 : bop bo (.int w) u H1 = .ok v H2) (h3 : upd fr k v = fr') : ex tb (n+1) d fr H (.augn k px bo e p) = .ok (.next, fr') H2 := by subst h3; exact ex_augn h0 h1 h2
theorem asgN_nil : asgN fr [] [] = some fr := rfl
theorem asgN_cons {x : Nat} {v : AV} {l : List Nat} {r : List AV} {fr1 fr2 : Fr} (h1 : upd fr x v = fr1) (h2 : asgN fr1 l r = some fr2) : asgN fr (x :: l) (v :: r) = some fr2 := by subst h1; exact h2
theorem ex_asgS2 {a b : Nat} {pa pb pt pe : Pos} {l : List E} {u v : AV} {fr' : Fr} {kk j : Nat} (h1 : evs tb n d fr H l = .ok [u, v] H1) (h2 : asgN fr [b, a] [v, u] = some fr') : ex tb (n+1) d fr H (.asgS [(a, pa), (b, pb)] kk pt l j pe p) = .ok (.next, fr') H1 := ex_asgS h1 h2
theorem ex_asgS3 {a b c : Nat} {pa pb pc pt pe : Pos} {l : List E} {u v w : AV} {fr' : Fr} {kk j : Nat} (h1 : evs tb n d fr H l = .ok [u, v, w] H1) (h2 : asgN fr [c, b, a] [w, v, u] = some fr') : ex tb (n+1) d fr H (.asgS [(a, pa), (b, pb), (c, pc)] kk pt l j pe p) = .ok (.next, fr') H1 := ex_asgS h1 h2
noncomputable def isF : Option NameKind → Bool
 | some .free => true
 | _ => false
theorem capt_nil {sc : Nms} : capt sc [] = [] := rfl
theorem capt_hit {sc : Nms} {x : Nat} {v : AV} {l l' : Fr} (h : Bx (isF (lookA sc x) = true)) (h2 : capt sc l = l') : capt sc ((x, v) :: l) = (x, v) :: l' := by
 subst h2; have := h.h; dsimp only [capt]; generalize lookA sc x = q at this ⊢; cases q with
 | none => cases this
 | some k => cases k <;> first | rfl | cases this
theorem capt_miss {sc : Nms} {x : Nat} {v : AV} {l l' : Fr} (h : Bx (isF (lookA sc x) = false)) (h2 : capt sc l = l') : capt sc ((x, v) :: l) = l' := by
 subst h2; have := h.h; dsimp only [capt]; generalize lookA sc x = q at this ⊢; cases q with
 | none => rfl
 | some k => cases k <;> first | rfl | cases this
noncomputable def compS (n d : Nat) (fr : Fr) (k : Nat) (el : E) (sc : Nms) (H : AH) : AV → R AV
 | .tup vs => match Nat.ble vs.length 1000 with
  | true => (cmpL tb n d (capt sc fr) H .fix k el vs []).bind fun us H2 => .ok (.obj H2.length) (H2 ++ [.list us])
  | false => .bad
 | .obj i => match nth H i with
  | some (.list vs) => (cmpL tb n d (capt sc fr) H (.lst i vs) k el vs []).bind fun us H2 => .ok (.obj H2.length) (H2 ++ [.list us])
  | _ => .bad
 | _ => .bad
theorem ev_compG {px : Pos} {el it : E} {sc : Nms} {v : AV} {r : R AV} (h1 : ev tb n (d+1) fr H it = .ok v H1) (h2 : compS n d fr k el sc H1 v = r) : ev tb (n+1) (d+1) fr H (.comp k px el it sc p) = r := by
 subst h2; cases v <;> (dsimp only [ev]; (dsimp only [R.bind, compS]; simp only [h1])) <;> rfl
theorem compS_t {el : E} {sc : Nms} {vs us : List AV} {H2 : AH} {fr' : Fr} (h2 : Nat.ble vs.length 1000 = true) (hc : capt sc fr = fr') (h3 : cmpL tb n d fr' H .fix k el vs [] = .ok us H2) : compS n d fr k el sc H (.tup vs) = .ok (.obj H2.length) (H2 ++ [.list us]) := by
 subst hc; (dsimp only [compS, R.bind]; simp only [h2, h3])
theorem compS_o {el : E} {sc : Nms} {vs us : List AV} {H2 : AH} {fr' : Fr} (h2 : nth H i = some (.list vs)) (hc : capt sc fr = fr') (h3 : cmpL tb n d fr' H (.lst i vs) k el vs [] = .ok us H2) : compS n d fr k el sc H (.obj i) = .ok (.obj H2.length) (H2 ++ [.list us]) := by
 subst hc; (dsimp only [compS, R.bind]; simp only [h2, h3])
theorem cmpL_consN {el : E} {q : Src} {u v : AV} {us ws vs vs' : List AV} {H2 : AH} {fr' : Fr} (h : srcOk q H = true) (hu : upd fr k v = fr') (h1 : ev tb n d fr' H el = .ok u H1) (ha : vs ++ [u] = vs') (h2 : cmpL tb n d fr' H1 q k el us vs' = .ok ws H2) : cmpL tb (n+1) d fr H q k el (v :: us) vs = .ok ws H2 := by subst hu; subst ha; exact cmpL_cons h h1 h2
theorem srcOk_lst {xs : List AV} (h : nth H i = some (.list xs)) (he : eqVs xs xs = true) : srcOk (.lst i xs) H = true := by (delta srcOk; simp only [h, he])
theorem eqVsI {a b : List AV} (h : Bx (eqVs a b = true)) : eqVs a b = true := h.h
end
local macro_rules | `(tactic| w_left) => do
 let e ← ("okI excI evs_nil ev_c notS_t notS_f teA_nil teO_nil evo_none whlS_f upd_nil asgN_nil capt_nil srcOk_fix asgs_nil nxt_ret nxt_exc fin_ret fin_exc fin_next exs_nil lstI2 nth_new appN".splitOn " ").toArray.mapM fun n => `(Lean.Parser.Tactic.tacticSeq| exact $(Lean.mkIdent (.mkSimple n)))
 let a ← ("evs_cons ev_loc ev_gl ev_idx ev_att ev_bin ev_ife ev_tup ev_lst ev_cmp ev_neg ev_mthG mthS_inst mthS_list mthS_dict mth_append mth_pop mth_get2 mth_get te_cmp2 te_cmp te_notN te_and te_or teA_cons teO_cons te_call te_loc ev_call ev_compG compS_t compS_o ev_slc evo_some call_bi len_obj bi_list exs_step ex_asgS2 ex_asgS3 ex_asgT ex_asg ex_ife ex_ret ex_exp ex_whl ex_forZN whl_step whlS_t asg_nameN asgN_cons ex_augnN srcOk_lst asg_sub asg_att asgs_cons setG setS_l setS_d setS_b set_att nxt_next cond_t cond_f fin_of isin_dict notin_dict idxG idxS_l idxS_d idxS_b bop_addL lstI nth_put_eq nth_putn nth_app cmpL_nil cmpL_consN appC".splitOn " ").toArray.mapM fun n => `(Lean.Parser.Tactic.tacticSeq| apply $(Lean.mkIdent (.mkSimple n)))
 let b := #[← `(Lean.Parser.Tactic.tacticSeq| exact ex_rse rfl), ← `(Lean.Parser.Tactic.tacticSeq| exact upd_hit ⟨rfl⟩), ← `(Lean.Parser.Tactic.tacticSeq| apply upd_miss ⟨rfl⟩), ← `(Lean.Parser.Tactic.tacticSeq| apply capt_hit ⟨rfl⟩), ← `(Lean.Parser.Tactic.tacticSeq| apply capt_miss ⟨rfl⟩), ← `(Lean.Parser.Tactic.tacticSeq| (apply nthI; assumption))]
 let c := b ++ e ++ a
 `(tactic| with_reducible_and_instances first $[| $c]*)
theorem bxI {p : Prop} (h : Bx p) : Bx p := h
local macro_rules | `(tactic| k_places) => do
 let a ← ("lookI globI methI kindI mkI idxI bopI smI bleI bltI eqNI isKeyI dgetI dgetI2 eqVsI isBookI natOfI oneI revI biI".splitOn " ").toArray.mapM fun n => `(Lean.Parser.Tactic.tacticSeq| apply $(Lean.mkIdent (.mkSimple n)))
 `(tactic| first
 | (with_reducible (apply bxI; assumption))
 | ((with_reducible first $[| $a]*); (first | (with_reducible assumption) | exact ⟨rfl⟩))
 | ((with_reducible apply fin_retE); exact ⟨rfl⟩) | (with_reducible exact ⟨rfl⟩) | ((with_reducible refine (?_ : Bx _)); exact ⟨rfl⟩)
 | ((with_reducible apply cmpT); exact ⟨rfl⟩) | ((with_reducible apply cmpF); exact ⟨rfl⟩)
 | ((with_reducible apply dgetI3); first | exact (⟨rfl⟩ : Bx (_ = true)) | exact (⟨rfl⟩ : Bx (_ = false)))
 | ((with_reducible apply dgetI4); first | exact (⟨rfl⟩ : Bx (_ = true)) | exact (⟨rfl⟩ : Bx (_ = false)))
 | ((with_reducible apply neI); first | exact ⟨by decide⟩ | exact ⟨by (first | omega | (simp only [len_put, List.length_append, List.length_cons, List.length_nil]; omega))⟩))
theorem parts_ok (k : Nat) (n d : Nat) (H : AH) (hk : k = 0 ∨ k = 1) : callF tb (n+30) (d+5) H (.fn 631) [.tup [.str K3.whole.s, .int (.ofNat k)]] = .ok (.obj H.length) (H ++ [.list []]) := by
 rcases hk with rfl | rfl <;> kernel_rfl
theorem leaf_ok (k : Nat) (n d : Nat) (H : AH) (hk : k = 0 ∨ k = 1) : callF tb (n+30) (d+7) H (.fn 673) [.tup [.str K3.whole.s, .int (.ofNat k)], .int 16, .int 9] = .ok (.int (.ofNat k)) H := by
 rcases hk with rfl | rfl <;> kernel_rfl
theorem wholeK_ok (k : Nat) (n d : Nat) (H : AH) (hk : k = 0 ∨ k = 1) : callF tb (n+30) (d+7) H (.fn 128) [.int (.ofNat k), .int 16] = .ok (.int (.ofNat k)) H := by
 rcases hk with rfl | rfl <;> kernel_rfl
theorem wtree_ok (k : Nat) (hk : k = 0 ∨ k = 1) (a : AV) (H : AH) (h19 : nth H 19 = some (.inst 796 rAt)) (n d : Nat) : callF tb (n+60) (d+20) H (.fn 680) [.tup [.str K3.whole.s, .int (.ofNat k)], a, .obj 19] = .ok (.int (.ofNat k)) H := by
 apply call_f (f := cx9) rfl
 all_goals (try dsimp only [cx9])
 repeat' (first | (with_reducible_and_instances exact leaf_ok k _ _ _ hk) | w_left | k_places)
theorem Keep.putN {H H' : AH} {i : Nat} {y : AO} (x : Keep H H') (hi : H.length ≤ i) : Keep H (Mine.put H' i y) := ⟨by rw [len_put]; exact x.len, fun j o l e => nth_putn (x.old j o l e) (by have := nth_lt' e; exact Nat.ne_of_gt (Nat.lt_of_lt_of_le ‹_› ‹_›))⟩
local macro_rules | `(tactic| top_raise0) => `(tactic| repeat (first | assumption | exact Keep.refl _ | apply Core.app | apply Keep.app | refine Core.putB ?_ (by (first | omega | (simp only [len_put, List.length_append, List.length_cons, List.length_nil]; omega))) | refine Keep.put ?_ (by omega) | refine Keep.putN ?_ (by (first | omega | (simp only [len_put, List.length_append, List.length_cons, List.length_nil]; omega)))))
theorem worth_ok {g : Sg} {H : AH} (C : Core g H) (k : Nat) (hk : k = 0 ∨ k = 1) : ∃ H', (∀ n d, callF tb (n+100) (d+40) H (.fn 685) [.tup [.str K3.whole.s, .int (.ofNat k)], .obj 19] = .ok (.int (.ofNat k)) H') ∧ Core g H' ∧ Keep H H' := by
 have hl := C.len
 have h19 := C.h19
 refine ⟨?H', fun n d => ?_, ?_⟩
 rotate_left
 · apply call_f (f := cx60) rfl
   all_goals (try dsimp only [cx60])
   repeat' (first | (with_reducible_and_instances first | exact parts_ok k _ _ _ hk | apply wtree_ok k hk) | w_left | k_places)
 · constructor
   · top_raise0
   · top_raise0
noncomputable abbrev tree (k : Nat) : AV := .tup [.str K3.whole.s, .int (.ofNat k)]
theorem kOr (p : Pl) : p.sub = 0 ∨ p.sub = 1 := by induction p <;> first | exact .inl rfl | exact .inr rfl
theorem worth_ok' {g : Sg} {H : AH} (C : Core g H) (k : Nat) (hk : k = 0 ∨ k = 1) : ∃ H', (∀ n d, callF tb (n+105) (d+42) H (.fn 706) [.obj 19, tree k] = .ok (.int (.ofNat k)) H') ∧ Core g H' ∧ Keep H H' := by
 refine ob13 (worth_ok C k hk) fun H' e C' K' => ?_
 refine ⟨H', fun n d => ?_, C', K'⟩
 apply call_f (f := cx12) rfl
 all_goals (try dsimp only [cx12])
 repeat' (first | (with_reducible_and_instances apply e) | w_left | k_places)
noncomputable def Pl.grid : Pl → Nat
 | .b0 | .b1 => 38
 | _ => 26
noncomputable def Pl.hi : Pl → Nat
 | .b0 | .b1 => 39
 | _ => 27
noncomputable def Pl.it : Pl → Nat
 | .b0 | .b1 => 41
 | _ => 29
noncomputable def Cells.its (c : Cells) : Pl → List AV
 | .b0 | .b1 => [c.b0, c.b1]
 | _ => [c.a0, c.a1]
theorem Core.grid {g : Sg} {H : AH} (C : Core g H) (p : Pl) : nth H p.grid = some (.inst 263 (gAt p.hi p.it)) := by induction p <;> first | exact C.h26 | exact C.h38
theorem Core.hi {g : Sg} {H : AH} (C : Core g H) (p : Pl) : nth H p.hi = some (.list [.int 1]) := by induction p <;> first | exact C.h27 | exact C.h39
theorem Core.its {g : Sg} {H : AH} (C : Core g H) (p : Pl) : nth H p.it = some (.list (g.w.its p)) := by induction p <;> first | exact C.h29 | exact C.h41
theorem its_get (c : Cells) {p : Pl} (hp : p.item = true) : nth (c.its p) p.sub = some (c.get p) := by induction p <;> first | rfl | contradiction
theorem arr_get {p : Pl} (hp : p.item = true) : dget [(.str sA, .obj 26), (.str sB, .obj 38)] (.str p.word) = some (.obj p.grid) := by induction p <;> first | rfl | contradiction
theorem arr_in {p : Pl} (hp : p.item = true) : (dget [(.str sA, .obj 26), (.str sB, .obj 38)] (.str p.word)).isNone = false := by rw [arr_get hp]; rfl
theorem grid_ok {g : Sg} {H : AH} (C : Core g H) {p : Pl} (hp : p.item = true) (a : AV) (n d : Nat) : callF tb (n+40) (d+5) H (.fn 302) [.obj 4, .str p.word, a] = .ok (.obj p.grid) H := by
 have h4 := C.h4
 have h6 := C.h6
 have q := arr_get hp
 have q' := arr_in hp
 apply call_f (f := cx56) rfl
 all_goals (try dsimp only [cx56])
 all_goals repeat' (first | (with_reducible exact q) | (with_reducible exact q') | w_left | k_places)
theorem place_of_okX {H : AH} {gi hi it j k : Nat} (hk : k = 0 ∨ k = 1) (hg : nth H gi = some (.inst 263 (gAt hi it))) (hh : nth H hi = some (.list [.int 1])) (hj : nth H j = some (.list [.int (.ofNat k)])) (n d : Nat) : callF tb (n+60) (d+8) H (.fn 309) [.obj gi, .obj j] = .ok (.int (.ofNat k)) H := by
 rcases hk with rfl | rfl
 all_goals (apply call_f (f := cx44) rfl)
 all_goals (try dsimp only [cx44])
 all_goals repeat' (first | w_left | k_places)
theorem place_of_ok {g : Sg} {H : AH} (C : Core g H) (p : Pl) {j : Nat} (hj : nth H j = some (.list [.int (.ofNat p.sub)])) (n d : Nat) : callF tb (n+60) (d+8) H (.fn 309) [.obj p.grid, .obj j] = .ok (.int (.ofNat p.sub)) H := place_of_okX (kOr _) (C.grid p) (C.hi p) hj n d
theorem get_item_ok {g : Sg} {H : AH} (C : Core g H) {p : Pl} (hp : p.item = true) {j : Nat} (hj : nth H j = some (.list [.int (.ofNat p.sub)])) (n d : Nat) : callF tb (n+70) (d+10) H (.fn 316) [.obj 4, .str p.word, .obj j] = .ok (g.w.get p) H := by
 have hg := fun a n d => grid_ok C hp a n d
 have hp' := fun n d => place_of_ok C p hj n d
 have h1 := C.grid p
 have h2 := C.its p
 have h3 : Bx (nth (g.w.its p) p.sub = some (g.w.get p)) := ⟨its_get g.w hp⟩
 apply call_f (f := cx42) rfl
 all_goals (try dsimp only [cx42])
 all_goals repeat' (first | (with_reducible_and_instances first | apply hg | apply hp') | w_left | k_places)
theorem eqSub (p : Pl) : eqVs [.int (.ofNat p.sub)] [.int (.ofNat p.sub)] = true := by induction p <;> rfl
theorem eqTree (p : Pl) : eqVs [tree p.sub] [tree p.sub] = true := by induction p <;> rfl
theorem bltOf {a b : Nat} (h : a < b) : Nat.blt a b = true := by rw [Nat.blt_eq]; exact h
theorem item_of_ok {g : Sg} {H : AH} (C : Core g H) {p : Pl} (hp : p.item = true) (ha : g.asks ≤ 900) {j : Nat} (hj : nth H j = some (.list [.int (.ofNat p.sub)])) :
 ∃ H', (∀ n d, callF tb (n+90) (d+14) H (.fn 725) [.obj 19, .str p.word, .obj j] = .ok (g.w.get p) H') ∧ Core { g with asks := g.asks + 1 } H' ∧ Keep H H' := by
 refine ob12 C.h22 fun l e22 z => ?_
 have hl := C.len
 have h19 := C.h19
 have hb : Bx (Nat.blt l.length 1000 = true) := ⟨bltOf (by omega)⟩
 have hq : Bx (eqVs [.int (.ofNat p.sub)] [.int (.ofNat p.sub)] = true) := ⟨eqSub p⟩
 have hw := fun n d H => wholeK_ok p.sub n d H (kOr p)
 have C1 : Core { g with asks := g.asks + 1 } (put (H ++ [.list [.int (.ofNat p.sub)]]) 22 (.list (l ++ [.tup [.str p.word, .obj H.length]]))) := (C.app).ask (nth_app e22) (Nat.le_refl _)
 have hg := fun n d => get_item_ok C1 hp (j := H.length) (nth_putn nth_new (by omega)) n d
 refine ⟨_, fun n d => ?_, C1, ((Keep.refl H).app).put (by exact Nat.le_add_left _ _)⟩
 apply call_f (f := cx3) rfl
 all_goals (try dsimp only [cx3])
 all_goals repeat' (first | (with_reducible_and_instances first | apply hg | apply hw) | w_left | k_places)
theorem isName {p : Pl} (hp : p.item = false) : p.word = sA ∧ p = .nA ∨ p.word = sB ∧ p = .nB ∨ p.word = sP ∧ p = .nP ∨ p.word = sC ∧ p = .nC := by induction p <;> first | (contradiction; done) | exact .inl ⟨rfl, rfl⟩ | exact .inr (.inl ⟨rfl, rfl⟩) | exact .inr (.inr (.inl ⟨rfl, rfl⟩)) | exact .inr (.inr (.inr ⟨rfl, rfl⟩))
theorem nam_get (c : Cells) {p : Pl} (hp : p.item = false) : dget (namesD c) (.str p.word) = some (c.get p) := by induction p <;> first | rfl | contradiction
theorem nam_in (c : Cells) {p : Pl} (hp : p.item = false) : (dget (namesD c) (.str p.word)).isSome = true := by rw [nam_get c hp]; rfl
theorem nam_put (c : Cells) (v : AV) {p : Pl} (hp : p.item = false) : dput (namesD c) (.str p.word) v = namesD (c.set v p) := by induction p <;> first | rfl | contradiction
theorem not_err {p : Pl} (H : AH) : cmpV .eq (.str p.word) (.str [69, 82, 82]) H = some false := by induction p <;> rfl
theorem not_erl {p : Pl} (H : AH) : cmpV .eq (.str p.word) (.str [69, 82, 76]) H = some false := by induction p <;> rfl
theorem get_name_ok {g : Sg} {H : AH} (C : Core g H) {p : Pl} (hp : p.item = false) (n d : Nat) : callF tb (n+30) (d+5) H (.fn 199) [.obj 4, .str p.word] = .ok (g.w.get p) H := by
 have h4 := C.h4
 have h5 := C.h5
 have q := nam_get g.w hp
 have q' := nam_in g.w hp
 apply call_f (f := cx51) rfl
 all_goals (try dsimp only [cx51])
 all_goals repeat' (first | (with_reducible exact q) | (with_reducible exact q') | w_left | k_places)
theorem field_ok {g : Sg} {H : AH} (C : Core g H) (w : List Nat) (n d : Nat) : callF tb (n+30) (d+5) H (.fn 549) [.obj 4, .str w] = .ok .none H := by
 have h4 := C.h4
 have h13 := C.h13
 apply call_f (f := cx35) rfl
 all_goals (try dsimp only [cx35])
 all_goals repeat' (first | w_left | k_places)
theorem no_field_ok {g : Sg} {H : AH} (C : Core g H) (w : List Nat) (n d : Nat) : callF tb (n+30) (d+5) H (.fn 556) [.obj 4, .str w] = .ok .none H := by
 have h4 := C.h4
 have h13 := C.h13
 apply call_f (f := cx52) rfl
 all_goals (try dsimp only [cx52])
 all_goals repeat' (first | w_left | k_places)
theorem var_ok {g : Sg} {H : AH} (C : Core g H) {p : Pl} (hp : p.item = false) (n d : Nat) : callF tb (n+50) (d+8) H (.fn 577) [.obj 4, .str p.word] = .ok (g.w.get p) H := by
 have h4 := C.h4
 have e1 := fun n d => field_ok C p.word n d
 have e2 := fun n d => get_name_ok C hp n d
 apply call_f (f := cx6) rfl
 all_goals (try dsimp only [cx6])
 all_goals repeat' (first | (with_reducible exact not_err _) | (with_reducible exact not_erl _) | (with_reducible_and_instances first | apply e1 | apply e2) | w_left | k_places)
theorem value_name_ok {g : Sg} {H : AH} (C : Core g H) {p : Pl} (hp : p.item = false) (ha : g.asks ≤ 900) :
 ∃ H', (∀ n d, callF tb (n+70) (d+12) H (.fn 720) [.obj 19, .str p.word] = .ok (g.w.get p) H') ∧ Core { g with asks := g.asks + 1 } H' ∧ Keep H H' := by
 refine ob12 C.h22 fun l e22 z => ?_
 have hl := C.len
 have h19 := C.h19
 have hb : Bx (Nat.blt l.length 1000 = true) := ⟨bltOf (by omega)⟩
 have C1 : Core { g with asks := g.asks + 1 } (put H 22 (.list (l ++ [.str p.word]))) := C.ask e22 (Nat.le_refl _)
 have hg := fun n d => var_ok C1 hp n d
 refine ⟨_, fun n d => ?_, C1, (Keep.refl H).put (by exact Nat.le_add_left _ _)⟩
 apply call_f (f := cx0) rfl
 all_goals (try dsimp only [cx0])
 all_goals repeat' (first | (with_reducible_and_instances apply hg) | w_left | k_places)
theorem kname_ok {g : Sg} {H : AH} (C : Core g H) {p : Pl} (hp : p.item = false) (n d : Nat) : callF tb (n+30) (d+5) H (.fn 79) [.str p.word, .obj 7] = .ok (.str (g.kind p).s) H := by
 have h7 := C.h7
 rcases isName hp with ⟨e, rfl⟩ | ⟨e, rfl⟩ | ⟨e, rfl⟩ | ⟨e, rfl⟩
 all_goals (rw [e])
 all_goals (apply call_f (f := cx18) rfl)
 all_goals (try dsimp only [cx18])
 all_goals repeat' (first | w_left | k_places)
theorem kind_here_ok {g : Sg} {H : AH} (C : Core g H) {p : Pl} (hp : p.item = false) (n d : Nat) : callF tb (n+45) (d+8) H (.fn 192) [.obj 4, .str p.word] = .ok (.str (g.kind p).s) H := by
 have h4 := C.h4
 have e1 := fun n d => kname_ok C hp n d
 apply call_f (f := cx36) rfl
 all_goals (try dsimp only [cx36])
 all_goals repeat' (first | (with_reducible_and_instances apply e1) | w_left | k_places)
theorem Res.ok_at {v u : AV} {k : K3} (e : keptAs k v = .ok u) (hv : v ∈ allV) (n d : Nat) (H : AH) : callF tb (n+60) (d+10) H (.fn 156) [v, .str k.s, .int 16, .int 9] = .ok u H := by rw [suited_ok hv, e]; rfl
theorem set_name_ok {g : Sg} {H : AH} (C : Core g H) {p : Pl} (hp : p.item = false) {v u : AV} (hv : v ∈ allV) (e : keptAs (g.kind p) v = .ok u) (n d : Nat) :
 callF tb (n+80) (d+14) H (.fn 206) [.obj 4, .str p.word, v] = .ok .none (put H 5 (.dict (dput (namesD g.w) (.str p.word) u))) := by
 have h4 := C.h4
 have h5 := C.h5
 have e1 := fun n d => kind_here_ok C hp n d
 have e2 := Res.ok_at e hv
 apply call_f (f := cx46) rfl
 all_goals (try dsimp only [cx46])
 all_goals repeat' (first | (with_reducible_and_instances first | apply e1 | apply e2) | w_left | k_places)
theorem Core.setN {g : Sg} {H : AH} (C : Core g H) {p : Pl} (hp : p.item = false) (u : AV) : Core { g with w := g.w.set u p } (Mine.put H 5 (.dict (dput (namesD g.w) (.str p.word) u))) := by
 refine C.put (g' := { g with w := g.w.set u p }) C.h5 (.inr ⟨by decide, rfl⟩) ⟨by decide, rfl⟩ (.inr ⟨by decide, rfl⟩) (.inr ⟨by decide, rfl⟩) (.inl ⟨rfl, by rw [nam_put g.w u hp]⟩) ⟨by decide, by decide, by decide, by decide, by decide, by decide, by decide, by decide, by decide, by decide, by decide⟩ (.inr ⟨by decide, rfl⟩) (.inr ⟨by decide, ?_⟩) (.inr ⟨by decide, ?_⟩) ⟨rfl, rfl, rfl⟩
 · induction p <;> first | (contradiction; done) | exact ⟨rfl, rfl⟩
 · induction p <;> first | (contradiction; done) | exact ⟨rfl, rfl⟩
theorem store_ok {g : Sg} {H : AH} (C : Core g H) {p : Pl} (hp : p.item = false) {v u : AV} (hv : v ∈ allV) (e : keptAs (g.kind p) v = .ok u) :
 ∃ H', (∀ n d, callF tb (n+110) (d+20) H (.fn 767) [.obj 19, .str p.word, v] = .ok .none H') ∧ Core { g with w := g.w.set u p } H' ∧ Keep H H' := by
 have h19 := C.h19
 have e1 := fun n d => set_name_ok C hp hv e n d
 have C1 := C.setN hp u
 have e2 := fun n d => no_field_ok C1 p.word n d
 have e3 : ∀ n d, callF tb (n+100) (d+17) H (.fn 584) [.obj 4, .str p.word, v] = .ok .none (put H 5 (.dict (dput (namesD g.w) (.str p.word) u))) := fun n d => by
  apply call_f (f := cx10) rfl
  all_goals (try dsimp only [cx10])
  all_goals repeat' (first | (with_reducible_and_instances first | apply e1 | apply e2) | w_left | k_places)
 refine ⟨_, fun n d => ?_, C1, (Keep.refl H).put (by exact Nat.le_add_left _ _)⟩
 apply call_f (f := cx13) rfl
 all_goals (try dsimp only [cx13])
 all_goals repeat' (first | (with_reducible_and_instances apply e3) | w_left | k_places)
theorem its_lt (c : Cells) (p : Pl) : Nat.blt p.sub (c.its p).length = true := by induction p <;> rfl
theorem kind_item {g : Sg} {p : Pl} (hp : p.item = true) : g.kind p = .dec := by induction p <;> first | (contradiction; done) | rfl
theorem Core.setI {g : Sg} {H : AH} (C : Core g H) {p : Pl} (hp : p.item = true) (u : AV) : Core { g with w := g.w.set u p } (Mine.put H p.it (.list (Mine.put (g.w.its p) p.sub u))) := by
 have dd : p.it ≠ 0 ∧ p.it ≠ 2 ∧ p.it ≠ 3 ∧ p.it ≠ 4 ∧ p.it ≠ 5 ∧ (p.it ≠ 6 ∧ p.it ≠ 7 ∧ p.it ≠ 13 ∧ p.it ≠ 19 ∧ p.it ≠ 22 ∧ p.it ≠ 24 ∧ p.it ≠ 26 ∧ p.it ≠ 38 ∧ p.it ≠ 27 ∧ p.it ≠ 39 ∧ p.it ≠ 49) ∧ p.it ≠ 17 := by induction p <;> decide
 refine ob07 dd fun d0 d2 d3 d4 d5 dd d17 => ?_
 refine C.put (g' := { g with w := g.w.set u p }) (C.its p) (.inr ⟨d0, rfl⟩) ⟨d2, rfl⟩ (.inr ⟨d3, rfl⟩) (.inr ⟨d4, rfl⟩) (.inr ⟨d5, ?_⟩) dd (.inr ⟨d17, rfl⟩) ?_ ?_ ⟨rfl, rfl, rfl⟩
 · induction p <;> first | (contradiction; done) | rfl
 · induction p <;> first | (contradiction; done) | exact .inl ⟨rfl, rfl⟩ | exact .inr ⟨by decide, rfl, rfl⟩
 · induction p <;> first | (contradiction; done) | exact .inl ⟨rfl, rfl⟩ | exact .inr ⟨by decide, rfl, rfl⟩
theorem set_item_ok {g : Sg} {H : AH} (C : Core g H) {p : Pl} (hp : p.item = true) {j : Nat} (hj : nth H j = some (.list [.int (.ofNat p.sub)])) {v u : AV} (hv : v ∈ allV) (e : keptAs .dec v = .ok u) (n d : Nat) :
 callF tb (n+90) (d+14) H (.fn 323) [.obj 4, .str p.word, .obj j, v] = .ok .none (put H p.it (.list (put (g.w.its p) p.sub u))) := by
 have h4 := C.h4
 have hg := fun a n d => grid_ok C hp a n d
 have hp' := fun n d => place_of_ok C p hj n d
 have h1 := C.grid p
 have h2 := C.its p
 have h3 : Bx (Nat.blt p.sub (g.w.its p).length = true) := ⟨its_lt _ _⟩
 have e2 := Res.ok_at e hv
 apply call_f (f := cx47) rfl
 all_goals (try dsimp only [cx47])
 all_goals repeat' (first | (with_reducible_and_instances first | apply hg | apply hp' | apply e2) | w_left | k_places)
theorem it_lt (p : Pl) : p.it < 52 := by induction p <;> decide
theorem put_ok {g : Sg} {H : AH} (C : Core g H) {p : Pl} (hp : p.item = true) {j : Nat} (hj : nth H j = some (.list [.int (.ofNat p.sub)])) {v u : AV} (hv : v ∈ allV) (e : keptAs .dec v = .ok u) :
 ∃ H', (∀ n d, callF tb (n+110) (d+20) H (.fn 772) [.obj 19, .str p.word, .obj j, v] = .ok .none H') ∧ Core { g with w := g.w.set u p } H' ∧ Keep H H' := by
 have hl := C.len
 have h19 := C.h19
 have hq : Bx (eqVs [.int (.ofNat p.sub)] [.int (.ofNat p.sub)] = true) := ⟨eqSub p⟩
 have hw := fun n d H => wholeK_ok p.sub n d H (kOr p)
 have C1 : Core g (H ++ [.list [.int (.ofNat p.sub)]]) := C.app
 have e1 := fun n d => set_item_ok C1 hp (j := H.length) nth_new hv e n d
 refine ⟨_, fun n d => ?_, C1.setI hp u, ((Keep.refl H).app).put (it_lt p)⟩
 apply call_f (f := cx23) rfl
 all_goals (try dsimp only [cx23])
 all_goals repeat' (first | (with_reducible_and_instances first | apply hw | apply e1) | w_left | k_places)
noncomputable abbrev sName : List Nat := [110, 97, 109, 101]
noncomputable abbrev sItem : List Nat := [105, 116, 101, 109]
theorem place_told_name (H : AH) (w : List Nat) (n d : Nat) : callF tb (n+60) (d+10) H (.fn 225) [.obj 19, .tup [.str sName, .str w]] = .ok (.tup [.str sName, .str w]) H := by
 apply call_f (f := cx30) rfl
 all_goals (try dsimp only [cx30])
 all_goals repeat' (first | w_left | k_places)
theorem GU.split {H : AH} {p : Pl} {v : AV} (x : GU H p v) : p.item = false ∧ v = .tup [.str sName, .str p.word] ∨ p.item = true ∧ ∃ j, v = .tup [.str sItem, .str p.word, .obj j] ∧ 52 ≤ j ∧ nth H j = some (.list [tree p.sub]) := by
 induction p <;> first | exact .inl ⟨rfl, x⟩ | exact .inr ⟨rfl, x⟩
theorem GT.split {H : AH} {p : Pl} {v : AV} (x : GT H p v) : p.item = false ∧ v = .tup [.str sName, .str p.word] ∨ p.item = true ∧ ∃ j, v = .tup [.str sItem, .str p.word, .obj j] ∧ 52 ≤ j ∧ nth H j = some (.list [.int (.ofNat p.sub)]) := by
 induction p <;> first | exact .inl ⟨rfl, x⟩ | exact .inr ⟨rfl, x⟩
theorem GT.mkN {H : AH} {p : Pl} (hp : p.item = false) : GT H p (.tup [.str sName, .str p.word]) := by induction p <;> first | (contradiction; done) | rfl
theorem GT.mkI {H : AH} {p : Pl} (hp : p.item = true) {j : Nat} (hj : 52 ≤ j) (h : nth H j = some (.list [.int (.ofNat p.sub)])) : GT H p (.tup [.str sItem, .str p.word, .obj j]) := by induction p <;> first | (contradiction; done) | exact ⟨j, rfl, hj, h⟩
theorem GU.mkN {H : AH} {p : Pl} (hp : p.item = false) : GU H p (.tup [.str sName, .str p.word]) := by induction p <;> first | (contradiction; done) | rfl
theorem GU.mkI {H : AH} {p : Pl} (hp : p.item = true) {j : Nat} (hj : 52 ≤ j) (h : nth H j = some (.list [tree p.sub])) : GU H p (.tup [.str sItem, .str p.word, .obj j]) := by induction p <;> first | (contradiction; done) | exact ⟨j, rfl, hj, h⟩
theorem place_told_ok {g : Sg} {H : AH} (C : Core g H) {p : Pl} {v : AV} (hv : GU H p v) (ha : g.asks ≤ 900) :
 ∃ v' H', (∀ n d, callF tb (n+130) (d+60) H (.fn 225) [.obj 19, v] = .ok v' H') ∧ GT H' p v' ∧ Core { g with asks := g.asks + 1 } H' ∧ Keep H H' := by
 rcases hv.split with ⟨hp, rfl⟩ | ⟨hp, j, rfl, hj, hn⟩
 · exact ⟨_, _, fun n d => place_told_name _ _ (n + 70) (d + 50), GT.mkN hp, C.more (Nat.le_succ _), Keep.refl _⟩
 · have h19 := C.h19
   have hl := C.len
   refine ob13 (worth_ok' C p.sub (kOr p)) fun H1 e1 C1 K1 => ?_
   have hn1 := K1.old _ _ hj hn
   have h19' := C1.h19
   have hl1 := K1.len
   have hq : Bx (eqVs [tree p.sub] [tree p.sub] = true) := ⟨eqTree p⟩
   refine ob13 (item_of_ok (C1.app (G := [.list [.int (.ofNat p.sub)]])) hp ha (j := H1.length) nth_new) fun H2 e2 C2 K2 => ?_
   refine ⟨.tup [.str sItem, .str p.word, .obj H1.length], H2, fun n d => ?_, GT.mkI hp (by exact Nat.lt_of_lt_of_le ‹_› ‹_›) (K2.old _ _ (by exact Nat.lt_of_lt_of_le ‹_› ‹_›) nth_new), C2, K1.trans ((Keep.refl H1).app.trans K2)⟩
   apply call_f (f := cx30) rfl
   all_goals (try dsimp only [cx30])
   all_goals repeat' (first | (with_reducible_and_instances first | apply e1 | apply e2) | w_left | k_places)
theorem value_at_ok {g : Sg} {H : AH} (C : Core g H) {p : Pl} {v : AV} (hv : GT H p v) (ha : g.asks ≤ 900) :
 ∃ H', (∀ n d, callF tb (n+110) (d+20) H (.fn 232) [.obj 19, v] = .ok (g.w.get p) H') ∧ Core { g with asks := g.asks + 1 } H' ∧ Keep H H' := by
 have h19 := C.h19
 rcases hv.split with ⟨hp, rfl⟩ | ⟨hp, j, rfl, hj, hn⟩
 · refine ob13 (value_name_ok C hp ha) fun H1 e1 C1 K1 => ?_
   refine ⟨_, fun n d => ?_, C1, K1⟩
   apply call_f (f := cx45) rfl
   all_goals (try dsimp only [cx45])
   all_goals repeat' (first | (with_reducible_and_instances apply e1) | w_left | k_places)
 · refine ob13 (item_of_ok C hp ha hn) fun H1 e1 C1 K1 => ?_
   refine ⟨_, fun n d => ?_, C1, K1⟩
   apply call_f (f := cx45) rfl
   all_goals (try dsimp only [cx45])
   all_goals repeat' (first | (with_reducible_and_instances apply e1) | w_left | k_places)
theorem put_at_ok {g : Sg} {H : AH} (C : Core g H) {p : Pl} {v : AV} (hv : GT H p v) {x u : AV} (hx : x ∈ allV) (e : keptAs (g.kind p) x = .ok u) :
 ∃ H', (∀ n d, callF tb (n+130) (d+30) H (.fn 239) [.obj 19, v, x] = .ok .none H') ∧ Core { g with w := g.w.set u p } H' ∧ Keep H H' := by
 have h19 := C.h19
 rcases hv.split with ⟨hp, rfl⟩ | ⟨hp, j, rfl, hj, hn⟩
 · refine ob13 (store_ok C hp hx e) fun H1 e1 C1 K1 => ?_
   refine ⟨_, fun n d => ?_, C1, K1⟩
   apply call_f (f := cx58) rfl
   all_goals (try dsimp only [cx58])
   all_goals repeat' (first | (with_reducible_and_instances apply e1) | w_left | k_places)
 · rw [kind_item hp] at e
   refine ob13 (put_ok C hp hn hx e) fun H1 e1 C1 K1 => ?_
   refine ⟨_, fun n d => ?_, C1, K1⟩
   apply call_f (f := cx58) rfl
   all_goals (try dsimp only [cx58])
   all_goals repeat' (first | (with_reducible_and_instances apply e1) | w_left | k_places)
theorem kot_name {g : Sg} {H : AH} (C : Core g H) {p : Pl} (hp : p.item = false) (n d : Nat) : callF tb (n+70) (d+12) H (.fn 213) [.obj 19, .tup [.str sName, .str p.word]] = .ok (.str (g.kind p).s) H := by
 have h19 := C.h19
 have e1 := fun n d => kind_here_ok C hp n d
 apply call_f (f := cx4) rfl
 all_goals (try dsimp only [cx4])
 all_goals repeat' (first | (with_reducible_and_instances apply e1) | w_left | k_places)
theorem kot_item {g : Sg} {H : AH} (C : Core g H) {p : Pl} (hp : p.item = true) (x : AV) (n d : Nat) : callF tb (n+70) (d+12) H (.fn 213) [.obj 19, .tup [.str sItem, .str p.word, x]] = .ok (.str K3.dec.s) H := by
 have h19 := C.h19
 have h4 := C.h4
 have h6 := C.h6
 have h1 := C.grid p
 have q : Bx ((dget [(.str sA, .obj 26), (.str sB, .obj 38)] (.str p.word)).getD .none = .obj p.grid) := ⟨by rw [arr_get hp]; rfl⟩
 apply call_f (f := cx4) rfl
 all_goals (try dsimp only [cx4])
 all_goals repeat' (first | ((with_reducible apply dgetI2); with_reducible exact q) | w_left | k_places)
theorem kot_ok {g : Sg} {H : AH} (C : Core g H) {p : Pl} {v : AV} (hv : GU H p v) (n d : Nat) : callF tb (n+70) (d+12) H (.fn 213) [.obj 19, v] = .ok (.str (g.kind p).s) H := by
 rcases hv.split with ⟨hp, rfl⟩ | ⟨hp, j, rfl, hj, hn⟩
 · exact kot_name C hp n d
 · rw [kind_item hp]; exact kot_item C hp _ n d
noncomputable def expS (fr : Fr) : R AV → R (Fl × Fr)
 | .ok _ H => .ok (.next, fr) H
 | .exc c H => .exc c H
 | .bad => .bad
section
variable {n d k j : Nat} {fr fr' : Fr} {H H1 : AH} {p : Pos} {e : E} {l : List E} {r : R AV} {rr rr' : R (List AV)} {q : R (Fl × Fr)} {c : List Nat} {u v : AV} {vs : List AV}
theorem ex_expG (h1 : ev tb n d fr H e = r) (h2 : expS fr r = q) : ex tb (n+1) d fr H (.exp e p) = q := by
 subst h1; subst h2; dsimp only [ex]; generalize ev tb n d fr H e = r; cases r <;> rfl
theorem expS_ok : expS fr (.ok v H) = .ok (.next, fr) H := rfl
theorem expS_exc : expS fr (.exc c H) = .exc c H := rfl
noncomputable def evsS (n d : Nat) (fr : Fr) (l : List E) : R AV → R (List AV)
 | .ok v H => (evs tb n d fr H l).bind fun vs H => .ok (v :: vs) H
 | .exc c H => .exc c H
 | .bad => .bad
noncomputable def consS (v : AV) : R (List AV) → R (List AV)
 | .ok vs H => .ok (v :: vs) H
 | .exc c H => .exc c H
 | .bad => .bad
theorem evs_consG (h1 : ev tb n d fr H e = r) (h2 : evsS n d fr l r = rr) : evs tb (n+1) d fr H (e :: l) = rr := by
 subst h1; subst h2; dsimp only [evs]; generalize ev tb n d fr H e = r; cases r <;> rfl
theorem evsS_ok (h1 : evs tb n d fr H l = rr) (h2 : consS v rr = rr') : evsS n d fr l (.ok v H) = rr' := by
 subst h1; subst h2; dsimp only [evsS]; generalize evs tb n d fr H l = r; cases r <;> rfl
theorem evsS_exc : evsS n d fr l (.exc c H) = .exc c H := rfl
theorem consS_ok : consS v (.ok vs H) = .ok (v :: vs) H := rfl
theorem consS_exc : consS v (.exc c H) = .exc c H := rfl
noncomputable def asg2S (fr : Fr) (a b : Nat) : R (List AV) → R (Fl × Fr)
 | .ok vs H => match asgN fr [b, a] vs.reverse with
  | some fr => .ok (.next, fr) H
  | none => .bad
 | .exc c H => .exc c H
 | .bad => .bad
theorem ex_asgS2G {a b : Nat} {pa pb pt pe : Pos} (h1 : evs tb n d fr H l = rr) (h2 : asg2S fr a b rr = q) : ex tb (n+1) d fr H (.asgS [(a, pa), (b, pb)] k pt l j pe p) = q := by
 subst h1; subst h2; dsimp only [ex]; generalize evs tb n d fr H l = r; cases r <;> rfl
theorem asg2S_ok {a b : Nat} (h : asgN fr [b, a] [v, u] = some fr') : asg2S fr a b (.ok [u, v] H) = .ok (.next, fr') H := by
 (dsimp only [asg2S]; simp only [List.reverse_cons, List.reverse_nil, List.nil_append, List.cons_append, h])
theorem asg2S_exc {a b : Nat} : asg2S fr a b (.exc c H) = .exc c H := rfl
end
inductive Sw | exc (c : List Nat) | ok (w : Cells)
noncomputable def swapOf (k k' : K3) (w : Cells) (p q : Pl) : Sw := match k, k' with
 | .dec, .dec | .whole, .whole | .text, .text => match keptAs k (w.get q) with
  | .exc c => .exc c
  | .ok u => match keptAs k (w.get p) with
   | .exc c => .exc c
   | .ok v => .ok ((w.set u p).set v q)
 | _, _ => .exc sTM
theorem k3ne (k k' : K3) : (k ≠ k' ∧ ∀ H, cmpV .ne (.str k.s) (.str k'.s) H = some true) ∨ (k = k' ∧ ∀ H, cmpV .ne (.str k.s) (.str k'.s) H = some false) := by
 cases k <;> cases k' <;> first | exact .inl ⟨(by intro h; cases h), fun _ => rfl⟩ | exact .inr ⟨rfl, fun _ => rfl⟩
theorem swapOf_ne {k k' : K3} (h : k ≠ k') (w : Cells) (p q : Pl) : swapOf k k' w p q = .exc sTM := by cases k <;> cases k' <;> first | rfl | exact absurd rfl h
theorem swapOf_eq (k : K3) (w : Cells) (p q : Pl) : swapOf k k w p q = (match keptAs k (w.get q) with
 | .exc c => .exc c
 | .ok u => match keptAs k (w.get p) with
  | .exc c => .exc c
  | .ok v => .ok ((w.set u p).set v q)) := by cases k <;> rfl
def Cells.okV (w : Cells) : Prop := ∀ p, w.get p ∈ allV
theorem suited_x {v : AV} {k : K3} {c : List Nat} (e : keptAs k v = .exc c) (hv : v ∈ allV) (n d : Nat) (H : AH) : callF tb (n+60) (d+10) H (.fn 156) [v, .str k.s, .int 16, .int 9] = .exc c H := by rw [suited_ok hv, e]; rfl
theorem kept_x {v : AV} {k : K3} {c : List Nat} (e : keptAs k v = .exc c) (hv : v ∈ allV) (n d : Nat) (H : AH) : callF tb (n+60) (d+10) H (.fn 828) [v, .str k.s] = .exc c H := by rw [kept_ok hv, e]; rfl
theorem kept_o {v u : AV} {k : K3} (e : keptAs k v = .ok u) (hv : v ∈ allV) (n d : Nat) (H : AH) : callF tb (n+60) (d+10) H (.fn 828) [v, .str k.s] = .ok u H := by rw [kept_ok hv, e]; rfl
noncomputable abbrev sSWAP : List Nat := [83, 87, 65, 80]
def Did (r : Nat → Nat → R AV) (g : Sg) (upW : Sg → Cells → Sg) (H : AH) (m : Nat) : Sw → Prop
 | .exc c => ∃ H', (∀ n d, r n d = .exc c H') ∧ Core { g with asks := g.asks + m } H' ∧ Keep H H'
 | .ok w => ∃ H', (∀ n d, r n d = .ok .none H') ∧ Core (upW { g with asks := g.asks + m } w) H' ∧ Keep H H'
theorem do_swap_ok {g : Sg} {H : AH} (C : Core g H) {p q : Pl} {v1 v2 : AV} (hp : GU H p v1) (hq : GU H q v2) (ha : g.asks ≤ 800) (hw : g.w.okV) :
 Did (fun n d => callF tb (n+160) (d+70) H (.fn 246) [.obj 19, .tup [.str sSWAP, v1, v2]]) g (fun g w => { g with w := w }) H 4 (swapOf (g.kind p) (g.kind q) g.w p q) := by
 have h19 := C.h19
 have k1 := fun n d => kot_ok C hp n d
 have k2 := fun n d => kot_ok C hq n d
 rcases k3ne (g.kind p) (g.kind q) with ⟨ne, hc⟩ | ⟨ek, hc⟩
 · rw [swapOf_ne ne]
   refine ⟨H, fun n d => ?_, C.more (by exact Nat.le_add_right _ _), Keep.refl _⟩
   apply call_f (f := cx57) rfl
   all_goals (try dsimp only [cx57])
   all_goals repeat' (first | (with_reducible exact hc _) | (with_reducible_and_instances first | apply k1 | apply k2) | w_left | k_places)
 · refine ob24 (place_told_ok C hp (by exact Nat.le_trans ‹_› (by decide))) fun t1 H1 e1 G1 C1 K1 => ?_
   refine ob24 (place_told_ok C1 (hq.keep K1) (Nat.le_trans (Nat.add_le_add_right ha 1) (by exact Nat.le_add_left _ _))) fun t2 H2 e2 G2 C2 K2 => ?_
   have G1' := G1.keep K2
   refine ob13 (value_at_ok C2 G1' (Nat.le_trans (Nat.add_le_add_right (Nat.add_le_add_right ha 1) 1) (by exact Nat.le_add_left _ _))) fun H3 e3 C3 K3 => ?_
   have G2' := G2.keep K3
   refine ob13 (value_at_ok C3 G2' (Nat.le_trans (Nat.add_le_add_right (Nat.add_le_add_right (Nat.add_le_add_right ha 1) 1) 1) (by exact Nat.le_add_left _ _))) fun H4 e4 C4 K4 => ?_
   have K14 := K1.trans (K2.trans (K3.trans K4))
   have h44 : nth H4 4 = some (.inst 181 (wAt g.sp)) := C4.h4
   rw [← ek, swapOf_eq]
   cases eq1 : keptAs (g.kind p) (g.w.get q) with
   | exc c =>
    have x1 := suited_x eq1 (hw q)
    refine ⟨H4, fun n d => ?_, C4, K14⟩
    apply call_f (f := cx57) rfl
    all_goals (try dsimp only [cx57])
    all_goals repeat' (first | (with_reducible exact hc _) | (with_reducible_and_instances first | apply k1 | apply k2 | apply e1 | apply e2 | apply e3 | apply e4 | apply x1 | apply ex_expG) | (with_reducible exact expS_exc) | (with_reducible exact expS_ok) | w_left | k_places)
   | ok u1 =>
    have x1 := Res.ok_at eq1 (hw q)
    cases eq2 : keptAs (g.kind p) (g.w.get p) with
    | exc c =>
     have x2 := suited_x eq2 (hw p)
     refine ⟨H4, fun n d => ?_, C4, K14⟩
     apply call_f (f := cx57) rfl
     all_goals (try dsimp only [cx57])
     all_goals repeat' (first | (with_reducible exact hc _) | (with_reducible_and_instances first | apply k1 | apply k2 | apply e1 | apply e2 | apply e3 | apply e4 | apply x1 | apply x2 | apply ex_expG) | (with_reducible exact expS_exc) | (with_reducible exact expS_ok) | w_left | k_places)
    | ok u2 =>
     have x2 := Res.ok_at eq2 (hw p)
     refine ob13 (put_at_ok C4 (G1'.keep (K3.trans K4)) (hw q) eq1) fun H5 e5 C5 K5 => ?_
     obtain ⟨H6, e6, C6, K6⟩ := put_at_ok C5 (G2'.keep (K4.trans K5)) (hw p) (u := u2) (by rw [← eq2, ek]; rfl)
     refine ⟨H6, fun n d => ?_, C6, K14.trans (K5.trans K6)⟩
     apply call_f (f := cx57) rfl
     all_goals (try dsimp only [cx57])
     all_goals repeat' (first | (with_reducible exact hc _) | (with_reducible_and_instances first | apply k1 | apply k2 | apply e1 | apply e2 | apply e3 | apply e4 | apply x1 | apply x2 | apply e5 | apply e6 | apply ex_expG) | (with_reducible exact expS_exc) | (with_reducible exact expS_ok) | w_left | k_places)
theorem key_item {p : Pl} (hp : p.item = true) : p.key = .tup [.str p.word, .int (.ofNat p.sub)] := by induction p <;> first | (contradiction; done) | rfl
theorem key_name {p : Pl} (hp : p.item = false) : p.key = .str p.word := by induction p <;> first | (contradiction; done) | rfl
theorem key_is (p : Pl) : isKey p.key = true := by induction p <;> rfl
theorem book_get (c : Cells) (p : Pl) : dget (bookD c) p.key = some (c.get p) := by induction p <;> rfl
theorem book_put (c : Cells) (v : AV) (p : Pl) : dput (bookD c) p.key v = bookD (c.set v p) := by induction p <;> rfl
theorem key_ok {H : AH} {p : Pl} {v : AV} (hp : GU H p v) (n d : Nat) : callF tb (n+30) (d+5) H (.fn 842) [v] = .ok p.key H := by
 rcases hp.split with ⟨hi, rfl⟩ | ⟨hi, j, rfl, hj, hn⟩
 · rw [key_name hi]
   apply call_f (f := cx43) rfl
   all_goals (try dsimp only [cx43])
   all_goals repeat' (first | w_left | k_places)
 · rw [key_item hi]
   apply call_f (f := cx43) rfl
   all_goals (try dsimp only [cx43])
   all_goals repeat' (first | w_left | k_places)
theorem lkind_ok {g : Sg} {H : AH} (C : Core g H) {p : Pl} {v : AV} (hp : GU H p v) (n d : Nat) : callF tb (n+30) (d+5) H (.fn 849) [.obj 49, v] = .ok (.str (g.kind p).s) H := by
 have h49 := C.h49
 rcases hp.split with ⟨hi, rfl⟩ | ⟨hi, j, rfl, hj, hn⟩
 · rcases isName hi with ⟨e, rfl⟩ | ⟨e, rfl⟩ | ⟨e, rfl⟩ | ⟨e, rfl⟩
   all_goals (rw [e])
   all_goals (apply call_f (f := cx40) rfl)
   all_goals (try dsimp only [cx40])
   all_goals repeat' (first | w_left | k_places)
 · rw [kind_item hi]
   apply call_f (f := cx40) rfl
   all_goals (try dsimp only [cx40])
   all_goals repeat' (first | w_left | k_places)
theorem book_lenP (c : Cells) (p : Pl) (v : AV) : Nat.blt (dput (bookD c) p.key v).length 1000 = true := by rw [book_put]; rfl
theorem Core.setB {g : Sg} {H : AH} (C : Core g H) (p : Pl) (u : AV) : Core { g with b := g.b.set u p } (Mine.put H 17 (.book (dput (bookD g.b) p.key u))) := by
 refine C.put (g' := { g with b := g.b.set u p }) C.h17 (.inr ⟨by decide, rfl⟩) ⟨by decide, rfl⟩ (.inr ⟨by decide, rfl⟩) (.inr ⟨by decide, rfl⟩) (.inr ⟨by decide, rfl⟩) ⟨by decide, by decide, by decide, by decide, by decide, by decide, by decide, by decide, by decide, by decide, by decide⟩ (.inl ⟨rfl, by rw [book_put]⟩) (.inr ⟨by decide, rfl, rfl⟩) (.inr ⟨by decide, rfl, rfl⟩) ⟨rfl, rfl, rfl⟩
theorem law_swapped_ok {g : Sg} {H : AH} (C : Core g H) {p q : Pl} {v1 v2 : AV} (hp : GU H p v1) (hq : GU H q v2) (hw : g.b.okV) :
 Did (fun n d => callF tb (n+90) (d+20) H (.fn 856) [.obj 17, .obj 49, v1, v2]) g (fun g w => { g with b := w }) H 0 (swapOf (g.kind p) (g.kind q) g.b p q) := by
 have h17 := C.h17
 have k1 := fun n d => lkind_ok C hp n d
 have k2 := fun n d => lkind_ok C hq n d
 have y1 := fun n d => key_ok hp n d
 have y2 := fun n d => key_ok hq n d
 have i1 : Bx (isKey p.key = true) := ⟨key_is p⟩
 have i2 : Bx (isKey q.key = true) := ⟨key_is q⟩
 have b1 : Bx (dget (bookD g.b) p.key = some (g.b.get p)) := ⟨book_get _ _⟩
 have b2 : Bx (dget (bookD g.b) q.key = some (g.b.get q)) := ⟨book_get _ _⟩
 have l1 : Bx (Nat.blt (bookD g.b).length 1000 = true) := ⟨rfl⟩
 rcases k3ne (g.kind p) (g.kind q) with ⟨ne, hc⟩ | ⟨ek, hc⟩
 · rw [swapOf_ne ne]
   refine ⟨H, fun n d => ?_, C, Keep.refl _⟩
   apply call_f (f := cx14) rfl
   all_goals (try dsimp only [cx14])
   all_goals repeat' (first | (with_reducible exact hc _) | (with_reducible_and_instances first | apply k1 | apply k2) | w_left | k_places)
 · rw [← ek, swapOf_eq]
   cases eq1 : keptAs (g.kind p) (g.b.get q) with
   | exc c =>
    have x1 := kept_x eq1 (hw q)
    refine ⟨H, fun n d => ?_, C, Keep.refl _⟩
    apply call_f (f := cx14) rfl
    all_goals (try dsimp only [cx14])
    all_goals repeat' (first | (with_reducible exact hc _) | (with_reducible_and_instances first | apply k1 | apply k2 | apply y1 | apply y2 | apply x1) | (with_reducible_and_instances first | apply ex_asgS2G | apply evs_consG | apply evsS_ok | exact evsS_exc | exact consS_ok | exact consS_exc | apply asg2S_ok | exact asg2S_exc) | w_left | k_places)
   | ok u1 =>
    have x1 := kept_o eq1 (hw q)
    cases eq2 : keptAs (g.kind p) (g.b.get p) with
    | exc c =>
     have x2 := kept_x eq2 (hw p)
     refine ⟨H, fun n d => ?_, C, Keep.refl _⟩
     apply call_f (f := cx14) rfl
     all_goals (try dsimp only [cx14])
     all_goals repeat' (first | (with_reducible exact hc _) | (with_reducible_and_instances first | apply k1 | apply k2 | apply y1 | apply y2 | apply x1 | apply x2) | (with_reducible_and_instances first | apply ex_asgS2G | apply evs_consG | apply evsS_ok | exact evsS_exc | exact consS_ok | exact consS_exc | apply asg2S_ok | exact asg2S_exc) | w_left | k_places)
    | ok u2 =>
     have x2 := kept_o eq2 (hw p)
     have C1 := C.setB p u1
     have C2 := C1.setB q u2
     have l2 : Bx (Nat.blt (bookD (g.b.set u1 p)).length 1000 = true) := ⟨rfl⟩
     have l3 : Bx (Nat.blt (dput (bookD g.b) p.key u1).length 1000 = true) := ⟨book_lenP _ _ _⟩
     have h17' : nth (put H 17 (.book (dput (bookD g.b) p.key u1))) 17 = some (.book (bookD (g.b.set u1 p))) := C1.h17
     refine ⟨_, fun n d => ?_, C2, ((Keep.refl H).put (by omega)).put (by omega)⟩
     apply call_f (f := cx14) rfl
     all_goals (try dsimp only [cx14])
     all_goals repeat' (first | (with_reducible exact hc _) | (with_reducible_and_instances first | apply k1 | apply k2 | apply y1 | apply y2 | apply x1 | apply x2) | w_left | k_places)
noncomputable def readOf : K3 → AV
 | .text => .str [53]
 | .whole => .int 5
 | .dec => aDec 5 0
noncomputable def readV : K3 → AV
 | .text => .str [53]
 | _ => aDec 5 0
theorem readV_ok (k : K3) : keptAs k (readV k) = .ok (readOf k) ∧ readV k ∈ allV ∧ readOf k ∈ allV := by cases k <;> exact ⟨rfl, (by repeat (first | exact List.Mem.head _ | apply List.Mem.tail)), (by repeat (first | exact List.Mem.head _ | apply List.Mem.tail))⟩
theorem text_item_ok (n d : Nat) (H : AH) : callF tb (n+30) (d+5) H (.fn 617) [.str [53]] = .ok (.str [53]) H := by
 kernel_rfl
theorem d_of_text_ok (n d : Nat) (H : AH) : callF tb (n+70) (d+12) H (.fn 416) [.str [53], .int 9] = .ok (.tup [aDec 5 0, .int 1]) H := by
 kernel_rfl
theorem ev_mthStr {n d j : Nat} {fr : Fr} {H H1 H2 : AH} {e : E} {l : List E} {s : List Nat} {vs : List AV} {pa p : Pos} {r : R AV} (h1 : ev tb n d fr H e = .ok (.str s) H1) (h2 : tb.kind j = some .rstrip) (h3 : evs tb n d fr H1 l = .ok vs H2) (h4 : Bx (mthV .rstrip (.str s) vs H2 = r)) : ev tb (n+1) d fr H (.mth e j l pa p) = r := by
 rw [← h4.h]; (dsimp only [ev]; (dsimp only [R.bind]; simp only [h1, h2, h3]))
theorem number_told_ok {H : AH} (h19 : nth H 19 = some (.inst 796 rAt)) (n d : Nat) : callF tb (n+90) (d+18) H (.meth 786 19) [.str [53]] = .ok (aDec 5 0) H := by
 have e1 := fun n d H => d_of_text_ok n d H
 apply call_m (f := cx1) rfl
 all_goals (try dsimp only [cx1])
 all_goals repeat' (first | (with_reducible_and_instances first | apply e1 | apply ev_mthStr) | w_left | k_places)
theorem vof_ok {H : AH} (h19 : nth H 19 = some (.inst 796 rAt)) {k : K3} (hk : k ≠ .text) (n d : Nat) : callF tb (n+120) (d+25) H (.fn 610) [.str [53], .str k.s, .meth 786 19] = .ok (aDec 5 0) H := by
 have e1 := fun n d => number_told_ok h19 n d
 cases k
 · apply call_f (f := cx7) rfl
   all_goals (try dsimp only [cx7])
   all_goals repeat' (first | (with_reducible_and_instances apply e1) | w_left | k_places)
 · apply call_f (f := cx7) rfl
   all_goals (try dsimp only [cx7])
   all_goals repeat' (first | (with_reducible_and_instances apply e1) | w_left | k_places)
 · exact absurd rfl hk
theorem sp_ge {sp : Nat} (h : sp < 9) (H : AH) : cmpV .ge (.int (.ofNat sp)) (.int (.ofNat [dat1, dat1, dat1, dat1, dat1, dat1, dat1, dat1, dat1].length)) H = some false := by
 rcases sp with _ | _ | _ | _ | _ | _ | _ | _ | _ | sp <;> first | rfl | omega
theorem sp_nth {sp : Nat} (h : sp < 9) : nth [dat1, dat1, dat1, dat1, dat1, dat1, dat1, dat1, dat1] sp = some dat1 := by
 rcases sp with _ | _ | _ | _ | _ | _ | _ | _ | _ | sp <;> first | rfl | omega
theorem sp_add {sp : Nat} (h : sp < 9) (H : AH) : bop .add (.int (.ofNat sp)) (.int 1) H = .ok (.int (.ofNat (sp + 1))) H := by
 rcases sp with _ | _ | _ | _ | _ | _ | _ | _ | _ | sp <;> first | rfl | omega
theorem Core.setS {g : Sg} {H : AH} (C : Core g H) : Core { g with sp := g.sp + 1 } (Mine.put H 4 (.inst 181 (upd (wAt g.sp) 52 (.int (.ofNat (g.sp + 1)))))) := by
 refine C.put (g' := { g with sp := g.sp + 1 }) C.h4 (.inr ⟨by decide, rfl⟩) ⟨by decide, rfl⟩ (.inr ⟨by decide, rfl⟩) (.inl ⟨rfl, rfl⟩) (.inr ⟨by decide, rfl⟩) ⟨by decide, by decide, by decide, by decide, by decide, by decide, by decide, by decide, by decide, by decide, by decide⟩ (.inr ⟨by decide, rfl⟩) (.inr ⟨by decide, rfl, rfl⟩) (.inr ⟨by decide, rfl, rfl⟩) ⟨rfl, rfl, rfl⟩
theorem read_item_ok {g : Sg} {H : AH} (C : Core g H) (hs : g.sp < 9) (k : K3) (n d : Nat) :
 callF tb (n+140) (d+30) H (.fn 624) [.obj 4, .str k.s, .meth 786 19] = .ok (readV k) (put H 4 (.inst 181 (upd (wAt g.sp) 52 (.int (.ofNat (g.sp + 1)))))) := by
 have h4 := C.h4
 have h24 := C.h24
 have q1 := fun H => sp_ge hs H
 have q2 : Bx (nth [dat1, dat1, dat1, dat1, dat1, dat1, dat1, dat1, dat1] g.sp = some dat1) := ⟨sp_nth hs⟩
 have q3 := fun H => sp_add hs H
 have q4 : look (wAt g.sp) 52 = some (.int (.ofNat g.sp)) := rfl
 have e1 := fun n d H => text_item_ok n d H
 have e2 := fun (hk : K3.dec ≠ .text) n d => vof_ok C.h19 hk n d
 have e3 := fun (hk : K3.whole ≠ .text) n d => vof_ok C.h19 hk n d
 have e2 := e2 (by intro h; contradiction)
 have e3 := e3 (by intro h; contradiction)
 cases k
 all_goals (apply call_f (f := cx37) rfl)
 all_goals (try dsimp only [cx37])
 all_goals repeat' (first | (with_reducible exact q1 _) | (with_reducible exact q3 _) | (with_reducible_and_instances first | apply e1 | apply e2 | apply e3 | apply ex_auga) | (with_reducible exact att_v h4 q4) | w_left | k_places)
noncomputable def attS (k j i : Nat) (at_ : List (Nat × AV)) : Option AV := match look at_ j with
 | some v => some v
 | none => match tb.meth k j with
  | some f => some (.meth f i)
  | none => none
theorem ev_attG {n d i j k : Nat} {fr : Fr} {H H1 : AH} {e : E} {p : Pos} {at_ : List (Nat × AV)} {v : AV} (h1 : ev tb n d fr H e = .ok (.obj i) H1) (h2 : nth H1 i = some (.inst k at_)) (h3 : Bx (attS k j i at_ = some v)) : ev tb (n+1) d fr H (.att e j p) = .ok v H1 := by
 have h3 := h3.h
 unfold attS at h3
 induction q : look at_ j using Option.casesOn with
 | some u => rw [q] at h3; injection h3 with h3; subst h3; exact ev_att h1 h2 q
 | none =>
  rw [q] at h3
  induction q2 : tb.meth k j using Option.casesOn with
  | some f => rw [q2] at h3; injection h3 with h3; subst h3; exact ev_attm h1 h2 q q2
  | none => rw [q2] at h3; contradiction
theorem next_data_ok {g : Sg} {H : AH} (C : Core g H) (hs : g.sp < 9) (k : K3) (n d : Nat) :
 callF tb (n+160) (d+35) H (.fn 779) [.obj 19, .str k.s] = .ok (readV k) (put H 4 (.inst 181 (upd (wAt g.sp) 52 (.int (.ofNat (g.sp + 1)))))) := by
 have h19 := C.h19
 have e1 := fun n d => read_item_ok C hs k n d
 apply call_f (f := cx2) rfl
 all_goals (try dsimp only [cx2])
 all_goals repeat' (first | (with_reducible_and_instances first | apply e1 | apply ev_attG) | w_left | k_places)
theorem bq : ∀ j, Nat.beq j j = true := fun j => by induction j with | zero => rfl | succ j ih => exact ih
theorem eqVs_nil : eqVs [] [] = true := by skip; rfl
theorem eqVs_cons {a b : AV} {l r : List AV} (h : eqV a b = true) (h2 : eqVs l r = true) : eqVs (a :: l) (b :: r) = true := by unfold eqVs; dsimp only; rw [h]; exact h2
theorem eqV_tup {l r : List AV} (h : eqVs l r = true) : eqV (.tup l) (.tup r) = true := by skip; exact h
theorem eqV_lst {l r : List AV} (h : eqVs l r = true) : eqV (.lst l) (.lst r) = true := by skip; exact h
theorem eqV_obj (j : Nat) : eqV (.obj j) (.obj j) = true := by skip; exact bq j
theorem eqV_word (p : Pl) : eqV (.str p.word) (.str p.word) = true := by induction p <;> kernel_rfl
theorem eqV_name : eqV (.str sName) (.str sName) = true := by kernel_rfl
theorem eqV_item : eqV (.str sItem) (.str sItem) = true := by kernel_rfl
theorem GU.eqv {H : AH} {p : Pl} {v : AV} (x : GU H p v) : eqVs [v] [v] = true := by
 rcases x.split with ⟨hi, rfl⟩ | ⟨hi, j, rfl, hj, hn⟩
 · exact eqVs_cons (eqV_tup (eqVs_cons eqV_name (eqVs_cons (eqV_word p) eqVs_nil))) eqVs_nil
 · exact eqVs_cons (eqV_tup (eqVs_cons eqV_item (eqVs_cons (eqV_word p) (eqVs_cons (eqV_obj j) eqVs_nil)))) eqVs_nil
theorem do_read_ok {g : Sg} {H : AH} (C : Core g H) {p : Pl} {v : AV} (hp : GU H p v) (ha : g.asks ≤ 800) (hs : g.sp < 9) {j : Nat} (hj : 52 ≤ j) (hn : nth H j = some (.list [v])) :
 ∃ H', (∀ n d, callF tb (n+190) (d+80) H (.fn 220) [.obj 19, .obj j] = .ok .none H') ∧ Core { g with asks := g.asks + 4, sp := g.sp + 1, w := g.w.set (readOf (g.kind p)) p } H' ∧ Keep H H' := by
 have h19 := C.h19
 refine ob24 (place_told_ok C hp (by exact Nat.le_trans ‹_› (by decide))) fun t1 H1 e1 G1 C1 K1 => ?_
 have h19' := C1.h19
 have k1 : ∀ n d, callF tb (n+70) (d+12) H1 (.fn 213) [.obj 19, v] = .ok (.str (g.kind p).s) H1 := fun n d => kot_ok C1 (hp.keep K1) n d
 have e2 := fun n d => next_data_ok C1 hs (g.kind p) n d
 have C2 := C1.setS
 have K2 : Keep H1 (put H1 4 (.inst 181 (upd (wAt g.sp) 52 (.int (.ofNat (g.sp + 1)))))) := (Keep.refl H1).put (by exact Nat.le_add_left _ _)
 refine ob03 (readV_ok (g.kind p)) fun r1 r2 r3 => ?_
 refine ob13 (put_at_ok C2 (G1.keep K2) r2 (u := readOf (g.kind p)) r1) fun H3 e3 C3 K3 => ?_
 have hq : Bx (eqVs [v] [v] = true) := ⟨hp.eqv⟩
 have hn1 := (K1.trans (K2.trans K3)).old _ _ hj hn
 refine ⟨H3, fun n d => ?_, C3.more (k := g.asks + 4) (Nat.add_le_add_left (by exact Nat.succ_pos _) _), K1.trans (K2.trans K3)⟩
 apply call_f (f := cx55) rfl
 all_goals (try dsimp only [cx55])
 all_goals repeat' (first | (with_reducible_and_instances first | apply k1 | apply e1 | apply e2 | apply e3) | (with_reducible_and_instances first | apply ex_forO | apply forL_nil | apply forL_cons) | w_left | k_places)
theorem bltS {k : Nat} (h : k < 18446744073709551616) : small (.ofNat k) = true := by skip; exact bltOf h
theorem bop_addN {a b : Nat} (H : AH) (h : a + b < 18446744073709551616) : bop .add (.int (.ofNat a)) (.int (.ofNat b)) H = .ok (.int (.ofNat (a + b))) H := by
 (dsimp only [bop, bopN]; simp only [bltS (show a < 18446744073709551616 by omega), bltS (show b < 18446744073709551616 by omega)])
 show sm (.ofNat (a + b)) H = _
 (dsimp only [sm]; simp only [bltS h])
theorem bop_mulN {a b : Nat} (H : AH) (ha : a < 18446744073709551616) (hb : b < 18446744073709551616) (h : a * b < 18446744073709551616) : bop .mul (.int (.ofNat a)) (.int (.ofNat b)) H = .ok (.int (.ofNat (a * b))) H := by
 (dsimp only [bop, bopN]; simp only [bltS ha, bltS hb])
 show sm (.ofNat (a * b)) H = _
 (dsimp only [sm]; simp only [bltS h])
theorem bop_sub1 {a : Nat} (H : AH) (h : a + 1 < 18446744073709551616) : bop .sub (.int (.ofNat (a + 1))) (.int 1) H = .ok (.int (.ofNat a)) H := by
 (dsimp only [bop, bopN]; simp only [bltS h])
 show (match small 1 with | true => sm (Int.ofNat (a + 1) - 1) H | false => R.bad) = _
 rw [show (Int.ofNat (a + 1) - 1) = Int.ofNat a by simp only [Int.ofNat_eq_natCast]; omega]
 show sm _ H = _
 (dsimp only [sm]; simp only [bltS (show a < 18446744073709551616 by exact Nat.le_of_lt ‹_›)])
theorem bop_modN {a : Nat} (m : Nat) (H : AH) (hm : Nat.blt m 1000000 = true) : bop .fmod (.int (.ofNat a)) (.int (.ofNat (m + 1))) H = .ok (.int (.ofNat (a % (m + 1)))) H := by
 (dsimp only [bop, bopN]; simp only [hm])
 rw [show Int.fmod (.ofNat a) (.ofNat (m + 1)) = Int.ofNat (a % (m + 1)) by
  induction a using Nat.casesAuxOn with
  | zero => rw [Nat.zero_mod]; rfl
  | succ a => rfl]
theorem bop_div2 {a : Nat} (H : AH) (h : a < 18446744073709551616) : bop .fdiv (.int (.ofNat a)) (.int 2) H = .ok (.int (.ofNat (a / 2))) H := by
 show bop .fdiv (.int (.ofNat a)) (.int (.ofNat (1 + 1))) H = _
 (dsimp only [bop, bopN]; simp only [bltS h])
 show sm (Int.fdiv (.ofNat a) (.ofNat 2)) H = _
 rw [show Int.fdiv (.ofNat a) (.ofNat 2) = Int.ofNat (a / 2) by cases a <;> rfl]
 (dsimp only [sm]; simp only [bltS (show a / 2 < 18446744073709551616 by omega)])
theorem le_cmp (a b : Nat) (H : AH) : cmpV .le (.int (.ofNat a)) (.int (.ofNat b)) H = some (!Nat.blt b a) := rfl
theorem nth_map : ∀ {xs : List Nat} {k x : Nat}, nth xs k = some x → nth (xs.map fun k => AV.int (.ofNat k)) k = some (.int (.ofNat x))
 | [], _, _, h => by contradiction
 | _ :: _, 0, _, h => by injection h with h; subst h; rfl
 | _ :: l, k + 1, _, h => nth_map (xs := l) (k := k) h
theorem nth_ex : ∀ {xs : List Nat} {k : Nat}, k < xs.length → ∃ x, nth xs k = some x
 | [], _, h => by contradiction
 | x :: _, 0, _ => ⟨x, rfl⟩
 | _ :: l, k + 1, h => nth_ex (xs := l) (k := k) (Nat.lt_of_succ_lt_succ h)
theorem Core.setC {g : Sg} {H : AH} (C : Core g H) : Core { g with c := g.c + 1 } (Mine.put H 3 (.list [.int (.ofNat (g.c + 1)), .obj 2])) := by
 refine C.put (g' := { g with c := g.c + 1 }) C.h3 (.inr ⟨by decide, rfl⟩) ⟨by decide, rfl⟩ (.inl ⟨rfl, rfl⟩) (.inr ⟨by decide, rfl⟩) (.inr ⟨by decide, rfl⟩) ⟨by decide, by decide, by decide, by decide, by decide, by decide, by decide, by decide, by decide, by decide, by decide⟩ (.inr ⟨by decide, rfl⟩) (.inr ⟨by decide, rfl, rfl⟩) (.inr ⟨by decide, rfl, rfl⟩) ⟨rfl, rfl, rfl⟩
theorem fin_retEE {v : AV} {fr : Fr} {H : AH} {r : R AV} (h : Bx (R.ok v H = r)) : fin (.ok (.ret v, fr) H) = r := h.h
theorem got_at {H : AH} {c : Nat} {xs : List Nat} (h3 : nth H 3 = some (.list [.int (.ofNat c), .obj 2])) (h2 : nth H 2 = some (.list (xs.map fun k => .int (.ofNat k)))) (hc : c ≤ 100) (m : Nat) (hm : Nat.blt m 1000000 = true) :
 ∃ r, r < m + 1 ∧ ∀ n d, callF tb (n+40) (d+5) H (.fn 807) [.obj 3, .int (.ofNat (m + 1))] = .ok (.int (.ofNat r)) (put H 3 (.list [.int (.ofNat (c + 1)), .obj 2])) := by
 have a1 := fun H => bop_addN (a := c) (b := 1) H (by omega)
 have a1' : ∀ H, bop .add (.int (.ofNat c)) (.int 1) H = .ok (.int (.ofNat (c + 1))) H := a1
 have s1 := fun H => bop_sub1 (a := c) H (by omega)
 have m1 := fun (a : Nat) H => bop_modN (a := a) m H hm
 have d1 := fun H => bop_div2 (a := c + 1) H (by omega)
 have m4 : ∀ H, bop .mul (.int 4) (.int (.ofNat (c + 1))) H = .ok (.int (.ofNat (4 * (c + 1)))) H := fun H => bop_mulN (a := 4) (b := c + 1) H (by exact Nat.le_add_left _ _) (by omega) (by omega)
 have a2 := fun H => bop_addN (a := 4 * (c + 1)) (b := (c + 1) / 2) H (by omega)
 have a3 : ∀ H, bop .add (.int (.ofNat (4 * (c + 1) + (c + 1) / 2))) (.int 1) H = .ok (.int (.ofNat (4 * (c + 1) + (c + 1) / 2 + 1))) H := fun H => bop_addN (b := 1) H (by omega)
 have ln : (xs.map fun k => AV.int (.ofNat k)).length = xs.length := List.length_map _
 by_cases q : c + 1 ≤ xs.length
 · obtain ⟨x, hx⟩ := nth_ex (xs := xs) (k := c) q
   have hx' : Bx (nth (xs.map fun k => AV.int (.ofNat k)) c = some (.int (.ofNat x))) := ⟨nth_map hx⟩
   have le : ∀ H, cmpV .le (.int (.ofNat (c + 1))) (.int (.ofNat (xs.map fun k => AV.int (.ofNat k)).length)) H = some true := fun H => by
    rw [le_cmp, ln]; congr 1; rw [Bool.not_eq_true']; simp only [Nat.blt_eq, Bool.eq_false_iff, ne_eq]; exact Nat.not_lt.mpr ‹_›
   refine ⟨x % (m + 1), Nat.mod_lt _ (by exact Nat.succ_pos _), fun n d => ?_⟩
   apply call_f (f := cx49) rfl
   all_goals (try dsimp only [cx49])
   all_goals repeat' (first | (with_reducible exact a1' _) | (with_reducible exact s1 _) | (with_reducible exact m1 _ _) | (with_reducible exact le _) | w_left | k_places | ((with_reducible apply fin_retEE); exact ⟨rfl⟩))
 · have le : ∀ H, cmpV .le (.int (.ofNat (c + 1))) (.int (.ofNat (xs.map fun k => AV.int (.ofNat k)).length)) H = some false := fun H => by
    rw [le_cmp, ln]; congr 1; rw [Bool.not_eq_false']; simp only [Nat.blt_eq]; exact Nat.not_le.mp ‹_›
   refine ⟨(4 * (c + 1) + (c + 1) / 2 + 1) % (m + 1), Nat.mod_lt _ (by exact Nat.succ_pos _), fun n d => ?_⟩
   apply call_f (f := cx49) rfl
   all_goals (try dsimp only [cx49])
   all_goals repeat' (first | (with_reducible exact a1' _) | (with_reducible exact s1 _) | (with_reducible exact d1 _) | (with_reducible exact m4 _) | (with_reducible exact a2 _) | (with_reducible exact a3 _) | (with_reducible exact m1 _ _) | (with_reducible exact le _) | w_left | k_places | ((with_reducible apply fin_retEE); exact ⟨rfl⟩))
theorem law_place_ok {g : Sg} {H : AH} (C : Core g H) (hc : g.c ≤ 100) :
 ∃ p v H', (∀ n d, callF tb (n+60) (d+10) H (.fn 835) [.obj 3] = .ok v H') ∧ GU H' p v ∧ Core { g with c := g.c + 1 } H' ∧ Keep H H' := by
 refine ob12 (got_at C.h3 C.h2 hc 7 rfl) fun r hr e => ?_
 have e : ∀ n d, callF tb (n+40) (d+5) H (.fn 807) [.obj 3, .int 8] = .ok (.int (.ofNat r)) (put H 3 (.list [.int (.ofNat (g.c + 1)), .obj 2])) := e
 have C1 := C.setC
 have hl := C1.len
 have K1 : Keep H (put H 3 (.list [.int (.ofNat (g.c + 1)), .obj 2])) := (Keep.refl H).put (by exact Nat.le_add_left _ _)
 generalize put H 3 (.list [.int (.ofNat (g.c + 1)), .obj 2]) = H1 at e C1 hl K1
 rcases r with _ | _ | _ | _ | _ | _ | _ | _ | r
 rotate_left 8
 · omega
 · refine ⟨.nA, .tup [.str sName, .str sA], H1 ++ [.list [.str sA, .str sB, .str sP, .str sC]], fun n d => ?_, GU.mkN (p := .nA) rfl, C1.app, K1.app⟩
   apply call_f (f := cx33) rfl
   all_goals (try dsimp only [cx33])
   all_goals repeat' (first | (with_reducible_and_instances apply e) | w_left | k_places | ((with_reducible apply fin_retEE); exact ⟨rfl⟩))
 · refine ⟨.nB, .tup [.str sName, .str sB], H1 ++ [.list [.str sA, .str sB, .str sP, .str sC]], fun n d => ?_, GU.mkN (p := .nB) rfl, C1.app, K1.app⟩
   apply call_f (f := cx33) rfl
   all_goals (try dsimp only [cx33])
   all_goals repeat' (first | (with_reducible_and_instances apply e) | w_left | k_places | ((with_reducible apply fin_retEE); exact ⟨rfl⟩))
 · refine ⟨.nP, .tup [.str sName, .str sP], H1 ++ [.list [.str sA, .str sB, .str sP, .str sC]], fun n d => ?_, GU.mkN (p := .nP) rfl, C1.app, K1.app⟩
   apply call_f (f := cx33) rfl
   all_goals (try dsimp only [cx33])
   all_goals repeat' (first | (with_reducible_and_instances apply e) | w_left | k_places | ((with_reducible apply fin_retEE); exact ⟨rfl⟩))
 · refine ⟨.nC, .tup [.str sName, .str sC], H1 ++ [.list [.str sA, .str sB, .str sP, .str sC]], fun n d => ?_, GU.mkN (p := .nC) rfl, C1.app, K1.app⟩
   apply call_f (f := cx33) rfl
   all_goals (try dsimp only [cx33])
   all_goals repeat' (first | (with_reducible_and_instances apply e) | w_left | k_places | ((with_reducible apply fin_retEE); exact ⟨rfl⟩))
 · refine ⟨.a0, .tup [.str sItem, .str sA, .obj H1.length], H1 ++ [.list [tree 0]], fun n d => ?_, GU.mkI (p := .a0) rfl hl nth_new, C1.app, K1.app⟩
   apply call_f (f := cx33) rfl
   all_goals (try dsimp only [cx33])
   all_goals repeat' (first | (with_reducible_and_instances apply e) | w_left | k_places | ((with_reducible apply fin_retEE); exact ⟨rfl⟩))
 · refine ⟨.b0, .tup [.str sItem, .str sB, .obj H1.length], H1 ++ [.list [tree 0]], fun n d => ?_, GU.mkI (p := .b0) rfl hl nth_new, C1.app, K1.app⟩
   apply call_f (f := cx33) rfl
   all_goals (try dsimp only [cx33])
   all_goals repeat' (first | (with_reducible_and_instances apply e) | w_left | k_places | ((with_reducible apply fin_retEE); exact ⟨rfl⟩))
 · refine ⟨.a1, .tup [.str sItem, .str sA, .obj H1.length], H1 ++ [.list [tree 1]], fun n d => ?_, GU.mkI (p := .a1) rfl hl nth_new, C1.app, K1.app⟩
   apply call_f (f := cx33) rfl
   all_goals (try dsimp only [cx33])
   all_goals repeat' (first | (with_reducible_and_instances apply e) | w_left | k_places | ((with_reducible apply fin_retEE); exact ⟨rfl⟩))
 · refine ⟨.b1, .tup [.str sItem, .str sB, .obj H1.length], H1 ++ [.list [tree 1]], fun n d => ?_, GU.mkI (p := .b1) rfl hl nth_new, C1.app, K1.app⟩
   apply call_f (f := cx33) rfl
   all_goals (try dsimp only [cx33])
   all_goals repeat' (first | (with_reducible_and_instances apply e) | w_left | k_places | ((with_reducible apply fin_retEE); exact ⟨rfl⟩))
noncomputable def reprL (H : AH) (l : List AV) : R AV := match (snap.snaps 9 H l).map .lst with
 | some x => (match okR x with | true => .ok (.rpr x) H | false => .bad)
 | none => .bad
theorem reprG {H : AH} {i : Nat} {l : List AV} {r : R AV} (h : nth H i = some (.list l)) (h2 : reprL H l = r) : biCall .repr [.obj i] H = r := by
 subst h2; (dsimp only [biCall, bi1, snap, reprL]; simp only [h]) <;> rfl
theorem reprL_4 {H : AH} {a b c d : AV} (ha : a ∈ allV) (hb : b ∈ allV) (hc : c ∈ allV) (hd : d ∈ allV) : reprL H [a, b, c, d] = .ok (.rpr (.lst [a, b, c, d])) H := by
 refine ob04 (aVs ha) fun a1 a2 a3 a4 => ?_
 refine ob04 (aVs hb) fun b1 b2 b3 b4 => ?_
 refine ob04 (aVs hc) fun c1 c2 c3 c4 => ?_
 refine ob04 (aVs hd) fun d1 d2 d3 d4 => ?_
 simp only [reprL, snap.snaps, a1, b1, c1, d1, Option.map_some, okR, okMs, a3, b3, c3, d3]
 rfl
theorem snaps_nil {n : Nat} {H : AH} : snap.snaps (n+1) H [] = some [] := by rfl
theorem snaps_cons {n : Nat} {H : AH} {v a : AV} {l b : List AV} (h1 : snap n H v = some a) (h2 : snap.snaps n H l = some b) : snap.snaps (n+1) H (v :: l) = some (a :: b) := by simp only [snap.snaps, h1, h2]
theorem snap_obj {n i : Nat} {H : AH} {l b : List AV} (h : nth H i = some (.list l)) (h2 : snap.snaps n H l = some b) : snap (n+1) H (.obj i) = some (.lst b) := by (dsimp only [snap]; simp only [h, h2, Option.map_some])
theorem reprL_2 {H : AH} {i j : Nat} {a b c d : AV} (hi : nth H i = some (.list [a, b])) (hj : nth H j = some (.list [c, d])) (ha : a ∈ allV) (hb : b ∈ allV) (hc : c ∈ allV) (hd : d ∈ allV) : reprL H [.obj i, .obj j] = .ok (.rpr (.lst [.lst [a, b], .lst [c, d]])) H := by
 refine ob04 (aVs ha) fun a1 a2 a3 a4 => ?_
 refine ob04 (aVs hb) fun b1 b2 b3 b4 => ?_
 refine ob04 (aVs hc) fun c1 c2 c3 c4 => ?_
 refine ob04 (aVs hd) fun d1 d2 d3 d4 => ?_
 have q : snap.snaps 9 H [.obj i, .obj j] = some [.lst [a, b], .lst [c, d]] :=
  snaps_cons (snap_obj hi (snaps_cons (a1 _ _) (snaps_cons (b1 _ _) snaps_nil))) (snaps_cons (snap_obj hj (snaps_cons (c1 _ _) (snaps_cons (d1 _ _) snaps_nil))) snaps_nil)
 simp only [reprL, q, Option.map_some, okR, okMs, okM, okLs, a2, b2, c2, d2]
 rfl
theorem rpr_ne {x : AV} (h : eqV x x = true) (H : AH) : cmpV .ne (.rpr x) (.rpr x) H = some false := by (dsimp only [cmpV, cmpNe]; simp only [h])
theorem rpr_eq {x : AV} (h : eqV x x = true) (H : AH) : cmpV .eq (.rpr x) (.rpr x) H = some true := by (dsimp only [cmpV, cmpEq]; simp only [h])
theorem memI {a : AV} (h : a ∈ allV) : a ∈ allV := h
theorem ev_compR2 {n d k j : Nat} {fr fr' : Fr} {H H1 H2 : AH} {px pr pi p : Pos} {el hi : E} {sc : Nms} {us : List AV} (h1 : ev tb n (d+1) fr H hi = .ok (.int 2) H1) (hc : capt sc fr = fr') (h3 : cmpL tb n d fr' H1 .fix k el [.int (.ofNat 0), .int (.ofNat 1)] [] = .ok us H2) : ev tb (n+1) (d+1) fr H (.compR k px el j pr hi pi sc p) = .ok (.obj H2.length) (H2 ++ [.list us]) := by
 subst hc; exact ev_compR (m := 2) h1 rfl h3
theorem stands_ok {g : Sg} {H : AH} (C : Core g H) (hb : g.b = g.w) (hw : g.w.okV) : ∃ H', (∀ n d, callF tb (n+80) (d+20) H (.fn 868) [.obj 4, .obj 17] = .ok (.bool true) H') ∧ Core g H' ∧ Keep H H' := by
 have hl := C.len
 have h4 := C.h4
 have h5 := C.h5
 have h6 := C.h6
 have h17 : nth H 17 = some (.book (bookD g.w)) := by rw [← hb]; exact C.h17
 have h26 := C.h26
 have h38 := C.h38
 have h29 := C.h29
 have h41 := C.h41
 have m1 : g.w.a ∈ allV := hw .nA
 have m2 : g.w.b ∈ allV := hw .nB
 have m3 : g.w.p ∈ allV := hw .nP
 have m4 : g.w.c ∈ allV := hw .nC
 have m5 : g.w.a0 ∈ allV := hw .a0
 have m6 : g.w.a1 ∈ allV := hw .a1
 have m7 : g.w.b0 ∈ allV := hw .b0
 have m8 : g.w.b1 ∈ allV := hw .b1
 have qe : ∀ {v}, v ∈ allV → eqV v v = true := fun h => (aVs h).2.2.2
 have c1 := rpr_ne (eqV_lst (eqVs_cons (qe m1) (eqVs_cons (qe m2) (eqVs_cons (qe m3) (eqVs_cons (qe m4) eqVs_nil)))))
 have c2 := rpr_eq (eqV_lst (eqVs_cons (eqV_lst (eqVs_cons (qe m5) (eqVs_cons (qe m6) eqVs_nil))) (eqVs_cons (eqV_lst (eqVs_cons (qe m7) (eqVs_cons (qe m8) eqVs_nil))) eqVs_nil)))
 refine ⟨?H', fun n d => ?_, ?_⟩
 rotate_left
 · apply call_f (f := cx25) rfl
   all_goals (try dsimp only [cx25])
   all_goals repeat' (first | (with_reducible first | exact c1 _ | exact c2 _ | apply reprG | apply reprL_4 | apply reprL_2 | (apply memI; assumption) | apply ev_compR2) | w_left | k_places)
 · constructor
   · top_raise0
   · top_raise0
noncomputable def forBody : S → List S
 | .forR _ _ _ _ _ b _ => b
 | .for_ _ _ b _ => b
 | _ => []
noncomputable def turnB : List S := match cx63.body with
 | _ :: _ :: _ :: _ :: _ :: _ :: _ :: _ :: _ :: s :: _ => forBody s
 | _ => []
theorem look_hit {k : Nat} {v : AV} : ∀ {fr : Fr}, look (upd fr k v) k = some v
 | [] => by simp only [upd, look, bq]
 | (y, u) :: l => by
  dsimp only [upd]
  induction q : Nat.beq y k using Bool.casesOn with
  | true => simp only [look, q]
  | false => simp only [look, q]; exact look_hit
theorem look_skip {k x : Nat} {v u : AV} (h : Bx (Nat.beq k x = false)) : ∀ {fr : Fr}, look fr x = some u → look (upd fr k v) x = some u := by
 intro L
 induction L with
 | nil =>
  intro e
  contradiction
 | cons A l ih =>
  obtain ⟨y, w⟩ := A
  intro e
  dsimp only [upd]
  dsimp only [look] at e
  induction q : Nat.beq y k using Bool.casesOn with
  | true =>
   have yk : y = k := Nat.eq_of_beq_eq_true q
   subst yk
   rw [h.h] at e
   simp only [look, h.h]; exact e
  | false =>
   induction q2 : Nat.beq y x using Bool.casesOn with
   | true => rw [q2] at e; simp only [look, q2]; exact e
   | false => rw [q2] at e; simp only [look, q2]; exact ih e
theorem look_capt {sc : Nms} {x : Nat} {v : AV} (h : Bx (isF (lookA sc x) = true)) : ∀ {fr : Fr}, look fr x = some v → look (capt sc fr) x = some v := by
 intro L
 induction L with
 | nil =>
  intro e
  contradiction
 | cons A l ih =>
  obtain ⟨y, w⟩ := A
  intro e
  dsimp only [look] at e
  induction q2 : Nat.beq y x using Bool.casesOn with
  | true =>
   have yk : y = x := Nat.eq_of_beq_eq_true q2
   subst yk
   rw [capt_hit h rfl]; (dsimp only [look]; simp only [q2]); rw [q2] at e; exact e
  | false =>
   rw [q2] at e
   have ih := ih e
   induction q3 : isF (lookA sc y) using Bool.casesOn with
   | true => rw [capt_hit ⟨q3⟩ rfl]; (dsimp only [look]; simp only [q2]); exact ih
   | false => rw [capt_miss ⟨q3⟩ rfl]; exact ih
theorem updR {fr : Fr} {k : Nat} {v : AV} : upd fr k v = upd fr k v := rfl
noncomputable def tryS : R AV → R AV
 | .ok _ H => .ok (.str []) H
 | .exc c H => match Nat.ble c.length 1000 with | true => .ok (.str c) H | false => .bad
 | .bad => .bad
theorem ev_tryG {n d k : Nat} {fr : Fr} {H : AH} {pn pl p : Pos} {b : E} {sc : Nms} {r1 r : R AV} (h1 : ev tb n d (capt sc fr) H b = r1) (h2 : tryS r1 = r) : ev tb (n+1) (d+3) fr H (.tryc k pn b sc pl p) = r := by
 subst h1; subst h2; dsimp only [ev]; generalize ev tb n d (capt sc fr) H b = r; cases r <;> rfl
theorem tryS_ok {v : AV} {H : AH} : tryS (.ok v H) = .ok (.str []) H := rfl
theorem tryS_tm {H : AH} : tryS (.exc sTM H) = .ok (.str sTM) H := rfl
theorem tryS_ov {H : AH} : tryS (.exc sOV H) = .ok (.str sOV) H := rfl
theorem lookI' {fr : Fr} {x : Nat} {v : AV} (h : look fr x = some v) : look fr x = some v := h
structure FrL (fr : Fr) : Prop where
 pur : look fr 173 = some (.obj 3)
 wld : look fr 64 = some (.obj 4)
 bok : look fr 182 = some (.obj 17)
 run : look fr 69 = some (.obj 19)
 kds : look fr 1 = some (.obj 49)
theorem FrL.upd {fr : Fr} (F : FrL fr) {k : Nat} {v : AV} (h : Bx (Nat.beq k 173 = false)) (h2 : Bx (Nat.beq k 64 = false)) (h3 : Bx (Nat.beq k 182 = false)) (h4 : Bx (Nat.beq k 69 = false)) (h5 : Bx (Nat.beq k 1 = false)) : FrL (Mine.upd fr k v) :=
 ⟨look_skip h F.pur, look_skip h2 F.wld, look_skip h3 F.bok, look_skip h4 F.run, look_skip h5 F.kds⟩
theorem swapOf_exc {k k' : K3} {w : Cells} {p q : Pl} {c : List Nat} (hw : w.okV) (e : swapOf k k' w p q = .exc c) : c = sTM ∨ c = sOV := by
 by_cases h : k = k'
 · subst h
   rw [swapOf_eq] at e
   cases e1 : keptAs k (w.get q) with
   | exc c' => rw [e1] at e; injection e with e; subst e; exact keptAs_x (hw q) e1
   | ok u =>
    rw [e1] at e
    cases e2 : keptAs k (w.get p) with
    | exc c' => rw [e2] at e; injection e with e; subst e; exact keptAs_x (hw p) e2
    | ok v => rw [e2] at e; contradiction
 · rw [swapOf_ne h] at e; injection e with e; subst e; exact .inl rfl
theorem set_okV {w : Cells} (hw : w.okV) {u : AV} (hu : u ∈ allV) (p : Pl) : (w.set u p).okV := by
 intro q; induction p <;> induction q <;> first | exact hu | exact hw .nA | exact hw .nB | exact hw .nP | exact hw .nC | exact hw .a0 | exact hw .a1 | exact hw .b0 | exact hw .b1
theorem swapOf_okV {k k' : K3} {w w' : Cells} {p q : Pl} (hw : w.okV) (e : swapOf k k' w p q = .ok w') : w'.okV := by
 by_cases h : k = k'
 · subst h
   rw [swapOf_eq] at e
   cases e1 : keptAs k (w.get q) with
   | exc c' => rw [e1] at e; contradiction
   | ok u =>
    rw [e1] at e
    cases e2 : keptAs k (w.get p) with
    | exc c' => rw [e2] at e; contradiction
    | ok v => rw [e2] at e; injection e with e; subst e; exact set_okV (set_okV hw (keptAs_in (hw q) e1) p) (keptAs_in (hw p) e2) q
 · rw [swapOf_ne h] at e; contradiction
structure Turn (g g' : Sg) : Prop where
 f0 : g'.f0 = g.f0
 eqb : g'.b = g'.w
 okv : g'.w.okV
 c : g'.c ≤ g.c + 3
 sp : g'.sp ≤ g.sp + 1
 asks : g'.asks ≤ g.asks + 4
theorem turn_ok {g : Sg} {H : AH} {fr : Fr} (C : Core g H) (F : FrL fr) (hb : g.b = g.w) (hw : g.w.okV) (hc : g.c ≤ 90) (ha : g.asks ≤ 700) (hs : g.sp < 9) :
 ∃ g' fr' H', (∀ n d, exs tb (n+240) (d+100) fr H turnB = .ok (.next, fr') H') ∧ Core g' H' ∧ FrL fr' ∧ Turn g g' := by
 refine ob12 (got_at C.h3 C.h2 (by exact Nat.le_trans ‹_› (by decide)) 3 rfl) fun r hr er => ?_
 have er : ∀ n d, callF tb (n+40) (d+5) H (.fn 807) [.obj 3, .int 4] = .ok (.int (.ofNat r)) (put H 3 (.list [.int (.ofNat (g.c + 1)), .obj 2])) := er
 have C1 := C.setC
 refine ob34 (law_place_ok C1 (show g.c + 1 ≤ 100 by omega)) fun p v H2 e2 G2 C2 K2 => ?_
 obtain ⟨f1, f2, f3, f4, f5⟩ := F
 have F : FrL fr := ⟨f1, f2, f3, f4, f5⟩
 have kd := fun n d => lkind_ok C2 G2 n d
 have ky := fun n d => key_ok G2 n d
 have C2 : Core { g with c := g.c + 2 } H2 := C2
 induction r using Nat.casesAuxOn with
 | zero =>
  have i1 : Bx (isKey p.key = true) := ⟨key_is p⟩
  have l1 : Bx (Nat.blt (bookD g.b).length 1000 = true) := ⟨rfl⟩
  have h17 : nth H2 17 = some (.book (bookD g.b)) := C2.h17
  have C3 := C2.setB p (readOf (g.kind p))
  refine ob03 (readV_ok (g.kind p)) fun q1 q2 q3 => ?_
  have K3 : Keep H2 (put H2 17 (.book (dput (bookD g.b) p.key (readOf (g.kind p))))) := (Keep.refl H2).put (by exact Nat.le_add_left _ _)
  have G3 := (G2.keep K3).keep ((Keep.refl _).app (G := [.list [v]]))
  have hl3 := C3.len
  refine ob13 (do_read_ok (C3.app (G := [.list [v]])) G3 (show g.asks ≤ 800 by exact Nat.le_trans ‹_› (by decide)) hs hl3 nth_new) fun H5 e5 C5 K5 => ?_
  have C5 : Core { g with c := g.c + 2, asks := g.asks + 4, sp := g.sp + 1, b := g.b.set (readOf (g.kind p)) p, w := g.w.set (readOf (g.kind p)) p } H5 := C5
  refine ob13 (stands_ok C5 (by rw [hb]) (set_okV hw q3 p)) fun H6 e6 C6 K6 => ?_
  have kd : ∀ n d, callF tb (n+30) (d+5) H2 (.fn 849) [.obj 49, v] = .ok (.str (g.kind p).s) H2 := kd
  have vt : g.kind p = .text ∧ readOf (g.kind p) = .str [53] ∧ (∀ H, cmpV .eq (.str (g.kind p).s) (.str [116, 101, 120, 116]) H = some true) ∨ (∀ H, cmpV .eq (.str (g.kind p).s) (.str [116, 101, 120, 116]) H = some false) ∧ (∀ n d H, callF tb (n+60) (d+10) H (.fn 828) [.int 5, .str (g.kind p).s] = .ok (readOf (g.kind p)) H) := by
   cases hk : g.kind p with
   | text => exact .inl ⟨rfl, rfl, fun _ => rfl⟩
   | dec => exact .inr ⟨fun _ => rfl, kept_o rfl (by repeat (first | exact List.Mem.head _ | apply List.Mem.tail))⟩
   | whole => exact .inr ⟨fun _ => rfl, kept_o rfl (by repeat (first | exact List.Mem.head _ | apply List.Mem.tail))⟩
  refine ⟨_, ?zfrd, H6, fun n d => ?_, C6, ?_, ⟨rfl, by show g.b.set _ p = g.w.set _ p; rw [hb], set_okV hw q3 p, by show g.c + 2 ≤ g.c + 3; exact Nat.le_succ _, Nat.le_refl _, Nat.le_refl _⟩⟩
  rotate_left
  · dsimp only [turnB, cx63, forBody]
    rcases vt with ⟨v1, v2, v3⟩ | ⟨v3, v4⟩
    · rw [v2] at e5
      repeat' (first | (with_reducible exact v3 _) | (with_reducible_and_instances first | apply er | apply e2 | apply kd | apply ky | apply e5 | apply e6) | (with_reducible_and_instances first | apply ev_tryG | exact tryS_ok | exact look_hit | apply look_skip ⟨rfl⟩ | apply look_capt ⟨rfl⟩ | (apply lookI'; assumption) | exact updR) | w_left | k_places)
    · repeat' (first | (with_reducible exact v3 _) | (with_reducible_and_instances first | apply er | apply e2 | apply kd | apply ky | apply e5 | apply e6 | apply v4) | (with_reducible_and_instances first | apply ev_tryG | exact tryS_ok | exact look_hit | apply look_skip ⟨rfl⟩ | apply look_capt ⟨rfl⟩ | (apply lookI'; assumption) | exact updR) | w_left | k_places)
  · repeat (refine FrL.upd ?_ ⟨rfl⟩ ⟨rfl⟩ ⟨rfl⟩ ⟨rfl⟩ ⟨rfl⟩)
    exact F
 | succ r =>
  refine ob34 (law_place_ok C2 (show g.c + 2 ≤ 100 by omega)) fun q v' H3 e3 G3 C3 K3 => ?_
  have C3 : Core { g with c := g.c + 3 } H3 := C3
  have G2 := G2.keep K3
  have s1 := law_swapped_ok C3 G2 G3 (by show g.b.okV; rw [hb]; exact hw)
  have s1 : Did (fun n d => callF tb (n+90) (d+20) H3 (.fn 856) [.obj 17, .obj 49, v, v']) { g with c := g.c + 3 } (fun g w => { g with b := w }) H3 0 (swapOf (g.kind p) (g.kind q) g.b p q) := s1
  cases eq : swapOf (g.kind p) (g.kind q) g.w p q with
  | exc c =>
   have eqb : swapOf (g.kind p) (g.kind q) g.b p q = .exc c := by rw [hb]; exact eq
   rw [eqb] at s1
   refine ob13 s1 fun H4 e4 C4 K4 => ?_
   have C4 : Core { g with c := g.c + 3 } H4 := C4
   have s2 := do_swap_ok C4 (G2.keep K4) (G3.keep K4) (show g.asks ≤ 800 by exact Nat.le_trans ‹_› (by decide)) hw
   have s2 : Did (fun n d => callF tb (n+160) (d+70) H4 (.fn 246) [.obj 19, .tup [.str sSWAP, v, v']]) { g with c := g.c + 3 } (fun g w => { g with w := w }) H4 4 (swapOf (g.kind p) (g.kind q) g.w p q) := s2
   rw [eq] at s2
   refine ob13 s2 fun H5 e5 C5 K5 => ?_
   have C5 : Core { g with c := g.c + 3, asks := g.asks + 4 } H5 := C5
   refine ob13 (stands_ok C5 hb hw) fun H6 e6 C6 K6 => ?_
   rcases swapOf_exc hw eq with rfl | rfl
   · refine ⟨_, ?zfra, H6, fun n d => ?main0, C6, ?fl0, ⟨rfl, hb, hw, Nat.le_refl _, Nat.le_add_right _ _, Nat.le_refl _⟩⟩
     case main0 =>
      dsimp only [turnB, cx63, forBody]
      repeat' (first | (with_reducible_and_instances first | apply er | apply e2 | apply e3 | apply e4 | apply e5 | apply e6) | (with_reducible_and_instances first | apply ev_tryG | exact tryS_ok | exact tryS_tm | exact tryS_ov | exact look_hit | apply look_skip ⟨rfl⟩ | apply look_capt ⟨rfl⟩ | (apply lookI'; assumption) | exact updR) | w_left | k_places)
     case fl0 =>
      repeat (refine FrL.upd ?_ ⟨rfl⟩ ⟨rfl⟩ ⟨rfl⟩ ⟨rfl⟩ ⟨rfl⟩)
      exact F
   · refine ⟨_, ?zfrb, H6, fun n d => ?main1, C6, ?fl1, ⟨rfl, hb, hw, Nat.le_refl _, Nat.le_add_right _ _, Nat.le_refl _⟩⟩
     case main1 =>
      dsimp only [turnB, cx63, forBody]
      repeat' (first | (with_reducible_and_instances first | apply er | apply e2 | apply e3 | apply e4 | apply e5 | apply e6) | (with_reducible_and_instances first | apply ev_tryG | exact tryS_ok | exact tryS_tm | exact tryS_ov | exact look_hit | apply look_skip ⟨rfl⟩ | apply look_capt ⟨rfl⟩ | (apply lookI'; assumption) | exact updR) | w_left | k_places)
     case fl1 =>
      repeat (refine FrL.upd ?_ ⟨rfl⟩ ⟨rfl⟩ ⟨rfl⟩ ⟨rfl⟩ ⟨rfl⟩)
      exact F
  | ok w' =>
   have eqb : swapOf (g.kind p) (g.kind q) g.b p q = .ok w' := by rw [hb]; exact eq
   rw [eqb] at s1
   refine ob13 s1 fun H4 e4 C4 K4 => ?_
   have C4 : Core { g with c := g.c + 3, b := w' } H4 := C4
   have s2 := do_swap_ok C4 (G2.keep K4) (G3.keep K4) (show g.asks ≤ 800 by exact Nat.le_trans ‹_› (by decide)) hw
   have s2 : Did (fun n d => callF tb (n+160) (d+70) H4 (.fn 246) [.obj 19, .tup [.str sSWAP, v, v']]) { g with c := g.c + 3, b := w' } (fun g w => { g with w := w }) H4 4 (swapOf (g.kind p) (g.kind q) g.w p q) := s2
   rw [eq] at s2
   refine ob13 s2 fun H5 e5 C5 K5 => ?_
   have C5 : Core { g with c := g.c + 3, asks := g.asks + 4, b := w', w := w' } H5 := C5
   have hw' := swapOf_okV hw eq
   refine ob13 (stands_ok C5 rfl hw') fun H6 e6 C6 K6 => ?_
   · refine ⟨_, ?zfrc, H6, fun n d => ?main2, C6, ?fl2, ⟨rfl, rfl, hw', Nat.le_refl _, Nat.le_add_right _ _, Nat.le_refl _⟩⟩
     case main2 =>
      dsimp only [turnB, cx63, forBody]
      repeat' (first | (with_reducible_and_instances first | apply er | apply e2 | apply e3 | apply e4 | apply e5 | apply e6) | (with_reducible_and_instances first | apply ev_tryG | exact tryS_ok | exact tryS_tm | exact tryS_ov | exact look_hit | apply look_skip ⟨rfl⟩ | apply look_capt ⟨rfl⟩ | (apply lookI'; assumption) | exact updR) | w_left | k_places)
     case fl2 =>
      repeat (refine FrL.upd ?_ ⟨rfl⟩ ⟨rfl⟩ ⟨rfl⟩ ⟨rfl⟩ ⟨rfl⟩)
      exact F
theorem turns_ok : ∀ (l : List AV) {g : Sg} {H : AH} {fr : Fr} {tp : Pos}, Core g H → FrL fr → g.b = g.w → g.w.okV → g.c + 3 * l.length ≤ 90 → g.asks + 4 * l.length ≤ 700 → g.sp + l.length ≤ 9 →
 ∃ fr' H', (∀ n d, forL tb (n + l.length + 250) (d+100) fr H .fix (.name 189 tp) l turnB = .ok (.next, fr') H') ∧ nth H' 0 = some g.f0 := by
 intro L
 induction L with
 | nil =>
  intro g H fr tp C F hb hw hc ha hs
  exact ⟨fr, H, fun n d => forL_nil rfl, C.h0⟩
 | cons v l ih =>
  intro g H fr tp C F hb hw hc ha hs
  simp only [List.length_cons] at hc ha hs
  refine ob34 (turn_ok (fr := upd fr 189 v) C (F.upd ⟨rfl⟩ ⟨rfl⟩ ⟨rfl⟩ ⟨rfl⟩ ⟨rfl⟩) hb hw (by omega) (by omega) (by omega)) fun g1 fr1 H1 e1 C1 F1 t1 => ?_
  have tc := t1.c
  have ta := t1.asks
  have ts := t1.sp
  refine ob22 (ih (tp := tp) C1 F1 t1.eqb t1.okv (by omega) (by omega) (by omega)) fun fr2 H2 e2 z => ?_
  refine ⟨fr2, H2, fun n d => ?_, by rw [← t1.f0]; exact z⟩
  refine forL_cons rfl asg_name (fr' := fr1) (H2 := H1) ?_ ?_
  · have := e1 (n + l.length + 10) d
    rw [show n + l.length + 10 + 240 = n + l.length + 250 by rfl] at this
    exact this
  · exact e2 n d
theorem eqV_int (i : Int) : eqV (.int i) (.int i) = true := by
 cases i <;> (skip; exact bq _)
theorem eqVs_ints : ∀ (l : List Int), eqVs (l.map .int) (l.map .int) = true
 | [] => eqVs_nil
 | i :: l => eqVs_cons (eqV_int i) (eqVs_ints l)
theorem absI_nat (i : Int) : absI i = .ofNat i.natAbs := by cases i <;> rfl
theorem comp_abs {d i : Nat} {H : AH} {xs : List AV} {el : E} (h : nth H i = some (.list xs)) (he : eqVs xs xs = true) (hel : ∀ n fr k, look fr 87 = some (.int k) → ev tb (n+10) d fr H el = .ok (.int (absI k)) H) :
 ∀ (l : List Int) (fr : Fr) (acc : List AV) (n : Nat), cmpL tb (n + l.length + 12) d fr H (.lst i xs) 87 el (l.map .int) acc = .ok (acc ++ l.map fun k => .int (.ofNat k.natAbs)) H := by
 intro L
 induction L with
 | nil =>
  intro fr acc n
  simpa using cmpL_nil (srcOk_lst h he)
 | cons k l ih =>
  intro fr acc n
  have ih := ih (upd fr 87 (.int k)) (acc ++ [.int (.ofNat k.natAbs)]) n
  refine cmpL_cons (srcOk_lst h he) (u := .int (absI k)) (H1 := H) ?_ ?_
  · have := hel (n + l.length + 2) (upd fr 87 (.int k)) k look_hit
    exact this
  · rw [absI_nat]
    rw [List.append_assoc] at ih
    exact ih
noncomputable def cAt : List (Nat × AV) := [(124, .obj 21), (123, .int 20), (125, .int (-1))]
noncomputable def hp (x0 x1 x2 : AO) (c : Nat) (nm ar kd bk : List (AV × AV)) (rest : List AO) : AH :=
 x0 :: x1 :: x2 :: .list [.int (.ofNat c), .obj 2] :: .inst 181 (wAt 0) :: .dict nm :: .dict ar :: .dict kd :: .dict [] :: .list [] :: .list [] :: .dict [] :: .dict [] :: .dict [] :: .list [] :: .list [] :: .list [] :: .book bk :: .dict [] :: .inst 796 rAt :: .inst 531 cAt :: .list [] :: .list [] :: .list [dat1] :: .list [dat1, dat1, dat1, dat1, dat1, dat1, dat1, dat1, dat1] :: rest
noncomputable abbrev L4 : AO := .list [.int 50, .int 400000, .int 25, .int 35]
noncomputable def d4 : Nat → AV
 | 0 => aDec 5 0 | 1 => aDec 4 4 | 2 => aDec 25 (-1) | _ => aDec 35 (-1)
noncomputable def t4 : Nat → Int
 | 0 => 50 | 1 => 400000 | 2 => 25 | _ => 35
noncomputable abbrev gA : List AO := [.list [.int 1], .inst 263 (gAt 27 29), .list [.int 1], .list [aDec 0 0]]
noncomputable abbrev gB : List AO := [.list [.int 1], .inst 263 (gAt 39 41), .list [.int 1], .list [aDec 0 0]]
noncomputable def outerB : List S := match cx63.body with
 | _ :: _ :: _ :: s :: _ => forBody s
 | _ => []
noncomputable def innerB : List S := match outerB with
 | _ :: s :: _ => forBody s
 | _ => []
noncomputable def dr1 : S := match innerB with | s :: _ => s | [] => .exp (.c .none 0 ⟨0, 0, 0, 0⟩) ⟨0, 0, 0, 0⟩
noncomputable def in23 : List S := match innerB with | _ :: r => r | [] => []
noncomputable def dim1 : S := match outerB with | s :: _ => s | [] => .exp (.c .none 0 ⟨0, 0, 0, 0⟩) ⟨0, 0, 0, 0⟩
theorem draw_ok {H : AH} {c : Nat} {xs : List Nat} (h3 : nth H 3 = some (.list [.int (.ofNat c), .obj 2])) (h2 : nth H 2 = some (.list (xs.map fun k => .int (.ofNat k)))) (hc : c ≤ 100) (hl : 4 ≤ H.length) :
 ∃ r, r < 4 ∧ ∀ n d fr, look fr 173 = some (.obj 3) → ex tb (n+60) (d+8) fr H dr1 = .ok (.next, upd fr 174 (.int (t4 r))) (put (H ++ [L4]) 3 (.list [.int (.ofNat (c + 1)), .obj 2])) := by
 refine ob12 (got_at (H := H ++ [L4]) (nth_app h3) (nth_app h2) hc 3 rfl) fun r hr er => ?_
 have er : ∀ n d, callF tb (n+40) (d+5) (H ++ [L4]) (.fn 807) [.obj 3, .int 4] = .ok (.int (.ofNat r)) (put (H ++ [L4]) 3 (.list [.int (.ofNat (c + 1)), .obj 2])) := er
 have q : Bx (nth [AV.int 50, AV.int 400000, AV.int 25, AV.int 35] r = some (AV.int (t4 r))) := by
  rcases r with _ | _ | _ | _ | r <;> first | exact ⟨rfl⟩ | omega
 refine ⟨r, hr, fun n d fr f1 => ?_⟩
 dsimp only [dr1, innerB, outerB, cx63, forBody]
 repeat' (first | (with_reducible_and_instances apply er) | (with_reducible_and_instances first | exact look_hit | apply look_skip ⟨rfl⟩ | (apply lookI'; assumption) | exact updR) | w_left | k_places)
noncomputable abbrev frS (w pl t : AV) : Fr := [(188, .obj 0), (173, .obj 3), (64, .obj 4), (182, .obj 17), (69, .obj 19), (97, w), (73, pl), (174, t)]
noncomputable abbrev it00 : AO := .list [aDec 0 0, aDec 0 0]
noncomputable abbrev o0 : AO := .list [.int 0]
noncomputable abbrev o1 : AO := .list [.int 1]
noncomputable abbrev arA : List (AV × AV) := [(.str sA, .obj 26)]
noncomputable abbrev arB : List (AV × AV) := [(.str sA, .obj 26), (.str sB, .obj 38)]
theorem stA (x0 x1 x2 : AO) (c n d : Nat) : ∀ r, r < 4 → exs tb (n+150) (d+60) (frS (.str sA) (.str sA) (.int (t4 r))) (hp x0 x1 x2 c [] arA [] [] (gA ++ [it00, L4])) in23 =
 .ok (.next, frS (.str sA) (.str sA) (.int (t4 r))) (hp x0 x1 x2 c [(.str sA, d4 r)] arA [] [(.str sA, d4 r)] (gA ++ [it00, L4]))
 | 0, _ => by kernel_rfl | 1, _ => by kernel_rfl | 2, _ => by kernel_rfl | 3, _ => by kernel_rfl
 | _ + 4, h => by rfl
theorem stA0 (x0 x1 x2 : AO) (va : AV) (c n d : Nat) : ∀ r, r < 4 → exs tb (n+150) (d+60) (frS (.str sA) (keyI sA 0) (.int (t4 r))) (hp x0 x1 x2 c [(.str sA, va)] arA [] [(.str sA, va)] (gA ++ [it00, L4, L4])) in23 =
 .ok (.next, frS (.str sA) (keyI sA 0) (.int (t4 r))) (hp x0 x1 x2 c [(.str sA, va)] arA [] [(.str sA, va), (keyI sA 0, d4 r)] (gA ++ [.list [d4 r, aDec 0 0], L4, L4, o0, o0]))
 | 0, _ => by kernel_rfl | 1, _ => by kernel_rfl | 2, _ => by kernel_rfl | 3, _ => by kernel_rfl
 | _ + 4, h => by rfl
theorem stA1 (x0 x1 x2 : AO) (va a0 : AV) (c n d : Nat) : ∀ r, r < 4 → exs tb (n+150) (d+60) (frS (.str sA) (keyI sA 1) (.int (t4 r))) (hp x0 x1 x2 c [(.str sA, va)] arA [] [(.str sA, va), (keyI sA 0, a0)] (gA ++ [.list [a0, aDec 0 0], L4, L4, o0, o0, L4])) in23 =
 .ok (.next, frS (.str sA) (keyI sA 1) (.int (t4 r))) (hp x0 x1 x2 c [(.str sA, va)] arA [] [(.str sA, va), (keyI sA 0, a0), (keyI sA 1, d4 r)] (gA ++ [.list [a0, d4 r], L4, L4, o0, o0, L4, o1, o1]))
 | 0, _ => by kernel_rfl | 1, _ => by kernel_rfl | 2, _ => by kernel_rfl | 3, _ => by kernel_rfl
 | _ + 4, h => by rfl
noncomputable abbrev bkA (va a0 a1 : AV) : List (AV × AV) := [(.str sA, va), (keyI sA 0, a0), (keyI sA 1, a1)]
noncomputable abbrev rsA (a0 a1 : AV) : List AO := gA ++ [.list [a0, a1], L4, L4, o0, o0, L4, o1, o1]
theorem stB (x0 x1 x2 : AO) (va a0 a1 : AV) (c n d : Nat) : ∀ r, r < 4 → exs tb (n+150) (d+60) (frS (.str sB) (.str sB) (.int (t4 r))) (hp x0 x1 x2 c [(.str sA, va)] arB [] (bkA va a0 a1) (rsA a0 a1 ++ (gB ++ [it00, L4]))) in23 =
 .ok (.next, frS (.str sB) (.str sB) (.int (t4 r))) (hp x0 x1 x2 c [(.str sA, va), (.str sB, d4 r)] arB [] (bkA va a0 a1 ++ [(.str sB, d4 r)]) (rsA a0 a1 ++ (gB ++ [it00, L4])))
 | 0, _ => by kernel_rfl | 1, _ => by kernel_rfl | 2, _ => by kernel_rfl | 3, _ => by kernel_rfl
 | _ + 4, h => by rfl
theorem stB0 (x0 x1 x2 : AO) (va a0 a1 vb : AV) (c n d : Nat) : ∀ r, r < 4 → exs tb (n+150) (d+60) (frS (.str sB) (keyI sB 0) (.int (t4 r))) (hp x0 x1 x2 c [(.str sA, va), (.str sB, vb)] arB [] (bkA va a0 a1 ++ [(.str sB, vb)]) (rsA a0 a1 ++ (gB ++ [it00, L4, L4]))) in23 =
 .ok (.next, frS (.str sB) (keyI sB 0) (.int (t4 r))) (hp x0 x1 x2 c [(.str sA, va), (.str sB, vb)] arB [] (bkA va a0 a1 ++ [(.str sB, vb), (keyI sB 0, d4 r)]) (rsA a0 a1 ++ (gB ++ [.list [d4 r, aDec 0 0], L4, L4, o0, o0])))
 | 0, _ => by kernel_rfl | 1, _ => by kernel_rfl | 2, _ => by kernel_rfl | 3, _ => by kernel_rfl
 | _ + 4, h => by rfl
theorem stB1 (x0 x1 x2 : AO) (va a0 a1 vb b0 : AV) (c n d : Nat) : ∀ r, r < 4 → exs tb (n+150) (d+60) (frS (.str sB) (keyI sB 1) (.int (t4 r))) (hp x0 x1 x2 c [(.str sA, va), (.str sB, vb)] arB [] (bkA va a0 a1 ++ [(.str sB, vb), (keyI sB 0, b0)]) (rsA a0 a1 ++ (gB ++ [.list [b0, aDec 0 0], L4, L4, o0, o0, L4]))) in23 =
 .ok (.next, frS (.str sB) (keyI sB 1) (.int (t4 r))) (hp x0 x1 x2 c [(.str sA, va), (.str sB, vb)] arB [] (bkA va a0 a1 ++ [(.str sB, vb), (keyI sB 0, b0), (keyI sB 1, d4 r)]) (rsA a0 a1 ++ (gB ++ [.list [b0, d4 r], L4, L4, o0, o0, L4, o1, o1])))
 | 0, _ => by kernel_rfl | 1, _ => by kernel_rfl | 2, _ => by kernel_rfl | 3, _ => by kernel_rfl
 | _ + 4, h => by rfl
noncomputable abbrev fr5 : Fr := [(188, .obj 0), (173, .obj 3), (64, .obj 4), (182, .obj 17), (69, .obj 19)]
theorem dimA (x0 x1 x2 : AO) (c n d : Nat) : ex tb (n+150) (d+60) (fr5 ++ [(97, .str sA)]) (hp x0 x1 x2 c [] [] [] [] []) dim1 = .ok (.next, fr5 ++ [(97, .str sA)]) (hp x0 x1 x2 c [] arA [] [] (gA ++ [it00])) := by kernel_rfl
theorem dimB (x0 x1 x2 : AO) (va a0 a1 : AV) (c n d : Nat) (y z : AV) : ex tb (n+150) (d+60) (frS (.str sB) y z) (hp x0 x1 x2 c [(.str sA, va)] arA [] (bkA va a0 a1) (rsA a0 a1)) dim1 = .ok (.next, frS (.str sB) y z) (hp x0 x1 x2 c [(.str sA, va)] arB [] (bkA va a0 a1) (rsA a0 a1 ++ (gB ++ [it00]))) := by kernel_rfl
theorem exs_app {d m : Nat} {fr1 : Fr} {H1 : AH} {l2 : List S} {q : R (Fl × Fr)} (h2 : exs tb m d fr1 H1 l2 = q) :
 ∀ (l1 : List S) (n : Nat) (fr : Fr) (H : AH), n = m + l1.length → exs tb n d fr H l1 = .ok (.next, fr1) H1 → exs tb n d fr H (l1 ++ l2) = q := by
 intro L
 induction L with
 | nil =>
  intro n fr H hn h
  rw [show n = m from hn] at h ⊢
  induction m using Nat.casesAuxOn with
  | zero => skip; contradiction
  | succ m => rw [exs_nil] at h; cases h; exact h2
 | cons s l1 ih =>
  intro n fr H hn h
  subst hn
  replace h : exs tb (m + l1.length + 1) d fr H (s :: l1) = .ok (.next, fr1) H1 := h
  show exs tb (m + l1.length + 1) d fr H (s :: (l1 ++ l2)) = q
  dsimp only [exs] at h
  induction e : ex tb (m + l1.length) d fr H s using R.casesOn with
  | bad => rw [e] at h; contradiction
  | exc c H' => rw [e] at h; contradiction
  | ok a H' =>
   obtain ⟨f, fr'⟩ := a
   induction f using Fl.casesOn with
   | ret v => rw [e] at h; cases h
   | next =>
    rw [e] at h
    exact exs_cons e (ih _ fr' H' rfl h)
noncomputable def st0 : S := match cx63.body with | s :: _ => s | _ => .exp (.c .none 0 ⟨0, 0, 0, 0⟩) ⟨0, 0, 0, 0⟩
noncomputable def s23 : List S := match cx63.body with | _ :: a :: b :: _ => [a, b] | _ => []
noncomputable def st3 : S := match cx63.body with | _ :: _ :: _ :: s :: _ => s | _ => .exp (.c .none 0 ⟨0, 0, 0, 0⟩) ⟨0, 0, 0, 0⟩
noncomputable def s47 : List S := match cx63.body with | _ :: _ :: _ :: _ :: a :: b :: c :: d :: _ => [a, b, c, d] | _ => []
noncomputable def st8 : S := match cx63.body with | _ :: _ :: _ :: _ :: _ :: _ :: _ :: _ :: s :: _ => s | _ => .exp (.c .none 0 ⟨0, 0, 0, 0⟩) ⟨0, 0, 0, 0⟩
noncomputable def s9 : List S := match cx63.body with | _ :: _ :: _ :: _ :: _ :: _ :: _ :: _ :: _ :: l => l | _ => []
theorem body_is : cx63.body = [st0] ++ (s23 ++ ([st3] ++ (s47 ++ ([st8] ++ s9)))) := rfl
noncomputable def wAtW : List (Nat × AV) := [(25, .int 16), (16, .int 9), (39, .int 2000), (40, .int 20), (41, .int 2000), (42, .obj 5), (43, .obj 6), (1, .obj 7), (44, .obj 8), (45, .obj 9), (46, .str []), (47, .obj 10), (48, .obj 11), (49, .obj 12), (50, .obj 13), (51, .obj 14), (52, .int 0), (53, .int 0), (54, .int 1), (55, .int 0), (56, .int 0), (57, .int 0), (58, .bool false), (59, .int 0), (60, .str []), (61, .bool false), (62, .obj 15), (63, .obj 16)]
noncomputable def wH (x0 x1 x2 x3 : AO) : AH := [x0, x1, x2, x3, .inst 181 wAtW, .dict [], .dict [], .dict [], .dict [], .list [], .list [], .dict [], .dict [], .dict [], .list [], .list [], .list []]
theorem wld_ok {H : AH} {x0 x1 x2 x3 : AO} (hH : H = [x0, x1, x2, x3]) (n d : Nat) : callF tb (n+100) (d+40) H (.fn 181) [] = .ok (.obj 4) (wH x0 x1 x2 x3) := by
 subst hH
 kernel_rfl
noncomputable abbrev absL (l : List Int) : List AV := l.map fun k => .int (.ofNat k.natAbs)
theorem slc_ints (is : List Int) : slcL (is.map AV.int) none (some 30) = (is.take 30).map AV.int := by
 (dsimp only [slcL]; simp only [Option.getD_some, Option.getD_none, List.drop_zero, List.map_take])
theorem lstI3 {xs : List AV} {o : Obj} : lstAt (some (.fix xs o)) = some xs := rfl
theorem st0_ok (is : List Int) (o : Obj) : ex tb 408 170 [(188, .obj 0)] [.fix (is.map .int) o] st0 = .ok (.next, [(188, .obj 0), (173, .obj 3), (64, .obj 4), (182, .obj 17)])
 (wH (.fix (is.map .int) o) (.list ((is.take 30).map .int)) (.list (absL (is.take 30))) (.list [.int (.ofNat 0), .obj 2]) ++ [.book []]) := by
 have q : ∃ fr' H', ex tb 408 170 [(188, .obj 0)] [.fix (is.map .int) o] st0 = .ok (.next, fr') H' ∧ fr' = [(188, .obj 0), (173, .obj 3), (64, .obj 4), (182, .obj 17)] ∧ H' = (wH (.fix (is.map .int) o) (.list ((is.take 30).map .int)) (.list (absL (is.take 30))) (.list [.int (.ofNat 0), .obj 2]) ++ [.book []]) := by
  refine ⟨?zf, ?zh, ?zm, ?zx, ?zy⟩
  case zm =>
   have sl := slc_ints is
   have cl : ∀ {fr : Fr} {d n : Nat} {el : E} {H : AH} {i : Nat}, nth H i = some (.list (slcL (is.map AV.int) none (some 30))) → (∀ n fr k, look fr 87 = some (.int k) → ev tb (n+10) d fr H el = .ok (.int (absI k)) H) → cmpL tb (n + 60) d fr H (.lst i (slcL (is.map AV.int) none (some 30))) 87 el (slcL (is.map AV.int) none (some 30)) [] = .ok (absL (is.take 30)) H := by
    rw [sl]
    intro fr d n el H i h1 h2
    have ln : (is.take 30).length ≤ 30 := by rw [List.length_take]; omega
    have := comp_abs h1 (eqVs_ints _) h2 (is.take 30) fr [] (n + 48 - (is.take 30).length)
    rw [show n + 48 - (is.take 30).length + (is.take 30).length + 12 = n + 60 by omega] at this
    exact this
   dsimp only [st0, cx63]
   repeat' (first | (with_reducible exact lstI3) | (with_reducible_and_instances (refine cl ?_ ?_)) | (with_reducible exact ev_dctB rfl) | ((with_reducible_and_instances apply wld_ok); exact rfl) | (with_reducible apply lookI'; assumption) | w_left | k_places | ((with_reducible apply nthI); exact rfl))
   intro n fr k hk
   repeat' (first | (with_reducible exact hk) | w_left | k_places)
  case zx => exact rfl
  case zy => rw [slc_ints]; exact rfl
 refine ob23 q fun fr' H' e q3_ q4_ => ?_; subst q3_; subst q4_
 exact e
noncomputable abbrev xInts (xs : List Nat) : AO := .list (xs.map fun k => .int (.ofNat k))
theorem s23_ok (x0 x1 x2 : AO) (n d : Nat) : exs tb (n+150) (d+60) [(188, .obj 0), (173, .obj 3), (64, .obj 4), (182, .obj 17)] (wH x0 x1 x2 (.list [.int (.ofNat 0), .obj 2]) ++ [.book []]) s23 = .ok (.next, fr5) (hp x0 x1 x2 0 [] [] [] [] []) := by kernel_rfl
theorem d4_in (r : Nat) : d4 r ∈ allV := by
 match r with
 | 0 => exact (by repeat (first | exact List.Mem.head _ | apply List.Mem.tail))
 | 1 => exact (by repeat (first | exact List.Mem.head _ | apply List.Mem.tail))
 | 2 => exact (by repeat (first | exact List.Mem.head _ | apply List.Mem.tail))
 | _ + 3 => exact (by repeat (first | exact List.Mem.head _ | apply List.Mem.tail))
theorem innerA (x0 x1 : AO) (xs : List Nat) (c : Nat) (hc : c ≤ 90) (tp : Pos) : ∃ va a0 a1 t, va ∈ allV ∧ a0 ∈ allV ∧ a1 ∈ allV ∧ ∀ n d, forL tb (n+200) (d+65) (fr5 ++ [(97, .str sA)]) (hp x0 x1 (xInts xs) c [] arA [] [] (gA ++ [it00])) .fix (.name 73 tp) [.str sA, keyI sA 0, keyI sA 1] innerB =
 .ok (.next, frS (.str sA) (keyI sA 1) (.int t)) (hp x0 x1 (xInts xs) (c+3) [(.str sA, va)] arA [] (bkA va a0 a1) (rsA a0 a1)) := by
 refine ob12 (draw_ok (H := hp x0 x1 (xInts xs) c [] arA [] [] (gA ++ [it00])) (c := c) (xs := xs) rfl rfl (by exact Nat.le_trans ‹_› (by decide)) (Nat.le_of_ble_eq_true rfl)) fun r1 h1 e1 => ?_
 refine ob12 (draw_ok (H := hp x0 x1 (xInts xs) (c+1) [(.str sA, d4 r1)] arA [] [(.str sA, d4 r1)] (gA ++ [it00, L4])) (c := c+1) (xs := xs) rfl rfl (by omega) (Nat.le_of_ble_eq_true rfl)) fun r2 h2 e2 => ?_
 refine ob12 (draw_ok (H := hp x0 x1 (xInts xs) (c+2) [(.str sA, d4 r1)] arA [] [(.str sA, d4 r1), (keyI sA 0, d4 r2)] (gA ++ [.list [d4 r2, aDec 0 0], L4, L4, o0, o0])) (c := c+2) (xs := xs) rfl rfl (by omega) (Nat.le_of_ble_eq_true rfl)) fun r3 h3 e3 => ?_
 refine ⟨d4 r1, d4 r2, d4 r3, t4 r3, d4_in _, d4_in _, d4_in _, fun n d => ?_⟩
 have k1 := fun n => stA x0 x1 (xInts xs) (c+1) n (d+5) r1 h1
 have k2 := fun n => stA0 x0 x1 (xInts xs) (d4 r1) (c+2) n (d+5) r2 h2
 have k3 := fun n => stA1 x0 x1 (xInts xs) (d4 r1) (d4 r2) (c+3) n (d+5) r3 h3
 have e1' : ex tb (n+198) (d+65) (fr5 ++ [(97, .str sA), (73, .str sA)]) (hp x0 x1 (xInts xs) c [] arA [] [] (gA ++ [it00])) dr1 = .ok (.next, frS (.str sA) (.str sA) (.int (t4 r1))) (hp x0 x1 (xInts xs) (c+1) [] arA [] [] (gA ++ [it00, L4])) := e1 (n+138) (d+57) _ rfl
 have e2' : ex tb (n+197) (d+65) (frS (.str sA) (keyI sA 0) (.int (t4 r1))) (hp x0 x1 (xInts xs) (c+1) [(.str sA, d4 r1)] arA [] [(.str sA, d4 r1)] (gA ++ [it00, L4])) dr1 = .ok (.next, frS (.str sA) (keyI sA 0) (.int (t4 r2))) (hp x0 x1 (xInts xs) (c+2) [(.str sA, d4 r1)] arA [] [(.str sA, d4 r1)] (gA ++ [it00, L4, L4])) := e2 (n+137) (d+57) _ rfl
 have e3' : ex tb (n+196) (d+65) (frS (.str sA) (keyI sA 1) (.int (t4 r2))) (hp x0 x1 (xInts xs) (c+2) [(.str sA, d4 r1)] arA [] [(.str sA, d4 r1), (keyI sA 0, d4 r2)] (gA ++ [.list [d4 r2, aDec 0 0], L4, L4, o0, o0])) dr1 = .ok (.next, frS (.str sA) (keyI sA 1) (.int (t4 r3))) (hp x0 x1 (xInts xs) (c+3) [(.str sA, d4 r1)] arA [] [(.str sA, d4 r1), (keyI sA 0, d4 r2)] (gA ++ [.list [d4 r2, aDec 0 0], L4, L4, o0, o0, L4])) := e3 (n+136) (d+57) _ rfl
 have ib : innerB = dr1 :: in23 := rfl
 rw [ib]
 refine forL_cons rfl asg_name (exs_cons e1' (k1 (n+48))) (forL_cons rfl asg_name (exs_cons e2' (k2 (n+47))) (forL_cons rfl asg_name (exs_cons e3' (k3 (n+46))) (forL_nil rfl)))
theorem innerBB (x0 x1 : AO) (xs : List Nat) (c : Nat) (hc : c ≤ 90) (tp : Pos) (va a0 a1 y z : AV) : ∃ vb b0 b1 t, vb ∈ allV ∧ b0 ∈ allV ∧ b1 ∈ allV ∧ ∀ n d, forL tb (n+200) (d+65) (frS (.str sB) y z) (hp x0 x1 (xInts xs) c [(.str sA, va)] arB [] (bkA va a0 a1) (rsA a0 a1 ++ (gB ++ [it00]))) .fix (.name 73 tp) [.str sB, keyI sB 0, keyI sB 1] innerB =
 .ok (.next, frS (.str sB) (keyI sB 1) (.int t)) (hp x0 x1 (xInts xs) (c+3) [(.str sA, va), (.str sB, vb)] arB [] (bkA va a0 a1 ++ [(.str sB, vb), (keyI sB 0, b0), (keyI sB 1, b1)]) (rsA a0 a1 ++ (gB ++ [.list [b0, b1], L4, L4, o0, o0, L4, o1, o1]))) := by
 refine ob12 (draw_ok (H := hp x0 x1 (xInts xs) c [(.str sA, va)] arB [] (bkA va a0 a1) (rsA a0 a1 ++ (gB ++ [it00]))) (c := c) (xs := xs) rfl rfl (by exact Nat.le_trans ‹_› (by decide)) (Nat.le_of_ble_eq_true rfl)) fun r1 h1 e1 => ?_
 refine ob12 (draw_ok (H := hp x0 x1 (xInts xs) (c+1) [(.str sA, va), (.str sB, d4 r1)] arB [] (bkA va a0 a1 ++ [(.str sB, d4 r1)]) (rsA a0 a1 ++ (gB ++ [it00, L4]))) (c := c+1) (xs := xs) rfl rfl (by omega) (Nat.le_of_ble_eq_true rfl)) fun r2 h2 e2 => ?_
 refine ob12 (draw_ok (H := hp x0 x1 (xInts xs) (c+2) [(.str sA, va), (.str sB, d4 r1)] arB [] (bkA va a0 a1 ++ [(.str sB, d4 r1), (keyI sB 0, d4 r2)]) (rsA a0 a1 ++ (gB ++ [.list [d4 r2, aDec 0 0], L4, L4, o0, o0]))) (c := c+2) (xs := xs) rfl rfl (by omega) (Nat.le_of_ble_eq_true rfl)) fun r3 h3 e3 => ?_
 refine ⟨d4 r1, d4 r2, d4 r3, t4 r3, d4_in _, d4_in _, d4_in _, fun n d => ?_⟩
 have k1 := fun n => stB x0 x1 (xInts xs) va a0 a1 (c+1) n (d+5) r1 h1
 have k2 := fun n => stB0 x0 x1 (xInts xs) va a0 a1 (d4 r1) (c+2) n (d+5) r2 h2
 have k3 := fun n => stB1 x0 x1 (xInts xs) va a0 a1 (d4 r1) (d4 r2) (c+3) n (d+5) r3 h3
 have e1' : ex tb (n+198) (d+65) (frS (.str sB) (.str sB) z) (hp x0 x1 (xInts xs) c [(.str sA, va)] arB [] (bkA va a0 a1) (rsA a0 a1 ++ (gB ++ [it00]))) dr1 = .ok (.next, frS (.str sB) (.str sB) (.int (t4 r1))) (hp x0 x1 (xInts xs) (c+1) [(.str sA, va)] arB [] (bkA va a0 a1) (rsA a0 a1 ++ (gB ++ [it00, L4]))) := e1 (n+138) (d+57) _ rfl
 have e2' : ex tb (n+197) (d+65) (frS (.str sB) (keyI sB 0) (.int (t4 r1))) (hp x0 x1 (xInts xs) (c+1) [(.str sA, va), (.str sB, d4 r1)] arB [] (bkA va a0 a1 ++ [(.str sB, d4 r1)]) (rsA a0 a1 ++ (gB ++ [it00, L4]))) dr1 = .ok (.next, frS (.str sB) (keyI sB 0) (.int (t4 r2))) (hp x0 x1 (xInts xs) (c+2) [(.str sA, va), (.str sB, d4 r1)] arB [] (bkA va a0 a1 ++ [(.str sB, d4 r1)]) (rsA a0 a1 ++ (gB ++ [it00, L4, L4]))) := e2 (n+137) (d+57) _ rfl
 have e3' : ex tb (n+196) (d+65) (frS (.str sB) (keyI sB 1) (.int (t4 r2))) (hp x0 x1 (xInts xs) (c+2) [(.str sA, va), (.str sB, d4 r1)] arB [] (bkA va a0 a1 ++ [(.str sB, d4 r1), (keyI sB 0, d4 r2)]) (rsA a0 a1 ++ (gB ++ [.list [d4 r2, aDec 0 0], L4, L4, o0, o0]))) dr1 = .ok (.next, frS (.str sB) (keyI sB 1) (.int (t4 r3))) (hp x0 x1 (xInts xs) (c+3) [(.str sA, va), (.str sB, d4 r1)] arB [] (bkA va a0 a1 ++ [(.str sB, d4 r1), (keyI sB 0, d4 r2)]) (rsA a0 a1 ++ (gB ++ [.list [d4 r2, aDec 0 0], L4, L4, o0, o0, L4]))) := e3 (n+136) (d+57) _ rfl
 have ib : innerB = dr1 :: in23 := rfl
 rw [ib]
 refine forL_cons rfl asg_name (exs_cons e1' (k1 (n+48))) (forL_cons rfl asg_name (exs_cons e2' (k2 (n+47))) (forL_cons rfl asg_name (exs_cons e3' (k3 (n+46))) (forL_nil rfl)))
theorem st3_is : ∃ p1 itE k1 p2 itI p3 p4, st3 = .for_ (.name 97 p1) itE [dim1, .for_ (.name 73 p2) itI innerB p3] p4 ∧ k1 = 0 ∧ (∀ n d fr H, ev tb (n+20) d fr H itE = .ok (.tup [.str sA, .str sB]) H) ∧
 (∀ n d fr H s, look fr 97 = some (.str s) → ev tb (n+20) d fr H itI = .ok (.tup [.str s, keyI s 0, keyI s 1]) H) := by
 refine ⟨_, _, 0, _, _, _, _, rfl, rfl, ?_, ?_⟩
 · intro n d fr H
   repeat' (first | w_left | k_places)
 · intro n d fr H s h
   repeat' (first | (with_reducible exact h) | w_left | k_places)
noncomputable abbrev nmF (va vb : AV) : List (AV × AV) := [(.str sA, va), (.str sB, vb)]
noncomputable abbrev bkF (va a0 a1 vb b0 b1 : AV) : List (AV × AV) := bkA va a0 a1 ++ [(.str sB, vb), (keyI sB 0, b0), (keyI sB 1, b1)]
noncomputable abbrev rsF (a0 a1 b0 b1 : AV) : List AO := rsA a0 a1 ++ (gB ++ [.list [b0, b1], L4, L4, o0, o0, L4, o1, o1])
theorem st3_ok (x0 x1 : AO) (xs : List Nat) : ∃ va a0 a1 vb b0 b1 t, va ∈ allV ∧ a0 ∈ allV ∧ a1 ∈ allV ∧ vb ∈ allV ∧ b0 ∈ allV ∧ b1 ∈ allV ∧ ∀ n d, ex tb (n+206) (d+67) fr5 (hp x0 x1 (xInts xs) 0 [] [] [] [] []) st3 =
 .ok (.next, frS (.str sB) (keyI sB 1) (.int t)) (hp x0 x1 (xInts xs) 6 (nmF va vb) arB [] (bkF va a0 a1 vb b0 b1) (rsF a0 a1 b0 b1)) := by
 obtain ⟨p1, itE, _, p2, itI, p3, p4, hs, _, h1, h2⟩ := st3_is
 refine ob44 (innerA x0 x1 xs 0 (by omega) p2) fun va a0 a1 t1 m1 m2 m3 ea => ?_
 refine ob44 (innerBB x0 x1 xs 3 (by omega) p2 va a0 a1 (keyI sA 1) (.int t1)) fun vb b0 b1 t2 m4 m5 m6 eb => ?_
 refine ⟨va, a0, a1, vb, b0, b1, t2, m1, m2, m3, m4, m5, m6, fun n d => ?_⟩
 rw [hs]
 have dA := dimA x0 x1 (xInts xs) 0 (n + 53) (d+6)
 have dB := dimB x0 x1 (xInts xs) va a0 a1 3 (n + 52) (d+6) (keyI sA 1) (.int t1)
 have eA := ea (n + 1) d
 have eB := eb n d
 refine ex_forT (h1 (n + 185) (d + 67) fr5 _) (forL_cons rfl asg_name (exs_cons dA (exs_cons (ex_forT (h2 (n + 181) (d+66) _ _ sA rfl) eA) exs_nil)) (forL_cons rfl asg_name (exs_cons dB (exs_cons (ex_forT (h2 (n + 180) (d+66) _ _ sB rfl) eB) exs_nil)) (forL_nil rfl)))
noncomputable abbrev frK (w pl t : AV) : Fr := frS w pl t ++ [(1, .obj 49)]
theorem s47_ok (x0 x1 x2 : AO) (c n d : Nat) (va a0 a1 vb b0 b1 pl t : AV) : exs tb (n+150) (d+60) (frS (.str sB) pl t) (hp x0 x1 x2 c (nmF va vb) arB [] (bkF va a0 a1 vb b0 b1) (rsF a0 a1 b0 b1)) s47 =
 .ok (.next, frK (.str sB) pl t) (hp x0 x1 x2 c (nmF va vb ++ [(.str sP, .int 7), (.str sC, .str [116])]) arB [] (bkF va a0 a1 vb b0 b1 ++ [(.str sP, .int 7), (.str sC, .str [116])]) (rsF a0 a1 b0 b1 ++ [.dict []])) := by kernel_rfl
noncomputable abbrev LK : AO := .list [.str [100, 101, 99, 105, 109, 97, 108], .str [119, 104, 111, 108, 101], .str [116, 101, 120, 116], .str [119, 104, 111, 108, 101]]
noncomputable def k4 : Nat → K3
 | 0 => .dec | 1 => .whole | 2 => .text | _ => .whole
noncomputable def sK1 : S := match forBody st8 with | s :: _ => s | _ => .exp (.c .none 0 ⟨0, 0, 0, 0⟩) ⟨0, 0, 0, 0⟩
noncomputable def sK2 : S := match forBody st8 with | _ :: s :: _ => s | _ => .exp (.c .none 0 ⟨0, 0, 0, 0⟩) ⟨0, 0, 0, 0⟩
theorem st8_is : ∃ p1 itE p4, st8 = .for_ (.name 97 p1) itE [sK1, sK2] p4 ∧ (∀ n d fr H, ev tb (n+20) d fr H itE = .ok (.tup [.str sA, .str sB]) H) := by
 refine ⟨_, _, _, rfl, ?_⟩
 intro n d fr H
 repeat' (first | w_left | k_places)
theorem drawK {H : AH} {c : Nat} {xs : List Nat} {es : List (AV × AV)} (h3 : nth H 3 = some (.list [.int (.ofNat c), .obj 2])) (h2 : nth H 2 = some (xInts xs)) (hc : c ≤ 100) (hl : 50 ≤ H.length) (h49 : nth H 49 = some (.dict es)) (he : es.length < 1000) :
 ∃ r, r < 4 ∧ ∀ n d fr w, look fr 173 = some (.obj 3) → look fr 1 = some (.obj 49) → look fr 97 = some (.str w) → ex tb (n+60) (d+8) fr H sK1 = .ok (.next, fr) (put (put (H ++ [LK]) 3 (.list [.int (.ofNat (c + 1)), .obj 2])) 49 (.dict (dput es (.str w) (.str (k4 r).s)))) := by
 refine ob12 (got_at (H := H ++ [LK]) (nth_app h3) (nth_app h2) hc 3 rfl) fun r hr er => ?_
 have er : ∀ n d, callF tb (n+40) (d+5) (H ++ [LK]) (.fn 807) [.obj 3, .int 4] = .ok (.int (.ofNat r)) (put (H ++ [LK]) 3 (.list [.int (.ofNat (c + 1)), .obj 2])) := er
 have q : Bx (nth [AV.str [100, 101, 99, 105, 109, 97, 108], AV.str [119, 104, 111, 108, 101], AV.str [116, 101, 120, 116], AV.str [119, 104, 111, 108, 101]] r = some (AV.str (k4 r).s)) := by
  rcases r with _ | _ | _ | _ | r <;> first | exact ⟨rfl⟩ | omega
 have hb : Bx (Nat.blt es.length 1000 = true) := ⟨bltOf he⟩
 refine ⟨r, hr, fun n d fr w f1 f2 f3 => ?_⟩
 dsimp only [sK1, st8, cx63, forBody]
 repeat' (first | (with_reducible_and_instances apply er) | (with_reducible_and_instances first | exact look_hit | apply look_skip ⟨rfl⟩ | (apply lookI'; assumption) | exact updR) | w_left | k_places)
noncomputable abbrev nmG (va vb : AV) : List (AV × AV) := nmF va vb ++ [(.str sP, .int 7), (.str sC, .str [116])]
noncomputable abbrev bkG (va a0 a1 vb b0 b1 : AV) : List (AV × AV) := bkF va a0 a1 vb b0 b1 ++ [(.str sP, .int 7), (.str sC, .str [116])]
theorem sK2A (x0 x1 x2 : AO) (c n d : Nat) (va a0 a1 vb b0 b1 pl t k : AV) : ex tb (n+100) (d+40) (frK (.str sA) pl t) (hp x0 x1 x2 c (nmG va vb) arB [] (bkG va a0 a1 vb b0 b1) (rsF a0 a1 b0 b1 ++ [.dict [(.str sA, k)], LK])) sK2 =
 .ok (.next, frK (.str sA) pl t) (hp x0 x1 x2 c (nmG va vb) arB [(.str sA, k)] (bkG va a0 a1 vb b0 b1) (rsF a0 a1 b0 b1 ++ [.dict [(.str sA, k)], LK])) := by kernel_rfl
theorem sK2B (x0 x1 x2 : AO) (c n d : Nat) (va a0 a1 vb b0 b1 pl t k k' : AV) : ex tb (n+100) (d+40) (frK (.str sB) pl t) (hp x0 x1 x2 c (nmG va vb) arB [(.str sA, k)] (bkG va a0 a1 vb b0 b1) (rsF a0 a1 b0 b1 ++ [.dict [(.str sA, k), (.str sB, k')], LK, LK])) sK2 =
 .ok (.next, frK (.str sB) pl t) (hp x0 x1 x2 c (nmG va vb) arB [(.str sA, k), (.str sB, k')] (bkG va a0 a1 vb b0 b1) (rsF a0 a1 b0 b1 ++ [.dict [(.str sA, k), (.str sB, k')], LK, LK])) := by kernel_rfl
theorem st8_ok (x0 x1 : AO) (xs : List Nat) (c : Nat) (hc : c ≤ 50) (va a0 a1 vb b0 b1 pl t : AV) : ∃ k k' : K3, ∀ n d, ex tb (n+206) (d+67) (frK (.str sB) pl t) (hp x0 x1 (xInts xs) c (nmG va vb) arB [] (bkG va a0 a1 vb b0 b1) (rsF a0 a1 b0 b1 ++ [.dict []])) st8 =
 .ok (.next, frK (.str sB) pl t) (hp x0 x1 (xInts xs) (c+2) (nmG va vb) arB (kindsD k k') (bkG va a0 a1 vb b0 b1) (rsF a0 a1 b0 b1 ++ [.dict (kindsD k k'), LK, LK])) := by
 refine ob32 st8_is fun p1 itE p4 hs h1 => ?_
 refine ob12 (drawK (H := hp x0 x1 (xInts xs) c (nmG va vb) arB [] (bkG va a0 a1 vb b0 b1) (rsF a0 a1 b0 b1 ++ [.dict []])) (c := c) (xs := xs) (es := []) rfl rfl (by omega) (Nat.le_of_ble_eq_true rfl) rfl (by simp)) fun r1 q1 e1 => ?_
 refine ob12 (drawK (H := hp x0 x1 (xInts xs) (c+1) (nmG va vb) arB [(.str sA, .str (k4 r1).s)] (bkG va a0 a1 vb b0 b1) (rsF a0 a1 b0 b1 ++ [.dict [(.str sA, .str (k4 r1).s)], LK])) (c := c+1) (xs := xs) (es := [(.str sA, .str (k4 r1).s)]) rfl rfl (by omega) (Nat.le_of_ble_eq_true rfl) rfl (by simp)) fun r2 q2 e2 => ?_
 refine ⟨k4 r1, k4 r2, fun n d => ?_⟩
 rw [hs]
 have e1' : ex tb (n+203) (d+66) (frK (.str sA) pl t) (hp x0 x1 (xInts xs) c (nmG va vb) arB [] (bkG va a0 a1 vb b0 b1) (rsF a0 a1 b0 b1 ++ [.dict []])) sK1 = .ok (.next, frK (.str sA) pl t) (hp x0 x1 (xInts xs) (c+1) (nmG va vb) arB [] (bkG va a0 a1 vb b0 b1) (rsF a0 a1 b0 b1 ++ [.dict [(.str sA, .str (k4 r1).s)], LK])) := e1 (n+143) (d+58) _ sA rfl rfl rfl
 have e2' : ex tb (n+202) (d+66) (frK (.str sB) pl t) (hp x0 x1 (xInts xs) (c+1) (nmG va vb) arB [(.str sA, .str (k4 r1).s)] (bkG va a0 a1 vb b0 b1) (rsF a0 a1 b0 b1 ++ [.dict [(.str sA, .str (k4 r1).s)], LK])) sK1 = .ok (.next, frK (.str sB) pl t) (hp x0 x1 (xInts xs) (c+2) (nmG va vb) arB [(.str sA, .str (k4 r1).s)] (bkG va a0 a1 vb b0 b1) (rsF a0 a1 b0 b1 ++ [.dict [(.str sA, .str (k4 r1).s), (.str sB, .str (k4 r2).s)], LK, LK])) := e2 (n+142) (d+58) _ sB rfl rfl rfl
 have f1 := sK2A x0 x1 (xInts xs) (c+1) (n + 102) (d+26) va a0 a1 vb b0 b1 pl t (.str (k4 r1).s)
 have f2 := sK2B x0 x1 (xInts xs) (c+2) (n + 101) (d+26) va a0 a1 vb b0 b1 pl t (.str (k4 r1).s) (.str (k4 r2).s)
 refine ex_forT (h1 (n + 185) (d + 67) _ _) (forL_cons rfl asg_name (exs_cons e1' (exs_cons f1 exs_nil)) (forL_cons rfl asg_name (exs_cons e2' (exs_cons f2 exs_nil)) (forL_nil rfl)))
theorem s9_is : ∃ tp rg pr hiE pi p k p1 p2, s9 = [.forR (.name 189 tp) rg pr hiE pi turnB p, .ret (.c (.bool true) k p1) p2] ∧
 (∀ fr H H1 r, look fr 173 = some (.obj 3) → (∀ n d, callF tb (n+40) (d+5) H (.fn 807) [.obj 3, .int 4] = .ok (.int (.ofNat r)) H1) → r < 4 → ∀ n d, ev tb (n+60) (d+8) fr H hiE = .ok (.int (.ofNat (1 + r))) H1) := by
 refine ⟨_, _, _, _, _, _, _, _, _, rfl, ?_⟩
 intro fr H H1 r f1 e hr n d
 have a1 : ∀ H, bop .add (.int 1) (.int (.ofNat r)) H = .ok (.int (.ofNat (1 + r))) H := fun H => bop_addN (a := 1) (b := r) H (by omega)
 repeat' (first | (with_reducible exact f1) | (with_reducible exact a1 _) | (with_reducible_and_instances apply e) | w_left | k_places)
theorem core_start {x0 x1 : AO} {xs : List Nat} {c : Nat} {va a0 a1 vb b0 b1 : AV} {k k' : K3} : Core { f0 := x0, xs := xs, c := c, sp := 0, w := ⟨va, vb, .int 7, .str [116], a0, a1, b0, b1⟩, b := ⟨va, vb, .int 7, .str [116], a0, a1, b0, b1⟩, ka := k, kb := k', asks := 0 }
 (hp x0 x1 (xInts xs) c (nmG va vb) arB (kindsD k k') (bkG va a0 a1 vb b0 b1) (rsF a0 a1 b0 b1 ++ [.dict (kindsD k k'), LK, LK])) :=
 ⟨Nat.le_of_ble_eq_true rfl, rfl, rfl, rfl, rfl, rfl, rfl, rfl, rfl, rfl, rfl, ⟨[], rfl, Nat.le_refl _⟩, rfl, rfl, rfl, rfl, rfl, rfl, rfl, rfl⟩
theorem law_ok (is : List Int) (o : Obj) : ∃ H', callF tb 411 171 [.fix (is.map .int) o] (.fn 873) [.obj 0] = .ok (.bool true) H' ∧ nth H' 0 = some (.fix (is.map .int) o) := by
 have a0 := st0_ok is o
 have ab : absL (is.take 30) = ((is.take 30).map Int.natAbs).map fun k => AV.int (.ofNat k) := by simp [absL, List.map_map, Function.comp_def]
 rw [ab] at a0
 generalize hx : (is.take 30).map Int.natAbs = xs at a0
 generalize AO.list ((is.take 30).map .int) = x1 at a0
 have h0 : ∀ y, y = AO.fix (is.map .int) o → True := fun _ _ => trivial
 generalize hx0 : AO.fix (is.map .int) o = x0 at a0
 have a1 := s23_ok x0 x1 (xInts xs) 258 110
 obtain ⟨va, i0, i1, vb, j0, j1, t, m1, m2, m3, m4, m5, m6, e3⟩ := st3_ok x0 x1 xs
 have a3 := e3 199 103
 have a4 := s47_ok x0 x1 (xInts xs) 6 255 110 va i0 i1 vb j0 j1 (keyI sB 1) (.int t)
 refine ob21 (st8_ok x0 x1 xs 6 (by omega) va i0 i1 vb j0 j1 (keyI sB 1) (.int t)) fun k k' e8 => ?_
 have a8 := e8 194 103
 have C := core_start (x0 := x0) (x1 := x1) (xs := xs) (c := 8) (va := va) (a0 := i0) (a1 := i1) (vb := vb) (b0 := j0) (b1 := j1) (k := k) (k' := k')
 refine ob12 (got_at C.h3 C.h2 (show 8 ≤ 100 by omega) 3 rfl) fun r hr er => ?_
 have C1 := C.setC
 obtain ⟨tp, rg, pr, hiE, pi, p, kk, p1, p2, hs9, hhi⟩ := s9_is
 have ln : ((List.range (1 + r)).map fun i => AV.int (.ofNat i)).length = 1 + r := by simp
 obtain ⟨fr', H', et, z⟩ := turns_ok ((List.range (1 + r)).map fun i => AV.int (.ofNat i)) (fr := frK (.str sB) (keyI sB 1) (.int t)) (tp := tp) C1 ⟨rfl, rfl, rfl, rfl, rfl⟩ rfl (by
  intro q; induction q <;> first | exact m1 | exact m2 | exact m3 | exact m4 | exact m5 | exact m6 | exact (by repeat (first | exact List.Mem.head _ | apply List.Mem.tail))) (by rw [ln]; show 8 + 1 + _ ≤ _; omega) (by rw [ln]; show 0 + _ ≤ _; omega) (by rw [ln]; show 0 + _ ≤ _; omega)
 have a9 : exs tb 400 170 (frK (.str sB) (keyI sB 1) (.int t)) (hp x0 x1 (xInts xs) 8 (nmG va vb) arB (kindsD k k') (bkG va i0 i1 vb j0 j1) (rsF i0 i1 j0 j1 ++ [.dict (kindsD k k'), LK, LK])) s9 = .ok (.ret (.bool true), fr') H' := by
  rw [hs9]
  have et' := et (398 - (1 + r) - 250) 69
  rw [ln, show 398 - (1 + r) - 250 + (1 + r) + 250 = 398 by omega] at et'
  exact exs_cons (ex_forR (hhi _ _ _ r rfl er hr 338 162) (by rcases r with _ | _ | _ | _ | r <;> first | rfl | omega) et') (exs_ret (ex_ret ev_c))
 refine ⟨H', ?_, z⟩
 have E : exs tb 409 170 [(188, .obj 0)] [x0] cx63.body = .ok (.ret (.bool true), fr') H' := by
  rw [body_is]
  have s8 := exs_app a9 [st8] 401 _ _ rfl (exs_cons a8 exs_nil)
  have s4 := exs_app s8 s47 405 _ _ rfl a4
  have s3 := exs_app s4 [st3] 406 _ _ rfl (exs_cons a3 exs_nil)
  have s2 := exs_app s3 s23 408 _ _ rfl a1
  exact exs_app s2 [st0] 409 _ _ rfl (exs_cons a0 exs_nil)
 exact call_f rfl rfl (by show fin (exs tb 409 170 [(188, .obj 0)] [x0] cx63.body) = _; rw [E]; rfl)
end Mine.Lw
end
section
open PySem PySem.W PyProof.Rows PySem.Calls PySem.Spec
namespace Mine
theorem ns40 (P : Params) : nsOkIn (kL P kA) 40 = true := by kernel_rfl
section
variable {w : World} {h₁ : Heap} {sc : Addr} {xs : Array Value} {ep : Nat}
theorem ns_base (Y : Yh w h₁) (hs : h₁.get? sc = some { cls := .type "list", data := .seq xs ep }) {N : Addr} {m : Str → Option Value} (hN : N ∈ kA) (hn : h₁.Ns N m) : (bs h₁ sc).Ns N m := by
 refine ob33 hn fun o es e g d r => ?_
 have g2 := Y _ _ (kIn w.params kA (kAll w.params) N _ (kL_look w.params hN))
 rw [g] at g2
 have := kinB Y hs N _ (kL_look w.params hN)
 rw [← Option.some.inj g2] at this
 exact ⟨o, es, e, this, d, r⟩
theorem lookA_mem2 {α : Type} {l : List (Nat × α)} {x : Nat} {v : α} (h : lookA l x = some v) : (x, v) ∈ l := lookA_memG h
theorem intOf_eq {v : Value} {i : Int} (h : intOf v = some i) : ∃ t, v = .int i t := by
 cases v <;> first | contradiction | (injection h with h; subst h; exact ⟨_, rfl⟩)
theorem intA_eq {v : AV} {i : Int} (h : intA v = some i) : v = .int i := by
 cases v <;> first | contradiction | (injection h with h; subst h; rfl)
theorem seqOf_eq {d : Data} {p : Array Value × Nat} (h : seqOf d = some p) : d = .seq p.1 p.2 := by
 cases d <;> first | contradiction | (injection h with h; subst h; rfl)
theorem ints_vr {h : Heap} {M : Mp} {n : Nat} : ∀ {l : List AV} {vs : List Value}, vs.map intOf = l.map intA → (l.map intA).all Option.isSome = true → VRs h M n l vs := by
 intro L
 induction L with
 | nil =>
  intro vs e _
  induction vs using List.casesOn with
  | nil => rfl
  | cons _ _ => contradiction
 | cons a l ih =>
  intro vs e q
  induction vs using List.casesOn with
  | nil => contradiction
  | cons v vs =>
  injection e with e1 e2
  have q1 : (intA a).isSome = true := and1 q
  cases e3 : intA a with
  | none => rw [e3] at q1; contradiction
  | some i =>
   rw [e3] at e1
   obtain ⟨t, e1⟩ := intOf_eq e1
   subst e1
   rw [intA_eq e3]
   exact ⟨_, _, rfl, ⟨t, rfl⟩, ih e2 (and2 q)⟩
inductive TupO (q : Option Obj) (l : List AV) (a : Addr) : Prop
 | mk (c : Option Addr) (xs : Array Value) (ep : Nat) (sl : Array (Option Value)) : q = some ⟨.type "tuple", c, .seq xs ep, sl⟩ → a < 874 → xs.toList.map intOf = l.map intA → (l.map intA).all Option.isSome = true → TupO q l a
theorem tupO_of {q : Option Obj} {l : List AV} {a : Addr} (h : tupO q l a = true) : TupO q l a := by
 cases q with
 | none => contradiction
 | some o =>
  obtain ⟨c, dd, dt, sl⟩ := o
  have h3 := and2 (and2 h)
  cases hd : seqOf dt with
  | none => rw [show seqOf (Obj.data ⟨c, dd, dt, sl⟩) = none from hd] at h3; contradiction
  | some p =>
   rw [show seqOf (Obj.data ⟨c, dd, dt, sl⟩) = some p from hd] at h3
   exact ⟨dd, p.1, p.2, sl, by rw [seqOf_eq hd]; exact congrArg (fun c => some (Obj.mk c _ _ _)) (eq_of_beq (and1 h)), Nat.le_of_ble_eq_true (and1 (and2 h)), eq_of_beq (and1 h3), and2 (and2 h3)⟩
theorem tup_vr (Y : Yh w h₁) (hs : h₁.get? sc = some { cls := .type "list", data := .seq xs ep }) {l : List AV} {a : Addr} (h : tupIs w.params l a = true) (M : Mp) : TupR (bs h₁ sc) (VRs (bs h₁ sc) M 0 l) (.ref a) := by
 obtain ⟨c, ys, n, sl, hg, lt, e1, e2⟩ := tupO_of h
 refine ⟨a, _, ys, n, rfl, base_get Y hs lt hg rfl ?_ (by intro e; injection e with e; exact absurd e (by decide)), rfl, rfl, ints_vr e1 e2⟩
 intro e; subst e; rw [lawTabAt] at hg; cases hg
theorem val_vr (Y : Yh w h₁) (hs : h₁.get? sc = some { cls := .type "list", data := .seq xs ep }) {v : AV} {u : Value} (h : valIs w.params v u = true) (M : Mp) : VR (bs h₁ sc) M 0 v u := by
 induction v using AV.casesOn with
 | fn a => exact eq_of_beq h
 | bi k => exact eq_of_beq h
 | int i => exact intOf_eq (eq_of_beq h)
 | str l =>
  delta valIs at h
  dsimp only at h
  induction u using Value.casesOn with
  | str t q => exact ⟨Nat.le_of_ble_eq_true (and1 h), _, by rw [eq_of_beq (and2 h)]⟩
  | _ => contradiction
 | tup l =>
  delta valIs at h
  dsimp only at h
  induction u using Value.casesOn with
  | ref a => exact tup_vr Y hs h M
  | _ => contradiction
 | _ => contradiction
theorem globB (Y : Yh w h₁) (hs : h₁.get? sc = some { cls := .type "list", data := .seq xs ep }) {mg mb : Str → Option Value} (g1 : (bs h₁ sc).Ns mainGlobals mg) (g2 : (bs h₁ sc).Ns builtinsNs mb) :
 ∀ x v,  tb.glob x = some v → GlobV (bs h₁ sc) mg mb x v := by
 intro x v h
 have hm := lookA_mem2 (l := glL) h
 have f := List.all_eq_true.mp (globFacts w.params) _ hm
 dsimp only at f
 induction hg : globAt w.params x using Option.casesOn with
 | none => rw [hg] at f; injection f
 | some u =>
  rw [hg] at f
  refine ⟨u, fun M => val_vr Y hs f M, ?_⟩
  unfold globAt at hg
  split at hg
  · rename_i u' e
    injection hg with hg; subst hg
    exact .inl (mg_of (kinB Y hs) g1 e)
  · rename_i e
    split at hg
    · rename_i u' e2
      injection hg with hg; subst hg
      exact .inr ⟨mg_none_of (kinB Y hs) g1 e, ns_some_of (kinB Y hs) g2 e2⟩
    · injection hg
  · injection hg
theorem baseAll (Y : Yh w h₁) (hs : h₁.get? sc = some { cls := .type "list", data := .seq xs ep }) {mg mb : Str → Option Value} (hg : h₁.Ns mainGlobals mg) (hb : h₁.Ns builtinsNs mb) (hl : h₁.NoLimit) :
 BaseOk w (bs h₁ sc) (kL w.params kA) ∧ BaseF w (bs h₁ sc) (kL w.params kA) ∧ BaseX w (bs h₁ sc) (kL w.params kA) ∧ BaseL w (bs h₁ sc) (kL w.params kA) := by
 have g1 := ns_base Y hs (mem_kA (by kernel_rfl)) hg
 have g2 := ns_base Y hs (mem_kA (by kernel_rfl)) hb
 refine ⟨baseOk (kinB Y hs) ?_ ?_ ⟨mg, mb, g1, g2, globB Y hs g1 g2⟩, baseF Y hs, baseX Y hs hg hb g1 g2 ⟨_, .of_isNs (isNs_of_in (kinB Y hs) (ns40 w.params))⟩, baseL Y hs g1⟩
 · have f := f1 w.params
   induction hg1 : (s17 w.params).fin.get 1 using Option.casesOn with
   | none => rw [hg1] at f; injection f
   | some o =>
    rw [hg1] at f
    simp only [Option.any_some, Bool.and_eq_true, beq_iff_eq, Bool.not_eq_true'] at f
    refine ⟨o, base_get Y hs (by decide) hg1 ?_ (by decide) (by rw [f.1]; intro e; injection e with e; exact absurd e (by decide))⟩
    obtain ⟨c, dd, dt, sl⟩ := o
    cases dt <;> first | rfl | (cases f.2)
 · refine ob12 hl fun mc n e => ?_
   exact ⟨mc, ns_base Y hs (mem_kA (by kernel_rfl)) n, e⟩
theorem vrs_ints (h : Heap) (M : Mp) (n : Nat) : ∀ {vs : List Value} {ns : List Int}, IntsAre vs ns → VRs h M n (ns.map AV.int) vs := by
 intro vs ns x
 induction x with
 | nil => rfl
 | cons a t r ih => exact ⟨_, _, rfl, ⟨_, rfl⟩, ih⟩
end
theorem sitStart {w : World} {s₁ : Shared} {sc : Addr} {vs : List Value} {ns : List Int} (Y : ∀ b o, (H₁ w.params).get? b = some o → s₁.heap.get? b = some o) (hs : s₁.heap.get? sc = some { cls := .type "list", data := .seq vs.toArray }) (hI : IntsAre vs ns) (hl : ns.length ≤ 63) :
 SitC w (bs s₁.heap sc) callerA 171 [] ⟨fun _ => sc, fun _ => sc⟩ [.fix (ns.map .int) { cls := .type "list", data := .seq vs.toArray }] s₁ where
 aok := ⟨rfl, rfl, rfl, by decide, by decide⟩
 frs := trivial
 rel := {
  obj := fun i o e => by
   match i, e with
   | 0, e =>
    injection e with e; subst e
    exact ⟨hs, ⟨_, _, rfl, by rw [List.toList_toArray]; exact vrs_ints _ _ _ hI⟩, by simp; exact Nat.le_trans ‹_› (by decide), rfl⟩
  apart := fun i j hi hj ne => by
   have : i = j := by simp at hi hj; omega
   exact absurd this ne
  fresh := fun i hi => ⟨hideAll_none [lawTab, sc] (by simp), hideAll_none [lawTab, sc] (by simp)⟩
  tab := by
   have e1 : (H₁ w.params).get? lawTab = some (tabObj #[]) := by
    show (absHeap (s17 w.params).fin 874 {}).get? lawTab = _
    rw [abs_get (by decide) (lawTabAt w.params)]; rfl
   exact ⟨#[], Y _ _ e1, trivial, fun pos cv e => by injection e⟩ }
 stays := fun b o e => of_hideAll _ e
theorem oldEnd {w : World} {s₁ s' : Shared} {sc : Addr} {vs : List Value} {M M' : Mp} {H H' : AH} {l : List AV} (Y : ∀ b o, (H₁ w.params).get? b = some o → s₁.heap.get? b = some o) (hs : s₁.heap.get? sc = some { cls := .type "list", data := .seq vs.toArray })
 (g : Go w (bs s₁.heap sc) M H s₁ M' H' s') (hM : M.a 0 = sc) (h0 : 0 < H.length) (hf : nth H' 0 = some (.fix l { cls := .type "list", data := .seq vs.toArray })) : OldK s₁.heap s'.heap := by
 have e1 : (H₁ w.params).get? lawTab = some (tabObj #[]) := by
  show (absHeap (s17 w.params).fin 874 {}).get? lawTab = _
  rw [abs_get (by decide) (lawTabAt w.params)]; rfl
 have esc : s'.heap.get? sc = some { cls := .type "list", data := .seq vs.toArray } := by
  obtain ⟨q, _⟩ := g.rel.obj 0 _ hf
  rw [(g.ext 0 h0).1, hM] at q
  exact q
 refine ob12 g.rel.tab.tab fun ps et _ => ?_
 have key : ∀ b o, s₁.heap.get? b = some o → b = lawTab ∨ s'.heap.get? b = some o := fun b o e => by
  by_cases h1 : b = lawTab
  · exact .inl h1
  · by_cases h2 : b = sc
    · subst h2; rw [hs] at e; injection e with e; subst e; exact .inr esc
    · exact .inr (g.stays b o (hideAll_get _ e (by simp [h1, h2])))
 refine ⟨fun b o e => ?_, fun b o e => ?_⟩
 · rcases key b o e with rfl | q
   · rw [(Y _ _ e1)] at e; injection e with e; subst e
     exact .inr (.inl ⟨⟨872, _, _, (Y 872 _ (show (absHeap (s17 w.params).fin 874 {}).get? 872 = _ by rw [abs_get (by decide) (f872 w.params)]; rfl)), rfl, rfl, rfl⟩, rfl, #[], ps, rfl, by rw [et]; simp⟩)
   · exact .inl q
 · rcases key b o e with rfl | q
   · exact ⟨_, et⟩
   · exact ⟨_, q⟩
theorem wk : WalkO qv loose (fun _ _ => True) (fun w h => ∀ b o, (H₁ w.params).get? b = some o → h.get? b = some o) rw0.row.toRowW lawD [] (fun f vs => PySem.call f vs) := by
 intro w s₀ s₁ mg mb G Y fa o pm cd doc dV kV ho hd hcd hD hmg hg args vals as hpre hlay hrd hwl hlo
 wrow_args hpre hlay hrd hwl hlo
 rename_i ns _ _ _ _ _ _ _ sc vs _ hL _ w1 _ hI _ hle _
 have hlen : ns.length ≤ 63 := by omega
 obtain ⟨vs', hs, hv⟩ : ∃ vs' : List Value, s₁.heap.get? sc = some { cls := .type "list", data := .seq vs'.toArray } ∧ vs' = vs := by
  cases w1 with
  | list e _ =>
   refine ⟨_, e, ?_⟩
   obtain ⟨o', g1, g2, n, g3⟩ := hL
   rw [e] at g1
   injection g1 with g1; subst g1
   have := (Data.seq.inj g3).1
   simpa using congrArg Array.toList this
 subst hv
 refine ob04 (baseAll (w := w) Y hs G.T.g G.T.b G.T.nolimit) fun BO BF BX BL => ?_
 have kin := BO.kin
 have fa873 : fa = 873 := by
  have nf := nsFacts w.params
  simp only [Bool.and_eq_true, beq_iff_eq] at nf
  have e2 : mg ("law" : Str) = some (.ref fa) := hmg
  rw [(mg_of (kinB Y hs) (ns_base Y hs (mem_kA (by kernel_rfl)) G.T.g) nf.2)] at e2
  exact (Value.ref.inj (Option.some.inj e2)).symm
 subst fa873
 refine ob12 (Lw.law_ok ns { cls := .type "list", data := .seq vs'.toArray }) fun H' eL h0 => ?_
 refine wpAny_mono (((snd_all BO BF BX BL (hideAll_none [lawTab, sc] (by simp)) 411).1).callF eL (by intro e; contradiction) (sitStart Y hs hI hlen) (u := .ref 873) (us := [.ref sc]) rfl ⟨_, _, rfl, ⟨Nat.zero_lt_one, rfl⟩, rfl⟩) (fun v s' q => ?_) fun e s' q => ?_
 · obtain ⟨av, H'', M', e, g, hv⟩ := q
   cases e
   have hv : v = .bool true := hv
   subst hv
   refine ⟨.inl ⟨_, _, [], rfl, fun _ => rfl, ReadsW.bool true, ?_, fun _ => ⟨List.nodup_nil, fun _ hm => (nomatch hm)⟩⟩, oldEnd Y hs g rfl Nat.zero_lt_one h0, g.same.o, .of_eq (g.same.g.trans hg)⟩
   first | rfl | wrow_post
 · obtain ⟨c, H'', M', e, _⟩ := q
   contradiction
end Mine
end
theorem PySem.Challenge.cw_rr0005_01_holds : PySem.Challenge.rw_rr0005_01.Holds :=
 Mine.head Mine.wk
