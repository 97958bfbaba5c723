import PyProof.Rows.All
import Wide.All
import OpenK.AllK
import Wide.FinOn
import PySem.Challenge.RW_np0299_01
open PySem PySem.W PyProof.Rows PySem.Calls
set_option Elab.async false
set_option linter.unusedVariables false
set_option maxRecDepth 100000
namespace Np

noncomputable section
noncomputable def nth : List Stmt → Nat → Stmt
  | [], _ => .Pass default
  | s :: _, 0 => s
  | _ :: r, n + 1 => nth r n
noncomputable def mth : Stmt → Nat → Stmt
  | .ClassDef _ _ _ b _ _ _ _ _ _ _, i => nth b i
  | s, _ => s
noncomputable def pars : Stmt → Arguments
  | .FunctionDef _ a _ _ _ _ _ _ _ _ => a
  | _ => default
noncomputable def bod : Stmt → List Stmt
  | .FunctionDef _ _ b _ _ _ _ _ _ _ => b
  | _ => []
noncomputable def scp : Stmt → Scope
  | .FunctionDef _ _ _ _ _ _ s _ _ _ => s
  | _ => default
noncomputable def body0 : List Stmt := PySem.Challenge.pw_np0299_01.main.body

noncomputable def st31 : Stmt := mth (nth body0 1) 0
noncomputable def st51 : Stmt := mth (nth body0 2) 0
noncomputable def st72 : Stmt := mth (nth body0 3) 0
noncomputable def st93 : Stmt := mth (nth body0 4) 0
noncomputable def st114 : Stmt := mth (nth body0 5) 0
noncomputable def st135 : Stmt := mth (nth body0 6) 0
noncomputable def st149 : Stmt := nth body0 7
noncomputable def st156 : Stmt := nth body0 8
noncomputable def st163 : Stmt := nth body0 9
noncomputable def st170 : Stmt := nth body0 10
noncomputable def st177 : Stmt := nth body0 11
noncomputable def st184 : Stmt := nth body0 12
noncomputable def st191 : Stmt := nth body0 13
noncomputable def st198 : Stmt := nth body0 14
noncomputable def st205 : Stmt := nth body0 15
noncomputable def st212 : Stmt := nth body0 16
noncomputable def st219 : Stmt := nth body0 17
noncomputable def st233 : Stmt := mth (nth body0 19) 0
noncomputable def st252 : Stmt := mth (nth body0 20) 0
noncomputable def st264 : Stmt := nth body0 21
noncomputable def st271 : Stmt := nth body0 22
noncomputable def st278 : Stmt := nth body0 23
noncomputable def st285 : Stmt := nth body0 24
noncomputable def st292 : Stmt := nth body0 25
noncomputable def st299 : Stmt := nth body0 26
noncomputable def st304 : Stmt := nth body0 27
noncomputable def st311 : Stmt := nth body0 28
noncomputable def st318 : Stmt := nth body0 29
noncomputable def st325 : Stmt := nth body0 30
noncomputable def st330 : Stmt := nth body0 31
noncomputable def st335 : Stmt := nth body0 32
noncomputable def st340 : Stmt := nth body0 33
noncomputable def st345 : Stmt := nth body0 34
noncomputable def st352 : Stmt := nth body0 35
noncomputable def st359 : Stmt := nth body0 37
noncomputable def st364 : Stmt := nth body0 38
noncomputable def st371 : Stmt := nth body0 39
noncomputable def st378 : Stmt := nth body0 40
noncomputable def st383 : Stmt := nth body0 41
noncomputable def st388 : Stmt := nth body0 42
noncomputable def st393 : Stmt := nth body0 43
noncomputable def st398 : Stmt := nth body0 44
noncomputable abbrev en (P : Params) (s : Str) (t : Nat) (v : Value) : DictEntry := ⟨PyData.keyHash P s, .str s t, v⟩
noncomputable def tyO (c : String) (d : Data) : Obj := ⟨.type c, none, d, #[]⟩
noncomputable def tuO (a : Array Value) : Obj := tyO "tuple" (.seq a 0)
noncomputable def suO (a : Addr) : Obj := tyO "super" (.fields #[.ref a, .ref a, .ref a])
noncomputable def frO (c n : Addr) (s : Str) (t : Nat) : Obj := ⟨.type "frame", none, .plain, #[some (.ref c), some (.ref 3), some (.ref n), none, some (.str s t), none, some (.ref 0)]⟩
noncomputable def cdG (s q : Str) (n : Nat) (line k f : Int) (a : Addr) (b : Bool) (c : Addr) (x y z w : Value) (h : Nat) : Obj := tyO "code" (.fields #[.str s n, .str q (n + 1), .str "/claim/cut.py" (n + 2), .int line 0, .int k 0, .int 0 0, .int 0 0, .int f 0, .ref a, .bool b, .int 181 0, .ref c, x, y, z, w, .int h 0, .int line 0, .str "/claim/cut.py" (h + 1)])
noncomputable def cdC (s : Str) (n : Nat) (line : Int) (a c : Addr) (h : Nat) : Obj := cdG s s n line 0 0 a false c .none .none .none .none h
noncomputable def cdF (s q : Str) (n : Nat) (line k f : Int) (a : Addr) (b : Bool) (c r : Addr) (h : Nat) : Obj := cdG s q n line k f a b c .none (.ref r) (.ref (r + 1)) (.ref (r + 2)) h
noncomputable def cdN (s q : Str) (n : Nat) (line k f : Int) (a : Addr) (b : Bool) (c r : Addr) (h : Nat) : Obj := cdG s q n line k f a b c .none .none .none (.ref r) h
noncomputable def ob2 (P : Params) : Obj := ⟨.none, none, (.dict #[en P "type.__subclasses__.Exception.0" 219 (.int 34 0), en P "type.__subclasses__.Exception.n" 220 (.int 1 0)] 2), #[]⟩
noncomputable def ob3 (P : Params) : Obj := tyO "dict" (.dict #[en P "__name__" 165 (.str "law_np0299_01" 650), en P "__doc__" 166 .none, en P "__package__" 167 .none, en P "__loader__" 168 (.builtin "__main__.__loader__#opaque"), en P "__spec__" 169 .none, en P "__annotations__" 170 (.ref 6), en P "__builtins__" 171 (.ref 4), en P "__file__" 173 (.str "/claim/cut.py" 172), en P "__cached__" 174 .none, en P "SnobolError" 222 (.ref 34), en P "Pattern" 251 (.ref 54), en P "Delayed" 280 (.ref 75), en P "Code" 309 (.ref 96), en P "NameRef" 342 (.ref 117), en P "Holder" 374 (.ref 138), en P "kind_of" 381 (.ref 149), en P "is_null" 388 (.ref 156), en P "is_plain" 395 (.ref 163), en P "fits" 403 (.ref 170), en P "whole_of_text" 414 (.ref 177), en P "text_of_whole" 423 (.ref 184), en P "to_whole" 431 (.ref 191), en P "need_whole" 440 (.ref 198), en P "same_ref" 448 (.ref 205), en P "same_value" 456 (.ref 212), en P "table_key" 464 (.ref 219), en P "Array" 496 (.ref 236), en P "Table" 521 (.ref 255), en P "whole_in" 530 (.ref 264), en P "read_bounds" 543 (.ref 271), en P "size_of_bounds" 553 (.ref 278), en P "array_place" 565 (.ref 285), en P "places_of" 576 (.ref 292), en P "table_entry" 585 (.ref 299), en P "item_ref" 591 (.ref 304), en P "slot_get" 598 (.ref 311), en P "slot_set" 606 (.ref 318), en P "prototype_of" 613 (.ref 325), en P "entries_of" 619 (.ref 330), en P "table_to_array" 625 (.ref 335), en P "rows_array" 631 (.ref 340), en P "rows_of" 637 (.ref 345), en P "array_to_table" 649 (.ref 352), en P "_law_take" 659 (.ref 359), en P "_law_box" 665 (.ref 364), en P "_law_error" 673 (.ref 371), en P "_law_bounds" 685 (.ref 378), en P "_law_every" 691 (.ref 383), en P "_law_array_right" 697 (.ref 388), en P "_law_table_right" 703 (.ref 393), en P "law" 709 (.ref 398)] 51)
noncomputable def ob15 (P : Params) : Obj := tuO #[(.type "Exception")]
noncomputable def ob18 (P : Params) : Obj := ⟨(.type "cell"), none, (.cell (some (.ref 34))), #[]⟩
noncomputable def ob23 (P : Params) : Obj := tuO #[(.str "" 201)]
noncomputable def ob24 (P : Params) : Obj := tuO #[(.ref 18)]
noncomputable def ob25 (P : Params) : Obj := tuO #[(.str "__class__" 205)]
noncomputable def ob27 (P : Params) : Obj := tuO #[(.str "self" 206), (.str "number" 207), (.str "told" 208)]
noncomputable def ob28 (P : Params) : Obj := tuO #[]
noncomputable def ob30 (P : Params) : Obj := cdF "__init__" "SnobolError.__init__" 202 4 3 3 25 true 26 27 209
noncomputable def fd31 : FuncData := ⟨"__init__", "SnobolError.__init__", pars st31, .stmts (bod st31), scp st31, 3, [("__class__", 18)], (.ref 23), .none, .none, (.str "snobol.values" 187), none, (.ref 30), (.ref 24), 0⟩
noncomputable def ob31 (P : Params) : Obj := ⟨(.type "function"), none, (.func fd31), #[]⟩
noncomputable def ob32 (P : Params) : Obj := tuO #[(.str "number" 212), (.str "told" 213)]
noncomputable def ob33 (P : Params) : Obj := tyO "dict" (.dict #[en P "__module__" 196 (.str "snobol.values" 187), en P "__firstlineno__" 200 (.int 2 199), en P "__init__" 211 (.ref 31), en P "__static_attributes__" 214 (.ref 32), en P "__weakref__" 217 (.ref 35), en P "__doc__" 218 .none] 4)
noncomputable def ob34 (P : Params) : Obj := ⟨(.type "type"), none, (.cls ⟨"SnobolError", [(.type "Exception")], [(.ref 34), (.type "Exception"), (.type "BaseException"), (.type "object")], 33, "SnobolError", true, [], [], false, none, false⟩), #[(some (.ref 15)), none, (some (.str "SnobolError" 189)), (some (.str "SnobolError" 197)), (some (.builtin "Exception.__new__")), (some (.bool true))]⟩
noncomputable def ob35 (P : Params) : Obj := tyO "getset_descriptor" (.fields #[(.str "__weakref__" 216), (.ref 34), (.builtin "ExceptionGroup.__weakref__"), .none])
noncomputable def ob45 (P : Params) : Obj := tuO #[]
noncomputable def ob47 (P : Params) : Obj := tuO #[(.str "self" 238), (.str "node" 239)]
noncomputable def ob48 (P : Params) : Obj := tuO #[]
noncomputable def ob50 (P : Params) : Obj := cdF "__init__" "Pattern.__init__" 235 10 2 3 45 true 46 47 240
noncomputable def fd51 : FuncData := ⟨"__init__", "Pattern.__init__", pars st51, .stmts (bod st51), scp st51, 3, [], .none, .none, .none, (.str "snobol.values" 187), none, (.ref 50), .none, 0⟩
noncomputable def ob51 (P : Params) : Obj := ⟨(.type "function"), none, (.func fd51), #[]⟩
noncomputable def ob52 (P : Params) : Obj := tuO #[(.str "node" 243)]
noncomputable def ob53 (P : Params) : Obj := tyO "dict" (.dict #[en P "__module__" 230 (.str "snobol.values" 187), en P "__firstlineno__" 234 (.int 8 233), en P "__init__" 242 (.ref 51), en P "__static_attributes__" 244 (.ref 52), en P "__dict__" 246 (.ref 55), en P "__weakref__" 248 (.ref 56), en P "__doc__" 249 .none] 4)
noncomputable def ob54 (P : Params) : Obj := ⟨(.type "type"), none, (.cls ⟨"Pattern", [(.type "object")], [(.ref 54), (.type "object")], 53, "Pattern", true, [], [], false, none, false⟩), #[none, none, (some (.str "Pattern" 223)), (some (.str "Pattern" 231)), (some (.builtin "object.__new__")), (some (.bool true))]⟩
noncomputable def ob55 (P : Params) : Obj := tyO "getset_descriptor" (.fields #[(.str "__dict__" 245), (.ref 54), (.builtin "function.__dict__"), (.builtin "function.__dict__#set")])
noncomputable def ob56 (P : Params) : Obj := tyO "getset_descriptor" (.fields #[(.str "__weakref__" 247), (.ref 54), (.builtin "ExceptionGroup.__weakref__"), .none])
noncomputable def ob66 (P : Params) : Obj := tuO #[]
noncomputable def ob68 (P : Params) : Obj := tuO #[(.str "self" 267), (.str "tree" 268)]
noncomputable def ob69 (P : Params) : Obj := tuO #[]
noncomputable def ob71 (P : Params) : Obj := cdF "__init__" "Delayed.__init__" 264 14 2 3 66 true 67 68 269
noncomputable def fd72 : FuncData := ⟨"__init__", "Delayed.__init__", pars st72, .stmts (bod st72), scp st72, 3, [], .none, .none, .none, (.str "snobol.values" 187), none, (.ref 71), .none, 0⟩
noncomputable def ob72 (P : Params) : Obj := ⟨(.type "function"), none, (.func fd72), #[]⟩
noncomputable def ob73 (P : Params) : Obj := tuO #[(.str "tree" 272)]
noncomputable def ob74 (P : Params) : Obj := tyO "dict" (.dict #[en P "__module__" 259 (.str "snobol.values" 187), en P "__firstlineno__" 263 (.int 12 262), en P "__init__" 271 (.ref 72), en P "__static_attributes__" 273 (.ref 73), en P "__dict__" 275 (.ref 76), en P "__weakref__" 277 (.ref 77), en P "__doc__" 278 .none] 4)
noncomputable def ob75 (P : Params) : Obj := ⟨(.type "type"), none, (.cls ⟨"Delayed", [(.type "object")], [(.ref 75), (.type "object")], 74, "Delayed", true, [], [], false, none, false⟩), #[none, none, (some (.str "Delayed" 252)), (some (.str "Delayed" 260)), (some (.builtin "object.__new__")), (some (.bool true))]⟩
noncomputable def ob76 (P : Params) : Obj := tyO "getset_descriptor" (.fields #[(.str "__dict__" 274), (.ref 75), (.builtin "function.__dict__"), (.builtin "function.__dict__#set")])
noncomputable def ob77 (P : Params) : Obj := tyO "getset_descriptor" (.fields #[(.str "__weakref__" 276), (.ref 75), (.builtin "ExceptionGroup.__weakref__"), .none])
noncomputable def ob87 (P : Params) : Obj := tuO #[]
noncomputable def ob89 (P : Params) : Obj := tuO #[(.str "self" 296), (.str "begin" 297)]
noncomputable def ob90 (P : Params) : Obj := tuO #[]
noncomputable def ob92 (P : Params) : Obj := cdF "__init__" "Code.__init__" 293 18 2 3 87 true 88 89 298
noncomputable def fd93 : FuncData := ⟨"__init__", "Code.__init__", pars st93, .stmts (bod st93), scp st93, 3, [], .none, .none, .none, (.str "snobol.values" 187), none, (.ref 92), .none, 0⟩
noncomputable def ob93 (P : Params) : Obj := ⟨(.type "function"), none, (.func fd93), #[]⟩
noncomputable def ob94 (P : Params) : Obj := tuO #[(.str "begin" 301)]
noncomputable def ob95 (P : Params) : Obj := tyO "dict" (.dict #[en P "__module__" 288 (.str "snobol.values" 187), en P "__firstlineno__" 292 (.int 16 291), en P "__init__" 300 (.ref 93), en P "__static_attributes__" 302 (.ref 94), en P "__dict__" 304 (.ref 97), en P "__weakref__" 306 (.ref 98), en P "__doc__" 307 .none] 4)
noncomputable def ob96 (P : Params) : Obj := ⟨(.type "type"), none, (.cls ⟨"Code", [(.type "object")], [(.ref 96), (.type "object")], 95, "Code", true, [], [], false, none, false⟩), #[none, none, (some (.str "Code" 281)), (some (.str "Code" 289)), (some (.builtin "object.__new__")), (some (.bool true))]⟩
noncomputable def ob97 (P : Params) : Obj := tyO "getset_descriptor" (.fields #[(.str "__dict__" 303), (.ref 96), (.builtin "function.__dict__"), (.builtin "function.__dict__#set")])
noncomputable def ob98 (P : Params) : Obj := tyO "getset_descriptor" (.fields #[(.str "__weakref__" 305), (.ref 96), (.builtin "ExceptionGroup.__weakref__"), .none])
noncomputable def ob108 (P : Params) : Obj := tuO #[]
noncomputable def ob110 (P : Params) : Obj := tuO #[(.str "self" 325), (.str "kind" 326), (.str "owner" 327), (.str "key" 328)]
noncomputable def ob111 (P : Params) : Obj := tuO #[]
noncomputable def ob113 (P : Params) : Obj := cdF "__init__" "NameRef.__init__" 322 22 4 3 108 true 109 110 329
noncomputable def fd114 : FuncData := ⟨"__init__", "NameRef.__init__", pars st114, .stmts (bod st114), scp st114, 3, [], .none, .none, .none, (.str "snobol.values" 187), none, (.ref 113), .none, 0⟩
noncomputable def ob114 (P : Params) : Obj := ⟨(.type "function"), none, (.func fd114), #[]⟩
noncomputable def ob115 (P : Params) : Obj := tuO #[(.str "key" 332), (.str "kind" 333), (.str "owner" 334)]
noncomputable def ob116 (P : Params) : Obj := tyO "dict" (.dict #[en P "__module__" 317 (.str "snobol.values" 187), en P "__firstlineno__" 321 (.int 20 320), en P "__init__" 331 (.ref 114), en P "__static_attributes__" 335 (.ref 115), en P "__dict__" 337 (.ref 118), en P "__weakref__" 339 (.ref 119), en P "__doc__" 340 .none] 4)
noncomputable def ob117 (P : Params) : Obj := ⟨(.type "type"), none, (.cls ⟨"NameRef", [(.type "object")], [(.ref 117), (.type "object")], 116, "NameRef", true, [], [], false, none, false⟩), #[none, none, (some (.str "NameRef" 310)), (some (.str "NameRef" 318)), (some (.builtin "object.__new__")), (some (.bool true))]⟩
noncomputable def ob118 (P : Params) : Obj := tyO "getset_descriptor" (.fields #[(.str "__dict__" 336), (.ref 117), (.builtin "function.__dict__"), (.builtin "function.__dict__#set")])
noncomputable def ob119 (P : Params) : Obj := tyO "getset_descriptor" (.fields #[(.str "__weakref__" 338), (.ref 117), (.builtin "ExceptionGroup.__weakref__"), .none])
noncomputable def ob129 (P : Params) : Obj := tuO #[]
noncomputable def ob131 (P : Params) : Obj := tuO #[(.str "self" 358), (.str "word" 359), (.str "number" 360)]
noncomputable def ob132 (P : Params) : Obj := tuO #[]
noncomputable def ob134 (P : Params) : Obj := cdF "__init__" "Holder.__init__" 355 28 3 3 129 true 130 131 361
noncomputable def fd135 : FuncData := ⟨"__init__", "Holder.__init__", pars st135, .stmts (bod st135), scp st135, 3, [], .none, .none, .none, (.str "snobol.values" 187), none, (.ref 134), .none, 0⟩
noncomputable def ob135 (P : Params) : Obj := ⟨(.type "function"), none, (.func fd135), #[]⟩
noncomputable def ob136 (P : Params) : Obj := tuO #[(.str "mark" 364), (.str "number" 365), (.str "word" 366)]
noncomputable def ob137 (P : Params) : Obj := tyO "dict" (.dict #[en P "__module__" 350 (.str "snobol.values" 187), en P "__firstlineno__" 354 (.int 26 353), en P "__init__" 363 (.ref 135), en P "__static_attributes__" 367 (.ref 136), en P "__dict__" 369 (.ref 139), en P "__weakref__" 371 (.ref 140), en P "__doc__" 372 .none] 4)
noncomputable def ob138 (P : Params) : Obj := ⟨(.type "type"), none, (.cls ⟨"Holder", [(.type "object")], [(.ref 138), (.type "object")], 137, "Holder", true, [], [(.ref 236), (.ref 255)], false, none, false⟩), #[none, none, (some (.str "Holder" 343)), (some (.str "Holder" 351)), (some (.builtin "object.__new__")), (some (.bool true))]⟩
noncomputable def ob139 (P : Params) : Obj := tyO "getset_descriptor" (.fields #[(.str "__dict__" 368), (.ref 138), (.builtin "function.__dict__"), (.builtin "function.__dict__#set")])
noncomputable def ob140 (P : Params) : Obj := tyO "getset_descriptor" (.fields #[(.str "__weakref__" 370), (.ref 138), (.builtin "ExceptionGroup.__weakref__"), .none])
noncomputable def ob143 (P : Params) : Obj := tuO #[]
noncomputable def ob145 (P : Params) : Obj := tuO #[(.str "value" 378)]
noncomputable def ob146 (P : Params) : Obj := tuO #[]
noncomputable def ob148 (P : Params) : Obj := cdF "kind_of" "kind_of" 375 32 1 3 143 true 144 145 379
noncomputable def fd149 : FuncData := ⟨"kind_of", "kind_of", pars st149, .stmts (bod st149), scp st149, 3, [], .none, .none, .none, (.str "snobol.values" 187), none, (.ref 148), .none, 0⟩
noncomputable def ob149 (P : Params) : Obj := ⟨(.type "function"), none, (.func fd149), #[]⟩
noncomputable def ob150 (P : Params) : Obj := tuO #[]
noncomputable def ob152 (P : Params) : Obj := tuO #[(.str "value" 385)]
noncomputable def ob153 (P : Params) : Obj := tuO #[]
noncomputable def ob155 (P : Params) : Obj := cdF "is_null" "is_null" 382 46 1 3 150 true 151 152 386
noncomputable def fd156 : FuncData := ⟨"is_null", "is_null", pars st156, .stmts (bod st156), scp st156, 3, [], .none, .none, .none, (.str "snobol.values" 187), none, (.ref 155), .none, 0⟩
noncomputable def ob156 (P : Params) : Obj := ⟨(.type "function"), none, (.func fd156), #[]⟩
noncomputable def ob157 (P : Params) : Obj := tuO #[]
noncomputable def ob159 (P : Params) : Obj := tuO #[(.str "value" 392)]
noncomputable def ob160 (P : Params) : Obj := tuO #[]
noncomputable def ob162 (P : Params) : Obj := cdF "is_plain" "is_plain" 389 48 1 3 157 true 158 159 393
noncomputable def fd163 : FuncData := ⟨"is_plain", "is_plain", pars st163, .stmts (bod st163), scp st163, 3, [], .none, .none, .none, (.str "snobol.values" 187), none, (.ref 162), .none, 0⟩
noncomputable def ob163 (P : Params) : Obj := ⟨(.type "function"), none, (.func fd163), #[]⟩
noncomputable def ob164 (P : Params) : Obj := tuO #[]
noncomputable def ob166 (P : Params) : Obj := tuO #[(.str "number" 399), (.str "width" 400)]
noncomputable def ob167 (P : Params) : Obj := tuO #[]
noncomputable def ob169 (P : Params) : Obj := cdF "fits" "fits" 396 50 2 3 164 true 165 166 401
noncomputable def fd170 : FuncData := ⟨"fits", "fits", pars st170, .stmts (bod st170), scp st170, 3, [], .none, .none, .none, (.str "snobol.values" 187), none, (.ref 169), .none, 0⟩
noncomputable def ob170 (P : Params) : Obj := ⟨(.type "function"), none, (.func fd170), #[]⟩
noncomputable def ob171 (P : Params) : Obj := tuO #[]
noncomputable def ob173 (P : Params) : Obj := tuO #[(.str "text" 407), (.str "width" 408), (.str "digits" 409), (.str "number" 410), (.str "sign" 411)]
noncomputable def ob174 (P : Params) : Obj := tuO #[]
noncomputable def ob176 (P : Params) : Obj := cdF "whole_of_text" "whole_of_text" 404 52 2 3 171 true 172 173 412
noncomputable def fd177 : FuncData := ⟨"whole_of_text", "whole_of_text", pars st177, .stmts (bod st177), scp st177, 3, [], .none, .none, .none, (.str "snobol.values" 187), none, (.ref 176), .none, 0⟩
noncomputable def ob177 (P : Params) : Obj := ⟨(.type "function"), none, (.func fd177), #[]⟩
noncomputable def ob178 (P : Params) : Obj := tuO #[]
noncomputable def ob180 (P : Params) : Obj := tuO #[(.str "number" 418), (.str "left" 419), (.str "found" 420)]
noncomputable def ob181 (P : Params) : Obj := tuO #[]
noncomputable def ob183 (P : Params) : Obj := cdF "text_of_whole" "text_of_whole" 415 65 1 3 178 true 179 180 421
noncomputable def fd184 : FuncData := ⟨"text_of_whole", "text_of_whole", pars st184, .stmts (bod st184), scp st184, 3, [], .none, .none, .none, (.str "snobol.values" 187), none, (.ref 183), .none, 0⟩
noncomputable def ob184 (P : Params) : Obj := ⟨(.type "function"), none, (.func fd184), #[]⟩
noncomputable def ob185 (P : Params) : Obj := tuO #[]
noncomputable def ob187 (P : Params) : Obj := tuO #[(.str "value" 427), (.str "width" 428)]
noncomputable def ob188 (P : Params) : Obj := tuO #[]
noncomputable def ob190 (P : Params) : Obj := cdF "to_whole" "to_whole" 424 71 2 3 185 true 186 187 429
noncomputable def fd191 : FuncData := ⟨"to_whole", "to_whole", pars st191, .stmts (bod st191), scp st191, 3, [], .none, .none, .none, (.str "snobol.values" 187), none, (.ref 190), .none, 0⟩
noncomputable def ob191 (P : Params) : Obj := ⟨(.type "function"), none, (.func fd191), #[]⟩
noncomputable def ob192 (P : Params) : Obj := tuO #[]
noncomputable def ob194 (P : Params) : Obj := tuO #[(.str "value" 435), (.str "width" 436), (.str "number" 437)]
noncomputable def ob195 (P : Params) : Obj := tuO #[]
noncomputable def ob197 (P : Params) : Obj := cdF "need_whole" "need_whole" 432 75 2 3 192 true 193 194 438
noncomputable def fd198 : FuncData := ⟨"need_whole", "need_whole", pars st198, .stmts (bod st198), scp st198, 3, [], .none, .none, .none, (.str "snobol.values" 187), none, (.ref 197), .none, 0⟩
noncomputable def ob198 (P : Params) : Obj := ⟨(.type "function"), none, (.func fd198), #[]⟩
noncomputable def ob199 (P : Params) : Obj := tuO #[]
noncomputable def ob201 (P : Params) : Obj := tuO #[(.str "one" 444), (.str "other" 445)]
noncomputable def ob202 (P : Params) : Obj := tuO #[]
noncomputable def ob204 (P : Params) : Obj := cdF "same_ref" "same_ref" 441 80 2 3 199 true 200 201 446
noncomputable def fd205 : FuncData := ⟨"same_ref", "same_ref", pars st205, .stmts (bod st205), scp st205, 3, [], .none, .none, .none, (.str "snobol.values" 187), none, (.ref 204), .none, 0⟩
noncomputable def ob205 (P : Params) : Obj := ⟨(.type "function"), none, (.func fd205), #[]⟩
noncomputable def ob206 (P : Params) : Obj := tuO #[]
noncomputable def ob208 (P : Params) : Obj := tuO #[(.str "one" 452), (.str "other" 453)]
noncomputable def ob209 (P : Params) : Obj := tuO #[]
noncomputable def ob211 (P : Params) : Obj := cdF "same_value" "same_value" 449 86 2 3 206 true 207 208 454
noncomputable def fd212 : FuncData := ⟨"same_value", "same_value", pars st212, .stmts (bod st212), scp st212, 3, [], .none, .none, .none, (.str "snobol.values" 187), none, (.ref 211), .none, 0⟩
noncomputable def ob212 (P : Params) : Obj := ⟨(.type "function"), none, (.func fd212), #[]⟩
noncomputable def ob213 (P : Params) : Obj := tuO #[]
noncomputable def ob215 (P : Params) : Obj := tuO #[(.str "value" 460), (.str "kind" 461)]
noncomputable def ob216 (P : Params) : Obj := tuO #[]
noncomputable def ob218 (P : Params) : Obj := cdF "table_key" "table_key" 457 98 1 3 213 true 214 215 462
noncomputable def fd219 : FuncData := ⟨"table_key", "table_key", pars st219, .stmts (bod st219), scp st219, 3, [], .none, .none, .none, (.str "snobol.values" 187), none, (.ref 218), .none, 0⟩
noncomputable def ob219 (P : Params) : Obj := ⟨(.type "function"), none, (.func fd219), #[]⟩
noncomputable def ob220 (P : Params) : Obj := tuO #[(.ref 138)]
noncomputable def ob227 (P : Params) : Obj := tuO #[]
noncomputable def ob229 (P : Params) : Obj := tuO #[(.str "self" 482), (.str "number" 483), (.str "told" 484), (.str "bounds" 485), (.str "value" 486)]
noncomputable def ob230 (P : Params) : Obj := tuO #[]
noncomputable def ob232 (P : Params) : Obj := cdF "__init__" "Array.__init__" 479 110 5 3 227 true 228 229 487
noncomputable def fd233 : FuncData := ⟨"__init__", "Array.__init__", pars st233, .stmts (bod st233), scp st233, 3, [], .none, .none, .none, (.str "snobol.aggregates" 465), none, (.ref 232), .none, 0⟩
noncomputable def ob233 (P : Params) : Obj := ⟨(.type "function"), none, (.func fd233), #[]⟩
noncomputable def ob234 (P : Params) : Obj := tuO #[(.str "bounds" 490), (.str "items" 491), (.str "told" 492)]
noncomputable def ob235 (P : Params) : Obj := tyO "dict" (.dict #[en P "__module__" 474 (.str "snobol.aggregates" 465), en P "__firstlineno__" 478 (.int 108 477), en P "__init__" 489 (.ref 233), en P "__static_attributes__" 493 (.ref 234), en P "__doc__" 494 .none] 2)
noncomputable def ob236 (P : Params) : Obj := ⟨(.type "type"), none, (.cls ⟨"Array", [(.ref 138)], [(.ref 236), (.ref 138), (.type "object")], 235, "Array", true, [], [], false, none, false⟩), #[(some (.ref 220)), none, (some (.str "Array" 467)), (some (.str "Array" 475)), (some (.builtin "object.__new__")), (some (.bool true))]⟩
noncomputable def ob239 (P : Params) : Obj := tuO #[(.ref 138)]
noncomputable def ob246 (P : Params) : Obj := tuO #[]
noncomputable def ob248 (P : Params) : Obj := tuO #[(.str "self" 512), (.str "number" 513)]
noncomputable def ob249 (P : Params) : Obj := tuO #[]
noncomputable def ob251 (P : Params) : Obj := cdF "__init__" "Table.__init__" 509 117 2 3 246 true 247 248 514
noncomputable def fd252 : FuncData := ⟨"__init__", "Table.__init__", pars st252, .stmts (bod st252), scp st252, 3, [], .none, .none, .none, (.str "snobol.aggregates" 465), none, (.ref 251), .none, 0⟩
noncomputable def ob252 (P : Params) : Obj := ⟨(.type "function"), none, (.func fd252), #[]⟩
noncomputable def ob253 (P : Params) : Obj := tuO #[(.str "entries" 517)]
noncomputable def ob254 (P : Params) : Obj := tyO "dict" (.dict #[en P "__module__" 504 (.str "snobol.aggregates" 465), en P "__firstlineno__" 508 (.int 115 507), en P "__init__" 516 (.ref 252), en P "__static_attributes__" 518 (.ref 253), en P "__doc__" 519 .none] 2)
noncomputable def ob255 (P : Params) : Obj := ⟨(.type "type"), none, (.cls ⟨"Table", [(.ref 138)], [(.ref 255), (.ref 138), (.type "object")], 254, "Table", true, [], [], false, none, false⟩), #[(some (.ref 239)), none, (some (.str "Table" 497)), (some (.str "Table" 505)), (some (.builtin "object.__new__")), (some (.bool true))]⟩
noncomputable def ob258 (P : Params) : Obj := tuO #[]
noncomputable def ob260 (P : Params) : Obj := tuO #[(.str "text" 525), (.str "width" 526), (.str "found" 527)]
noncomputable def ob261 (P : Params) : Obj := tuO #[]
noncomputable def ob263 (P : Params) : Obj := cdF "whole_in" "whole_in" 522 120 2 3 258 true 259 260 528
noncomputable def fd264 : FuncData := ⟨"whole_in", "whole_in", pars st264, .stmts (bod st264), scp st264, 3, [], .none, .none, .none, (.str "snobol.aggregates" 465), none, (.ref 263), .none, 0⟩
noncomputable def ob264 (P : Params) : Obj := ⟨(.type "function"), none, (.func fd264), #[]⟩
noncomputable def ob265 (P : Params) : Obj := tuO #[]
noncomputable def ob267 (P : Params) : Obj := tuO #[(.str "text" 534), (.str "width" 535), (.str "found" 536), (.str "part" 537), (.str "ends" 538), (.str "low" 539), (.str "high" 540)]
noncomputable def ob268 (P : Params) : Obj := tuO #[]
noncomputable def ob270 (P : Params) : Obj := cdF "read_bounds" "read_bounds" 531 125 2 3 265 true 266 267 541
noncomputable def fd271 : FuncData := ⟨"read_bounds", "read_bounds", pars st271, .stmts (bod st271), scp st271, 3, [], .none, .none, .none, (.str "snobol.aggregates" 465), none, (.ref 270), .none, 0⟩
noncomputable def ob271 (P : Params) : Obj := ⟨(.type "function"), none, (.func fd271), #[]⟩
noncomputable def ob272 (P : Params) : Obj := tuO #[]
noncomputable def ob274 (P : Params) : Obj := tuO #[(.str "bounds" 547), (.str "found" 548), (.str "low" 549), (.str "high" 550)]
noncomputable def ob275 (P : Params) : Obj := tuO #[]
noncomputable def ob277 (P : Params) : Obj := cdF "size_of_bounds" "size_of_bounds" 544 137 1 3 272 true 273 274 551
noncomputable def fd278 : FuncData := ⟨"size_of_bounds", "size_of_bounds", pars st278, .stmts (bod st278), scp st278, 3, [], .none, .none, .none, (.str "snobol.aggregates" 465), none, (.ref 277), .none, 0⟩
noncomputable def ob278 (P : Params) : Obj := ⟨(.type "function"), none, (.func fd278), #[]⟩
noncomputable def ob279 (P : Params) : Obj := tuO #[]
noncomputable def ob281 (P : Params) : Obj := tuO #[(.str "array" 557), (.str "places" 558), (.str "found" 559), (.str "low" 560), (.str "high" 561), (.str "place" 562)]
noncomputable def ob282 (P : Params) : Obj := tuO #[]
noncomputable def ob284 (P : Params) : Obj := cdF "array_place" "array_place" 554 142 2 3 279 true 280 281 563
noncomputable def fd285 : FuncData := ⟨"array_place", "array_place", pars st285, .stmts (bod st285), scp st285, 3, [], .none, .none, .none, (.str "snobol.aggregates" 465), none, (.ref 284), .none, 0⟩
noncomputable def ob285 (P : Params) : Obj := ⟨(.type "function"), none, (.func fd285), #[]⟩
noncomputable def ob286 (P : Params) : Obj := tuO #[]
noncomputable def ob288 (P : Params) : Obj := tuO #[(.str "array" 569), (.str "place" 570), (.str "found" 571), (.str "low" 572), (.str "high" 573)]
noncomputable def ob289 (P : Params) : Obj := tuO #[]
noncomputable def ob291 (P : Params) : Obj := cdF "places_of" "places_of" 566 151 2 3 286 true 287 288 574
noncomputable def fd292 : FuncData := ⟨"places_of", "places_of", pars st292, .stmts (bod st292), scp st292, 3, [], .none, .none, .none, (.str "snobol.aggregates" 465), none, (.ref 291), .none, 0⟩
noncomputable def ob292 (P : Params) : Obj := ⟨(.type "function"), none, (.func fd292), #[]⟩
noncomputable def ob293 (P : Params) : Obj := tuO #[]
noncomputable def ob295 (P : Params) : Obj := tuO #[(.str "table" 580), (.str "key" 581), (.str "mark" 582)]
noncomputable def ob296 (P : Params) : Obj := tuO #[]
noncomputable def ob298 (P : Params) : Obj := cdF "table_entry" "table_entry" 577 157 2 3 293 true 294 295 583
noncomputable def fd299 : FuncData := ⟨"table_entry", "table_entry", pars st299, .stmts (bod st299), scp st299, 3, [], .none, .none, .none, (.str "snobol.aggregates" 465), none, (.ref 298), .none, 0⟩
noncomputable def ob299 (P : Params) : Obj := ⟨(.type "function"), none, (.func fd299), #[]⟩
noncomputable def ob300 (P : Params) : Obj := tuO #[]
noncomputable def ob303 (P : Params) : Obj := cdN "item_ref" "item_ref" 586 162 3 3 300 true 301 302 589
noncomputable def fd304 : FuncData := ⟨"item_ref", "item_ref", pars st304, .stmts (bod st304), scp st304, 3, [], .none, .none, .none, (.str "snobol.aggregates" 465), none, (.ref 303), .none, 0⟩
noncomputable def ob304 (P : Params) : Obj := ⟨(.type "function"), none, (.func fd304), #[]⟩
noncomputable def ob305 (P : Params) : Obj := tuO #[]
noncomputable def ob307 (P : Params) : Obj := tuO #[(.str "ref" 595)]
noncomputable def ob308 (P : Params) : Obj := tuO #[]
noncomputable def ob310 (P : Params) : Obj := cdF "slot_get" "slot_get" 592 170 1 3 305 true 306 307 596
noncomputable def fd311 : FuncData := ⟨"slot_get", "slot_get", pars st311, .stmts (bod st311), scp st311, 3, [], .none, .none, .none, (.str "snobol.aggregates" 465), none, (.ref 310), .none, 0⟩
noncomputable def ob311 (P : Params) : Obj := ⟨(.type "function"), none, (.func fd311), #[]⟩
noncomputable def ob312 (P : Params) : Obj := tuO #[]
noncomputable def ob314 (P : Params) : Obj := tuO #[(.str "ref" 602), (.str "value" 603)]
noncomputable def ob315 (P : Params) : Obj := tuO #[]
noncomputable def ob317 (P : Params) : Obj := cdF "slot_set" "slot_set" 599 176 2 3 312 true 313 314 604
noncomputable def fd318 : FuncData := ⟨"slot_set", "slot_set", pars st318, .stmts (bod st318), scp st318, 3, [], .none, .none, .none, (.str "snobol.aggregates" 465), none, (.ref 317), .none, 0⟩
noncomputable def ob318 (P : Params) : Obj := ⟨(.type "function"), none, (.func fd318), #[]⟩
noncomputable def ob319 (P : Params) : Obj := tuO #[]
noncomputable def ob321 (P : Params) : Obj := tuO #[(.str "value" 610)]
noncomputable def ob322 (P : Params) : Obj := tuO #[]
noncomputable def ob324 (P : Params) : Obj := cdF "prototype_of" "prototype_of" 607 183 1 3 319 true 320 321 611
noncomputable def fd325 : FuncData := ⟨"prototype_of", "prototype_of", pars st325, .stmts (bod st325), scp st325, 3, [], .none, .none, .none, (.str "snobol.aggregates" 465), none, (.ref 324), .none, 0⟩
noncomputable def ob325 (P : Params) : Obj := ⟨(.type "function"), none, (.func fd325), #[]⟩
noncomputable def ob326 (P : Params) : Obj := tuO #[]
noncomputable def ob329 (P : Params) : Obj := cdN "entries_of" "entries_of" 614 187 1 3 326 true 327 328 617
noncomputable def fd330 : FuncData := ⟨"entries_of", "entries_of", pars st330, .stmts (bod st330), scp st330, 3, [], .none, .none, .none, (.str "snobol.aggregates" 465), none, (.ref 329), .none, 0⟩
noncomputable def ob330 (P : Params) : Obj := ⟨(.type "function"), none, (.func fd330), #[]⟩
noncomputable def ob331 (P : Params) : Obj := tuO #[]
noncomputable def ob334 (P : Params) : Obj := cdN "table_to_array" "table_to_array" 620 189 2 3 331 true 332 333 623
noncomputable def fd335 : FuncData := ⟨"table_to_array", "table_to_array", pars st335, .stmts (bod st335), scp st335, 3, [], .none, .none, .none, (.str "snobol.aggregates" 465), none, (.ref 334), .none, 0⟩
noncomputable def ob335 (P : Params) : Obj := ⟨(.type "function"), none, (.func fd335), #[]⟩
noncomputable def ob336 (P : Params) : Obj := tuO #[]
noncomputable def ob339 (P : Params) : Obj := cdN "rows_array" "rows_array" 626 194 2 3 336 true 337 338 629
noncomputable def fd340 : FuncData := ⟨"rows_array", "rows_array", pars st340, .stmts (bod st340), scp st340, 3, [], .none, .none, .none, (.str "snobol.aggregates" 465), none, (.ref 339), .none, 0⟩
noncomputable def ob340 (P : Params) : Obj := ⟨(.type "function"), none, (.func fd340), #[]⟩
noncomputable def ob341 (P : Params) : Obj := tuO #[]
noncomputable def ob344 (P : Params) : Obj := cdN "rows_of" "rows_of" 632 200 1 3 341 true 342 343 635
noncomputable def fd345 : FuncData := ⟨"rows_of", "rows_of", pars st345, .stmts (bod st345), scp st345, 3, [], .none, .none, .none, (.str "snobol.aggregates" 465), none, (.ref 344), .none, 0⟩
noncomputable def ob345 (P : Params) : Obj := ⟨(.type "function"), none, (.func fd345), #[]⟩
noncomputable def ob346 (P : Params) : Obj := tuO #[]
noncomputable def ob348 (P : Params) : Obj := tuO #[(.str "array" 641), (.str "number" 642), (.str "rows" 643), (.str "found" 644), (.str "key" 645), (.str "value" 646)]
noncomputable def ob349 (P : Params) : Obj := tuO #[]
noncomputable def ob351 (P : Params) : Obj := cdF "array_to_table" "array_to_table" 638 205 2 3 346 true 347 348 647
noncomputable def fd352 : FuncData := ⟨"array_to_table", "array_to_table", pars st352, .stmts (bod st352), scp st352, 3, [], .none, .none, .none, (.str "snobol.aggregates" 465), none, (.ref 351), .none, 0⟩
noncomputable def ob352 (P : Params) : Obj := ⟨(.type "function"), none, (.func fd352), #[]⟩
noncomputable def ob353 (P : Params) : Obj := tuO #[]
noncomputable def ob355 (P : Params) : Obj := tuO #[(.str "box" 655), (.str "many" 656)]
noncomputable def ob356 (P : Params) : Obj := tuO #[]
noncomputable def ob358 (P : Params) : Obj := cdF "_law_take" "_law_take" 652 214 2 3 353 true 354 355 657
noncomputable def fd359 : FuncData := ⟨"_law_take", "_law_take", pars st359, .stmts (bod st359), scp st359, 3, [], .none, .none, .none, (.str "law_np0299_01" 650), none, (.ref 358), .none, 0⟩
noncomputable def ob359 (P : Params) : Obj := ⟨(.type "function"), none, (.func fd359), #[]⟩
noncomputable def ob360 (P : Params) : Obj := tuO #[]
noncomputable def ob363 (P : Params) : Obj := cdN "_law_box" "_law_box" 660 219 1 3 360 true 361 362 663
noncomputable def fd364 : FuncData := ⟨"_law_box", "_law_box", pars st364, .stmts (bod st364), scp st364, 3, [], .none, .none, .none, (.str "law_np0299_01" 650), none, (.ref 363), .none, 0⟩
noncomputable def ob364 (P : Params) : Obj := ⟨(.type "function"), none, (.func fd364), #[]⟩
noncomputable def ob365 (P : Params) : Obj := tuO #[]
noncomputable def ob367 (P : Params) : Obj := tuO #[(.str "deed" 669), (.str "e" 670)]
noncomputable def ob368 (P : Params) : Obj := tuO #[]
noncomputable def ob370 (P : Params) : Obj := cdF "_law_error" "_law_error" 666 224 1 3 365 true 366 367 671
noncomputable def fd371 : FuncData := ⟨"_law_error", "_law_error", pars st371, .stmts (bod st371), scp st371, 3, [], .none, .none, .none, (.str "law_np0299_01" 650), none, (.ref 370), .none, 0⟩
noncomputable def ob371 (P : Params) : Obj := ⟨(.type "function"), none, (.func fd371), #[]⟩
noncomputable def ob372 (P : Params) : Obj := tuO #[]
noncomputable def ob374 (P : Params) : Obj := tuO #[(.str "box" 677), (.str "found" 678), (.str "told" 679), (.str "turn" 680), (.str "low" 681), (.str "size" 682)]
noncomputable def ob375 (P : Params) : Obj := tuO #[]
noncomputable def ob377 (P : Params) : Obj := cdF "_law_bounds" "_law_bounds" 674 230 1 3 372 true 373 374 683
noncomputable def fd378 : FuncData := ⟨"_law_bounds", "_law_bounds", pars st378, .stmts (bod st378), scp st378, 3, [], .none, .none, .none, (.str "law_np0299_01" 650), none, (.ref 377), .none, 0⟩
noncomputable def ob378 (P : Params) : Obj := ⟨(.type "function"), none, (.func fd378), #[]⟩
noncomputable def ob379 (P : Params) : Obj := tuO #[]
noncomputable def ob382 (P : Params) : Obj := cdN "_law_every" "_law_every" 686 237 1 3 379 true 380 381 689
noncomputable def fd383 : FuncData := ⟨"_law_every", "_law_every", pars st383, .stmts (bod st383), scp st383, 3, [], .none, .none, .none, (.str "law_np0299_01" 650), none, (.ref 382), .none, 0⟩
noncomputable def ob383 (P : Params) : Obj := ⟨(.type "function"), none, (.func fd383), #[]⟩
noncomputable def ob384 (P : Params) : Obj := tuO #[]
noncomputable def ob387 (P : Params) : Obj := cdN "_law_array_right" "_law_array_right" 692 242 1 3 384 true 385 386 695
noncomputable def fd388 : FuncData := ⟨"_law_array_right", "_law_array_right", pars st388, .stmts (bod st388), scp st388, 3, [], .none, .none, .none, (.str "law_np0299_01" 650), none, (.ref 387), .none, 0⟩
noncomputable def ob388 (P : Params) : Obj := ⟨(.type "function"), none, (.func fd388), #[]⟩
noncomputable def ob389 (P : Params) : Obj := tuO #[]
noncomputable def ob392 (P : Params) : Obj := cdN "_law_table_right" "_law_table_right" 698 268 1 3 389 true 390 391 701
noncomputable def fd393 : FuncData := ⟨"_law_table_right", "_law_table_right", pars st393, .stmts (bod st393), scp st393, 3, [], .none, .none, .none, (.str "law_np0299_01" 650), none, (.ref 392), .none, 0⟩
noncomputable def ob393 (P : Params) : Obj := ⟨(.type "function"), none, (.func fd393), #[]⟩
noncomputable def ob394 (P : Params) : Obj := tuO #[]
noncomputable def ob397 (P : Params) : Obj := cdN "law" "law" 704 296 1 3 394 true 395 396 707
noncomputable def fd398 : FuncData := ⟨"law", "law", pars st398, .stmts (bod st398), scp st398, 3, [], .none, .none, .none, (.str "law_np0299_01" 650), none, (.ref 397), .none, 0⟩
noncomputable def ob398 (P : Params) : Obj := ⟨(.type "function"), none, (.func fd398), #[]⟩
noncomputable def frag (P : Params) : Frag := [(nat_lit 2, ob2 P), (nat_lit 3, ob3 P), (nat_lit 15, ob15 P), (nat_lit 18, ob18 P), (nat_lit 23, ob23 P), (nat_lit 24, ob24 P), (nat_lit 25, ob25 P), (nat_lit 27, ob27 P), (nat_lit 28, ob28 P), (nat_lit 30, ob30 P), (nat_lit 31, ob31 P), (nat_lit 32, ob32 P), (nat_lit 33, ob33 P), (nat_lit 34, ob34 P), (nat_lit 35, ob35 P), (nat_lit 45, ob45 P), (nat_lit 47, ob47 P), (nat_lit 48, ob48 P), (nat_lit 50, ob50 P), (nat_lit 51, ob51 P), (nat_lit 52, ob52 P), (nat_lit 53, ob53 P), (nat_lit 54, ob54 P), (nat_lit 55, ob55 P), (nat_lit 56, ob56 P), (nat_lit 66, ob66 P), (nat_lit 68, ob68 P), (nat_lit 69, ob69 P), (nat_lit 71, ob71 P), (nat_lit 72, ob72 P), (nat_lit 73, ob73 P), (nat_lit 74, ob74 P), (nat_lit 75, ob75 P), (nat_lit 76, ob76 P), (nat_lit 77, ob77 P), (nat_lit 87, ob87 P), (nat_lit 89, ob89 P), (nat_lit 90, ob90 P), (nat_lit 92, ob92 P), (nat_lit 93, ob93 P), (nat_lit 94, ob94 P), (nat_lit 95, ob95 P), (nat_lit 96, ob96 P), (nat_lit 97, ob97 P), (nat_lit 98, ob98 P), (nat_lit 108, ob108 P), (nat_lit 110, ob110 P), (nat_lit 111, ob111 P), (nat_lit 113, ob113 P), (nat_lit 114, ob114 P), (nat_lit 115, ob115 P), (nat_lit 116, ob116 P), (nat_lit 117, ob117 P), (nat_lit 118, ob118 P), (nat_lit 119, ob119 P), (nat_lit 129, ob129 P), (nat_lit 131, ob131 P), (nat_lit 132, ob132 P), (nat_lit 134, ob134 P), (nat_lit 135, ob135 P), (nat_lit 136, ob136 P), (nat_lit 137, ob137 P), (nat_lit 138, ob138 P), (nat_lit 139, ob139 P), (nat_lit 140, ob140 P), (nat_lit 143, ob143 P), (nat_lit 145, ob145 P), (nat_lit 146, ob146 P), (nat_lit 148, ob148 P), (nat_lit 149, ob149 P), (nat_lit 150, ob150 P), (nat_lit 152, ob152 P), (nat_lit 153, ob153 P), (nat_lit 155, ob155 P), (nat_lit 156, ob156 P), (nat_lit 157, ob157 P), (nat_lit 159, ob159 P), (nat_lit 160, ob160 P), (nat_lit 162, ob162 P), (nat_lit 163, ob163 P), (nat_lit 164, ob164 P), (nat_lit 166, ob166 P), (nat_lit 167, ob167 P), (nat_lit 169, ob169 P), (nat_lit 170, ob170 P), (nat_lit 171, ob171 P), (nat_lit 173, ob173 P), (nat_lit 174, ob174 P), (nat_lit 176, ob176 P), (nat_lit 177, ob177 P), (nat_lit 178, ob178 P), (nat_lit 180, ob180 P), (nat_lit 181, ob181 P), (nat_lit 183, ob183 P), (nat_lit 184, ob184 P), (nat_lit 185, ob185 P), (nat_lit 187, ob187 P), (nat_lit 188, ob188 P), (nat_lit 190, ob190 P), (nat_lit 191, ob191 P), (nat_lit 192, ob192 P), (nat_lit 194, ob194 P), (nat_lit 195, ob195 P), (nat_lit 197, ob197 P), (nat_lit 198, ob198 P), (nat_lit 199, ob199 P), (nat_lit 201, ob201 P), (nat_lit 202, ob202 P), (nat_lit 204, ob204 P), (nat_lit 205, ob205 P), (nat_lit 206, ob206 P), (nat_lit 208, ob208 P), (nat_lit 209, ob209 P), (nat_lit 211, ob211 P), (nat_lit 212, ob212 P), (nat_lit 213, ob213 P), (nat_lit 215, ob215 P), (nat_lit 216, ob216 P), (nat_lit 218, ob218 P), (nat_lit 219, ob219 P), (nat_lit 220, ob220 P), (nat_lit 227, ob227 P), (nat_lit 229, ob229 P), (nat_lit 230, ob230 P), (nat_lit 232, ob232 P), (nat_lit 233, ob233 P), (nat_lit 234, ob234 P), (nat_lit 235, ob235 P), (nat_lit 236, ob236 P), (nat_lit 239, ob239 P), (nat_lit 246, ob246 P), (nat_lit 248, ob248 P), (nat_lit 249, ob249 P), (nat_lit 251, ob251 P), (nat_lit 252, ob252 P), (nat_lit 253, ob253 P), (nat_lit 254, ob254 P), (nat_lit 255, ob255 P), (nat_lit 258, ob258 P), (nat_lit 260, ob260 P), (nat_lit 261, ob261 P), (nat_lit 263, ob263 P), (nat_lit 264, ob264 P), (nat_lit 265, ob265 P), (nat_lit 267, ob267 P), (nat_lit 268, ob268 P), (nat_lit 270, ob270 P), (nat_lit 271, ob271 P), (nat_lit 272, ob272 P), (nat_lit 274, ob274 P), (nat_lit 275, ob275 P), (nat_lit 277, ob277 P), (nat_lit 278, ob278 P), (nat_lit 279, ob279 P), (nat_lit 281, ob281 P), (nat_lit 282, ob282 P), (nat_lit 284, ob284 P), (nat_lit 285, ob285 P), (nat_lit 286, ob286 P), (nat_lit 288, ob288 P), (nat_lit 289, ob289 P), (nat_lit 291, ob291 P), (nat_lit 292, ob292 P), (nat_lit 293, ob293 P), (nat_lit 295, ob295 P), (nat_lit 296, ob296 P), (nat_lit 298, ob298 P), (nat_lit 299, ob299 P), (nat_lit 300, ob300 P), (nat_lit 303, ob303 P), (nat_lit 304, ob304 P), (nat_lit 305, ob305 P), (nat_lit 307, ob307 P), (nat_lit 308, ob308 P), (nat_lit 310, ob310 P), (nat_lit 311, ob311 P), (nat_lit 312, ob312 P), (nat_lit 314, ob314 P), (nat_lit 315, ob315 P), (nat_lit 317, ob317 P), (nat_lit 318, ob318 P), (nat_lit 319, ob319 P), (nat_lit 321, ob321 P), (nat_lit 322, ob322 P), (nat_lit 324, ob324 P), (nat_lit 325, ob325 P), (nat_lit 326, ob326 P), (nat_lit 329, ob329 P), (nat_lit 330, ob330 P), (nat_lit 331, ob331 P), (nat_lit 334, ob334 P), (nat_lit 335, ob335 P), (nat_lit 336, ob336 P), (nat_lit 339, ob339 P), (nat_lit 340, ob340 P), (nat_lit 341, ob341 P), (nat_lit 344, ob344 P), (nat_lit 345, ob345 P), (nat_lit 346, ob346 P), (nat_lit 348, ob348 P), (nat_lit 349, ob349 P), (nat_lit 351, ob351 P), (nat_lit 352, ob352 P), (nat_lit 353, ob353 P), (nat_lit 355, ob355 P), (nat_lit 356, ob356 P), (nat_lit 358, ob358 P), (nat_lit 359, ob359 P), (nat_lit 360, ob360 P), (nat_lit 363, ob363 P), (nat_lit 364, ob364 P), (nat_lit 365, ob365 P), (nat_lit 367, ob367 P), (nat_lit 368, ob368 P), (nat_lit 370, ob370 P), (nat_lit 371, ob371 P), (nat_lit 372, ob372 P), (nat_lit 374, ob374 P), (nat_lit 375, ob375 P), (nat_lit 377, ob377 P), (nat_lit 378, ob378 P), (nat_lit 379, ob379 P), (nat_lit 382, ob382 P), (nat_lit 383, ob383 P), (nat_lit 384, ob384 P), (nat_lit 387, ob387 P), (nat_lit 388, ob388 P), (nat_lit 389, ob389 P), (nat_lit 392, ob392 P), (nat_lit 393, ob393 P), (nat_lit 394, ob394 P), (nat_lit 397, ob397 P), (nat_lit 398, ob398 P)]
noncomputable def frAt : List Addr := [2, 3, 15, 18, 23, 24, 25, 27, 28, 30, 31, 32, 33, 34, 35, 45, 47, 48, 50, 51, 52, 53, 54, 55, 56, 66, 68, 69, 71, 72, 73, 74, 75, 76, 77, 87, 89, 90, 92, 93, 94, 95, 96, 97, 98, 108, 110, 111, 113, 114, 115, 116, 117, 118, 119, 129, 131, 132, 134, 135, 136, 137, 138, 139, 140, 143, 145, 146, 148, 149, 150, 152, 153, 155, 156, 157, 159, 160, 162, 163, 164, 166, 167, 169, 170, 171, 173, 174, 176, 177, 178, 180, 181, 183, 184, 185, 187, 188, 190, 191, 192, 194, 195, 197, 198, 199, 201, 202, 204, 205, 206, 208, 209, 211, 212, 213, 215, 216, 218, 219, 220, 227, 229, 230, 232, 233, 234, 235, 236, 239, 246, 248, 249, 251, 252, 253, 254, 255, 258, 260, 261, 263, 264, 265, 267, 268, 270, 271, 272, 274, 275, 277, 278, 279, 281, 282, 284, 285, 286, 288, 289, 291, 292, 293, 295, 296, 298, 299, 300, 303, 304, 305, 307, 308, 310, 311, 312, 314, 315, 317, 318, 319, 321, 322, 324, 325, 326, 329, 330, 331, 334, 335, 336, 339, 340, 341, 344, 345, 346, 348, 349, 351, 352, 353, 355, 356, 358, 359, 360, 363, 364, 365, 367, 368, 370, 371, 372, 374, 375, 377, 378, 379, 382, 383, 384, 387, 388, 389, 392, 393, 394, 397, 398]
noncomputable def view : Program := { PySem.Challenge.pw_np0299_01 with main := { PySem.Challenge.pw_np0299_01.main with body := [nth body0 1, nth body0 2, nth body0 3, nth body0 4, nth body0 5, nth body0 6, nth body0 7, nth body0 8, nth body0 9, nth body0 10, nth body0 11, nth body0 12, nth body0 13, nth body0 14, nth body0 15, nth body0 16, nth body0 17, nth body0 19, nth body0 20, nth body0 21, nth body0 22, nth body0 23, nth body0 24, nth body0 25, nth body0 26, nth body0 27, nth body0 28, nth body0 29, nth body0 30, nth body0 31, nth body0 32, nth body0 33, nth body0 34, nth body0 35, nth body0 37, nth body0 38, nth body0 39, nth body0 40, nth body0 41, nth body0 42, nth body0 43, nth body0 44] } }

end

noncomputable def xu : Obj := tuO #[]
noncomputable def xe : Obj := ⟨.none, none, (.fields #[]), #[]⟩
noncomputable def tpl (f : FuncData) : Obj := ⟨.none, none, .func ⟨f.name, f.qualname, f.params, f.body, f.scope, 0, [], .none, .none, .none, .none, none, .none, .none, 0⟩, #[]⟩
noncomputable def d3 (P : Params) (v : Value) (n k : Nat) : Obj := match (ob3 P).data with
  | .dict ⟨e :: es⟩ _ => ⟨.type "dict", none, .dict ⟨{ e with val := v } :: es.take n⟩ k, #[]⟩
  | _ => default
noncomputable def d12 (n : Nat) : Obj := ⟨.none, none, .fields ⟨List.take n [(.int 2 0), (.int 0 0), (.ref 21), (.int 8 0), (.int 0 0), (.ref 43), (.int 12 0), (.int 0 0), (.ref 64), (.int 16 0), (.int 0 0), (.ref 85), (.int 20 0), (.int 0 0), (.ref 106), (.int 26 0), (.int 0 0), (.ref 127), (.int 32 0), (.int 0 0), (.ref 148), (.int 46 0), (.int 0 0), (.ref 155), (.int 48 0), (.int 0 0), (.ref 162), (.int 50 0), (.int 0 0), (.ref 169), (.int 52 0), (.int 0 0), (.ref 176), (.int 65 0), (.int 0 0), (.ref 183), (.int 71 0), (.int 0 0), (.ref 190), (.int 75 0), (.int 0 0), (.ref 197), (.int 80 0), (.int 0 0), (.ref 204), (.int 86 0), (.int 0 0), (.ref 211), (.int 98 0), (.int 0 0), (.ref 218), (.int 108 0), (.int 0 0), (.ref 225), (.int 115 0), (.int 0 0), (.ref 244), (.int 120 0), (.int 0 0), (.ref 263), (.int 125 0), (.int 0 0), (.ref 270), (.int 137 0), (.int 0 0), (.ref 277), (.int 142 0), (.int 0 0), (.ref 284), (.int 151 0), (.int 0 0), (.ref 291), (.int 157 0), (.int 0 0), (.ref 298), (.int 162 0), (.int 0 0), (.ref 303), (.int 170 0), (.int 0 0), (.ref 310), (.int 176 0), (.int 0 0), (.ref 317), (.int 183 0), (.int 0 0), (.ref 324), (.int 187 0), (.int 0 0), (.ref 329), (.int 189 0), (.int 0 0), (.ref 334), (.int 194 0), (.int 0 0), (.ref 339), (.int 200 0), (.int 0 0), (.ref 344), (.int 205 0), (.int 0 0), (.ref 351), (.int 214 0), (.int 0 0), (.ref 358), (.int 219 0), (.int 0 0), (.ref 363), (.int 224 0), (.int 0 0), (.ref 370), (.int 230 0), (.int 0 0), (.ref 377), (.int 237 0), (.int 0 0), (.ref 382), (.int 242 0), (.int 0 0), (.ref 387), (.int 268 0), (.int 0 0), (.ref 392), (.int 296 0), (.int 0 0), (.ref 397)]⟩, #[]⟩
noncomputable def x13 : Obj := cdC "<module>" 182 1 11 12 185
noncomputable def x14 : Obj := frO 13 3 "__main__" 164
noncomputable def x16 : Obj := tyO "builtin_function_or_method" (.fields #[(.builtin "type.__prepare__"), (.type "type")])
noncomputable def x17_ (P : Params) : Obj := tyO "dict" (.dict #[en P "__module__" 196 (.str "snobol.values" 187), en P "__qualname__" 198 (.str "SnobolError" 197), en P "__firstlineno__" 200 (.int 2 199), en P "__init__" 211 (.ref 31), en P "__static_attributes__" 214 (.ref 32), en P "__classcell__" 215 (.ref 18)] 6)
noncomputable def x20 : Obj := ⟨.none, none, (.fields #[(.int 4 0), (.int 4 0), (.ref 30)]), #[]⟩
noncomputable def x21 : Obj := cdC "SnobolError" 191 2 19 20 194
noncomputable def x22 : Obj := frO 21 17 "snobol.values" 187
noncomputable def x29 : Obj := tpl fd31
noncomputable def x36 : Obj := suO 34
noncomputable def x37 : Obj := tyO "builtin_function_or_method" (.fields #[(.builtin "object.__init_subclass__"), (.ref 34)])
noncomputable def x39 : Obj := tyO "builtin_function_or_method" (.fields #[(.builtin "type.__prepare__"), (.type "type")])
noncomputable def x40_ (P : Params) : Obj := tyO "dict" (.dict #[en P "__module__" 230 (.str "snobol.values" 187), en P "__qualname__" 232 (.str "Pattern" 231), en P "__firstlineno__" 234 (.int 8 233), en P "__init__" 242 (.ref 51), en P "__static_attributes__" 244 (.ref 52)] 5)
noncomputable def x42 : Obj := ⟨.none, none, (.fields #[(.int 10 0), (.int 4 0), (.ref 50)]), #[]⟩
noncomputable def x43 : Obj := cdC "Pattern" 225 8 41 42 228
noncomputable def x44 : Obj := frO 43 40 "snobol.values" 187
noncomputable def x49 : Obj := tpl fd51
noncomputable def x57 : Obj := suO 54
noncomputable def x58 : Obj := tyO "builtin_function_or_method" (.fields #[(.builtin "object.__init_subclass__"), (.ref 54)])
noncomputable def x60 : Obj := tyO "builtin_function_or_method" (.fields #[(.builtin "type.__prepare__"), (.type "type")])
noncomputable def x61_ (P : Params) : Obj := tyO "dict" (.dict #[en P "__module__" 259 (.str "snobol.values" 187), en P "__qualname__" 261 (.str "Delayed" 260), en P "__firstlineno__" 263 (.int 12 262), en P "__init__" 271 (.ref 72), en P "__static_attributes__" 273 (.ref 73)] 5)
noncomputable def x63 : Obj := ⟨.none, none, (.fields #[(.int 14 0), (.int 4 0), (.ref 71)]), #[]⟩
noncomputable def x64 : Obj := cdC "Delayed" 254 12 62 63 257
noncomputable def x65 : Obj := frO 64 61 "snobol.values" 187
noncomputable def x70 : Obj := tpl fd72
noncomputable def x78 : Obj := suO 75
noncomputable def x79 : Obj := tyO "builtin_function_or_method" (.fields #[(.builtin "object.__init_subclass__"), (.ref 75)])
noncomputable def x81 : Obj := tyO "builtin_function_or_method" (.fields #[(.builtin "type.__prepare__"), (.type "type")])
noncomputable def x82_ (P : Params) : Obj := tyO "dict" (.dict #[en P "__module__" 288 (.str "snobol.values" 187), en P "__qualname__" 290 (.str "Code" 289), en P "__firstlineno__" 292 (.int 16 291), en P "__init__" 300 (.ref 93), en P "__static_attributes__" 302 (.ref 94)] 5)
noncomputable def x84 : Obj := ⟨.none, none, (.fields #[(.int 18 0), (.int 4 0), (.ref 92)]), #[]⟩
noncomputable def x85 : Obj := cdC "Code" 283 16 83 84 286
noncomputable def x86 : Obj := frO 85 82 "snobol.values" 187
noncomputable def x91 : Obj := tpl fd93
noncomputable def x99 : Obj := suO 96
noncomputable def x100 : Obj := tyO "builtin_function_or_method" (.fields #[(.builtin "object.__init_subclass__"), (.ref 96)])
noncomputable def x102 : Obj := tyO "builtin_function_or_method" (.fields #[(.builtin "type.__prepare__"), (.type "type")])
noncomputable def x103_ (P : Params) : Obj := tyO "dict" (.dict #[en P "__module__" 317 (.str "snobol.values" 187), en P "__qualname__" 319 (.str "NameRef" 318), en P "__firstlineno__" 321 (.int 20 320), en P "__init__" 331 (.ref 114), en P "__static_attributes__" 335 (.ref 115)] 5)
noncomputable def x105 : Obj := ⟨.none, none, (.fields #[(.int 22 0), (.int 4 0), (.ref 113)]), #[]⟩
noncomputable def x106 : Obj := cdC "NameRef" 312 20 104 105 315
noncomputable def x107 : Obj := frO 106 103 "snobol.values" 187
noncomputable def x112 : Obj := tpl fd114
noncomputable def x120 : Obj := suO 117
noncomputable def x121 : Obj := tyO "builtin_function_or_method" (.fields #[(.builtin "object.__init_subclass__"), (.ref 117)])
noncomputable def x123 : Obj := tyO "builtin_function_or_method" (.fields #[(.builtin "type.__prepare__"), (.type "type")])
noncomputable def x124_ (P : Params) : Obj := tyO "dict" (.dict #[en P "__module__" 350 (.str "snobol.values" 187), en P "__qualname__" 352 (.str "Holder" 351), en P "__firstlineno__" 354 (.int 26 353), en P "__init__" 363 (.ref 135), en P "__static_attributes__" 367 (.ref 136)] 5)
noncomputable def x126 : Obj := ⟨.none, none, (.fields #[(.int 28 0), (.int 4 0), (.ref 134)]), #[]⟩
noncomputable def x127 : Obj := cdC "Holder" 345 26 125 126 348
noncomputable def x128 : Obj := frO 127 124 "snobol.values" 187
noncomputable def x133 : Obj := tpl fd135
noncomputable def x138_0 : Obj := ⟨(.type "type"), none, (.cls ⟨"Holder", [(.type "object")], [(.ref 138), (.type "object")], 137, "Holder", true, [], [], false, none, false⟩), #[none, none, (some (.str "Holder" 343)), (some (.str "Holder" 351)), (some (.builtin "object.__new__")), (some (.bool true))]⟩
noncomputable def x138_1 : Obj := ⟨(.type "type"), none, (.cls ⟨"Holder", [(.type "object")], [(.ref 138), (.type "object")], 137, "Holder", true, [], [(.ref 236)], false, none, false⟩), #[none, none, (some (.str "Holder" 343)), (some (.str "Holder" 351)), (some (.builtin "object.__new__")), (some (.bool true))]⟩
noncomputable def x141 : Obj := suO 138
noncomputable def x142 : Obj := tyO "builtin_function_or_method" (.fields #[(.builtin "object.__init_subclass__"), (.ref 138)])
noncomputable def x147 : Obj := tpl fd149
noncomputable def x154 : Obj := tpl fd156
noncomputable def x161 : Obj := tpl fd163
noncomputable def x168 : Obj := tpl fd170
noncomputable def x175 : Obj := tpl fd177
noncomputable def x182 : Obj := tpl fd184
noncomputable def x189 : Obj := tpl fd191
noncomputable def x196 : Obj := tpl fd198
noncomputable def x203 : Obj := tpl fd205
noncomputable def x210 : Obj := tpl fd212
noncomputable def x217 : Obj := tpl fd219
noncomputable def x221 : Obj := tyO "builtin_function_or_method" (.fields #[(.builtin "type.__prepare__"), (.type "type")])
noncomputable def x222_ (P : Params) : Obj := tyO "dict" (.dict #[en P "__module__" 474 (.str "snobol.aggregates" 465), en P "__qualname__" 476 (.str "Array" 475), en P "__firstlineno__" 478 (.int 108 477), en P "__init__" 489 (.ref 233), en P "__static_attributes__" 493 (.ref 234)] 5)
noncomputable def x224 : Obj := ⟨.none, none, (.fields #[(.int 110 0), (.int 4 0), (.ref 232)]), #[]⟩
noncomputable def x225 : Obj := cdC "Array" 469 108 223 224 472
noncomputable def x226 : Obj := frO 225 222 "snobol.aggregates" 465
noncomputable def x231 : Obj := tpl fd233
noncomputable def x237 : Obj := suO 236
noncomputable def x238 : Obj := tyO "builtin_function_or_method" (.fields #[(.builtin "object.__init_subclass__"), (.ref 236)])
noncomputable def x240 : Obj := tyO "builtin_function_or_method" (.fields #[(.builtin "type.__prepare__"), (.type "type")])
noncomputable def x241_ (P : Params) : Obj := tyO "dict" (.dict #[en P "__module__" 504 (.str "snobol.aggregates" 465), en P "__qualname__" 506 (.str "Table" 505), en P "__firstlineno__" 508 (.int 115 507), en P "__init__" 516 (.ref 252), en P "__static_attributes__" 518 (.ref 253)] 5)
noncomputable def x243 : Obj := ⟨.none, none, (.fields #[(.int 117 0), (.int 4 0), (.ref 251)]), #[]⟩
noncomputable def x244 : Obj := cdC "Table" 499 115 242 243 502
noncomputable def x245 : Obj := frO 244 241 "snobol.aggregates" 465
noncomputable def x250 : Obj := tpl fd252
noncomputable def x256 : Obj := suO 255
noncomputable def x257 : Obj := tyO "builtin_function_or_method" (.fields #[(.builtin "object.__init_subclass__"), (.ref 255)])
noncomputable def x262 : Obj := tpl fd264
noncomputable def x269 : Obj := tpl fd271
noncomputable def x276 : Obj := tpl fd278
noncomputable def x283 : Obj := tpl fd285
noncomputable def x290 : Obj := tpl fd292
noncomputable def x297 : Obj := tpl fd299
noncomputable def x302 : Obj := tpl fd304
noncomputable def x309 : Obj := tpl fd311
noncomputable def x316 : Obj := tpl fd318
noncomputable def x323 : Obj := tpl fd325
noncomputable def x328 : Obj := tpl fd330
noncomputable def x333 : Obj := tpl fd335
noncomputable def x338 : Obj := tpl fd340
noncomputable def x343 : Obj := tpl fd345
noncomputable def x350 : Obj := tpl fd352
noncomputable def x357 : Obj := tpl fd359
noncomputable def x362 : Obj := tpl fd364
noncomputable def x369 : Obj := tpl fd371
noncomputable def x376 : Obj := tpl fd378
noncomputable def x381 : Obj := tpl fd383
noncomputable def x386 : Obj := tpl fd388
noncomputable def x391 : Obj := tpl fd393
noncomputable def x396 : Obj := tpl fd398
noncomputable def h_pre (P : Params) : Heap := ⟨⟨[(boot_o_0 P), (boot_o_1 P), (boot_o_2 P), (d3 P (.str "__main__" 164) 8 9), (boot_o_4 P), (boot_o_5 P), (boot_o_6 P), (boot_o_7 P), (boot_o_8 P), (boot_o_9 P), (boot_o_10 P), xu, (d12 0), x13, x14]⟩, ⟨[], [], [], 0, [], [], false, #[], [], 0, false, false, false, 0, [2000, 10, 10], false, 0, true, [], [], 0, false⟩⟩
noncomputable def h_p1 (P : Params) : Heap := ⟨⟨[(boot_o_0 P), (boot_o_1 P), (ob2 P), (d3 P (.str "snobol.values" 187) 9 10), (boot_o_4 P), (boot_o_5 P), (boot_o_6 P), (boot_o_7 P), (boot_o_8 P), (boot_o_9 P), (boot_o_10 P), xu, (d12 3), x13, x14, (ob15 P), x16, (x17_ P), (ob18 P), xu, x20, x21, x22, (ob23 P), (ob24 P), (ob25 P), xe, (ob27 P), (ob28 P), x29, (ob30 P), (ob31 P), (ob32 P), (ob33 P), (ob34 P), (ob35 P), x36, x37]⟩, ⟨[], [], [], 0, [], [], false, #[], [], 0, false, false, false, 0, [2000, 10, 10], false, 0, true, [], [], 0, false⟩⟩
noncomputable def h_p2 (P : Params) : Heap := ⟨⟨[(boot_o_0 P), (boot_o_1 P), (ob2 P), (d3 P (.str "snobol.values" 187) 10 11), (boot_o_4 P), (boot_o_5 P), (boot_o_6 P), (boot_o_7 P), (boot_o_8 P), (boot_o_9 P), (boot_o_10 P), xu, (d12 6), x13, x14, (ob15 P), x16, (x17_ P), (ob18 P), xu, x20, x21, x22, (ob23 P), (ob24 P), (ob25 P), xe, (ob27 P), (ob28 P), x29, (ob30 P), (ob31 P), (ob32 P), (ob33 P), (ob34 P), (ob35 P), x36, x37, xu, x39, (x40_ P), xu, x42, x43, x44, (ob45 P), xe, (ob47 P), (ob48 P), x49, (ob50 P), (ob51 P), (ob52 P), (ob53 P), (ob54 P), (ob55 P), (ob56 P), x57, x58]⟩, ⟨[], [], [], 0, [], [], false, #[], [], 0, false, false, false, 0, [2000, 10, 10], false, 0, true, [], [], 0, false⟩⟩
noncomputable def h_p3 (P : Params) : Heap := ⟨⟨[(boot_o_0 P), (boot_o_1 P), (ob2 P), (d3 P (.str "snobol.values" 187) 11 12), (boot_o_4 P), (boot_o_5 P), (boot_o_6 P), (boot_o_7 P), (boot_o_8 P), (boot_o_9 P), (boot_o_10 P), xu, (d12 9), x13, x14, (ob15 P), x16, (x17_ P), (ob18 P), xu, x20, x21, x22, (ob23 P), (ob24 P), (ob25 P), xe, (ob27 P), (ob28 P), x29, (ob30 P), (ob31 P), (ob32 P), (ob33 P), (ob34 P), (ob35 P), x36, x37, xu, x39, (x40_ P), xu, x42, x43, x44, (ob45 P), xe, (ob47 P), (ob48 P), x49, (ob50 P), (ob51 P), (ob52 P), (ob53 P), (ob54 P), (ob55 P), (ob56 P), x57, x58, xu, x60, (x61_ P), xu, x63, x64, x65, (ob66 P), xe, (ob68 P), (ob69 P), x70, (ob71 P), (ob72 P), (ob73 P), (ob74 P), (ob75 P), (ob76 P), (ob77 P), x78, x79]⟩, ⟨[], [], [], 0, [], [], false, #[], [], 0, false, false, false, 0, [2000, 10, 10], false, 0, true, [], [], 0, false⟩⟩
noncomputable def h_p4 (P : Params) : Heap := ⟨⟨[(boot_o_0 P), (boot_o_1 P), (ob2 P), (d3 P (.str "snobol.values" 187) 12 13), (boot_o_4 P), (boot_o_5 P), (boot_o_6 P), (boot_o_7 P), (boot_o_8 P), (boot_o_9 P), (boot_o_10 P), xu, (d12 12), x13, x14, (ob15 P), x16, (x17_ P), (ob18 P), xu, x20, x21, x22, (ob23 P), (ob24 P), (ob25 P), xe, (ob27 P), (ob28 P), x29, (ob30 P), (ob31 P), (ob32 P), (ob33 P), (ob34 P), (ob35 P), x36, x37, xu, x39, (x40_ P), xu, x42, x43, x44, (ob45 P), xe, (ob47 P), (ob48 P), x49, (ob50 P), (ob51 P), (ob52 P), (ob53 P), (ob54 P), (ob55 P), (ob56 P), x57, x58, xu, x60, (x61_ P), xu, x63, x64, x65, (ob66 P), xe, (ob68 P), (ob69 P), x70, (ob71 P), (ob72 P), (ob73 P), (ob74 P), (ob75 P), (ob76 P), (ob77 P), x78, x79, xu, x81, (x82_ P), xu, x84, x85, x86, (ob87 P), xe, (ob89 P), (ob90 P), x91, (ob92 P), (ob93 P), (ob94 P), (ob95 P), (ob96 P), (ob97 P), (ob98 P), x99, x100]⟩, ⟨[], [], [], 0, [], [], false, #[], [], 0, false, false, false, 0, [2000, 10, 10], false, 0, true, [], [], 0, false⟩⟩
noncomputable def h_p5 (P : Params) : Heap := ⟨⟨[(boot_o_0 P), (boot_o_1 P), (ob2 P), (d3 P (.str "snobol.values" 187) 13 14), (boot_o_4 P), (boot_o_5 P), (boot_o_6 P), (boot_o_7 P), (boot_o_8 P), (boot_o_9 P), (boot_o_10 P), xu, (d12 15), x13, x14, (ob15 P), x16, (x17_ P), (ob18 P), xu, x20, x21, x22, (ob23 P), (ob24 P), (ob25 P), xe, (ob27 P), (ob28 P), x29, (ob30 P), (ob31 P), (ob32 P), (ob33 P), (ob34 P), (ob35 P), x36, x37, xu, x39, (x40_ P), xu, x42, x43, x44, (ob45 P), xe, (ob47 P), (ob48 P), x49, (ob50 P), (ob51 P), (ob52 P), (ob53 P), (ob54 P), (ob55 P), (ob56 P), x57, x58, xu, x60, (x61_ P), xu, x63, x64, x65, (ob66 P), xe, (ob68 P), (ob69 P), x70, (ob71 P), (ob72 P), (ob73 P), (ob74 P), (ob75 P), (ob76 P), (ob77 P), x78, x79, xu, x81, (x82_ P), xu, x84, x85, x86, (ob87 P), xe, (ob89 P), (ob90 P), x91, (ob92 P), (ob93 P), (ob94 P), (ob95 P), (ob96 P), (ob97 P), (ob98 P), x99, x100, xu, x102, (x103_ P), xu, x105, x106, x107, (ob108 P), xe, (ob110 P), (ob111 P), x112, (ob113 P), (ob114 P), (ob115 P), (ob116 P), (ob117 P), (ob118 P), (ob119 P), x120, x121]⟩, ⟨[], [], [], 0, [], [], false, #[], [], 0, false, false, false, 0, [2000, 10, 10], false, 0, true, [], [], 0, false⟩⟩
noncomputable def h_p6 (P : Params) : Heap := ⟨⟨[(boot_o_0 P), (boot_o_1 P), (ob2 P), (d3 P (.str "snobol.values" 187) 14 15), (boot_o_4 P), (boot_o_5 P), (boot_o_6 P), (boot_o_7 P), (boot_o_8 P), (boot_o_9 P), (boot_o_10 P), xu, (d12 18), x13, x14, (ob15 P), x16, (x17_ P), (ob18 P), xu, x20, x21, x22, (ob23 P), (ob24 P), (ob25 P), xe, (ob27 P), (ob28 P), x29, (ob30 P), (ob31 P), (ob32 P), (ob33 P), (ob34 P), (ob35 P), x36, x37, xu, x39, (x40_ P), xu, x42, x43, x44, (ob45 P), xe, (ob47 P), (ob48 P), x49, (ob50 P), (ob51 P), (ob52 P), (ob53 P), (ob54 P), (ob55 P), (ob56 P), x57, x58, xu, x60, (x61_ P), xu, x63, x64, x65, (ob66 P), xe, (ob68 P), (ob69 P), x70, (ob71 P), (ob72 P), (ob73 P), (ob74 P), (ob75 P), (ob76 P), (ob77 P), x78, x79, xu, x81, (x82_ P), xu, x84, x85, x86, (ob87 P), xe, (ob89 P), (ob90 P), x91, (ob92 P), (ob93 P), (ob94 P), (ob95 P), (ob96 P), (ob97 P), (ob98 P), x99, x100, xu, x102, (x103_ P), xu, x105, x106, x107, (ob108 P), xe, (ob110 P), (ob111 P), x112, (ob113 P), (ob114 P), (ob115 P), (ob116 P), (ob117 P), (ob118 P), (ob119 P), x120, x121, xu, x123, (x124_ P), xu, x126, x127, x128, (ob129 P), xe, (ob131 P), (ob132 P), x133, (ob134 P), (ob135 P), (ob136 P), (ob137 P), x138_0, (ob139 P), (ob140 P), x141, x142]⟩, ⟨[], [], [], 0, [], [], false, #[], [], 0, false, false, false, 0, [2000, 10, 10], false, 0, true, [], [], 0, false⟩⟩
noncomputable def h_p14 (P : Params) : Heap := ⟨⟨[(boot_o_0 P), (boot_o_1 P), (ob2 P), (d3 P (.str "snobol.values" 187) 22 23), (boot_o_4 P), (boot_o_5 P), (boot_o_6 P), (boot_o_7 P), (boot_o_8 P), (boot_o_9 P), (boot_o_10 P), xu, (d12 42), x13, x14, (ob15 P), x16, (x17_ P), (ob18 P), xu, x20, x21, x22, (ob23 P), (ob24 P), (ob25 P), xe, (ob27 P), (ob28 P), x29, (ob30 P), (ob31 P), (ob32 P), (ob33 P), (ob34 P), (ob35 P), x36, x37, xu, x39, (x40_ P), xu, x42, x43, x44, (ob45 P), xe, (ob47 P), (ob48 P), x49, (ob50 P), (ob51 P), (ob52 P), (ob53 P), (ob54 P), (ob55 P), (ob56 P), x57, x58, xu, x60, (x61_ P), xu, x63, x64, x65, (ob66 P), xe, (ob68 P), (ob69 P), x70, (ob71 P), (ob72 P), (ob73 P), (ob74 P), (ob75 P), (ob76 P), (ob77 P), x78, x79, xu, x81, (x82_ P), xu, x84, x85, x86, (ob87 P), xe, (ob89 P), (ob90 P), x91, (ob92 P), (ob93 P), (ob94 P), (ob95 P), (ob96 P), (ob97 P), (ob98 P), x99, x100, xu, x102, (x103_ P), xu, x105, x106, x107, (ob108 P), xe, (ob110 P), (ob111 P), x112, (ob113 P), (ob114 P), (ob115 P), (ob116 P), (ob117 P), (ob118 P), (ob119 P), x120, x121, xu, x123, (x124_ P), xu, x126, x127, x128, (ob129 P), xe, (ob131 P), (ob132 P), x133, (ob134 P), (ob135 P), (ob136 P), (ob137 P), x138_0, (ob139 P), (ob140 P), x141, x142, (ob143 P), xe, (ob145 P), (ob146 P), x147, (ob148 P), (ob149 P), (ob150 P), xe, (ob152 P), (ob153 P), x154, (ob155 P), (ob156 P), (ob157 P), xe, (ob159 P), (ob160 P), x161, (ob162 P), (ob163 P), (ob164 P), xe, (ob166 P), (ob167 P), x168, (ob169 P), (ob170 P), (ob171 P), xe, (ob173 P), (ob174 P), x175, (ob176 P), (ob177 P), (ob178 P), xe, (ob180 P), (ob181 P), x182, (ob183 P), (ob184 P), (ob185 P), xe, (ob187 P), (ob188 P), x189, (ob190 P), (ob191 P), (ob192 P), xe, (ob194 P), (ob195 P), x196, (ob197 P), (ob198 P)]⟩, ⟨[], [], [], 0, [], [], false, #[], [], 0, false, false, false, 0, [2000, 10, 10], false, 0, true, [], [], 0, false⟩⟩
noncomputable def h_p18 (P : Params) : Heap := ⟨⟨[(boot_o_0 P), (boot_o_1 P), (ob2 P), (d3 P (.str "snobol.aggregates" 465) 25 26), (boot_o_4 P), (boot_o_5 P), (boot_o_6 P), (boot_o_7 P), (boot_o_8 P), (boot_o_9 P), (boot_o_10 P), xu, (d12 51), x13, x14, (ob15 P), x16, (x17_ P), (ob18 P), xu, x20, x21, x22, (ob23 P), (ob24 P), (ob25 P), xe, (ob27 P), (ob28 P), x29, (ob30 P), (ob31 P), (ob32 P), (ob33 P), (ob34 P), (ob35 P), x36, x37, xu, x39, (x40_ P), xu, x42, x43, x44, (ob45 P), xe, (ob47 P), (ob48 P), x49, (ob50 P), (ob51 P), (ob52 P), (ob53 P), (ob54 P), (ob55 P), (ob56 P), x57, x58, xu, x60, (x61_ P), xu, x63, x64, x65, (ob66 P), xe, (ob68 P), (ob69 P), x70, (ob71 P), (ob72 P), (ob73 P), (ob74 P), (ob75 P), (ob76 P), (ob77 P), x78, x79, xu, x81, (x82_ P), xu, x84, x85, x86, (ob87 P), xe, (ob89 P), (ob90 P), x91, (ob92 P), (ob93 P), (ob94 P), (ob95 P), (ob96 P), (ob97 P), (ob98 P), x99, x100, xu, x102, (x103_ P), xu, x105, x106, x107, (ob108 P), xe, (ob110 P), (ob111 P), x112, (ob113 P), (ob114 P), (ob115 P), (ob116 P), (ob117 P), (ob118 P), (ob119 P), x120, x121, xu, x123, (x124_ P), xu, x126, x127, x128, (ob129 P), xe, (ob131 P), (ob132 P), x133, (ob134 P), (ob135 P), (ob136 P), (ob137 P), x138_0, (ob139 P), (ob140 P), x141, x142, (ob143 P), xe, (ob145 P), (ob146 P), x147, (ob148 P), (ob149 P), (ob150 P), xe, (ob152 P), (ob153 P), x154, (ob155 P), (ob156 P), (ob157 P), xe, (ob159 P), (ob160 P), x161, (ob162 P), (ob163 P), (ob164 P), xe, (ob166 P), (ob167 P), x168, (ob169 P), (ob170 P), (ob171 P), xe, (ob173 P), (ob174 P), x175, (ob176 P), (ob177 P), (ob178 P), xe, (ob180 P), (ob181 P), x182, (ob183 P), (ob184 P), (ob185 P), xe, (ob187 P), (ob188 P), x189, (ob190 P), (ob191 P), (ob192 P), xe, (ob194 P), (ob195 P), x196, (ob197 P), (ob198 P), (ob199 P), xe, (ob201 P), (ob202 P), x203, (ob204 P), (ob205 P), (ob206 P), xe, (ob208 P), (ob209 P), x210, (ob211 P), (ob212 P), (ob213 P), xe, (ob215 P), (ob216 P), x217, (ob218 P), (ob219 P)]⟩, ⟨[], [], [], 0, [], [], false, #[], [], 0, false, false, false, 0, [2000, 10, 10], false, 0, true, [], [], 0, false⟩⟩
noncomputable def h_p19 (P : Params) : Heap := ⟨⟨[(boot_o_0 P), (boot_o_1 P), (ob2 P), (d3 P (.str "snobol.aggregates" 465) 26 27), (boot_o_4 P), (boot_o_5 P), (boot_o_6 P), (boot_o_7 P), (boot_o_8 P), (boot_o_9 P), (boot_o_10 P), xu, (d12 54), x13, x14, (ob15 P), x16, (x17_ P), (ob18 P), xu, x20, x21, x22, (ob23 P), (ob24 P), (ob25 P), xe, (ob27 P), (ob28 P), x29, (ob30 P), (ob31 P), (ob32 P), (ob33 P), (ob34 P), (ob35 P), x36, x37, xu, x39, (x40_ P), xu, x42, x43, x44, (ob45 P), xe, (ob47 P), (ob48 P), x49, (ob50 P), (ob51 P), (ob52 P), (ob53 P), (ob54 P), (ob55 P), (ob56 P), x57, x58, xu, x60, (x61_ P), xu, x63, x64, x65, (ob66 P), xe, (ob68 P), (ob69 P), x70, (ob71 P), (ob72 P), (ob73 P), (ob74 P), (ob75 P), (ob76 P), (ob77 P), x78, x79, xu, x81, (x82_ P), xu, x84, x85, x86, (ob87 P), xe, (ob89 P), (ob90 P), x91, (ob92 P), (ob93 P), (ob94 P), (ob95 P), (ob96 P), (ob97 P), (ob98 P), x99, x100, xu, x102, (x103_ P), xu, x105, x106, x107, (ob108 P), xe, (ob110 P), (ob111 P), x112, (ob113 P), (ob114 P), (ob115 P), (ob116 P), (ob117 P), (ob118 P), (ob119 P), x120, x121, xu, x123, (x124_ P), xu, x126, x127, x128, (ob129 P), xe, (ob131 P), (ob132 P), x133, (ob134 P), (ob135 P), (ob136 P), (ob137 P), x138_1, (ob139 P), (ob140 P), x141, x142, (ob143 P), xe, (ob145 P), (ob146 P), x147, (ob148 P), (ob149 P), (ob150 P), xe, (ob152 P), (ob153 P), x154, (ob155 P), (ob156 P), (ob157 P), xe, (ob159 P), (ob160 P), x161, (ob162 P), (ob163 P), (ob164 P), xe, (ob166 P), (ob167 P), x168, (ob169 P), (ob170 P), (ob171 P), xe, (ob173 P), (ob174 P), x175, (ob176 P), (ob177 P), (ob178 P), xe, (ob180 P), (ob181 P), x182, (ob183 P), (ob184 P), (ob185 P), xe, (ob187 P), (ob188 P), x189, (ob190 P), (ob191 P), (ob192 P), xe, (ob194 P), (ob195 P), x196, (ob197 P), (ob198 P), (ob199 P), xe, (ob201 P), (ob202 P), x203, (ob204 P), (ob205 P), (ob206 P), xe, (ob208 P), (ob209 P), x210, (ob211 P), (ob212 P), (ob213 P), xe, (ob215 P), (ob216 P), x217, (ob218 P), (ob219 P), (ob220 P), x221, (x222_ P), xu, x224, x225, x226, (ob227 P), xe, (ob229 P), (ob230 P), x231, (ob232 P), (ob233 P), (ob234 P), (ob235 P), (ob236 P), x237, x238]⟩, ⟨[], [], [], 0, [], [], false, #[], [], 0, false, false, false, 0, [2000, 10, 10], false, 0, true, [], [], 0, false⟩⟩
noncomputable def h_p20 (P : Params) : Heap := ⟨⟨[(boot_o_0 P), (boot_o_1 P), (ob2 P), (d3 P (.str "snobol.aggregates" 465) 27 28), (boot_o_4 P), (boot_o_5 P), (boot_o_6 P), (boot_o_7 P), (boot_o_8 P), (boot_o_9 P), (boot_o_10 P), xu, (d12 57), x13, x14, (ob15 P), x16, (x17_ P), (ob18 P), xu, x20, x21, x22, (ob23 P), (ob24 P), (ob25 P), xe, (ob27 P), (ob28 P), x29, (ob30 P), (ob31 P), (ob32 P), (ob33 P), (ob34 P), (ob35 P), x36, x37, xu, x39, (x40_ P), xu, x42, x43, x44, (ob45 P), xe, (ob47 P), (ob48 P), x49, (ob50 P), (ob51 P), (ob52 P), (ob53 P), (ob54 P), (ob55 P), (ob56 P), x57, x58, xu, x60, (x61_ P), xu, x63, x64, x65, (ob66 P), xe, (ob68 P), (ob69 P), x70, (ob71 P), (ob72 P), (ob73 P), (ob74 P), (ob75 P), (ob76 P), (ob77 P), x78, x79, xu, x81, (x82_ P), xu, x84, x85, x86, (ob87 P), xe, (ob89 P), (ob90 P), x91, (ob92 P), (ob93 P), (ob94 P), (ob95 P), (ob96 P), (ob97 P), (ob98 P), x99, x100, xu, x102, (x103_ P), xu, x105, x106, x107, (ob108 P), xe, (ob110 P), (ob111 P), x112, (ob113 P), (ob114 P), (ob115 P), (ob116 P), (ob117 P), (ob118 P), (ob119 P), x120, x121, xu, x123, (x124_ P), xu, x126, x127, x128, (ob129 P), xe, (ob131 P), (ob132 P), x133, (ob134 P), (ob135 P), (ob136 P), (ob137 P), (ob138 P), (ob139 P), (ob140 P), x141, x142, (ob143 P), xe, (ob145 P), (ob146 P), x147, (ob148 P), (ob149 P), (ob150 P), xe, (ob152 P), (ob153 P), x154, (ob155 P), (ob156 P), (ob157 P), xe, (ob159 P), (ob160 P), x161, (ob162 P), (ob163 P), (ob164 P), xe, (ob166 P), (ob167 P), x168, (ob169 P), (ob170 P), (ob171 P), xe, (ob173 P), (ob174 P), x175, (ob176 P), (ob177 P), (ob178 P), xe, (ob180 P), (ob181 P), x182, (ob183 P), (ob184 P), (ob185 P), xe, (ob187 P), (ob188 P), x189, (ob190 P), (ob191 P), (ob192 P), xe, (ob194 P), (ob195 P), x196, (ob197 P), (ob198 P), (ob199 P), xe, (ob201 P), (ob202 P), x203, (ob204 P), (ob205 P), (ob206 P), xe, (ob208 P), (ob209 P), x210, (ob211 P), (ob212 P), (ob213 P), xe, (ob215 P), (ob216 P), x217, (ob218 P), (ob219 P), (ob220 P), x221, (x222_ P), xu, x224, x225, x226, (ob227 P), xe, (ob229 P), (ob230 P), x231, (ob232 P), (ob233 P), (ob234 P), (ob235 P), (ob236 P), x237, x238, (ob239 P), x240, (x241_ P), xu, x243, x244, x245, (ob246 P), xe, (ob248 P), (ob249 P), x250, (ob251 P), (ob252 P), (ob253 P), (ob254 P), (ob255 P), x256, x257]⟩, ⟨[], [], [], 0, [], [], false, #[], [], 0, false, false, false, 0, [2000, 10, 10], false, 0, true, [], [], 0, false⟩⟩
noncomputable def h_p28 (P : Params) : Heap := ⟨⟨[(boot_o_0 P), (boot_o_1 P), (ob2 P), (d3 P (.str "snobol.aggregates" 465) 35 36), (boot_o_4 P), (boot_o_5 P), (boot_o_6 P), (boot_o_7 P), (boot_o_8 P), (boot_o_9 P), (boot_o_10 P), xu, (d12 81), x13, x14, (ob15 P), x16, (x17_ P), (ob18 P), xu, x20, x21, x22, (ob23 P), (ob24 P), (ob25 P), xe, (ob27 P), (ob28 P), x29, (ob30 P), (ob31 P), (ob32 P), (ob33 P), (ob34 P), (ob35 P), x36, x37, xu, x39, (x40_ P), xu, x42, x43, x44, (ob45 P), xe, (ob47 P), (ob48 P), x49, (ob50 P), (ob51 P), (ob52 P), (ob53 P), (ob54 P), (ob55 P), (ob56 P), x57, x58, xu, x60, (x61_ P), xu, x63, x64, x65, (ob66 P), xe, (ob68 P), (ob69 P), x70, (ob71 P), (ob72 P), (ob73 P), (ob74 P), (ob75 P), (ob76 P), (ob77 P), x78, x79, xu, x81, (x82_ P), xu, x84, x85, x86, (ob87 P), xe, (ob89 P), (ob90 P), x91, (ob92 P), (ob93 P), (ob94 P), (ob95 P), (ob96 P), (ob97 P), (ob98 P), x99, x100, xu, x102, (x103_ P), xu, x105, x106, x107, (ob108 P), xe, (ob110 P), (ob111 P), x112, (ob113 P), (ob114 P), (ob115 P), (ob116 P), (ob117 P), (ob118 P), (ob119 P), x120, x121, xu, x123, (x124_ P), xu, x126, x127, x128, (ob129 P), xe, (ob131 P), (ob132 P), x133, (ob134 P), (ob135 P), (ob136 P), (ob137 P), (ob138 P), (ob139 P), (ob140 P), x141, x142, (ob143 P), xe, (ob145 P), (ob146 P), x147, (ob148 P), (ob149 P), (ob150 P), xe, (ob152 P), (ob153 P), x154, (ob155 P), (ob156 P), (ob157 P), xe, (ob159 P), (ob160 P), x161, (ob162 P), (ob163 P), (ob164 P), xe, (ob166 P), (ob167 P), x168, (ob169 P), (ob170 P), (ob171 P), xe, (ob173 P), (ob174 P), x175, (ob176 P), (ob177 P), (ob178 P), xe, (ob180 P), (ob181 P), x182, (ob183 P), (ob184 P), (ob185 P), xe, (ob187 P), (ob188 P), x189, (ob190 P), (ob191 P), (ob192 P), xe, (ob194 P), (ob195 P), x196, (ob197 P), (ob198 P), (ob199 P), xe, (ob201 P), (ob202 P), x203, (ob204 P), (ob205 P), (ob206 P), xe, (ob208 P), (ob209 P), x210, (ob211 P), (ob212 P), (ob213 P), xe, (ob215 P), (ob216 P), x217, (ob218 P), (ob219 P), (ob220 P), x221, (x222_ P), xu, x224, x225, x226, (ob227 P), xe, (ob229 P), (ob230 P), x231, (ob232 P), (ob233 P), (ob234 P), (ob235 P), (ob236 P), x237, x238, (ob239 P), x240, (x241_ P), xu, x243, x244, x245, (ob246 P), xe, (ob248 P), (ob249 P), x250, (ob251 P), (ob252 P), (ob253 P), (ob254 P), (ob255 P), x256, x257, (ob258 P), xe, (ob260 P), (ob261 P), x262, (ob263 P), (ob264 P), (ob265 P), xe, (ob267 P), (ob268 P), x269, (ob270 P), (ob271 P), (ob272 P), xe, (ob274 P), (ob275 P), x276, (ob277 P), (ob278 P), (ob279 P), xe, (ob281 P), (ob282 P), x283, (ob284 P), (ob285 P), (ob286 P), xe, (ob288 P), (ob289 P), x290, (ob291 P), (ob292 P), (ob293 P), xe, (ob295 P), (ob296 P), x297, (ob298 P), (ob299 P), (ob300 P), xe, x302, (ob303 P), (ob304 P), (ob305 P), xe, (ob307 P), (ob308 P), x309, (ob310 P), (ob311 P)]⟩, ⟨[], [], [], 0, [], [], false, #[], [], 0, false, false, false, 0, [2000, 10, 10], false, 0, true, [], [], 0, false⟩⟩
noncomputable def h_p36 (P : Params) : Heap := ⟨⟨[(boot_o_0 P), (boot_o_1 P), (ob2 P), (d3 P (.str "law_np0299_01" 650) 42 43), (boot_o_4 P), (boot_o_5 P), (boot_o_6 P), (boot_o_7 P), (boot_o_8 P), (boot_o_9 P), (boot_o_10 P), xu, (d12 102), x13, x14, (ob15 P), x16, (x17_ P), (ob18 P), xu, x20, x21, x22, (ob23 P), (ob24 P), (ob25 P), xe, (ob27 P), (ob28 P), x29, (ob30 P), (ob31 P), (ob32 P), (ob33 P), (ob34 P), (ob35 P), x36, x37, xu, x39, (x40_ P), xu, x42, x43, x44, (ob45 P), xe, (ob47 P), (ob48 P), x49, (ob50 P), (ob51 P), (ob52 P), (ob53 P), (ob54 P), (ob55 P), (ob56 P), x57, x58, xu, x60, (x61_ P), xu, x63, x64, x65, (ob66 P), xe, (ob68 P), (ob69 P), x70, (ob71 P), (ob72 P), (ob73 P), (ob74 P), (ob75 P), (ob76 P), (ob77 P), x78, x79, xu, x81, (x82_ P), xu, x84, x85, x86, (ob87 P), xe, (ob89 P), (ob90 P), x91, (ob92 P), (ob93 P), (ob94 P), (ob95 P), (ob96 P), (ob97 P), (ob98 P), x99, x100, xu, x102, (x103_ P), xu, x105, x106, x107, (ob108 P), xe, (ob110 P), (ob111 P), x112, (ob113 P), (ob114 P), (ob115 P), (ob116 P), (ob117 P), (ob118 P), (ob119 P), x120, x121, xu, x123, (x124_ P), xu, x126, x127, x128, (ob129 P), xe, (ob131 P), (ob132 P), x133, (ob134 P), (ob135 P), (ob136 P), (ob137 P), (ob138 P), (ob139 P), (ob140 P), x141, x142, (ob143 P), xe, (ob145 P), (ob146 P), x147, (ob148 P), (ob149 P), (ob150 P), xe, (ob152 P), (ob153 P), x154, (ob155 P), (ob156 P), (ob157 P), xe, (ob159 P), (ob160 P), x161, (ob162 P), (ob163 P), (ob164 P), xe, (ob166 P), (ob167 P), x168, (ob169 P), (ob170 P), (ob171 P), xe, (ob173 P), (ob174 P), x175, (ob176 P), (ob177 P), (ob178 P), xe, (ob180 P), (ob181 P), x182, (ob183 P), (ob184 P), (ob185 P), xe, (ob187 P), (ob188 P), x189, (ob190 P), (ob191 P), (ob192 P), xe, (ob194 P), (ob195 P), x196, (ob197 P), (ob198 P), (ob199 P), xe, (ob201 P), (ob202 P), x203, (ob204 P), (ob205 P), (ob206 P), xe, (ob208 P), (ob209 P), x210, (ob211 P), (ob212 P), (ob213 P), xe, (ob215 P), (ob216 P), x217, (ob218 P), (ob219 P), (ob220 P), x221, (x222_ P), xu, x224, x225, x226, (ob227 P), xe, (ob229 P), (ob230 P), x231, (ob232 P), (ob233 P), (ob234 P), (ob235 P), (ob236 P), x237, x238, (ob239 P), x240, (x241_ P), xu, x243, x244, x245, (ob246 P), xe, (ob248 P), (ob249 P), x250, (ob251 P), (ob252 P), (ob253 P), (ob254 P), (ob255 P), x256, x257, (ob258 P), xe, (ob260 P), (ob261 P), x262, (ob263 P), (ob264 P), (ob265 P), xe, (ob267 P), (ob268 P), x269, (ob270 P), (ob271 P), (ob272 P), xe, (ob274 P), (ob275 P), x276, (ob277 P), (ob278 P), (ob279 P), xe, (ob281 P), (ob282 P), x283, (ob284 P), (ob285 P), (ob286 P), xe, (ob288 P), (ob289 P), x290, (ob291 P), (ob292 P), (ob293 P), xe, (ob295 P), (ob296 P), x297, (ob298 P), (ob299 P), (ob300 P), xe, x302, (ob303 P), (ob304 P), (ob305 P), xe, (ob307 P), (ob308 P), x309, (ob310 P), (ob311 P), (ob312 P), xe, (ob314 P), (ob315 P), x316, (ob317 P), (ob318 P), (ob319 P), xe, (ob321 P), (ob322 P), x323, (ob324 P), (ob325 P), (ob326 P), xe, x328, (ob329 P), (ob330 P), (ob331 P), xe, x333, (ob334 P), (ob335 P), (ob336 P), xe, x338, (ob339 P), (ob340 P), (ob341 P), xe, x343, (ob344 P), (ob345 P), (ob346 P), xe, (ob348 P), (ob349 P), x350, (ob351 P), (ob352 P)]⟩, ⟨[], [], [], 0, [], [], false, #[], [], 0, false, false, false, 0, [2000, 10, 10], false, 0, true, [], [], 0, false⟩⟩
noncomputable def h_p44 (P : Params) : Heap := ⟨⟨[(boot_o_0 P), (boot_o_1 P), (ob2 P), (d3 P (.str "law_np0299_01" 650) 50 51), (boot_o_4 P), (boot_o_5 P), (boot_o_6 P), (boot_o_7 P), (boot_o_8 P), (boot_o_9 P), (boot_o_10 P), xu, (d12 126), x13, x14, (ob15 P), x16, (x17_ P), (ob18 P), xu, x20, x21, x22, (ob23 P), (ob24 P), (ob25 P), xe, (ob27 P), (ob28 P), x29, (ob30 P), (ob31 P), (ob32 P), (ob33 P), (ob34 P), (ob35 P), x36, x37, xu, x39, (x40_ P), xu, x42, x43, x44, (ob45 P), xe, (ob47 P), (ob48 P), x49, (ob50 P), (ob51 P), (ob52 P), (ob53 P), (ob54 P), (ob55 P), (ob56 P), x57, x58, xu, x60, (x61_ P), xu, x63, x64, x65, (ob66 P), xe, (ob68 P), (ob69 P), x70, (ob71 P), (ob72 P), (ob73 P), (ob74 P), (ob75 P), (ob76 P), (ob77 P), x78, x79, xu, x81, (x82_ P), xu, x84, x85, x86, (ob87 P), xe, (ob89 P), (ob90 P), x91, (ob92 P), (ob93 P), (ob94 P), (ob95 P), (ob96 P), (ob97 P), (ob98 P), x99, x100, xu, x102, (x103_ P), xu, x105, x106, x107, (ob108 P), xe, (ob110 P), (ob111 P), x112, (ob113 P), (ob114 P), (ob115 P), (ob116 P), (ob117 P), (ob118 P), (ob119 P), x120, x121, xu, x123, (x124_ P), xu, x126, x127, x128, (ob129 P), xe, (ob131 P), (ob132 P), x133, (ob134 P), (ob135 P), (ob136 P), (ob137 P), (ob138 P), (ob139 P), (ob140 P), x141, x142, (ob143 P), xe, (ob145 P), (ob146 P), x147, (ob148 P), (ob149 P), (ob150 P), xe, (ob152 P), (ob153 P), x154, (ob155 P), (ob156 P), (ob157 P), xe, (ob159 P), (ob160 P), x161, (ob162 P), (ob163 P), (ob164 P), xe, (ob166 P), (ob167 P), x168, (ob169 P), (ob170 P), (ob171 P), xe, (ob173 P), (ob174 P), x175, (ob176 P), (ob177 P), (ob178 P), xe, (ob180 P), (ob181 P), x182, (ob183 P), (ob184 P), (ob185 P), xe, (ob187 P), (ob188 P), x189, (ob190 P), (ob191 P), (ob192 P), xe, (ob194 P), (ob195 P), x196, (ob197 P), (ob198 P), (ob199 P), xe, (ob201 P), (ob202 P), x203, (ob204 P), (ob205 P), (ob206 P), xe, (ob208 P), (ob209 P), x210, (ob211 P), (ob212 P), (ob213 P), xe, (ob215 P), (ob216 P), x217, (ob218 P), (ob219 P), (ob220 P), x221, (x222_ P), xu, x224, x225, x226, (ob227 P), xe, (ob229 P), (ob230 P), x231, (ob232 P), (ob233 P), (ob234 P), (ob235 P), (ob236 P), x237, x238, (ob239 P), x240, (x241_ P), xu, x243, x244, x245, (ob246 P), xe, (ob248 P), (ob249 P), x250, (ob251 P), (ob252 P), (ob253 P), (ob254 P), (ob255 P), x256, x257, (ob258 P), xe, (ob260 P), (ob261 P), x262, (ob263 P), (ob264 P), (ob265 P), xe, (ob267 P), (ob268 P), x269, (ob270 P), (ob271 P), (ob272 P), xe, (ob274 P), (ob275 P), x276, (ob277 P), (ob278 P), (ob279 P), xe, (ob281 P), (ob282 P), x283, (ob284 P), (ob285 P), (ob286 P), xe, (ob288 P), (ob289 P), x290, (ob291 P), (ob292 P), (ob293 P), xe, (ob295 P), (ob296 P), x297, (ob298 P), (ob299 P), (ob300 P), xe, x302, (ob303 P), (ob304 P), (ob305 P), xe, (ob307 P), (ob308 P), x309, (ob310 P), (ob311 P), (ob312 P), xe, (ob314 P), (ob315 P), x316, (ob317 P), (ob318 P), (ob319 P), xe, (ob321 P), (ob322 P), x323, (ob324 P), (ob325 P), (ob326 P), xe, x328, (ob329 P), (ob330 P), (ob331 P), xe, x333, (ob334 P), (ob335 P), (ob336 P), xe, x338, (ob339 P), (ob340 P), (ob341 P), xe, x343, (ob344 P), (ob345 P), (ob346 P), xe, (ob348 P), (ob349 P), x350, (ob351 P), (ob352 P), (ob353 P), xe, (ob355 P), (ob356 P), x357, (ob358 P), (ob359 P), (ob360 P), xe, x362, (ob363 P), (ob364 P), (ob365 P), xe, (ob367 P), (ob368 P), x369, (ob370 P), (ob371 P), (ob372 P), xe, (ob374 P), (ob375 P), x376, (ob377 P), (ob378 P), (ob379 P), xe, x381, (ob382 P), (ob383 P), (ob384 P), xe, x386, (ob387 P), (ob388 P), (ob389 P), xe, x391, (ob392 P), (ob393 P), (ob394 P), xe, x396, (ob397 P), (ob398 P)]⟩, ⟨[], [], [], 0, [], [], false, #[], [], 0, false, false, false, 0, [2000, 10, 10], false, 0, true, [], [], 0, false⟩⟩
noncomputable abbrev pg : Program := PySem.Challenge.pw_np0299_01
noncomputable abbrev benv : Env := { scope := pg.main.scope, locals := mainNs, globals := mainNs, cells := [], code := .ref 13, frame := some 14 }
noncomputable abbrev bcode : Code := .body body0 benv
noncomputable abbrev bann : Option Value := some (.ref 6)
noncomputable abbrev btop : List Frame := [topFrame ⟨0, 0, 0, 0⟩]
theorem sg_eq : segRun treeTable = PySem.W.Fast.tw14374325043358763698 PySem.W.Fast.tw14364793385576792824 := by rw [PySem.W.Fast.te14374325043358763698, PySem.W.Fast.te14364793385576792824]
theorem ex_eq : @execs = PySem.W.Fast.tw12563942051412417395 := PySem.W.Fast.te12563942051412417395
theorem t_pre (w : World) (os : OsState) : topGo treeTable pg w 11 bann 12 ⟨boot_heap w.params, Array.mk [], boot_drawn, boot_toks, os⟩ (topStub pg) = some (⟨h_pre w.params, #[], ⟨0, 0, 0, 0⟩, 187, os⟩, ⟨denote treeTable bcode, bcode, ⟨0, 0, 0, 0⟩, btop⟩) := by kernel_rfl
theorem t_block (w : World) (os : OsState) : segRun treeTable pg w 11 bann 1 1 ⟨h_pre w.params, #[], ⟨0, 0, 0, 0⟩, 187, os⟩ (blockOf body0 benv bcode ⟨0, 0, 0, 0⟩ btop) = some (.next, ⟨h_pre w.params, #[], ⟨0, 0, 0, 0⟩, 187, os⟩, bcode, ⟨0, 0, 0, 0⟩) := by kernel_rfl
noncomputable abbrev l_p1 : List Stmt := [nth body0 0, nth body0 1]
theorem t_p1 (w : World) (os : OsState) : segRun treeTable pg w 11 bann 1 258 ⟨h_pre w.params, #[], ⟨0, 0, 0, 0⟩, 187, os⟩ (piecesOf l_p1 benv bcode ⟨0, 0, 0, 0⟩ btop) = some (.next, ⟨h_p1 w.params, #[], ⟨0, 0, 0, 0⟩, 223, os⟩, bcode, ⟨2, 0, 7, 24⟩) := by
  unfold piecesOf; rw [sg_eq, ex_eq]; kernel_rfl
noncomputable abbrev l_p2 : List Stmt := [nth body0 2]
theorem t_p2 (w : World) (os : OsState) : segRun treeTable pg w 11 bann 1 223 ⟨h_p1 w.params, #[], ⟨0, 0, 0, 0⟩, 223, os⟩ (piecesOf l_p2 benv bcode ⟨2, 0, 7, 24⟩ btop) = some (.next, ⟨h_p2 w.params, #[], ⟨0, 0, 0, 0⟩, 252, os⟩, bcode, ⟨8, 0, 11, 24⟩) := by
  unfold piecesOf; rw [sg_eq, ex_eq]; kernel_rfl
noncomputable abbrev l_p3 : List Stmt := [nth body0 3]
theorem t_p3 (w : World) (os : OsState) : segRun treeTable pg w 11 bann 1 223 ⟨h_p2 w.params, #[], ⟨0, 0, 0, 0⟩, 252, os⟩ (piecesOf l_p3 benv bcode ⟨8, 0, 11, 24⟩ btop) = some (.next, ⟨h_p3 w.params, #[], ⟨0, 0, 0, 0⟩, 281, os⟩, bcode, ⟨12, 0, 15, 24⟩) := by
  unfold piecesOf; rw [sg_eq, ex_eq]; kernel_rfl
noncomputable abbrev l_p4 : List Stmt := [nth body0 4]
theorem t_p4 (w : World) (os : OsState) : segRun treeTable pg w 11 bann 1 223 ⟨h_p3 w.params, #[], ⟨0, 0, 0, 0⟩, 281, os⟩ (piecesOf l_p4 benv bcode ⟨12, 0, 15, 24⟩ btop) = some (.next, ⟨h_p4 w.params, #[], ⟨0, 0, 0, 0⟩, 310, os⟩, bcode, ⟨16, 0, 19, 26⟩) := by
  unfold piecesOf; rw [sg_eq, ex_eq]; kernel_rfl
noncomputable abbrev l_p5 : List Stmt := [nth body0 5]
theorem t_p5 (w : World) (os : OsState) : segRun treeTable pg w 11 bann 1 227 ⟨h_p4 w.params, #[], ⟨0, 0, 0, 0⟩, 310, os⟩ (piecesOf l_p5 benv bcode ⟨16, 0, 19, 26⟩ btop) = some (.next, ⟨h_p5 w.params, #[], ⟨0, 0, 0, 0⟩, 343, os⟩, bcode, ⟨20, 0, 25, 22⟩) := by
  unfold piecesOf; rw [sg_eq, ex_eq]; kernel_rfl
noncomputable abbrev l_p6 : List Stmt := [nth body0 6]
theorem t_p6 (w : World) (os : OsState) : segRun treeTable pg w 11 bann 1 226 ⟨h_p5 w.params, #[], ⟨0, 0, 0, 0⟩, 343, os⟩ (piecesOf l_p6 benv bcode ⟨20, 0, 25, 22⟩ btop) = some (.next, ⟨h_p6 w.params, #[], ⟨0, 0, 0, 0⟩, 375, os⟩, bcode, ⟨26, 0, 31, 21⟩) := by
  unfold piecesOf; rw [sg_eq, ex_eq]; kernel_rfl
noncomputable abbrev l_p14 : List Stmt := [nth body0 7, nth body0 8, nth body0 9, nth body0 10, nth body0 11, nth body0 12, nth body0 13, nth body0 14]
theorem t_p14 (w : World) (os : OsState) : segRun treeTable pg w 11 bann 1 243 ⟨h_p6 w.params, #[], ⟨0, 0, 0, 0⟩, 375, os⟩ (piecesOf l_p14 benv bcode ⟨26, 0, 31, 21⟩ btop) = some (.next, ⟨h_p14 w.params, #[], ⟨0, 0, 0, 0⟩, 441, os⟩, bcode, ⟨75, 0, 79, 17⟩) := by
  unfold piecesOf; rw [sg_eq, ex_eq]; kernel_rfl
noncomputable abbrev l_p18 : List Stmt := [nth body0 15, nth body0 16, nth body0 17, nth body0 18]
theorem t_p18 (w : World) (os : OsState) : segRun treeTable pg w 11 bann 1 100 ⟨h_p14 w.params, #[], ⟨0, 0, 0, 0⟩, 441, os⟩ (piecesOf l_p18 benv bcode ⟨75, 0, 79, 17⟩ btop) = some (.next, ⟨h_p18 w.params, #[], ⟨0, 0, 0, 0⟩, 467, os⟩, bcode, ⟨107, 0, 107, 8⟩) := by
  unfold piecesOf; rw [sg_eq, ex_eq]; kernel_rfl
noncomputable abbrev l_p19 : List Stmt := [nth body0 19]
theorem t_p19 (w : World) (os : OsState) : segRun treeTable pg w 11 bann 1 251 ⟨h_p18 w.params, #[], ⟨0, 0, 0, 0⟩, 467, os⟩ (piecesOf l_p19 benv bcode ⟨107, 0, 107, 8⟩ btop) = some (.next, ⟨h_p19 w.params, #[], ⟨0, 0, 0, 0⟩, 497, os⟩, bcode, ⟨108, 0, 114, 53⟩) := by
  unfold piecesOf; rw [sg_eq, ex_eq]; kernel_rfl
noncomputable abbrev l_p20 : List Stmt := [nth body0 20]
theorem t_p20 (w : World) (os : OsState) : segRun treeTable pg w 11 bann 1 246 ⟨h_p19 w.params, #[], ⟨0, 0, 0, 0⟩, 497, os⟩ (piecesOf l_p20 benv bcode ⟨108, 0, 114, 53⟩ btop) = some (.next, ⟨h_p20 w.params, #[], ⟨0, 0, 0, 0⟩, 522, os⟩, bcode, ⟨115, 0, 119, 25⟩) := by
  unfold piecesOf; rw [sg_eq, ex_eq]; kernel_rfl
noncomputable abbrev l_p28 : List Stmt := [nth body0 21, nth body0 22, nth body0 23, nth body0 24, nth body0 25, nth body0 26, nth body0 27, nth body0 28]
theorem t_p28 (w : World) (os : OsState) : segRun treeTable pg w 11 bann 1 252 ⟨h_p20 w.params, #[], ⟨0, 0, 0, 0⟩, 522, os⟩ (piecesOf l_p28 benv bcode ⟨115, 0, 119, 25⟩ btop) = some (.next, ⟨h_p28 w.params, #[], ⟨0, 0, 0, 0⟩, 599, os⟩, bcode, ⟨170, 0, 175, 36⟩) := by
  unfold piecesOf; rw [sg_eq, ex_eq]; kernel_rfl
noncomputable abbrev l_p36 : List Stmt := [nth body0 29, nth body0 30, nth body0 31, nth body0 32, nth body0 33, nth body0 34, nth body0 35, nth body0 36]
theorem t_p36 (w : World) (os : OsState) : segRun treeTable pg w 11 bann 1 207 ⟨h_p28 w.params, #[], ⟨0, 0, 0, 0⟩, 599, os⟩ (piecesOf l_p36 benv bcode ⟨170, 0, 175, 36⟩ btop) = some (.next, ⟨h_p36 w.params, #[], ⟨0, 0, 0, 0⟩, 652, os⟩, bcode, ⟨213, 0, 213, 8⟩) := by
  unfold piecesOf; rw [sg_eq, ex_eq]; kernel_rfl
noncomputable abbrev l_p44 : List Stmt := [nth body0 37, nth body0 38, nth body0 39, nth body0 40, nth body0 41, nth body0 42, nth body0 43, nth body0 44]
theorem t_p44 (w : World) (os : OsState) : segRun treeTable pg w 11 bann 1 225 ⟨h_p36 w.params, #[], ⟨0, 0, 0, 0⟩, 652, os⟩ (piecesOf l_p44 benv bcode ⟨213, 0, 213, 8⟩ btop) = some (.next, ⟨h_p44 w.params, #[], ⟨0, 0, 0, 0⟩, 710, os⟩, bcode, ⟨296, 0, 301, 91⟩) := by
  unfold piecesOf; rw [sg_eq, ex_eq]; kernel_rfl
theorem t_fin (w : World) (os : OsState) : topRun treeTable pg w 11 bann 2 ⟨h_p44 w.params, #[], ⟨0, 0, 0, 0⟩, 710, os⟩ ⟨doneF .next, bcode, ⟨296, 0, 301, 91⟩, btop⟩ = some ⟨h_p44 w.params, #[], ⟨0, 0, 0, 0⟩, 710, os⟩ := by kernel_rfl
noncomputable abbrev pieces : List Stmt := l_p1 ++ (l_p2 ++ (l_p3 ++ (l_p4 ++ (l_p5 ++ (l_p6 ++ (l_p14 ++ (l_p18 ++ (l_p19 ++ (l_p20 ++ (l_p28 ++ (l_p36 ++ (l_p44 ++ []))))))))))))
theorem body_pieces : body0 = pieces := by kernel_rfl
theorem t_run (w : World) (os : OsState) : topRun treeTable pg w 11 bann (12 + (1 + (258 + (223 + (223 + (223 + (227 + (226 + (243 + (100 + (251 + (246 + (252 + (207 + (225 + (2)))))))))))))))) ⟨boot_heap w.params, Array.mk [], boot_drawn, boot_toks, os⟩ (topStub pg) = some ⟨h_p44 w.params, #[], ⟨0, 0, 0, 0⟩, 710, os⟩ :=
  go_top (t_pre w os) (piece_block (t_block w os) (body_pieces.symm ▸ (show topRun treeTable pg w 11 bann _ _ (restOf pieces benv bcode ⟨0, 0, 0, 0⟩ btop) = _ from (piece_app (t_p1 w os) (piece_app (t_p2 w os) (piece_app (t_p3 w os) (piece_app (t_p4 w os) (piece_app (t_p5 w os) (piece_app (t_p6 w os) (piece_app (t_p14 w os) (piece_app (t_p18 w os) (piece_app (t_p19 w os) (piece_app (t_p20 w os) (piece_app (t_p28 w os) (piece_app (t_p36 w os) (piece_app (t_p44 w os) (piece_nil (t_fin w os))))))))))))))))))
noncomputable def frag2 (P : Params) : Frag := frag P ++ [(nat_lit 385, tabObj #[]), (nat_lit 390, tabObj #[]), (nat_lit 395, tabObj #[])]
noncomputable def frAt2 : List Addr := frAt ++ [385, 390, 395]
noncomputable def hook : Hook := kHook frag2 frAt2 (fun _ => by kernel_rfl)
noncomputable abbrev row0 := PySem.Challenge.rw_np0299_01.row
noncomputable abbrev xt (s : Shared) : Bool := xlAt view [] s && recOk (RowW.records row0.toRowW) s
noncomputable abbrev sF (w : World) (os : OsState) : Shared := ⟨h_p44 w.params, #[], ⟨0, 0, 0, 0⟩, 710, os⟩
theorem k_open : ∀ w : World, (fencedOpening treeTable pg w 5908).map (fun s => (s.heap, s.gens, s.drawn, s.toks)) = some (boot_heap w.params, Array.mk [], boot_drawn, boot_toks) := boot_open (by kernel_rfl) (by rfl) (fun s => by kernel_rfl)
theorem k_size (w : World) : ((boot_heap w.params).isNs mainGlobals && (Array.mk [] : Array GenState).size == 0, (boot_heap w.params).objs.size, (boot_heap w.params).nsMap mainGlobals "__annotations__") = (true, 11, bann) := by kernel_rfl
theorem k_kept (w : World) (os : OsState) : (staticsOk (importedModules pg.main.body) (boot_heap w.params) (h_p44 w.params) && namesBound pg (h_p44 w.params) && gensDone (sF w os) && laidKept (boot_heap w.params) (h_p44 w.params)) = true := by kernel_rfl
theorem k_seen (w : World) (os : OsState) : openSeen view [Str.ofString "SnobolError"] (importedModules pg.main.body) xt true (sF w os) = openGood view [Str.ofString "SnobolError"] := by kernel_rfl
theorem k_hook (w : World) (os : OsState) : Hook.obs hook (sF w os) = Hook.val hook w := by kernel_rfl
theorem left : LeftO pg view [Str.ofString "SnobolError"] xt (Hook.obs hook) (Hook.val hook) 5908 := by
  refine LeftO.of_pieces k_open k_size t_run (by decide) fun w => funext fun os => ?_
  exact Prod.ext (k_kept w os) (Prod.ext (k_seen w os) (k_hook w os))

noncomputable abbrev pw : Program := PySem.Challenge.pw_np0299_01
noncomputable abbrev Mw (w : World) : Model := model pw w

/-- values as the proof sees them: tokens gone, tuples and frozen lists deep -/
inductive V where
  | none | bool (b : Bool) | int (i : Int) | str (s : Str) | tup (vs : List V) | lst (vs : List V) | ref (a : Addr) | bi (id : String) | ty (n : String)

/-- places with different contents are apart -/
theorem nz {α β : Type} {f : α → Option β} {a b : α} {o : β} (e : f a = some o) (d : f b = Option.none) : a ≠ b := fun z => by rw [z, d] at e; cases e
theorem nm {α β : Type} {f : α → Option β} {a b : α} {o : β} (e : f a = some o) (d : f b = Option.none) : a ∉ [b] := fun z => nz e d (List.mem_singleton.mp z)
abbrev KV := Str ⊕ Int
inductive AO where
  | list (vs : List V) | inst (C : Addr) (fs : List (Str × V)) | dict (kvs : List (List KV × V)) | aux (x : Addr) | obj (ob : Obj) | it | lock (o : AO)
abbrev AH := Addr → Option AO
noncomputable def AH.set (H : AH) (a : Addr) (o : AO) : AH := fun b => if b = a then some o else H b
theorem AH.set_self (H : AH) (a : Addr) (o : AO) : H.set a o a = some o := if_pos rfl
theorem AH.set_ne (H : AH) {a b : Addr} (o : AO) (h : b ≠ a) : H.set a o b = H b := if_neg h

mutual
inductive Rel (H : AH) (h : Heap) : Value → V → Prop
  | none : Rel H h .none .none
  | bool (b : Bool) : Rel H h (.bool b) (.bool b)
  | int (i : Int) (t : Tok) : Rel H h (.int i t) (.int i)
  | str (s : Str) (t : Tok) : Rel H h (.str s t) (.str s)
  | ref (a : Addr) : Rel H h (.ref a) (.ref a)
  | bi (i : String) : Rel H h (.builtin i) (.bi i)
  | ty (n : String) : Rel H h (.type n) (.ty n)
  | tup {a : Addr} {o : Obj} {items : Array Value} {n : Nat} {vs : List V} : h.get? a = some o → o.cls = .type "tuple" → o.data = .seq items n → H a = none → RelAll H h items.toList vs → Rel H h (.ref a) (.tup vs)
  | lst {a : Addr} {o : Obj} {items : Array Value} {n : Nat} {vs : List V} : h.get? a = some o → o.cls = .type "list" → o.data = .seq items n → H a = none → RelAll H h items.toList vs → Rel H h (.ref a) (.lst vs)
inductive RelAll (H : AH) (h : Heap) : List Value → List V → Prop
  | nil : RelAll H h [] []
  | cons {v : Value} {x : V} {vs : List Value} {xs : List V} : Rel H h v x → RelAll H h vs xs → RelAll H h (v :: vs) (x :: xs)
end

section
variable {H : AH} {h : Heap} {P : Value → Prop} {L : List Value → Prop} {v : Value} {vs : List Value}
@[elab_as_elim] theorem Rel.iE {i : Int} (r : Rel H h v (.int i)) (k : ∀ t, P (.int i t)) : P v := by cases r; exact k _
@[elab_as_elim] theorem Rel.sE {i : Str} (r : Rel H h v (.str i)) (k : ∀ t, P (.str i t)) : P v := by cases r; exact k _
@[elab_as_elim] theorem Rel.rE {a : Addr} (r : Rel H h v (.ref a)) (k : P (.ref a)) : P v := by cases r; exact k
@[elab_as_elim] theorem Rel.bE {a : Bool} (r : Rel H h v (.bool a)) (k : P (.bool a)) : P v := by cases r; exact k
@[elab_as_elim] theorem Rel.nE (r : Rel H h v .none) (k : P .none) : P v := by cases r; exact k
@[elab_as_elim] theorem Rel.cE {i : String} (r : Rel H h v (.bi i)) (k : P (.builtin i)) : P v := by cases r; exact k
@[elab_as_elim] theorem Rel.yE {i : String} (r : Rel H h v (.ty i)) (k : P (.type i)) : P v := by cases r; exact k
@[elab_as_elim] theorem Rel.tE {xs : List V} (r : Rel H h v (.tup xs)) (k : ∀ a o items n, h.get? a = some o → o.cls = .type "tuple" → o.data = .seq items n → H a = Option.none → RelAll H h items.toList xs → P (.ref a)) : P v := by cases r with | tup a b c d e => exact k _ _ _ _ a b c d e
@[elab_as_elim] theorem Rel.lE {xs : List V} (r : Rel H h v (.lst xs)) (k : ∀ a o items n, h.get? a = some o → o.cls = .type "list" → o.data = .seq items n → H a = Option.none → RelAll H h items.toList xs → P (.ref a)) : P v := by cases r with | lst a b c d e => exact k _ _ _ _ a b c d e
@[elab_as_elim] theorem RelAll.zE (r : RelAll H h vs []) (k : L []) : L vs := by cases r; exact k
@[elab_as_elim] theorem RelAll.kE {x : V} {xs : List V} (r : RelAll H h vs (x :: xs)) (k : ∀ v vs, Rel H h v x → RelAll H h vs xs → L (v :: vs)) : L vs := by cases r with | cons a b => exact k _ _ a b
@[elab_as_elim] theorem RelAll.oE {x : V} (r : RelAll H h vs [x]) (k : ∀ v, Rel H h v x → L [v]) : L vs := r.kE fun _ _ a b => b.zE (k _ a)
@[elab_as_elim] theorem RelAll.wE {x y : V} (r : RelAll H h vs [x, y]) (k : ∀ v u, Rel H h v x → Rel H h u y → L [v, u]) : L vs := r.kE fun _ _ a b => b.oE fun _ c => k _ _ a c
theorem RelAll.un {x : V} {xs : List V} (r : RelAll H h (v :: vs) (x :: xs)) : Rel H h v x ∧ RelAll H h vs xs := by cases r with | cons a b => exact ⟨a, b⟩
theorem RelAll.one {x : V} (r : RelAll H h vs [x]) : ∃ a, vs = [a] ∧ Rel H h a x := r.oE fun a p => ⟨a, rfl, p⟩
theorem RelAll.two {x y : V} (r : RelAll H h vs [x, y]) : ∃ a b, vs = [a, b] ∧ Rel H h a x ∧ Rel H h b y := r.wE fun a b p q => ⟨a, b, rfl, p, q⟩
@[elab_as_elim] theorem RelAll.hE {x y z : V} (r : RelAll H h vs [x, y, z]) (k : ∀ v u t, Rel H h v x → Rel H h u y → Rel H h t z → L [v, u, t]) : L vs := r.kE fun _ _ a b => b.wE fun _ _ c d => k _ _ _ a c d
end
structure Ext (F : List Addr) (H : AH) (h : Heap) (H' : AH) (h' : Heap) : Prop where
  keep : ∀ a o, h.get? a = some o → H a = none → ∃ sl, h'.get? a = some { o with slots := sl } ∧ (a ∉ F → sl = o.slots)
  none : ∀ a o, h.get? a = some o → H a = none → H' a = none
  alive : ∀ a o, h.get? a = some o → ∃ o', h'.get? a = some o'
  lock : ∀ a l o, H a = some (.lock l) → h.get? a = some o → h'.get? a = some o ∧ H' a = some (.lock l)

theorem Ext.refl {F H h} : Ext F H h H h := ⟨fun a o e _ => ⟨o.slots, e, fun _ => rfl⟩, fun a o _ e => e, fun a o e => ⟨o, e⟩, fun a l o z e => ⟨e, z⟩⟩
theorem Ext.trans {F H h H₁ h₁ H₂ h₂} (x : Ext F H h H₁ h₁) (y : Ext F H₁ h₁ H₂ h₂) : Ext F H h H₂ h₂ :=
  ⟨fun a o e n => by
    obtain ⟨sl, e1, f1⟩ := x.keep a o e n
    obtain ⟨sl', e2, f2⟩ := y.keep a _ e1 (x.none a o e n)
    exact ⟨sl', e2, fun hF => (f2 hF).trans (f1 hF)⟩,
   fun a o e n => by
    obtain ⟨sl, e1, f1⟩ := x.keep a o e n
    exact y.none a _ e1 (x.none a o e n),
   fun a o e => by obtain ⟨o', e'⟩ := x.alive a o e; exact y.alive a o' e',
   fun a l o z e => by obtain ⟨e', z'⟩ := x.lock a l o z e; exact y.lock a l o z' e'⟩
theorem Ext.fresh {F H h H' h'} (x : Ext F H h H' h') {a : Addr} (e : h'.get? a = Option.none) : h.get? a = Option.none := by
  cases q : h.get? a with
  | none => rfl
  | some o => obtain ⟨o', e'⟩ := x.alive a o q; rw [e] at e'; cases e'
/-- tuples and frozen lists stay -/
def SeqK (H : AH) (h : Heap) (H' : AH) (h' : Heap) : Prop :=
  ∀ a o items n, h.get? a = some o → o.data = .seq items n → H a = none → (∃ sl, h'.get? a = some { o with slots := sl }) ∧ H' a = none
theorem Ext.seqK {F H h H' h'} (x : Ext F H h H' h') : SeqK H h H' h' := fun a o items n e _ z => by
  obtain ⟨sl, e', _⟩ := x.keep a o e z; exact ⟨⟨sl, e'⟩, x.none a o e z⟩
theorem Rel.seqK {H h H' h'} (x : SeqK H h H' h') {v : Value} {V : V} (r : Rel H h v V) : Rel H' h' v V := by
  refine Rel.rec (motive_1 := fun v V _ => Rel H' h' v V) (motive_2 := fun vs xs _ => RelAll H' h' vs xs) .none .bool .int .str .ref .bi .ty (fun e c d n _ r => ?_) (fun e c d n _ r => ?_) .nil (fun _ _ a b => .cons a b) r
  all_goals obtain ⟨⟨sl, e1⟩, z⟩ := x _ _ _ _ e d n
  · exact .tup e1 c d z r
  · exact .lst e1 c d z r
theorem RelAll.ind {H h} {P : List Value → List V → Prop} (n : P [] []) (c : ∀ v x vs xs, Rel H h v x → RelAll H h vs xs → P vs xs → P (v :: vs) (x :: xs)) {vs : List Value} {xs : List V} (r : RelAll H h vs xs) : P vs xs :=
  RelAll.rec (motive_1 := fun _ _ _ => True) (motive_2 := fun vs xs _ => P vs xs) trivial (fun _ => trivial) (fun _ _ => trivial) (fun _ _ => trivial) (fun _ => trivial) (fun _ => trivial) (fun _ => trivial) (fun _ _ _ _ _ _ => trivial) (fun _ _ _ _ _ _ => trivial) n (fun a b _ k => c _ _ _ _ a b k) r
theorem RelAll.seqK {H h H' h'} (x : SeqK H h H' h') {vs : List Value} {xs : List V} (r : RelAll H h vs xs) : RelAll H' h' vs xs := RelAll.ind (P := fun vs xs => RelAll H' h' vs xs) .nil (fun _ _ _ _ a _ b => .cons (a.seqK x) b) r
theorem Rel.ext {F H h H' h'} (x : Ext F H h H' h') {v : Value} {V : V} (r : Rel H h v V) : Rel H' h' v V := r.seqK x.seqK
theorem RelAll.ext {F H h H' h'} (x : Ext F H h H' h') {vs : List Value} {xs : List V} (r : RelAll H h vs xs) : RelAll H' h' vs xs := r.seqK x.seqK
noncomputable def isMix : KV → Value → Bool
  | .inl x, v => Value.isStrOf x v
  | .inr k, v => Value.isInt k v
noncomputable def hashMix (w : World) : KV → Int
  | .inl x => hashStr w x
  | .inr k => hashInt k
theorem isMix_cases {k : KV} {v : Value} (h : isMix k v = true) : (∃ x t, k = .inl x ∧ v = .str x t) ∨ ∃ i t, k = .inr i ∧ v = .int i t := by
  cases k with
  | inl x => obtain ⟨t, rfl⟩ := Value.isStrOf_shape h; exact .inl ⟨x, t, rfl, rfl⟩
  | inr i => obtain ⟨t, rfl⟩ := Value.isInt_shape h; exact .inr ⟨i, t, rfl, rfl⟩
theorem eqBool_si {w : World} {A : Around} {E : Value → Shared → Prop} {s : Shared} {a : Str} {b : Int} {t u : Tok} {Q : Bool → Shared → Prop} (h : Q false s) : wpAny (Mw w) A (eqBool (.str a t) (.int b u)) Q E s := by
  unfold eqBool
  refine wpAny_holding ?_
  rw [if_neg (by simp)]
  exact wpAny_bind (EqMixed.eq_str_int (wpAny_truthy_bool h))
theorem eqBool_is {w : World} {A : Around} {E : Value → Shared → Prop} {s : Shared} {a : Int} {b : Str} {t u : Tok} {Q : Bool → Shared → Prop} (h : Q false s) : wpAny (Mw w) A (eqBool (.int a t) (.str b u)) Q E s := by
  unfold eqBool
  refine wpAny_holding ?_
  rw [if_neg (by simp)]
  exact wpAny_bind (EqMixed.eq_int_str (wpAny_truthy_bool h))
noncomputable def mixKind (w : World) : KeyKind pw w KV where
  is := isMix
  hash := hashMix w
  inj := fun v a b ha hb => by
    rcases isMix_cases ha with ⟨x, t, rfl, rfl⟩ | ⟨x, t, rfl, rfl⟩ <;> rcases isMix_cases hb with ⟨y, u, rfl, e⟩ | ⟨y, u, rfl, e⟩ <;> cases e <;> rfl
  byValue := fun k v h => by rcases isMix_cases h with ⟨x, t, rfl, rfl⟩ | ⟨x, t, rfl, rfl⟩ <;> rfl
  pyHash := fun hv h => by
    rcases isMix_cases hv with ⟨x, t, rfl, rfl⟩ | ⟨x, t, rfl, rfl⟩
    · exact wpAny_pyHash_str h
    · exact wpAny_pyHash_int h
  eqBool := fun hu hv h => by
    rcases isMix_cases hu with ⟨x, t, rfl, rfl⟩ | ⟨x, t, rfl, rfl⟩ <;> rcases isMix_cases hv with ⟨y, u, rfl, rfl⟩ | ⟨y, u, rfl, rfl⟩
    · exact wpAny_eqBool_str (by simpa using h)
    · exact eqBool_si (by simpa using h)
    · exact eqBool_is (by simpa using h)
    · exact wpAny_eqBool_int (by
        rename_i Q _ _
        have e : (x == y) = decide ((Sum.inr x : KV) = Sum.inr y) := by by_cases q : x = y <;> simp [q]
        rw [e]; exact h)
  «strs» := fun k x t v h => by
    rcases isMix_cases h with ⟨y, u, rfl, e⟩ | ⟨y, u, rfl, e⟩ <;> cases e
    show Value.isStrOf x v = v.isStr x
    cases v <;> rfl
noncomputable abbrev tupKind (w : World) : HeapKind pw w (List KV) := tupleKind (mixKind w)

/-- fields of an instance's dict against the proof's list of fields -/
inductive Flds (w : World) (H : AH) (h : Heap) : List DictEntry → List (Str × V) → Prop
  | nil : Flds w H h [] []
  | cons {n : Str} {t : Tok} {val : Value} {v : V} {es : List DictEntry} {fs : List (Str × V)} : Rel H h val v → Flds w H h es fs →
      Flds w H h (⟨PyData.keyHash w.params n, .str n t, val⟩ :: es) ((n, v) :: fs)
theorem Flds.ext {w F H h H' h'} (x : Ext F H h H' h') {es : List DictEntry} {fs : List (Str × V)} (f : Flds w H h es fs) : Flds w H' h' es fs := by
  induction f with
  | nil => exact .nil
  | cons r _ ih => exact .cons (r.ext x) ih

inductive Kvs (H : AH) (h : Heap) : List (List KV × Addr × Value) → List (List KV × V) → Prop
  | nil : Kvs H h [] []
  | cons {k : List KV} {a : Addr} {val : Value} {v : V} {xs : List (List KV × Addr × Value)} {kvs : List (List KV × V)} : H a = none → Rel H h val v → Kvs H h xs kvs → Kvs H h ((k, a, val) :: xs) ((k, v) :: kvs)

inductive ListM (H : AH) (h : Heap) (a : Addr) (vs : List V) : Prop
  | mk (items : Array Value) (n : Nat) (e : h.get? a = some { cls := .type "list", data := .seq items n }) (r : RelAll H h items.toList vs)
inductive InstM (w : World) (H : AH) (h : Heap) (a C : Addr) (fs : List (Str × V)) : Prop
  | mk (dx : Addr) (es : List DictEntry) (n : Nat) (e1 : h.get? a = some (instObj C dx)) (e2 : H dx = some (.aux a)) (e3 : h.get? dx = some (dictOf es n)) (f : Flds w H h es fs)
/-- what the heap holds where the proof's heap names an object -/
def Matches (w : World) (H : AH) (h : Heap) (a : Addr) : AO → Prop
  | .list vs => ListM H h a vs
  | .inst C fs => InstM w H h a C fs
  | .dict kvs => (a == sysModules) = false ∧ ∃ xs, h.DictOfH (tupKind w) a xs ∧ Kvs H h xs kvs
  | .aux _ => ∃ o, h.get? a = some o ∧ ∀ vs, o.data ≠ .fields vs
  | .obj ob => h.get? a = some ob
  | .it => ∃ o, h.get? a = some o
  | .lock o => Matches w H h a o

theorem Matches.live {w H h a} : ∀ {o : AO}, Matches w H h a o → ∃ ob, h.get? a = some ob := fun {o} x => by
  induction o with
  | list vs => obtain ⟨_, _, e, _⟩ := x; exact ⟨_, e⟩
  | inst C fs => obtain ⟨_, _, _, e, _⟩ := x; exact ⟨_, e⟩
  | dict kvs => obtain ⟨_, _, ⟨o, _, _, e, _⟩, _⟩ := x; exact ⟨o, e⟩
  | aux _ => obtain ⟨o, e, _⟩ := x; exact ⟨o, e⟩
  | obj ob => exact ⟨_, x⟩
  | it => exact x
  | lock o ih => exact ih x

structure Sim (w : World) (base : Heap) (os : OsState) (H : AH) (s : Shared) : Prop where
  stays : base.StaysIn s.heap
  view : ∀ a o, H a = some o → Matches w H s.heap a o
  off : ∀ a o, H a = some o → base.get? a = none
  gens : s.gens = #[]
  os : s.os = os

structure Base (w : World) (base : Heap) : Prop where
  K : (frag w.params).In base
  T : ∃ mg mb, TopRead view (looseW view [Str.ofString "SnobolError"]) mg mb base

abbrev Locs := List (Str × V)

structure Cx where
  w : World
  base : Heap
  os : OsState
  A : Around
  env : Env
  stk : List Env
  lv : Nat
  own : List Addr

noncomputable abbrev Cx.F (Γ : Cx) : List Addr := Γ.stk.filterMap (·.frame)

structure Cx.Ok (Γ : Cx) : Prop where
  base : Base Γ.w Γ.base
  frames : Γ.A.frames = some Γ.stk
  kind : Γ.env.scope.kind = .function
  globals : Γ.env.globals = mainGlobals
  builtins : Γ.env.builtins = builtinsNs
  depth : Γ.A.depth + 10 * Γ.lv ≤ 900
  units : Γ.A.units + 100 * Γ.lv ≤ 9000
  handled : Γ.A.handled = none

def VarAt (env : Env) (mm : Str → Option Value) (H : AH) (h : Heap) (x : Str) (v : V) : Prop :=
  (env.kindOf x = some .local ∧ ∃ val, mm x = some val ∧ Rel H h val v) ∨
  ((env.kindOf x = some .cell ∨ env.kindOf x = some .free) ∧ ∃ c val, env.cells.lookup x = some c ∧ h.IsCell c (some val) ∧ H c = none ∧ Rel H h val v)

inductive Loc (env : Env) (H : AH) (h : Heap) (m : Locs) : Prop
  | mk (mm : Str → Option Value) (n : h.Ns env.locals mm) (hL : H env.locals = none) (f : ∀ x v, m.lookup x = some v → VarAt env mm H h x v)

/-- the frame's cells stand, empty or not -/
def CellsStand (env : Env) (H : AH) (h : Heap) : Prop := ∀ x c, env.kindOf x = some .cell → env.cells.lookup x = some c → (∃ v, h.IsCell c v) ∧ H c = none

/-- the frames' locals stand: dicts all -/
def FF (h base : Heap) : List Env → Prop
  | [] => True
  | env :: rest => env.scope.kind ≠ .module ∧ (∃ L o, env.frame = some L ∧ base.get? L = none ∧ h.get? L = some o ∧ ∃ es ep, o.data = .dict es ep) ∧ FF h base rest
theorem FF.fun {h base : Heap} {l : List Env} (x : FF h base l) : h.FunFrames base l := by
  induction l with
  | nil => trivial
  | cons e r ih => exact ⟨x.1, x.2.1.elim fun L y => y.elim fun o z => ⟨L, o, z.1, z.2.1, z.2.2.1, z.2.2.2.elim fun es w => w.elim fun ep hd vs q => by rw [hd] at q; cases q⟩, ih x.2.2⟩
theorem FF.mem {h base : Heap} {l : List Env} (x : FF h base l) {b : Addr} (hb : b ∈ l.filterMap (·.frame)) : base.get? b = none ∧ ∃ o, h.get? b = some o ∧ ∀ vs, o.data ≠ .fields vs := x.fun.mem hb
theorem FF.memD {h base : Heap} {l : List Env} (x : FF h base l) {b : Addr} (hb : b ∈ l.filterMap (·.frame)) : ∃ o es ep, h.get? b = some o ∧ o.data = .dict es ep := by
  induction l with
  | nil => cases hb
  | cons env rest ih =>
    obtain ⟨_, ⟨L, o, hf, _, ho, es, ep, hd⟩, hr⟩ := x
    rw [List.filterMap_cons, hf] at hb
    rcases List.mem_cons.mp hb with rfl | hb
    · exact ⟨o, es, ep, ho, hd⟩
    · exact ih hr hb
structure St (Γ : Cx) (m : Locs) (H : AH) (s : Shared) : Prop where
  sim : Sim Γ.w Γ.base Γ.os H s
  loc : Loc Γ.env H s.heap m
  cells : CellsStand Γ.env H s.heap
  frames : FF s.heap Γ.base Γ.stk
  off : ∀ a ∈ Γ.F, H a = none

theorem ns_slots {h h' : Heap} {L : Addr} {m : Str → Option Value} (n : h.Ns L m) (k : ∀ o, h.get? L = some o → ∃ sl, h'.get? L = some { o with slots := sl }) : h'.Ns L m := by
  obtain ⟨o, es, ep, e, d, r⟩ := n
  obtain ⟨sl, e'⟩ := k o e
  exact ⟨_, es, ep, e', d, r⟩

theorem Loc.ext {env F H h H' h' m} (x : Ext F H h H' h') (l : Loc env H h m) : Loc env H' h' m := by
  obtain ⟨mm, n, hL, f⟩ := l
  obtain ⟨o, es, ep, e, d, r⟩ := id n
  refine ⟨mm, ns_slots n (fun o e => ?_), x.none _ o e hL, fun y v hv => ?_⟩
  · obtain ⟨sl, e', _⟩ := x.keep _ o e hL; exact ⟨sl, e'⟩
  · rcases f y v hv with ⟨k, val, e1, r1⟩ | ⟨k, c, val, e1, ⟨oc, hc, hd⟩, hn, r1⟩
    · exact .inl ⟨k, val, e1, r1.ext x⟩
    · obtain ⟨sl, e', _⟩ := x.keep _ oc hc hn
      exact .inr ⟨k, c, val, e1, ⟨_, e', hd⟩, x.none _ oc hc hn, r1.ext x⟩

theorem frames_ext {F H h H' h' base} (x : Ext F H h H' h') {l : List Env} (hl : FF h base l) (off : ∀ a ∈ l.filterMap (·.frame), H a = none) : FF h' base l := by
  induction l with
  | nil => trivial
  | cons env rest ih =>
    obtain ⟨hk, ⟨L, o, hf, hn, ho, hd⟩, hr⟩ := hl
    have hL : H L = none := off L (by rw [List.filterMap_cons, hf]; exact List.mem_cons_self)
    obtain ⟨sl, e', _⟩ := x.keep _ o ho hL
    exact ⟨hk, ⟨L, _, hf, hn, e', hd⟩, ih hr fun a ha => off a (by rw [List.filterMap_cons, hf]; exact List.mem_cons_of_mem _ ha)⟩

theorem St.ext {Γ m H s H' s'} (t : St Γ m H s) (x : Ext Γ.F H s.heap H' s'.heap) (y : Sim Γ.w Γ.base Γ.os H' s') : St Γ m H' s' :=
  ⟨y, t.loc.ext x, fun z c hk hc => by
      obtain ⟨⟨v, o, e, d⟩, hn⟩ := t.cells z c hk hc
      obtain ⟨sl, e', _⟩ := x.keep c o e hn
      exact ⟨⟨v, _, e', d⟩, x.none c o e hn⟩, frames_ext x t.frames t.off, fun a ha => by
    obtain ⟨_, o, ho, _⟩ := t.frames.mem ha
    exact x.none a o ho (t.off a ha)⟩

/-- what an expression gives -/
inductive CPost (w : World) (base : Heap) (os : OsState) (F : List Addr) (H : AH) (s : Shared) (Q : V → AH → Prop) (v : Value) (s' : Shared) : Prop
  | mk (mv : V) (H' : AH) (x : Ext F H s.heap H' s'.heap) (y : Sim w base os H' s') (r : Rel H' s'.heap v mv) (q : Q mv H')
def VPost (Γ : Cx) (H : AH) (s : Shared) (Q : V → AH → Prop) (v : Value) (s' : Shared) : Prop := CPost Γ.w Γ.base Γ.os Γ.F H s Q v s'

inductive SnobT (F : List Addr) (e : Addr) (h : Heap) (H' : AH) (h' : Heap) (vs : Array Value) : Prop
  | mk (T : Addr) (oT : Obj) (ts : Array Value) (fv : Value) (a1 : vs[1]? = some (.ref T)) (a2 : h.get? T = none) (a3 : H' T = none) (a4 : T ≠ e) (a5 : h'.get? T = some oT) (a6 : oT.data = .fields ts) (a7 : ts[3]? = some fv) (a8 : fv = .none ∨ ∃ l ∈ F, fv = rawInt l)
inductive SnobO (F : List Addr) (n : Int) (e : Addr) (h : Heap) (H' : AH) (h' : Heap) : Prop
  | mk (dx : Addr) (vs : Array Value) (sl : Array (Option Value)) (es : List DictEntry) (k : Nat) (t : Tok) (e1 : h'.get? e = some ⟨.ref 34, some dx, .fields vs, sl⟩) (e2 : h'.get? dx = some (dictOf es k)) (e3 : H' dx = none) (e4 : h.get? dx = none) (e5 : getL "number" es = some (some (.int n t))) (e6 : 1 < vs.size) (e7 : vs[1]? = some .none ∨ SnobT F e h H' h' vs)
/-- the exception of the text, on its way -/
structure Snob (F : List Addr) (n : Int) (e : Addr) (h : Heap) (H' : AH) (h' : Heap) : Prop where
  fresh : h.get? e = none
  off : H' e = none
  obj : SnobO F n e h H' h'

inductive XP (w : World) (base : Heap) (os : OsState) (F E : List Addr) (H : AH) (s : Shared) (R : Int → AH → Prop) (v : Value) (s' : Shared) : Prop
  | mk (n : Int) (H' : AH) (e : Addr) (hx : v = .ref e) (x : Ext F H s.heap H' s'.heap) (y : Sim w base os H' s') (z : Snob E n e s.heap H' s'.heap) (q : R n H')
def XPost (Γ : Cx) (H : AH) (s : Shared) (R : Int → AH → Prop) (x : Value) (s' : Shared) : Prop := XP Γ.w Γ.base Γ.os Γ.F Γ.env.frame.toList H s R x s'

def EV (Γ : Cx) (e : Expr) (m : Locs) (H : AH) (Q : V → AH → Prop) (R : Int → AH → Prop) : Prop :=
  ∀ s, St Γ m H s → wpAny (Mw Γ.w) Γ.A (eval e Γ.env) (VPost Γ H s Q) (XPost Γ H s R) s

theorem Sim.toks {w base os H s} (y : Sim w base os H s) (t : Nat) : Sim w base os H { s with toks := t } := ⟨y.stays, y.view, y.off, y.gens, y.os⟩

theorem VPost.here {Γ H s Q v mv} (y : Sim Γ.w Γ.base Γ.os H s) (r : Rel H s.heap v mv) (q : Q mv H) : VPost Γ H s Q v s := ⟨mv, H, .refl, y, r, q⟩
theorem VPost.tok {Γ H s Q v mv} {t : Nat} (y : Sim Γ.w Γ.base Γ.os H s) (r : Rel H s.heap v mv) (q : Q mv H) : VPost Γ H s Q v { s with toks := t } := ⟨mv, H, .refl, y.toks t, r, q⟩
theorem VPost.after {Γ H s H' s' Q v s''} (x : Ext Γ.F H s.heap H' s'.heap) (p : VPost Γ H' s' Q v s'') : VPost Γ H s Q v s'' := by
  obtain ⟨mv, H2, x2, y2, r2, q⟩ := p
  exact ⟨mv, H2, x.trans x2, y2, r2, q⟩
theorem VPost.mono {Γ H s Q Q' v s'} (p : VPost Γ H s Q v s') (h : ∀ v H, Q v H → Q' v H) : VPost Γ H s Q' v s' := by
  obtain ⟨mv, H2, x2, y2, r2, q⟩ := p
  exact ⟨mv, H2, x2, y2, r2, h _ _ q⟩
theorem Snob.imp {F F' n e h0 h H' h'} (p : Snob F n e h H' h') (k : ∀ {a : Addr}, h.get? a = Option.none → h0.get? a = Option.none) (hF : ∀ a ∈ F, a ∈ F') : Snob F' n e h0 H' h' := by
  obtain ⟨f, o, dx, vs, sl, es, kk, t, e1, e2, e3, e4, e5, e6, e7⟩ := p
  refine ⟨k f, o, dx, vs, sl, es, kk, t, e1, e2, e3, k e4, e5, e6, e7.imp id fun q => ?_⟩
  obtain ⟨T, oT, ts, fv, a1, a2, a3, a4, a5, a6, a7, a8⟩ := q
  exact ⟨T, oT, ts, fv, a1, k a2, a3, a4, a5, a6, a7, a8.imp id fun z => z.elim fun l y => ⟨l, hF l y.1, y.2⟩⟩
theorem Snob.after {F F0 n e H h H' h' H'' h''} (x : Ext F0 H h H' h') (p : Snob F n e h' H'' h'') : Snob F n e h H'' h'' := p.imp x.fresh fun _ h => h
theorem XPost.after {Γ H s H' s' R v s''} (x : Ext Γ.F H s.heap H' s'.heap) (p : XPost Γ H' s' R v s'') : XPost Γ H s R v s'' := by
  obtain ⟨n, H2, e, rfl, x2, y2, sn, q⟩ := p
  exact ⟨n, H2, e, rfl, x.trans x2, y2, sn.after x, q⟩
theorem EV.mono {Γ e m H Q Q' R} (p : EV Γ e m H Q R) (h : ∀ v H, Q v H → Q' v H) : EV Γ e m H Q' R := fun s t => wpAny_mono (p s t) (fun _ _ z => z.mono h) fun _ _ z => z

section
variable {Γ : Cx} {m : Locs} {H : AH} {Q : V → AH → Prop} {R : Int → AH → Prop} {x : Str} {pos : Pos} {v : V}
theorem ev_local (ok : Γ.Ok) (hv : m.lookup x = some v) (q : Q v H) (hd : (x == ("__debug__" : Str)) = false := by decide) (hc : (x == ("__classdict__" : Str)) = false := by decide) : EV Γ (.Name x pos) m H Q R := by
  intro s t
  obtain ⟨mm, n, _, f⟩ := t.loc
  rcases f x v hv with ⟨k, val, e1, r1⟩ | ⟨k | k, c, val, e1, hcell, hn, r1⟩
  · exact wpAny_Name (wpAny_loadName_local ok.kind k n e1 (VPost.here t.sim r1 q)) hd
  · exact wpAny_Name (wpAny_loadName_cell ok.kind k e1 hcell (VPost.here t.sim r1 q)) hd
  · exact wpAny_Name (wpAny_loadName_free ok.kind k e1 hcell (VPost.here t.sim r1 q) hc) hd
theorem ev_glob (ok : Γ.Ok) (hk : Γ.env.kindOf x = some .globalImplicit) {f : Addr} (e : ∀ P, nsIn (frag P) mainGlobals x = some (some (.ref f))) (q : Q (.ref f) H) (hd : (x == ("__debug__" : Str)) = false := by decide) : EV Γ (.Name x pos) m H Q R := by
  intro s t
  obtain ⟨mg, mb, T⟩ := ok.base.T
  refine Name_function_global ok.kind hk (loadGlobal_global (mg := mg) ?_ (mg_of ok.base.K T.g (e _)) (VPost.here t.sim (.ref _) q)) hd
  rw [ok.globals]; exact T.g.keeps t.sim.stays
theorem ev_blt (ok : Γ.Ok) (hk : Γ.env.kindOf x = some .globalImplicit) (e : ∀ P, nsIn (frag P) mainGlobals x = some none) {val : Value} {vv : V} (hb : bootBuiltins x = some val) (hr : ∀ H h, Rel H h val vv) (q : Q vv H) (hn : x ≠ "__name__" := by decide) (hd : (x == ("__debug__" : Str)) = false := by decide) : EV Γ (.Name x pos) m H Q R := by
  intro s t
  obtain ⟨mg, mb, T⟩ := ok.base.T
  refine Name_function_global ok.kind hk (loadGlobal_builtin (mg := mg) (mb := mb) ?_ (mg_none_of ok.base.K T.g (e _)) ?_ ((T.builtins x hn).trans hb) (VPost.here t.sim (hr _ _) q)) hd
  · rw [ok.globals]; exact T.g.keeps t.sim.stays
  · rw [ok.builtins]; exact T.b.keeps t.sim.stays
end

inductive BPost (Γ : Cx) (H : AH) (s : Shared) (Q : Bool → AH → Prop) (b : Bool) (s' : Shared) : Prop
  | mk (H' : AH) (x : Ext Γ.F H s.heap H' s'.heap) (y : Sim Γ.w Γ.base Γ.os H' s') (q : Q b H')
theorem BPost.after {Γ H s H' s' Q v s''} (x : Ext Γ.F H s.heap H' s'.heap) (p : BPost Γ H' s' Q v s'') : BPost Γ H s Q v s'' := by
  obtain ⟨H2, x2, y2, q⟩ := p
  exact ⟨H2, x.trans x2, y2, q⟩
def TV (Γ : Cx) (e : Expr) (m : Locs) (H : AH) (Q : Bool → AH → Prop) (R : Int → AH → Prop) : Prop :=
  ∀ s, St Γ m H s → wpAny (Mw Γ.w) Γ.A (isTrue e Γ.env (eval e Γ.env)) (BPost Γ H s Q) (XPost Γ H s R) s

def OpV (Γ : Cx) (op : Operator) (a b : V) (H : AH) (Q : V → AH → Prop) (R : Int → AH → Prop) : Prop :=
  ∀ s va vb, Sim Γ.w Γ.base Γ.os H s → Rel H s.heap va a → Rel H s.heap vb b → wpAny (Mw Γ.w) Γ.A (binaryOp op va vb) (VPost Γ H s Q) (XPost Γ H s R) s
def CmpV (Γ : Cx) (op : CmpOp) (a b : V) (H : AH) (Q : Bool → AH → Prop) (R : Int → AH → Prop) : Prop :=
  ∀ s va vb, Sim Γ.w Γ.base Γ.os H s → Rel H s.heap va a → Rel H s.heap vb b → wpAny (Mw Γ.w) Γ.A (compareOp op va vb) (fun v s' => ∃ b, v = .bool b ∧ BPost Γ H s Q b s') (XPost Γ H s R) s

section
variable {Γ : Cx} {m : Locs} {H : AH} {Q : V → AH → Prop} {B : Bool → AH → Prop} {R : Int → AH → Prop} {pos : Pos}

theorem BPost.v {s} {b : Bool} {s'} (p : BPost Γ H s B b s') (h : ∀ b H, B b H → Q (.bool b) H) : VPost Γ H s Q (.bool b) s' := by
  obtain ⟨H2, x2, y2, q⟩ := p
  exact ⟨_, H2, x2, y2, .bool b, h _ _ q⟩

theorem ev_bin {l r : Expr} {op : Operator} (h : EV Γ l m H (fun a H1 => EV Γ r m H1 (fun b H2 => OpV Γ op a b H2 Q R) R) R) : EV Γ (.BinOp l op r pos) m H Q R := by
  intro s t
  refine wpAny_BinOp (wpAny_mono (h s t) (fun va s1 h1 => ?_) fun _ _ z => z)
  obtain ⟨a, H1, x1, y1, r1, q1⟩ := h1
  refine wpAny_mono (q1 s1 (t.ext x1 y1)) (fun vb s2 h2 => ?_) fun _ _ z => z.after x1
  obtain ⟨b, H2, x2, y2, r2, q2⟩ := h2
  exact wpAny_mono (q2 s2 va vb y2 (r1.ext x2) r2) (fun _ _ z => z.after (x1.trans x2)) fun _ _ z => z.after (x1.trans x2)

theorem ev_cmp {l r : Expr} {op : CmpOp} (h : EV Γ l m H (fun a H1 => EV Γ r m H1 (fun b H2 => CmpV Γ op a b H2 (fun c H3 => Q (.bool c) H3) R) R) R)
    (hm : behindInMarks op r = false := by rfl) : EV Γ (.Compare l [op] [r] pos) m H Q R := by
  intro s t
  refine wpAny_Compare1 (wpAny_mono (h s t) (fun va s1 h1 => ?_) fun _ _ z => z) hm
  obtain ⟨a, H1, x1, y1, r1, q1⟩ := h1
  refine wpAny_mono (q1 s1 (t.ext x1 y1)) (fun vb s2 h2 => ?_) fun _ _ z => z.after x1
  obtain ⟨b, H2, x2, y2, r2, q2⟩ := h2
  refine wpAny_mono (q2 s2 va vb y2 (r1.ext x2) r2) (fun _ _ z => ?_) fun _ _ z => z.after (x1.trans x2)
  obtain ⟨c, rfl, p⟩ := z
  exact (p.after (x1.trans x2)).v fun _ _ q => q

theorem tv_cmp {l r : Expr} {op : CmpOp} (h : EV Γ l m H (fun a H1 => EV Γ r m H1 (fun b H2 => CmpV Γ op a b H2 B R) R) R)
    (hm : behindInMarks op r = false := by rfl) : TV Γ (.Compare l [op] [r] pos) m H B R := by
  intro s t
  refine wpAny_isTrue_Compare1 (wpAny_mono (h s t) (fun va s1 h1 => ?_) fun _ _ z => z) hm
  obtain ⟨a, H1, x1, y1, r1, q1⟩ := h1
  refine wpAny_mono (q1 s1 (t.ext x1 y1)) (fun vb s2 h2 => ?_) fun _ _ z => z.after x1
  obtain ⟨b, H2, x2, y2, r2, q2⟩ := h2
  refine wpAny_mono (q2 s2 va vb y2 (r1.ext x2) r2) (fun _ _ z => ?_) fun _ _ z => z.after (x1.trans x2)
  obtain ⟨c, rfl, p⟩ := z
  exact wpAny_truthy_bool (p.after (x1.trans x2))

theorem tv_not {e : Expr} (h : TV Γ e m H (fun b H1 => B (!b) H1) R) : TV Γ (.UnaryOp .Not e pos) m H B R := by
  intro s t
  exact isTrue_not (wpAny_mono (h s t) (fun _ _ z => by obtain ⟨H', x, y, q⟩ := z; exact ⟨H', x, y, q⟩) fun _ _ z => z)
/-- a test that is no comparison, no not, no and, no or: by its value -/
theorem tv_plain {e : Expr} (h : EV Γ e m H (fun v H1 => ∃ b, v = .bool b ∧ B b H1) R) (he : ∀ env whole, isTrue e env whole = (do let v ← whole; standAt e.pos; holding [v] (truthy v)) := by intro _ _; rfl) : TV Γ e m H B R := by
  intro s t
  refine isTrue_plain (wpAny_mono (h s t) (fun v s1 h1 => ?_) fun _ _ z => z) (he _ _)
  obtain ⟨a, H1, x1, y1, r1, b, rfl, q⟩ := h1
  refine r1.bE ?_
  exact wpAny_truthy_bool ⟨H1, x1, y1, q⟩
theorem ev_neg {e : Expr} (h : EV Γ e m H (fun v H1 => ∃ i, v = .int i ∧ Q (.int (-i)) H1) R) : EV Γ (.UnaryOp .USub e pos) m H Q R := by
  intro s t
  refine UnaryOp_ (wpAny_mono (h s t) (fun v s1 h1 => ?_) fun _ _ z => z)
  obtain ⟨a, H1, x1, y1, r1, b, rfl, q⟩ := h1
  refine r1.iE fun _ => ?_
  exact PyProof.Rows.neg_int ⟨_, H1, x1, y1.toks _, .int _ _, q⟩
theorem ev_if {t b o : Expr} (h : TV Γ t m H (fun c H1 => if c then EV Γ b m H1 Q R else EV Γ o m H1 Q R) R) : EV Γ (.IfExp t b o pos) m H Q R := by
  intro s st
  refine IfExp_ (wpAny_mono (h s st) (fun c s1 h1 => ?_) fun _ _ z => z)
  obtain ⟨H1, x1, y1, q⟩ := h1
  cases c
  · exact wpAny_mono (q s1 (st.ext x1 y1)) (fun _ _ z => z.after x1) fun _ _ z => z.after x1
  · exact wpAny_mono (q s1 (st.ext x1 y1)) (fun _ _ z => z.after x1) fun _ _ z => z.after x1
theorem ev_and {a b : Expr} (h : EV Γ a m H (fun v H1 => ∃ c, v = .bool c ∧ if c then EV Γ b m H1 Q R else Q (.bool false) H1) R) : EV Γ (.BoolOp .And [a, b] pos) m H Q R := by
  intro s st
  refine BoolOp_and (wpAny_mono (h s st) (fun v s1 h1 => ?_) fun _ _ z => z)
  obtain ⟨_, H1, x1, y1, r1, c, rfl, q⟩ := h1
  refine r1.bE ?_
  refine wpAny_truthy_bool ?_
  cases c
  · exact ⟨_, H1, x1, y1, .bool _, q⟩
  · exact BoolOp_one (wpAny_mono (q s1 (st.ext x1 y1)) (fun _ _ z => z.after x1) fun _ _ z => z.after x1)
theorem ev_or {a b : Expr} (h : EV Γ a m H (fun v H1 => ∃ c, v = .bool c ∧ if c then Q (.bool true) H1 else EV Γ b m H1 Q R) R) : EV Γ (.BoolOp .Or [a, b] pos) m H Q R := by
  intro s st
  refine BoolOp_or (wpAny_mono (h s st) (fun v s1 h1 => ?_) fun _ _ z => z)
  obtain ⟨_, H1, x1, y1, r1, c, rfl, q⟩ := h1
  refine r1.bE ?_
  refine wpAny_truthy_bool ?_
  cases c
  · exact BoolOp_one (wpAny_mono (q s1 (st.ext x1 y1)) (fun _ _ z => z.after x1) fun _ _ z => z.after x1)
  · exact ⟨_, H1, x1, y1, .bool _, q⟩
theorem ev_int {i : Int} {k : Nat} (q : Q (.int i) H) : EV Γ (.Constant (.int i) k pos) m H Q R := fun s t => wpAny_Constant_int (VPost.tok t.sim (.int _ _) q)
theorem ev_str {x : Str} {k : Nat} (q : Q (.str x) H) : EV Γ (.Constant (.str x) k pos) m H Q R := fun s t => Constant_str (VPost.tok t.sim (.str _ _) q)
theorem ev_none {k : Nat} (q : Q .none H) : EV Γ (.Constant .none k pos) m H Q R := fun s t => wpAny_Constant_none (VPost.here t.sim .none q)
theorem ev_bool {b : Bool} {k : Nat} (q : Q (.bool b) H) : EV Γ (.Constant (.bool b) k pos) m H Q R := fun s t => Constant_bool (VPost.here t.sim (.bool b) q)

theorem op_add {i j : Int} (q : Q (.int (i + j)) H) : OpV Γ .Add (.int i) (.int j) H Q R := by
  intro s va vb y ra rb; refine ra.iE fun _ => ?_; refine rb.iE fun _ => ?_
  exact PyProof.Rows.add_int (VPost.tok y (.int _ _) q)
theorem op_sub {i j : Int} (q : Q (.int (i - j)) H) : OpV Γ .Sub (.int i) (.int j) H Q R := by
  intro s va vb y ra rb; refine ra.iE fun _ => ?_; refine rb.iE fun _ => ?_
  exact PyProof.Rows.sub_int (VPost.tok y (.int _ _) q)
theorem op_mul {i j : Int} (hm : IntMulOk i j) (q : Q (.int (i * j)) H) : OpV Γ .Mult (.int i) (.int j) H Q R := by
  intro s va vb y ra rb; refine ra.iE fun _ => ?_; refine rb.iE fun _ => ?_
  exact PyProof.Rows.mul_int (VPost.tok y (.int _ _) q) hm
theorem op_mod {i j : Int} (hj : j ≠ 0) (q : Q (.int (i.fmod j)) H) : OpV Γ .Mod (.int i) (.int j) H Q R := by
  intro s va vb y ra rb; refine ra.iE fun _ => ?_; refine rb.iE fun _ => ?_
  exact PyProof.Rows.mod_int' hj (VPost.tok y (.int _ _) q)
theorem op_shl {i n : Int} (hn : 0 ≤ n) (hn2 : n ≤ 1000000) (ha : i.natAbs < 2 ^ 64) (q : Q (.int (i * 2 ^ n.toNat)) H) : OpV Γ .LShift (.int i) (.int n) H Q R := by
  intro s va vb y ra rb; refine ra.iE fun _ => ?_; refine rb.iE fun _ => ?_
  exact PyProof.Rows.lshift_int_small hn hn2 ha (VPost.tok y (.int _ _) q)
theorem op_div {i j : Int} (hj : j ≠ 0) (hp : Builtin.divisionGoesByPylong i j = false) (q : Q (.int (i.fdiv j)) H) : OpV Γ .FloorDiv (.int i) (.int j) H Q R := by
  intro s va vb y ra rb; refine ra.iE fun _ => ?_; refine rb.iE fun _ => ?_
  exact PyProof.Rows.floordiv_int hj (VPost.tok y (.int _ _) q) (.inl hp)
theorem op_cat {a b : Str} (hz : a.length + b.length ≤ sizeLine) (q : Q (.str (a ++ b)) H) : OpV Γ .Add (.str a) (.str b) H Q R := by
  intro s va vb y ra rb; refine ra.sE fun _ => ?_; refine rb.sE fun _ => ?_
  exact PyProof.Rows.add_str (fun t' tk => VPost.tok y (.str _ _) q) hz

theorem cb {s : Shared} {b : Bool} (y : Sim Γ.w Γ.base Γ.os H s) (q : B b H) : ∃ c, (Value.bool b) = .bool c ∧ BPost Γ H s B c s := ⟨b, rfl, H, .refl, y, q⟩
theorem cmp_lt {i j : Int} (q : B (decide (i < j)) H) : CmpV Γ .Lt (.int i) (.int j) H B R := by
  intro s va vb y ra rb; refine ra.iE fun _ => ?_; refine rb.iE fun _ => ?_; exact PyProof.Rows.lt_int (cb y q)
theorem cmp_le {i j : Int} (q : B (decide (i ≤ j)) H) : CmpV Γ .LtE (.int i) (.int j) H B R := by
  intro s va vb y ra rb; refine ra.iE fun _ => ?_; refine rb.iE fun _ => ?_; exact PyProof.Rows.le_int (cb y q)
theorem cmp_gt {i j : Int} (q : B (decide (i > j)) H) : CmpV Γ .Gt (.int i) (.int j) H B R := by
  intro s va vb y ra rb; refine ra.iE fun _ => ?_; refine rb.iE fun _ => ?_; exact PyProof.Rows.gt_int (cb y q)
theorem cmp_eq {i j : Int} (q : B (i == j) H) : CmpV Γ .Eq (.int i) (.int j) H B R := by
  intro s va vb y ra rb; refine ra.iE fun _ => ?_; refine rb.iE fun _ => ?_; exact PyProof.Rows.eq_int (cb y q)
theorem cmp_ne {i j : Int} (q : B (i != j) H) : CmpV Γ .NotEq (.int i) (.int j) H B R := by
  intro s va vb y ra rb; refine ra.iE fun _ => ?_; refine rb.iE fun _ => ?_; exact PyProof.Rows.ne_int (cb y q)
end

theorem Flds.seqK {w H h H' h'} (x : SeqK H h H' h') {es : List DictEntry} {fs : List (Str × V)} (f : Flds w H h es fs) : Flds w H' h' es fs := by
  induction f with
  | nil => exact .nil
  | cons r _ ih => exact .cons (r.seqK x) ih
theorem Kvs.seqK {H h H' h'} (x : SeqK H h H' h') {w : World} {xs : List (List KV × Addr × Value)} {kvs : List (List KV × V)} (hk : ∀ y ∈ xs, (tupKind w).is h y.1 y.2.1) (f : Kvs H h xs kvs) :
    Kvs H' h' xs kvs ∧ ∀ y ∈ xs, (tupKind w).is h' y.1 y.2.1 := by
  induction f with
  | nil => exact ⟨.nil, fun _ h => (nomatch h)⟩
  | cons z r _ ih =>
    obtain ⟨i1, i2⟩ := ih fun y hy => hk y (.tail _ hy)
    obtain ⟨o, items, n, ho, hc, hd, hi⟩ := hk _ (.head _)
    obtain ⟨⟨sl, e1⟩, z'⟩ := x _ o items n ho hd z
    refine ⟨.cons z' (r.seqK x) i1, fun y hy => ?_⟩
    rcases List.mem_cons.mp hy with rfl | hy
    · exact ⟨_, items, n, e1, hc, hd, hi⟩
    · exact i2 y hy

theorem Matches.keep {w H h H' h' a} (x : SeqK H h H' h') (ka : ∀ ob, h.get? a = some ob → h'.get? a = some ob) (kx : ∀ dx ob, H dx = some (.aux a) → h.get? dx = some ob → h'.get? dx = some ob ∧ H' dx = some (.aux a)) :
    ∀ {o : AO}, Matches w H h a o → Matches w H' h' a o := fun {o} y => by
  induction o with
  | list vs => obtain ⟨items, n, e, r⟩ := y; exact ⟨items, n, ka _ e, r.seqK x⟩
  | inst C fs =>
    obtain ⟨dx, es, n, e1, e2, e3, f⟩ := y
    have z := kx dx _ e2 e3
    exact ⟨dx, es, n, ka _ e1, z.2, z.1, f.seqK x⟩
  | dict kvs =>
    obtain ⟨hs, xs, ⟨o, es, ep, e1, e2, e3, e4, e5, e6⟩, k⟩ := y
    obtain ⟨k1, k2⟩ := k.seqK x e5
    exact ⟨hs, xs, ⟨o, es, ep, ka _ e1, e2, e3, e4, k2, e6⟩, k1⟩
  | aux _ => obtain ⟨ob, e, z⟩ := y; exact ⟨ob, ka _ e, z⟩
  | obj ob => exact ka _ y
  | it => obtain ⟨ob, e⟩ := y; exact ⟨ob, ka _ e⟩
  | lock o ih => exact ih y

theorem Sim.step {w base os H s} (y : Sim w base os H s) {H' : AH} {h' : Heap} {tk : Nat} (sk : SeqK H s.heap H' h') (kb : base.StaysIn h') (D : List Addr)
    (kd : ∀ b ob o, H b = some o → b ∉ D → s.heap.get? b = some ob → h'.get? b = some ob ∧ H' b = some o)
    (up : ∀ a o, H' a = some o → (H a = some o ∧ a ∉ D ∧ ∀ dx, H dx = some (.aux a) → dx ∉ D) ∨ (Matches w H' h' a o ∧ base.get? a = none)) : Sim w base os H' { s with heap := h', toks := tk } := by
  refine ⟨kb, fun a o e => ?_, fun a o e => ?_, y.gens, y.os⟩
  · rcases up a o e with ⟨e1, e2, e3⟩ | ⟨m, _⟩
    · exact Matches.keep sk (fun ob hob => (kd a ob o e1 e2 hob).1) (fun dx ob hx hob => kd dx ob _ hx (e3 dx hx) hob) (y.view a o e1)
    · exact m
  · rcases up a o e with ⟨e1, _, _⟩ | ⟨_, m⟩
    · exact y.off a o e1
    · exact m

inductive Fl where
  | next | brk | cont | ret (v : V)
inductive FlRel (H : AH) (h : Heap) : Flow → Fl → Prop
  | next : FlRel H h .next .next
  | brk : FlRel H h .brk .brk
  | cont : FlRel H h .cont .cont
  | ret {v : Value} {x : V} : Rel H h v x → FlRel H h (.ret v) (.ret x)

/-- as Ext, but what the frame owns may turn -/
structure ExtW (F W : List Addr) (H : AH) (h : Heap) (H' : AH) (h' : Heap) : Prop where
  keep : ∀ a o, h.get? a = some o → H a = none → (a ∈ W → ∃ items n, o.data = .seq items n) → ∃ sl, h'.get? a = some { o with slots := sl } ∧ (a ∉ F → sl = o.slots)
  none : ∀ a o, h.get? a = some o → H a = none → H' a = none
  alive : ∀ a o, h.get? a = some o → ∃ o', h'.get? a = some o'
  lock : ∀ a l o, H a = some (.lock l) → h.get? a = some o → h'.get? a = some o ∧ H' a = some (.lock l)
theorem Ext.w {F W H h H' h'} (x : Ext F H h H' h') : ExtW F W H h H' h' := ⟨fun a o e z _ => x.keep a o e z, x.none, x.alive, x.lock⟩
theorem ExtW.refl {F W H h} : ExtW F W H h H h := Ext.refl.w
theorem ExtW.trans {F W H h H₁ h₁ H₂ h₂} (x : ExtW F W H h H₁ h₁) (y : ExtW F W H₁ h₁ H₂ h₂) : ExtW F W H h H₂ h₂ :=
  ⟨fun a o e n z => by
    obtain ⟨sl, e1, f1⟩ := x.keep a o e n z
    obtain ⟨sl', e2, f2⟩ := y.keep a _ e1 (x.none a o e n) z
    exact ⟨sl', e2, fun hF => (f2 hF).trans (f1 hF)⟩,
   fun a o e n => by
    by_cases q : ∃ sl, h₁.get? a = some { o with slots := sl }
    · obtain ⟨sl, e1⟩ := q; exact y.none a _ e1 (x.none a o e n)
    · obtain ⟨o', e'⟩ := x.alive a o e; exact y.none a o' e' (x.none a o e n),
   fun a o e => by obtain ⟨o', e'⟩ := x.alive a o e; exact y.alive a o' e',
   fun a l o z e => by obtain ⟨e', z'⟩ := x.lock a l o z e; exact y.lock a l o z' e'⟩
theorem ExtW.fresh {F W H h H' h'} (x : ExtW F W H h H' h') {a : Addr} (e : h'.get? a = Option.none) : h.get? a = Option.none := by
  cases q : h.get? a with
  | none => rfl
  | some o => obtain ⟨o', e'⟩ := x.alive a o q; rw [e] at e'; cases e'
theorem ExtW.seqK {F W H h H' h'} (x : ExtW F W H h H' h') : SeqK H h H' h' := fun a o items n e d z => by
  obtain ⟨sl, e', _⟩ := x.keep a o e z fun _ => ⟨items, n, d⟩; exact ⟨⟨sl, e'⟩, x.none a o e z⟩

inductive FPost (Γ : Cx) (H : AH) (s : Shared) (Q : Fl → Locs → AH → Prop) (f : Flow) (s' : Shared) : Prop
  | mk (mf : Fl) (m' : Locs) (H' : AH) (x : ExtW Γ.F Γ.own H s.heap H' s'.heap) (t : St Γ m' H' s') (r : FlRel H' s'.heap f mf) (q : Q mf m' H')
inductive XPostW (Γ : Cx) (H : AH) (s : Shared) (R : Int → AH → Prop) (x : Value) (s' : Shared) : Prop
  | mk (n : Int) (H' : AH) (e : Addr) (hx : x = .ref e) (w : ExtW Γ.F Γ.own H s.heap H' s'.heap) (y : Sim Γ.w Γ.base Γ.os H' s') (f : FF s'.heap Γ.base Γ.stk) (o : ∀ a ∈ Γ.F, H' a = none) (z : Snob (Γ.env.frame.toList) n e s.heap H' s'.heap) (q : R n H')
def EX (Γ : Cx) (b : List Stmt) (m : Locs) (H : AH) (Q : Fl → Locs → AH → Prop) (R : Int → AH → Prop) : Prop :=
  ∀ s, St Γ m H s → wpAny (Mw Γ.w) Γ.A (execs b Γ.env) (FPost Γ H s Q) (XPostW Γ H s R) s
def ES (Γ : Cx) (b : Stmt) (m : Locs) (H : AH) (Q : Fl → Locs → AH → Prop) (R : Int → AH → Prop) : Prop :=
  ∀ s, St Γ m H s → wpAny (Mw Γ.w) Γ.A (exec b Γ.env) (FPost Γ H s Q) (XPostW Γ H s R) s

theorem XPost.w {Γ m H s R x s'} (t : St Γ m H s) (p : XPost Γ H s R x s') : XPostW Γ H s R x s' := by
  obtain ⟨n, H', e, rfl, x, y, sn, r⟩ := p
  have t' := t.ext x y
  exact ⟨n, H', e, rfl, x.w, y, t'.frames, t'.off, sn, r⟩
theorem FPost.after {Γ H s H' s' Q v s''} (x : ExtW Γ.F Γ.own H s.heap H' s'.heap) (p : FPost Γ H' s' Q v s'') : FPost Γ H s Q v s'' := by
  obtain ⟨mf, m2, H2, x2, y2, r2, q⟩ := p
  exact ⟨mf, m2, H2, x.trans x2, y2, r2, q⟩
theorem Snob.afterW {F F0 W n e H h H' h' H'' h''} (x : ExtW F0 W H h H' h') (p : Snob F n e h' H'' h'') : Snob F n e h H'' h'' := p.imp x.fresh fun _ h => h
theorem XPostW.after {Γ H s H' s' R v s''} (x : ExtW Γ.F Γ.own H s.heap H' s'.heap) (p : XPostW Γ H' s' R v s'') : XPostW Γ H s R v s'' := by
  obtain ⟨n, H2, e, rfl, x2, y2, f2, o2, sn, q⟩ := p
  exact ⟨n, H2, e, rfl, x.trans x2, y2, f2, o2, sn.afterW x, q⟩
theorem St.here {Γ m H s Q} (t : St Γ m H s) {f : Flow} {mf : Fl} (r : FlRel H s.heap f mf) (q : Q mf m H) : FPost Γ H s Q f s := ⟨mf, m, H, .refl, t, r, q⟩

section
variable {Γ : Cx} {m : Locs} {H : AH} {Q : Fl → Locs → AH → Prop} {R : Int → AH → Prop} {pos : Pos}

theorem ex_nil (q : Q .next m H) : EX Γ [] m H Q R := fun s t => wpAny_execs_nil (t.here .next q)
theorem ex_cons {st : Stmt} {rest : List Stmt} (h : ES Γ st m H (fun fl m1 H1 => match fl with | .next => EX Γ rest m1 H1 Q R | f => Q f m1 H1) R) : EX Γ (st :: rest) m H Q R := by
  intro s t
  refine wpAny_execs_cons (wpAny_mono (h s t) (fun f s1 h1 => ?_) fun _ _ z => z)
  obtain ⟨mf, m1, H1, x1, t1, r1, q1⟩ := h1
  cases r1 with
  | next => exact wpAny_mono (q1 s1 t1) (fun _ _ z => z.after x1) fun _ _ z => z.after x1
  | brk => exact ⟨_, m1, H1, x1, t1, .brk, q1⟩
  | cont => exact ⟨_, m1, H1, x1, t1, .cont, q1⟩
  | ret r => exact ⟨_, m1, H1, x1, t1, .ret r, q1⟩
theorem es_ret {e : Expr} (h : EV Γ e m H (fun v H1 => Q (.ret v) m H1) R) : ES Γ (.Return (some e) pos) m H Q R := by
  intro s t
  refine wpAny_Return_some (wpAny_mono (h s t) (fun v s1 h1 => ?_) fun _ _ z => z.w t)
  obtain ⟨mv, H1, x1, y1, r1, q1⟩ := h1
  exact ⟨_, m, H1, x1.w, t.ext x1 y1, .ret r1, q1⟩
theorem es_if {t : Expr} {b o : List Stmt} (h : TV Γ t m H (fun c H1 => if c then EX Γ b m H1 Q R else EX Γ o m H1 Q R) R) : ES Γ (.If t b o pos) m H Q R := by
  intro s st
  refine wpAny_If (wpAny_mono (h s st) (fun c s1 h1 => ?_) fun _ _ z => z.w st)
  obtain ⟨H1, x1, y1, q⟩ := h1
  cases c
  · exact wpAny_mono (q s1 (st.ext x1 y1)) (fun _ _ z => z.after x1.w) fun _ _ z => z.after x1.w
  · exact wpAny_mono (q s1 (st.ext x1 y1)) (fun _ _ z => z.after x1.w) fun _ _ z => z.after x1.w
theorem es_expr {e : Expr} (h : EV Γ e m H (fun _ H1 => Q .next m H1) R) (hi : interactive Γ.env = false := by rfl) (hs : swapsWith e none pos.line Γ.env = pure false := by rfl) : ES Γ (.Expr e pos) m H Q R := by
  intro s t
  refine wpAny_Expr_any (wpAny_mono (h s t) (fun v s1 h1 => ?_) fun _ _ z => z.w t) hi hs
  obtain ⟨mv, H1, x1, y1, r1, q1⟩ := h1
  exact ⟨_, m, H1, x1.w, t.ext x1 y1, .next, q1⟩
end

/-- the frame's own things: its locals, its cells -/
structure Owns (Γ : Cx) : Prop where
  L : Γ.env.locals ∈ Γ.own
  cells : ∀ x c, Γ.env.kindOf x = some .cell → Γ.env.cells.lookup x = some c → c ∈ Γ.own
  off : ∀ a ∈ Γ.own, Γ.base.get? a = none
  apart : ∀ x c y c', Γ.env.cells.lookup x = some c → Γ.env.cells.lookup y = some c' → c = c' → x = y

/-- the local namespace is this frame's own -/
structure OwnL (Γ : Cx) : Prop where
  L : Γ.env.locals ∈ Γ.own
  off : ∀ a ∈ Γ.own, Γ.base.get? a = none
theorem Owns.l {Γ : Cx} (ow : Owns Γ) : OwnL Γ := ⟨ow.L, ow.off⟩

theorem frames_by {h h' base : Heap} (k : ∀ b o, h.get? b = some o → (∃ es ep, o.data = .dict es ep) → ∃ o', h'.get? b = some o' ∧ ∃ es ep, o'.data = .dict es ep) {l : List Env}
    (hl : FF h base l) : FF h' base l := by
  induction l with
  | nil => trivial
  | cons env rest ih =>
    obtain ⟨hk, ⟨L, o, hf, hn, ho, hd⟩, hr⟩ := hl
    obtain ⟨o', ho', hd'⟩ := k L o ho hd
    exact ⟨hk, ⟨L, o', hf, hn, ho', hd'⟩, ih hr⟩

/-- storing a local -/
theorem store_local {Γ : Cx} {m : Locs} {H : AH} {s : Shared} {x : Str} {val : Value} {v : V} (t : St Γ m H s) (ow : OwnL Γ) (hk : Γ.env.kindOf x = some .local) (r : Rel H s.heap val v) {h' : Heap} {mm : Str → Option Value}
    (hn : s.heap.Ns Γ.env.locals mm) (hf : ∀ y u, m.lookup y = some u → VarAt Γ.env mm H s.heap y u) (hL : H Γ.env.locals = none)
    (hn' : h'.Ns Γ.env.locals (fun y => if y = x then some val else mm y)) (hs : Heap.SameBut Γ.env.locals s.heap h') (tk : Nat) :
    ExtW Γ.F Γ.own H s.heap H h' ∧ St Γ ((x, v) :: m) H { s with heap := h', toks := tk } := by
  obtain ⟨oL, es, ep, eL, dL, rL⟩ := id hn
  obtain ⟨oL', es', ep', eL', dL', rL'⟩ := id hn'
  have ne_seq : ∀ a o items n, s.heap.get? a = some o → o.data = .seq items n → a ≠ Γ.env.locals := fun a o items n e d q => by
    rw [q, eL] at e; cases e; rw [dL] at d; cases d
  have ext : ExtW Γ.F Γ.own H s.heap H h' := by
    refine ⟨fun a o e z hw => ?_, fun _ _ _ z => z, fun a o e => ?_, fun a l o z e => ⟨(hs.2 a fun q => by rw [q, hL] at z; cases z).trans e, z⟩⟩
    · have hne : a ≠ Γ.env.locals := fun q => by
        obtain ⟨items, n, d⟩ := hw (q ▸ ow.L)
        exact ne_seq a o items n e d q
      exact ⟨o.slots, (hs.2 a hne).trans e, fun _ => rfl⟩
    · by_cases q : a = Γ.env.locals
      · exact ⟨oL', q ▸ eL'⟩
      · exact ⟨o, (hs.2 a q).trans e⟩
  have sim : Sim Γ.w Γ.base Γ.os H { s with heap := h', toks := tk } := by
    refine t.sim.step (H' := H) ext.seqK (fun b o e => ?_) [] (fun b ob o hb _ e => ?_) fun a o e => .inl ⟨e, (fun h => (nomatch h)), fun _ _ h => (nomatch h)⟩
    · have : b ≠ Γ.env.locals := fun q => by have := ow.off _ ow.L; rw [← q, e] at this; cases this
      exact (hs.2 b this).trans (t.sim.stays b o e)
    · have : b ≠ Γ.env.locals := fun q => by rw [q, hL] at hb; cases hb
      exact ⟨(hs.2 b this).trans e, hb⟩
  refine ⟨ext, sim, ⟨_, hn', hL, fun y u hy => ?_⟩, ?_, ?_, t.off⟩
  · rw [List.lookup_cons] at hy
    by_cases q : y = x
    · subst q
      have e0 : (y == y) = true := beq_self_eq_true y
      rw [e0] at hy; cases hy
      exact .inl ⟨hk, val, if_pos rfl, r.seqK ext.seqK⟩
    · have : (y == x) = false := beq_eq_false_iff_ne.mpr q
      rw [this] at hy
      rcases hf y u hy with ⟨k, vl, e1, r1⟩ | ⟨k, c, vl, e1, ⟨oc, hc, hd⟩, hn0, r1⟩
      · exact .inl ⟨k, vl, (if_neg q).trans e1, r1.seqK ext.seqK⟩
      · have hne : c ≠ Γ.env.locals := fun z => by rw [z, eL] at hc; cases hc; rw [dL] at hd; cases hd
        exact .inr ⟨k, c, vl, e1, ⟨oc, (hs.2 c hne).trans hc, hd⟩, hn0, r1.seqK ext.seqK⟩
  · intro y c k1 k2
    obtain ⟨⟨vl, oc, hc, hd⟩, hn0⟩ := t.cells y c k1 k2
    have hne : c ≠ Γ.env.locals := fun z => by rw [z, eL] at hc; cases hc; rw [dL] at hd; cases hd
    exact ⟨⟨vl, oc, (hs.2 c hne).trans hc, hd⟩, hn0⟩
  · refine frames_by (fun b o e hnf => ?_) t.frames
    by_cases q : b = Γ.env.locals
    · subst q; exact ⟨oL', eL', _, _, dL'⟩
    · exact ⟨o, (hs.2 b q).trans e, hnf⟩

theorem store_cell {Γ : Cx} {m : Locs} {H : AH} {s : Shared} {x : Str} {val : Value} {v : V} (t : St Γ m H s) (ow : Owns Γ) (hk : Γ.env.kindOf x = some .cell) (r : Rel H s.heap val v) {h' : Heap} {c : Addr} {v₀ : Option Value}
    (hc : Γ.env.cells.lookup x = some c) (hv : s.heap.IsCell c v₀) (hcn : H c = none)
    (hv' : h'.IsCell c (some val)) (hs : Heap.SameBut c s.heap h') (tk : Nat) :
    ExtW Γ.F Γ.own H s.heap H h' ∧ St Γ ((x, v) :: m) H { s with heap := h', toks := tk } := by
  obtain ⟨oL, eL, dL⟩ := id hv
  obtain ⟨oL', eL', dL'⟩ := id hv'
  have cow := ow.cells x c hk hc
  have ne_seq : ∀ a o items n, s.heap.get? a = some o → o.data = .seq items n → a ≠ c := fun a o items n e d q => by
    rw [q, eL] at e; cases e; rw [dL] at d; cases d
  have ext : ExtW Γ.F Γ.own H s.heap H h' := by
    refine ⟨fun a o e z hw => ?_, fun _ _ _ z => z, fun a o e => ?_, fun a l o z e => ⟨(hs.2 a fun q => by rw [q, hcn] at z; cases z).trans e, z⟩⟩
    · have hne : a ≠ c := fun q => by
        obtain ⟨items, n, d⟩ := hw (q ▸ cow)
        exact ne_seq a o items n e d q
      exact ⟨o.slots, (hs.2 a hne).trans e, fun _ => rfl⟩
    · by_cases q : a = c
      · exact ⟨oL', q ▸ eL'⟩
      · exact ⟨o, (hs.2 a q).trans e⟩
  have sim : Sim Γ.w Γ.base Γ.os H { s with heap := h', toks := tk } := by
    refine t.sim.step (H' := H) ext.seqK (fun b o e => ?_) [] (fun b ob o hb _ e => ?_) fun a o e => .inl ⟨e, (fun h => (nomatch h)), fun _ _ h => (nomatch h)⟩
    · have : b ≠ c := fun q => by have := ow.off _ cow; rw [← q, e] at this; cases this
      exact (hs.2 b this).trans (t.sim.stays b o e)
    · have : b ≠ c := fun q => by rw [q, hcn] at hb; cases hb
      exact ⟨(hs.2 b this).trans e, hb⟩
  obtain ⟨mm, hn, hL, hf⟩ := t.loc
  have hcL : Γ.env.locals ≠ c := fun q => by
    obtain ⟨o, es, ep, e, d, _⟩ := hn; rw [q, eL] at e; cases e; rw [dL] at d; cases d
  refine ⟨ext, sim, ⟨mm, hn.sameBut hs hcL, hL, fun y u hy => ?_⟩, ?_, ?_, t.off⟩
  · rw [List.lookup_cons] at hy
    by_cases q : y = x
    · subst q
      have e0 : (y == y) = true := beq_self_eq_true y
      rw [e0] at hy; cases hy
      exact .inr ⟨.inl hk, c, val, hc, ⟨oL', eL', dL'⟩, hcn, r.seqK ext.seqK⟩
    · have : (y == x) = false := beq_eq_false_iff_ne.mpr q
      rw [this] at hy
      rcases hf y u hy with ⟨k, vl, e1, r1⟩ | ⟨k, c2, vl, e1, ⟨oc, hc2, hd⟩, hn0, r1⟩
      · exact .inl ⟨k, vl, e1, r1.seqK ext.seqK⟩
      · have hne : c2 ≠ c := fun z => q (ow.apart y c2 x c e1 hc z)
        exact .inr ⟨k, c2, vl, e1, ⟨oc, (hs.2 c2 hne).trans hc2, hd⟩, hn0, r1.seqK ext.seqK⟩
  · intro y c2 k1 k2
    obtain ⟨⟨vl, oc, hc2, hd⟩, hn0⟩ := t.cells y c2 k1 k2
    by_cases q : c2 = c
    · subst q; exact ⟨⟨some val, oL', eL', dL'⟩, hn0⟩
    · exact ⟨⟨vl, oc, (hs.2 c2 q).trans hc2, hd⟩, hn0⟩
  · refine frames_by (fun b o e hnf => ?_) t.frames
    by_cases q : b = c
    · subst q; obtain ⟨es, ep, d⟩ := hnf; rw [eL] at e; cases e; rw [dL] at d; cases d
    · exact ⟨o, (hs.2 b q).trans e, hnf⟩


section
variable {Γ : Cx} {m : Locs} {H : AH} {Q : Fl → Locs → AH → Prop} {R : Int → AH → Prop} {pos : Pos} {x : Str}
/-- a name is stored -/
theorem wp_store {Q : Unit → Shared → Prop} {E : Value → Shared → Prop} {s : Shared} {val : Value} {v : V} (ok : Γ.Ok) (ow : Owns Γ) (t : St Γ m H s) (r : Rel H s.heap val v) (hk : Γ.env.kindOf x = some .local ∨ Γ.env.kindOf x = some .cell ∧ (Γ.env.cells.lookup x).isSome = true)
    (h : ∀ h' tk, ExtW Γ.F Γ.own H s.heap H h' → St Γ ((x, v) :: m) H { s with heap := h', toks := tk } → Q () { s with heap := h', toks := tk }) : wpAny (Mw Γ.w) Γ.A (storeName Γ.env x val) Q E s := by
  rcases hk with hk | ⟨hk, hs⟩
  · obtain ⟨mm, hn, hL, hf⟩ := id t.loc
    refine wpAny_storeName_local hk hn (fun h' hn' hs => ?_) (by rw [ok.kind]; rfl)
    obtain ⟨a, b⟩ := store_local t ow.l hk r hn hf hL hn' hs (s.toks + 1)
    exact h _ _ a b
  · obtain ⟨c, hc⟩ := Option.isSome_iff_exists.mp hs
    obtain ⟨⟨v0, hv⟩, hcn⟩ := t.cells x c hk hc
    refine wpAny_storeName_cell ok.kind hk hc hv fun h' hv' hs => ?_
    obtain ⟨a, b⟩ := store_cell t ow hk r hc hv hcn hv' hs s.toks
    exact h _ _ a b

theorem es_assign {value : Expr} {xp : Pos} (ok : Γ.Ok) (ow : Owns Γ) (h : EV Γ value m H (fun v H1 => Q .next ((x, v) :: m) H1) R) (hk : Γ.env.kindOf x = some .local ∨ Γ.env.kindOf x = some .cell ∧ (Γ.env.cells.lookup x).isSome = true)
    (hs : swapsWith value (some (.Name x xp)) pos.line Γ.env = pure false := by rfl) : ES Γ (.Assign [.Name x xp] value pos) m H Q R := by
  intro s t
  refine wpAny_Assign_Name (wpAny_mono (h s t) (fun val s1 h1 => ?_) fun _ _ z => z.w t) hs
  obtain ⟨v, H1, x1, y1, r1, q1⟩ := h1
  refine wp_store ok ow (t.ext x1 y1) r1 hk fun h' tk e2 t2 => ?_
  exact ⟨_, _, H1, x1.w.trans e2, t2, .next, q1⟩
end

inductive LPost (Γ : Cx) (H : AH) (s : Shared) (Q : List V → AH → Prop) (vs : List Value) (s' : Shared) : Prop
  | mk (xs : List V) (H' : AH) (x : Ext Γ.F H s.heap H' s'.heap) (y : Sim Γ.w Γ.base Γ.os H' s') (r : RelAll H' s'.heap vs xs) (q : Q xs H')
def EVs (Γ : Cx) (es : List Expr) (m : Locs) (H : AH) (Q : List V → AH → Prop) (R : Int → AH → Prop) : Prop :=
  ∀ s pos, St Γ m H s → wpAny (Mw Γ.w) Γ.A (spliced (backTo pos (starEach es Γ.env))) (LPost Γ H s Q) (XPost Γ H s R) s

section
variable {Γ : Cx} {m : Locs} {H : AH} {R : Int → AH → Prop} {pos : Pos}
theorem evs_nil {Q : List V → AH → Prop} (q : Q [] H) : EVs Γ [] m H Q R := fun s pos t => wpAny_pure ⟨[], H, .refl, t.sim, .nil, q⟩
theorem evs_cons {Q : List V → AH → Prop} {e : Expr} {es : List Expr} (h : EV Γ e m H (fun v H1 => EVs Γ es m H1 (fun vs H2 => Q (v :: vs) H2) R) R)
    (he : ∀ env, starEach (e :: es) env = (false, eval e env) :: starEach es env := by intro _; rfl) : EVs Γ (e :: es) m H Q R := by
  intro s pos t
  rw [he]
  show wpAny _ _ (spliced ((false, eval e Γ.env) :: backTo pos (starEach es Γ.env))) _ _ _
  refine spliced_cons (wpAny_mono (h s t) (fun v s1 h1 => ?_) fun _ _ z => z)
  obtain ⟨mv, H1, x1, y1, r1, q1⟩ := h1
  refine wpAny_mono (q1 s1 pos (t.ext x1 y1)) (fun vs s2 h2 => ?_) fun _ _ z => z.after x1
  obtain ⟨xs, H2, x2, y2, r2, q2⟩ := h2
  exact ⟨mv :: xs, H2, x1.trans x2, y2, .cons (r1.ext x2) r2, q2⟩
end

/-- what a call gives, whoever calls -/
def CXPost (w : World) (base : Heap) (os : OsState) (F : List Addr) (H : AH) (s : Shared) (R : Int → AH → Prop) (x : Value) (s' : Shared) : Prop := XP w base os F [] H s R x s'
structure Con where
  w : World
  base : Heap
  os : OsState
abbrev CRes (C : Con) (F : List Addr) (H : AH) (s : Shared) (Q : V → AH → Prop) (R : Int → AH → Prop) : Result → Shared → Prop := fun r s' => match r with | .ok (.ret v) => CPost C.w C.base C.os F H s Q v s' | .ok _ => False | .error e => CXPost C.w C.base C.os F H s R e s'
def CW (C : Con) (lv : Nat) (f : Value) (args : List V) (H : AH) (Q : V → AH → Prop) (R : Int → AH → Prop) : Prop :=
  ∀ A stk s vals, A.frames = some stk → A.depth + 10 * lv ≤ 900 → A.units + 100 * lv ≤ 9000 → A.handled = none → FF s.heap C.base stk → (∀ a ∈ stk.filterMap (·.frame), H a = none) →
    Sim C.w C.base C.os H s → RelAll H s.heap vals args →
    codeAny (Mw C.w) A (.call f ⟨vals, []⟩) (CRes C (stk.filterMap (·.frame)) H s Q R) s
noncomputable abbrev Cx.con (Γ : Cx) : Con := ⟨Γ.w, Γ.base, Γ.os⟩

theorem CW.mono {C lv f args H Q Q' R R'} (h : CW C lv f args H Q R) (hq : ∀ v H, Q v H → Q' v H) (hr : ∀ n H, R n H → R' n H) : CW C lv f args H Q' R' := by
  intro A stk s vals a1 a2 a3 a4 a5 a6 a7 a8
  refine codeAny_mono (h A stk s vals a1 a2 a3 a4 a5 a6 a7 a8) (fun r s' p => ?_)
  rcases r with e | (v | _ | _ | _)
  · obtain ⟨n, H', e, x, y, r, z, q⟩ := p; exact ⟨n, H', e, x, y, r, z, hr _ _ q⟩
  all_goals first | exact p | (obtain ⟨mv, H', x, y, r, q⟩ := p; exact ⟨mv, H', x, y, r, hq _ _ q⟩)
theorem Snob.frames {F F' n e h H' h'} (p : Snob F n e h H' h') (hF : ∀ a ∈ F, a ∈ F') : Snob F' n e h H' h' := p.imp (fun z => z) hF

section
variable {Γ : Cx} {m : Locs} {H : AH} {Q : V → AH → Prop} {R : Int → AH → Prop} {pos : Pos}
theorem frag_at {s : Shared} (ok : Γ.Ok) (t : Sim Γ.w Γ.base Γ.os H s) : (frag Γ.w.params).In s.heap := ok.base.K.keeps t.stays
/-- a call by contract within an expression -/
theorem CW.at {f : Value} {vals : List Value} {args : List V} {lv : Nat} {s : Shared} (ok : Γ.Ok) (c : CW Γ.con lv f args H Q R) (hl : lv ≤ Γ.lv) (t : St Γ m H s) (r : RelAll H s.heap vals args) :
    wpAny (Mw Γ.w) Γ.A (call f vals) (VPost Γ H s Q) (XPost Γ H s R) s := by
  refine wpAny_mono (wpAny_call (E := CXPost Γ.w Γ.base Γ.os Γ.F H s R) (Q := CPost Γ.w Γ.base Γ.os Γ.F H s Q) (c Γ.A Γ.stk s vals ok.frames (by have := ok.depth; omega) (by have := ok.units; omega) ok.handled t.frames t.off t.sim r)) (fun v s' p => p) fun v s' p => ?_
  obtain ⟨n, H', e, x, y, z, sn, q⟩ := p
  exact ⟨n, H', e, x, y, z, sn.frames (fun _ h => (nomatch h)), q⟩

theorem ev_call {fe : Expr} {fa : Addr} {e : Expr} {r : List Expr} {lv : Nat} (ok : Γ.Ok) (hk : ∀ P, keepIn (frag P) (.ref fa) = true)
    (h : EV Γ fe m H (fun v H1 => v = .ref fa ∧ EVs Γ (e :: r) m H1 (fun vs H2 => CW Γ.con lv (.ref fa) vs H2 Q R) R) R) (hl : lv ≤ Γ.lv := by decide)
    (he : ∀ env, eval (.Call fe (e :: r) [] pos) env = (do callWith pos (← eval fe env) [] (backTo pos (starEach (e :: r) env)) (backToKw pos (keywordEach [] env))) := by intro _; rfl)
    (hs : ∀ env, starEach (e :: r) env = (false, eval e env) :: starEach r env := by intro _; rfl)
    (hp : ∀ env, (backTo pos (starEach r env)).any (·.1) = false := by intro _; rfl) : EV Γ (.Call fe (e :: r) [] pos) m H Q R := by
  intro s t
  refine Call_ (wpAny_mono (h s t) (fun v s1 h1 => ?_) fun _ _ z => z) (he _)
  obtain ⟨_, H1, x1, y1, r1, rfl, q1⟩ := h1
  refine r1.rE ?_
  have t1 := t.ext x1 y1
  refine callWith_K (frag_at ok y1) (hk _) (wpAny_mono (q1 s1 pos t1) (fun vs s2 h2 => ?_) fun _ _ z => z.after x1) (hs _) (hp _)
  obtain ⟨xs, H2, x2, y2, r2, q3⟩ := h2
  refine ⟨frag_at ok y2, ?_⟩
  exact wpAny_mono (q3.at ok hl (t1.ext x2 y2) r2) (fun _ _ z => z.after (x1.trans x2)) fun _ _ z => z.after (x1.trans x2)
end

theorem RelAll.length {H h} {vs : List Value} {xs : List V} (r : RelAll H h vs xs) : vs.length = xs.length := RelAll.ind (P := fun vs xs => vs.length = xs.length) rfl (fun _ _ _ _ _ _ e => congrArg (· + 1) e) r
theorem ns_of_get {h : Heap} {L : Addr} {m : Str → Option Value} (n : h.Ns L m) : ∃ o es ep, h.get? L = some o ∧ o.data = .dict es ep := by obtain ⟨o, es, ep, e, d, _⟩ := n; exact ⟨o, es, ep, e, d⟩

/-- the value of a def's body -/
noncomputable def flVal : Fl → V
  | .ret v => v
  | _ => .none

/-- what noting an exception in frames leaves -/
structure Noted (F : List Addr) (H : AH) (h0 h h' : Heap) : Prop where
  kept : ∀ a o, h.get? a = some o → a ∉ F → (h0.get? a ≠ none ∨ H a ≠ none ∨ ∀ vs, o.data ≠ .fields vs) → h'.get? a = some o
  frames : ∀ a o, h.get? a = some o → a ∈ F → (∀ vs, o.data ≠ .fields vs) → ∃ sl, h'.get? a = some { o with slots := sl }
  alive : ∀ a o, h.get? a = some o → ∃ o', h'.get? a = some o'

theorem Noted.trans {F H h0 h h1 h2} (x : Noted F H h0 h h1) (y : Noted F H h0 h1 h2) : Noted F H h0 h h2 :=
  ⟨fun a o e f c => y.kept a o (x.kept a o e f c) f c, fun a o e f c => by
    obtain ⟨sl, e1⟩ := x.frames a o e f c
    obtain ⟨sl2, e2⟩ := y.frames a { o with slots := sl } e1 f c
    exact ⟨sl2, e2⟩, fun a o e => by obtain ⟨o', e'⟩ := x.alive a o e; exact y.alive a o' e'⟩

theorem funFrames_noted {F H h0 h h' base} (x : Noted F H h0 h h') {l : List Env} (hF : ∀ a ∈ l.filterMap (·.frame), a ∈ F) (hl : h.FunFrames base l) : h'.FunFrames base l := by
  induction l with
  | nil => trivial
  | cons env rest ih =>
    obtain ⟨hk, ⟨L, o, hf, hn, ho, hd⟩, hr⟩ := hl
    obtain ⟨sl, e'⟩ := x.frames L o ho (hF L (by rw [List.filterMap_cons, hf]; exact List.mem_cons_self)) hd
    exact ⟨hk, ⟨L, _, hf, hn, e', hd⟩, ih (fun a ha => hF a (by rw [List.filterMap_cons, hf]; exact List.mem_cons_of_mem _ ha)) hr⟩

theorem ff_noted {F H h0 h h' base} (x : Noted F H h0 h h') {l : List Env} (hF : ∀ a ∈ l.filterMap (·.frame), a ∈ F) (hl : FF h base l) : FF h' base l := by
  induction l with
  | nil => trivial
  | cons env rest ih =>
    obtain ⟨hk, ⟨L, o, hf, hn, ho, hd⟩, hr⟩ := hl
    obtain ⟨sl, e'⟩ := x.frames L o ho (hF L (by rw [List.filterMap_cons, hf]; exact List.mem_cons_self)) (fun vs z => by obtain ⟨es, ep, d⟩ := hd; rw [d] at z; cases z)
    exact ⟨hk, ⟨L, _, hf, hn, e', hd⟩, ih (fun a ha => hF a (by rw [List.filterMap_cons, hf]; exact List.mem_cons_of_mem _ ha)) hr⟩

theorem Sim.noted {F H h0 base w os h' tk} {s : Shared} (x : Noted F H h0 s.heap h') (y : Sim w base os H s) (h0s : base.StaysIn h0) (hF : ∀ a ∈ F, base.get? a = none ∧ H a = none) (hFf : ∀ a ∈ F, ∀ o, s.heap.get? a = some o → ∀ vs, o.data ≠ .fields vs) : Sim w base os H { s with heap := h', toks := tk } := by
  have kd : ∀ b ob o, H b = some o → s.heap.get? b = some ob → h'.get? b = some ob := fun b ob o hb e =>
    x.kept b ob e (fun q => by rw [(hF b q).2] at hb; cases hb) (.inr (.inl (by rw [hb]; simp)))
  refine y.step (H' := H) (fun a o items n e d z => ⟨?_, z⟩) (fun b o e => ?_) [] (fun b ob o hb _ e => ⟨kd b ob o hb e, hb⟩) fun a o e => .inl ⟨e, (fun h => (nomatch h)), fun _ _ h => (nomatch h)⟩
  · by_cases q : a ∈ F
    · exact x.frames a o e q fun vs z => by rw [d] at z; cases z
    · exact ⟨o.slots, x.kept a o e q (.inr (.inr fun vs z => by rw [d] at z; cases z))⟩
  · exact x.kept b o (y.stays b o e) (fun q => by rw [(hF b q).1] at e; cases e) (.inl (by rw [h0s b o e]; simp))

theorem Ext.noted {F F' H0 H h0 h h'} (x : Ext F H0 h0 H h) (y : Noted F' H h0 h h') (hF : ∀ a, a ∈ F' → a ∉ F → h0.get? a = Option.none) (hf : ∀ a ∈ F, ∀ o, h0.get? a = some o → ∀ vs, o.data ≠ .fields vs) (hFH : ∀ a ∈ F, H0 a = Option.none) : Ext F H0 h0 H h' :=
  ⟨fun a o e z => by
    obtain ⟨sl, e1, f1⟩ := x.keep a o e z
    by_cases q : a ∈ F'
    · have qF : a ∈ F := Classical.byContradiction fun n => by have := hF a q n; rw [e] at this; cases this
      obtain ⟨sl', e2⟩ := y.frames a _ e1 q (fun vs w => hf a qF o e vs w)
      exact ⟨sl', e2, fun n => absurd qF n⟩
    · exact ⟨sl, y.kept a _ e1 q (.inl (by rw [e]; simp)), f1⟩,
   x.none, fun a o e => by obtain ⟨o', e'⟩ := x.alive a o e; exact y.alive a o' e',
   fun a l o z e => by
    obtain ⟨e', z'⟩ := x.lock a l o z e
    exact ⟨y.kept a o e' (fun q => by
      by_cases qF : a ∈ F
      · exact absurd z (by rw [hFH a qF]; simp)
      · rw [hF a q qF] at e; cases e) (.inl (by rw [e]; simp)), z'⟩⟩

section
variable {M : Model} {A : Around} {E : Value → Shared → Prop} {s : Shared} {base h0 : Heap} {env : Env} {outer : List Env} {L x : Addr} {H : AH} {n : Int}

theorem wp_setFlight (fr : Option Addr) (hfr : ∀ l, fr = some l → l = L) {Q : Unit → Shared → Prop} (sn : Snob [L] n x h0 H s.heap) (hx : ∀ a ∈ (env :: outer).filterMap (·.frame), ∀ o, s.heap.get? a = some o → ∀ vs, o.data ≠ .fields vs)
    (hQ : ∀ h', Noted ((env :: outer).filterMap (·.frame)) H h0 s.heap h' → Snob (fr.toList) n x h0 H h' → Q () { s with heap := h' }) : wpAny M A (setFlight (.ref x) fr) Q E s := by
  obtain ⟨f, o, dx, vs, sl, es, k, t, e1, e2, e3, e4, e5, e6, e7⟩ := sn
  unfold setFlight
  rcases e7 with e7 | ⟨T, oT, ts, fv, a1, a2, a3, a4, a5, a6, a7, a8⟩
  · refine wpAny_bind (wpAny_field e1 rfl e7 ?_)
    rw [if_neg (by simp)]
    exact wpAny_pure (hQ s.heap ⟨fun a o e _ _ => e, fun a o e _ _ => ⟨o.slots, e⟩, fun a o e => ⟨o, e⟩⟩ ⟨f, o, dx, vs, sl, es, k, t, e1, e2, e3, e4, e5, e6, .inl e7⟩)
  · refine wpAny_bind (wpAny_field e1 rfl a1 ?_)
    rw [if_pos (show (Value.ref T != Value.none) = true from by simp)]
    have h3 : 3 < ts.size := (Array.getElem?_eq_some_iff.mp a7).1
    refine wpAny_setField a5 a6 h3 ?_
    have other : ∀ b, b ≠ T → (s.heap.update T (Obj.mapFields (·.setIfInBounds 3 (fr.elim .none fun f => rawInt f)))).get? b = s.heap.get? b := fun b hb => Heap.get?_update_other _ _ (Ne.symm hb)
    have hTd := Obj.data_mapFields a6 (·.setIfInBounds 3 (fr.elim Value.none fun f => rawInt f))
    have self := Heap.get?_update_self (Obj.mapFields (·.setIfInBounds 3 (fr.elim Value.none fun f => rawInt f))) a5 (Obj.isFreed_of_fields hTd)
    refine hQ _ ⟨fun a ob e _ c => ?_, fun a ob e hF nf => ?_, fun a ob e => ?_⟩ ?_
    · refine (other a fun q => ?_).trans e
      rcases c with c | c | c
      · exact c (q ▸ a2)
      · exact c (q ▸ a3)
      · rw [q, a5] at e; cases e; exact c _ a6
    · exact ⟨ob.slots, (other a fun q => by rw [q, a5] at e; cases e; exact nf _ a6).trans e⟩
    · by_cases q : a = T
      · rw [q]; exact ⟨_, self⟩
      · exact ⟨ob, (other a q).trans e⟩
    · have hxT : x ≠ T := Ne.symm a4
      have hdT : dx ≠ T := fun q => by rw [q, a5] at e2; cases e2; cases a6
      refine ⟨f, o, dx, vs, sl, es, k, t, (other _ hxT).trans e1, (other _ hdT).trans e2, e3, e4, e5, e6, .inr ⟨T, _, _, _, a1, a2, a3, a4, self, hTd, by simp [h3]; rfl, ?_⟩⟩
      cases fr with
      | none => exact .inl rfl
      | some l => exact .inr ⟨l, List.mem_singleton.mpr rfl, rfl⟩

theorem wp_noteFrame {Q : Unit → Shared → Prop} (hfr : A.frames = some (env :: outer)) (hf : env.frame = some L) (hl : s.heap.FunFrames base (env :: outer)) (hoff : ∀ a ∈ (env :: outer).filterMap (·.frame), H a = none)
    (alive : ∀ a o, h0.get? a = some o → ∃ o', s.heap.get? a = some o') (sn : Snob [L] n x h0 H s.heap) (hH : ∀ a, H a ≠ none → ∃ o, s.heap.get? a = some o) (hF0 : ∀ a ∈ (env :: outer).filterMap (·.frame), h0.get? a ≠ none)
    (hQ : ∀ h', Noted ((env :: outer).filterMap (·.frame)) H h0 s.heap h' → Snob [L] n x h0 H h' → (∃ oe vs T, h'.get? x = some oe ∧ oe.data = .fields vs ∧ vs[1]? = some (.ref T)) → Q () { s with heap := h' }) : wpAny M A (noteFrame (.ref x) env) Q E s := by
  obtain ⟨f, o, dx, vs, sl, es, k, t, e1, e2, e3, e4, e5, e6, e7⟩ := sn
  -- the entry is made
  have make : ∀ (s : Shared) (head : Value) (hadNext : Bool) (Q : Unit → Shared → Prop), s.heap.FunFrames base (env :: outer) → s.heap.get? x = some ⟨.ref 34, some dx, .fields vs, sl⟩ → s.heap.get? dx = some (dictOf es k) →
      (∀ a o, h0.get? a = some o → ∃ o', s.heap.get? a = some o') → (∀ a, H a ≠ none → ∃ o, s.heap.get? a = some o) →
      (∀ h', Noted ((env :: outer).filterMap (·.frame)) H h0 s.heap h' → Snob [L] n x h0 H h' → (∃ oe vs T, h'.get? x = some oe ∧ oe.data = .fields vs ∧ vs[1]? = some (.ref T)) → Q () { s with heap := h' }) →
      wpAny M A (do let a ← frameOf env; let pl ← entryPlaceOf L hadNext; let b ← EntryCells.newEntry head a .none (rawInt L) .none pl; setField (.ref x) 1 b) Q E s := by
    intro s head hadNext Q hl e1 e2 alive hH hQ
    have hene : x ∉ (env :: outer).filterMap (·.frame) := fun hm => by
      obtain ⟨_, o, ho, hnf⟩ := hl.mem hm
      rw [e1] at ho; injection ho with ho; subst ho; exact hnf vs rfl
    refine wpAny_bind (wpAny_frameOf_fun hfr hl hf fun h₁ hs₁ => ?_)
    refine wpAny_bind (wpAny_entryPlaceOf fun pl hpl => ?_)
    unfold EntryCells.newEntry newFields
    refine wpAny_bind (wpAny_newObj_type ?_ (hpl.sizeOk5 _ _ _ _ _))
    have he₁ := (hs₁.2.1 x hene).trans e1
    have he₂ := Heap.get?_push_of_some (h := h₁) { cls := .type "traceback", dict := none, data := .fields ([head, .ref L, .none, rawInt L, .none] ++ (if pl.isEmpty then List.replicate 6 Value.none else pl)).toArray } he₁
    refine wpAny_setField he₂ rfl e6 ?_
    have hTe : h₁.objs.size ≠ x := Nat.ne_of_gt (Heap.lt_size he₁)
    have hd₃ := Obj.data_mapFields (o := ⟨.ref 34, some dx, .fields vs, sl⟩) rfl (·.setIfInBounds 1 (Value.ref h₁.objs.size))
    have he₃ := Heap.get?_update_self (Obj.mapFields (·.setIfInBounds 1 (Value.ref h₁.objs.size))) he₂ (Obj.isFreed_of_fields hd₃)
    have hT₃ := (Heap.get?_update_other (h₁.push { cls := .type "traceback", dict := none, data := .fields ([head, .ref L, .none, rawInt L, .none] ++ (if pl.isEmpty then List.replicate 6 Value.none else pl)).toArray })
      (Obj.mapFields (·.setIfInBounds 1 (Value.ref h₁.objs.size))) (Ne.symm hTe)).trans (Heap.get?_push_size h₁ rfl)
    have hTn : s.heap.get? h₁.objs.size = none := by rw [hs₁.1]; exact Heap.get?_none_of_le (Nat.le_refl _)
    have keep : ∀ b o, b ≠ x → h₁.get? b = some o → ((h₁.push { cls := .type "traceback", dict := none, data := .fields ([head, .ref L, .none, rawInt L, .none] ++ (if pl.isEmpty then List.replicate 6 Value.none else pl)).toArray }).update x (Obj.mapFields (·.setIfInBounds 1 (Value.ref h₁.objs.size)))).get? b = some o := fun b o hbe hb => by
      rw [Heap.get?_update_other _ _ (Ne.symm hbe)]; exact Heap.get?_push_of_some _ hb
    have hdx : dx ≠ x := fun q => by rw [q, e1] at e2; cases e2
    refine hQ _ ⟨fun a ob e hF c => ?_, fun a ob e hF nf => ?_, fun a ob e => ?_⟩ ?_ ⟨_, vs.setIfInBounds 1 (Value.ref h₁.objs.size), h₁.objs.size, he₃, hd₃, by simp [e6]⟩
    · refine keep a ob (fun q => ?_) ((hs₁.2.1 a hF).trans e)
      rcases c with c | c | c
      · exact c (q ▸ f)
      · exact c (q ▸ o)
      · rw [q, e1] at e; cases e; exact c _ rfl
    · obtain ⟨sl', e'⟩ := hs₁.2.2 a ob e
      exact ⟨sl', keep a _ (fun q => by rw [q, e1] at e; cases e; exact nf _ rfl) e'⟩
    · by_cases q : a = x
      · rw [q]; exact ⟨_, he₃⟩
      · obtain ⟨sl', e'⟩ := hs₁.2.2 a ob e
        exact ⟨_, keep a _ q e'⟩
    · have hnew : h0.get? h₁.objs.size = none := by
        cases q : h0.get? h₁.objs.size with
        | none => rfl
        | some o' => obtain ⟨o'', e''⟩ := alive _ _ q; rw [hTn] at e''; cases e''
      have hHT : H h₁.objs.size = none := by
        cases q : H h₁.objs.size with
        | none => rfl
        | some o' => obtain ⟨o'', e''⟩ := hH _ (by rw [q]; simp); rw [hTn] at e''; cases e''
      obtain ⟨sld, e2'⟩ := hs₁.2.2 dx _ e2
      have hdxk : h₁.get? dx = some (dictOf es k) := (hs₁.2.1 dx fun q => hF0 dx q e4).trans e2
      refine ⟨f, o, dx, _, sl, es, k, t, he₃, keep dx _ hdx hdxk, e3, e4, e5, by simp [e6], .inr ⟨h₁.objs.size, _, _, rawInt L, by simp [e6], hnew, hHT, hTe, hT₃, rfl, by simp, .inr ⟨L, List.mem_singleton.mpr rfl, rfl⟩⟩⟩
  unfold noteFrame
  simp only [hf]
  rcases e7 with e7 | ⟨T, oT, ts, fv, a1, a2, a3, a4, a5, a6, a7, a8⟩
  · refine wpAny_bind (wpAny_field e1 rfl e7 ?_)
    rw [if_neg (by decide)]
    exact make s _ _ Q hl e1 e2 alive hH hQ
  · refine wpAny_bind (wpAny_field e1 rfl a1 ?_)
    rw [if_pos (show (Value.ref T != Value.none) = true from by simp)]
    refine wpAny_bind (wpAny_field a5 a6 a7 ?_)
    have sn : Snob [L] n x h0 H s.heap := ⟨f, o, dx, vs, sl, es, k, t, e1, e2, e3, e4, e5, e6, .inr ⟨T, oT, ts, fv, a1, a2, a3, a4, a5, a6, a7, a8⟩⟩
    by_cases q : (fv == rawInt L) = true
    · rw [if_pos q]
      exact wpAny_pure (hQ s.heap ⟨fun a o e _ _ => e, fun a o e _ _ => ⟨o.slots, e⟩, fun a o e => ⟨o, e⟩⟩ sn ⟨_, _, T, e1, rfl, a1⟩)
    · rw [if_neg q]
      have h3 : 3 < ts.size := (Array.getElem?_eq_some_iff.mp a7).1
      refine wpAny_bind (wpAny_setField a5 a6 h3 ?_)
      have other : ∀ b, b ≠ T → (s.heap.update T (Obj.mapFields (·.setIfInBounds 3 .none))).get? b = s.heap.get? b := fun b hb => Heap.get?_update_other _ _ (Ne.symm hb)
      have hTd := Obj.data_mapFields a6 (·.setIfInBounds 3 .none)
      have self := Heap.get?_update_self (Obj.mapFields (·.setIfInBounds 3 .none)) a5 (Obj.isFreed_of_fields hTd)
      have nt : Noted ((env :: outer).filterMap (·.frame)) H h0 s.heap (s.heap.update T (Obj.mapFields (·.setIfInBounds 3 .none))) := by
        refine ⟨fun a ob e _ c => ?_, fun a ob e hF nf => ?_, fun a ob e => ?_⟩
        · refine (other a fun q => ?_).trans e
          rcases c with c | c | c
          · exact c (q ▸ a2)
          · exact c (q ▸ a3)
          · rw [q, a5] at e; cases e; exact c _ a6
        · exact ⟨ob.slots, (other a fun q => by rw [q, a5] at e; cases e; exact nf _ a6).trans e⟩
        · by_cases q : a = T
          · rw [q]; exact ⟨_, self⟩
          · exact ⟨ob, (other a q).trans e⟩
      have hdT : dx ≠ T := fun q => by rw [q, a5] at e2; cases e2; cases a6
      refine make _ _ _ Q (funFrames_noted nt (fun a h => h) hl) ((other _ (Ne.symm a4)).trans e1) ((other _ hdT).trans e2) (fun a o e => ?_) (fun a z => ?_) fun h' nt' sn' tr => hQ h' (nt.trans nt') sn' tr
      · obtain ⟨o', e'⟩ := alive a o e; exact nt.alive a o' e'
      · obtain ⟨o', e'⟩ := hH a z; exact nt.alive a o' e'
end

/-- where a def's body runs -/
noncomputable abbrev Cx.fn (C : Con) (lv : Nat) (A : Around) (env : Env) (stk : List Env) (own : List Addr) : Cx := { w := C.w, base := C.base, os := C.os, A := A, env := env, stk := env :: stk, lv := lv, own := own }

/-- the contract of a def without cells, from its body -/
theorem cw_fn {C : Con} {lv : Nat} {fa : Addr} {args : List V} {H : AH} {Q : V → AH → Prop} {R : Int → AH → Prop} {fd : FuncData} {body : List Stmt} {names : List Str} {oc : Value} {od : Option Addr} {osl : Array (Option Value)}
    (hB : Base C.w C.base) (hK : ∀ P, (frag P).lookup fa = some ⟨oc, od, .func fd, osl⟩) (hcd : ∀ P, codeIn (frag P) fd.code fd.qualname = true) (hbody : fd.body = .stmts body)
    (hbind : ∀ vals : List Value, vals.length = args.length → ∀ s, BindsTo s fd ⟨vals, []⟩ (names.zip vals))
    (hcell : ∀ x ∈ fd.scope.names, x.2 ≠ .cell) (hloc : ∀ x ∈ names, fd.scope.names.lookup x = some .local) (hnd : names.Nodup)
    (hglob : fd.globals = mainGlobals) (hblt : fd.builtins = builtinsNs) (hcl : fd.closure = [])
    (hco : fd.scope.isCoroutine = false) (hgen : fd.scope.isGenerator = false) (hk : fd.scope.kind = .function)
    (h : ∀ A stk L own, (Cx.fn C lv A (callEnv fd L fa) stk own).Ok → Owns (Cx.fn C lv A (callEnv fd L fa) stk own) → EX (Cx.fn C lv A (callEnv fd L fa) stk own) body (names.zip args) H (fun fl _ H' => Q (flVal fl) H') R) : CW C (lv + 1) (.ref fa) args H Q R := by
  intro A stk s vals a1 a2 a3 a4 a5 a6 a7 a8
  have hlen : vals.length = args.length := a8.length
  have hKs : (frag C.w.params).In s.heap := hB.K.keeps a7.stays
  obtain ⟨mg, mb, T⟩ := hB.T
  refine (codeAny_call_def (fd := fd) (body := body) (binds := names.zip vals) (by have : recursionLimit = 1000 := rfl; omega) (hKs _ _ (hK _)) rfl (T.nolimit.keeps a7.stays) (codeRec_of hKs (hcd _)) hbody (hbind vals hlen s) hcell
    (fun x hx => hloc x.1 (List.of_mem_zip hx).1) (fun h₁ hn hk₁ => ?_) hco hgen hk)
  -- the new frame
  let L := s.heap.objs.size
  let env := callEnv fd L fa
  let Γ : Cx := { w := C.w, base := C.base, os := C.os, A := A.deeper env, env := env, stk := env :: stk, lv := lv, own := [L] }
  have hLn : s.heap.get? L = none := Heap.get?_none_of_le (Nat.le_refl _)
  have hbL : C.base.get? L = none := by
    cases q : C.base.get? L with
    | none => rfl
    | some o => have := a7.stays _ _ q; rw [hLn] at this; cases this
  have hHL : H L = none := by
    cases q : H L with
    | none => rfl
    | some o => obtain ⟨ob, e⟩ := (a7.view L o q).live; rw [hLn] at e; cases e
  have hks : fd.scope.kind ≠ .module := by rw [hk]; decide
  have okΓ : Γ.Ok := ⟨hB, Around.frames_deeper a1, hk, hglob, hblt, by show A.depth + 1 + 10 * lv ≤ 900; omega, by show A.units + 3 + 100 * lv ≤ 9000; omega, a4⟩
  have kindOf : ∀ x, env.kindOf x = fd.scope.names.lookup x := fun x => rfl
  have nocell : ∀ (x : Str) (c : Addr), Γ.env.cells.lookup x = some c → False := fun x c hc => by
      have e : Γ.env.cells = [] := hcl
      rw [e] at hc
      exact absurd hc (by simp)
  have ow : Owns Γ := ⟨List.mem_singleton.mpr rfl, fun x c hx hc => (nocell x c hc).elim,
    fun a ha => (List.mem_singleton.mp ha) ▸ hbL, fun x c y c' hc _ _ => (nocell x c hc).elim⟩
  have ext0 : Ext (stk.filterMap (·.frame)) H s.heap H h₁ := ⟨fun a o e _ => ⟨o.slots, hk₁ a o e, fun _ => rfl⟩, fun a o _ e => e, fun a o e => ⟨o, hk₁ a o e⟩, fun a l o z e => ⟨hk₁ a o e, z⟩⟩
  have sim1 : Sim C.w C.base C.os H { s with heap := h₁, toks := s.toks + (names.zip vals).length } :=
    a7.step (H' := H) ext0.seqK (fun b o e => hk₁ b o (a7.stays b o e)) [] (fun b ob o hb _ e => ⟨hk₁ b ob e, hb⟩) fun a o e => .inl ⟨e, (fun h => (nomatch h)), fun _ _ h => (nomatch h)⟩
  have rel1 : RelAll H h₁ vals args := a8.ext ext0
  have st1 : St Γ (names.zip args) H { s with heap := h₁, toks := s.toks + (names.zip vals).length } := by
    refine ⟨sim1, ⟨_, hn, hHL, fun x v hv => ?_⟩, fun x c hx hc => ?_, ?_, ?_⟩
    · have key : ∀ (ns : List Str) (vs : List Value) (as : List V), RelAll H h₁ vs as → ns.Nodup → (ns.zip as).lookup x = some v → ∃ val, (ns.zip vs).reverse.lookup x = some val ∧ x ∈ ns ∧ Rel H h₁ val v := by
        intro ns
        induction ns with
        | nil => intro vs as _ _ e; cases e
        | cons n ns ih =>
          intro vs as r nd e
          cases r with
          | nil => cases e
          | @cons v0 x0 vs as r0 rs =>
            rw [List.zip_cons_cons, List.lookup_cons] at e
            rw [List.zip_cons_cons, List.reverse_cons]
            by_cases q : x = n
            · subst q
              rw [beq_self_eq_true] at e; cases e
              refine ⟨v0, ?_, List.mem_cons_self, r0⟩
              have hno : (ns.zip vs).reverse.lookup x = none := by
                have hx := (List.nodup_cons.mp nd).1
                have key2 : ∀ l : List (Str × Value), (∀ p ∈ l, p.1 ≠ x) → l.lookup x = none := by
                  intro l
                  induction l with
                  | nil => intro _; rfl
                  | cons p l ihl =>
                    intro hp
                    rw [List.lookup_cons, beq_eq_false_iff_ne.mpr fun z => hp p (.head _) z.symm]
                    exact ihl fun q hq => hp q (.tail _ hq)
                exact key2 _ fun p hp z => hx (z ▸ (List.of_mem_zip (a := p.1) (b := p.2) (List.mem_reverse.mp hp)).1)
              rw [List.lookup_append, hno]
              simp [List.lookup]
            · rw [beq_eq_false_iff_ne.mpr q] at e
              obtain ⟨val, e1, e2, e3⟩ := ih vs as rs (List.nodup_cons.mp nd).2 e
              exact ⟨val, by rw [List.lookup_append, e1]; rfl, List.mem_cons_of_mem _ e2, e3⟩
      obtain ⟨val, e1, e2, e3⟩ := key names vals args rel1 hnd hv
      exact .inl ⟨hloc x e2, val, e1, e3⟩
    · exact (nocell x c hc).elim
    · exact ⟨hks, ⟨L, (ns_of_get hn).choose, rfl, hbL, (ns_of_get hn).choose_spec.choose_spec.choose_spec.1, ⟨_, _, (ns_of_get hn).choose_spec.choose_spec.choose_spec.2⟩⟩, frames_ext ext0 a5 a6⟩
    · intro a ha
      rw [show Γ.F = L :: stk.filterMap (·.frame) from rfl] at ha
      rcases List.mem_cons.mp ha with rfl | ha
      · exact hHL
      · exact a6 a ha
  have ne : ∀ a o, s.heap.get? a = some o → a ≠ L := fun a o e q => by rw [q, hLn] at e; cases e
  have back : ∀ {H' h'}, ExtW Γ.F Γ.own H h₁ H' h' → Ext (stk.filterMap (·.frame)) H s.heap H' h' := fun x =>
    ⟨fun a o e z => by
      obtain ⟨sl, e1, f1⟩ := x.keep a o (hk₁ a o e) z (fun q => absurd (List.mem_singleton.mp q) (ne a o e))
      exact ⟨sl, e1, fun q => f1 fun z => by rcases List.mem_cons.mp z with z | z; exact ne a o e z; exact q z⟩,
     fun a o e z => x.none a o (hk₁ a o e) z, fun a o e => x.alive a o (hk₁ a o e), fun a l o z e => x.lock a l o z (hk₁ a o e)⟩
  refine wpAny_mono (h (A.deeper env) stk L [L] okΓ ow _ st1) (fun f s' p => ?_) fun e s' p => ?_
  · obtain ⟨mf, m', H', x, t', r, q⟩ := p
    cases r with
    | ret r => exact ⟨_, H', back x, t'.sim, r, q⟩
    | next => exact ⟨.none, H', back x, t'.sim, .none, q⟩
    | brk => exact ⟨.none, H', back x, t'.sim, .none, q⟩
    | cont => exact ⟨.none, H', back x, t'.sim, .none, q⟩
  · obtain ⟨n, H', x, rfl, xw, y', fr', off', sn, q⟩ := p
    have hFf : ∀ a ∈ Γ.F, ∀ o, s'.heap.get? a = some o → ∀ vs, o.data ≠ .fields vs := fun a ha o e => by
      obtain ⟨_, o2, e2, nf⟩ := fr'.mem ha; rw [e] at e2; cases e2; exact nf
    have hF0 : ∀ a ∈ Γ.F, h₁.get? a ≠ none := fun a ha => by
      obtain ⟨_, o2, e2, nf⟩ := st1.frames.mem ha; rw [e2]; simp
    have hbF : ∀ a ∈ Γ.F, C.base.get? a = none ∧ H' a = none := fun a ha => ⟨(fr'.mem ha).1, off' a ha⟩
    have h0s : C.base.StaysIn h₁ := fun b o e => hk₁ b o (a7.stays b o e)
    show wpAny _ (A.deeper env) (do noteFrame (.ref x) env; setFlight (.ref x) none) _ _ s'
    refine wpAny_bind (wp_noteFrame (base := C.base) (h0 := h₁) (H := H') (n := n) (L := L) (Around.frames_deeper a1) rfl fr'.fun off' (fun a o e => xw.alive a o e) sn (fun a z => ?_) hF0 fun h' nt sn' _ => ?_)
    · cases hq : H' a with
      | none => exact absurd hq z
      | some o => exact (y'.view a o hq).live
    · have y2 := Sim.noted (tk := s'.toks) nt y' h0s hbF hFf
      have hFf' : ∀ a ∈ Γ.F, ∀ o, h'.get? a = some o → ∀ vs, o.data ≠ .fields vs := fun a ha o e => by
        obtain ⟨_, o2, e2, nf⟩ := (ff_noted nt (fun _ h => h) fr').mem ha; rw [e] at e2; cases e2; exact nf
      refine wp_setFlight (s := { s' with heap := h' }) (env := env) (outer := stk) (L := L) none (fun l h => by cases h) sn' hFf' fun h'' nt' sn'' => ?_
      have y3 := Sim.noted (s := { s' with heap := h' }) (tk := s'.toks) nt' y2 h0s hbF hFf'
      have ntt := nt.trans nt'
      refine ⟨n, H', x, rfl, (back xw).noted (F' := Γ.F) ⟨fun a o e hF c => ntt.kept a o e hF (c.imp (fun z q => z (by cases w : s.heap.get? a with | none => rfl | some o2 => rw [hk₁ a o2 w] at q; cases q)) id), ntt.frames, ntt.alive⟩ (fun a ha hn => ?_) (fun a ha o e => ?_) a6, y3, ?_, q⟩
      · rcases List.mem_cons.mp ha with rfl | ha
        · exact hLn
        · exact absurd ha hn
      · obtain ⟨_, o2, e2, nf⟩ := a5.mem ha; rw [e] at e2; cases e2; exact nf
      · exact Snob.afterW (F0 := []) (W := []) (H := H) (H' := H) ⟨fun a o e _ _ => ⟨o.slots, hk₁ a o e, fun _ => rfl⟩, fun a o _ e => e, fun a o e => ⟨o, hk₁ a o e⟩, fun a l o z e => ⟨hk₁ a o e, z⟩⟩ sn''

section
variable {Γ : Cx} {m : Locs} {H : AH} {Q : V → AH → Prop} {B : Bool → AH → Prop} {R : Int → AH → Prop} {pos : Pos}
theorem ev_chain2 {l r1 r2 : Expr} {o1 o2 : CmpOp} (h : EV Γ l m H (fun a H1 => EV Γ r1 m H1 (fun b H2 => CmpV Γ o1 a b H2 (fun c H3 => if c then EV Γ r2 m H3 (fun d H4 => CmpV Γ o2 b d H4 (fun e H5 => Q (.bool e) H5) R) R else Q (.bool false) H3) R) R) R)
    (hm : lastMarks [o1, o2] [r1, r2] = false := by rfl) : EV Γ (.Compare l [o1, o2] [r1, r2] pos) m H Q R := by
  intro s t
  refine Compare_chain (wpAny_mono (h s t) (fun va s1 h1 => ?_) fun _ _ z => z) hm
  obtain ⟨a, H1, x1, y1, ra, q1⟩ := h1
  refine chain_link (wpAny_mono (q1 s1 (t.ext x1 y1)) (fun vb s2 h2 => ?_) fun _ _ z => z.after x1)
  obtain ⟨b, H2, x2, y2, rb, q2⟩ := h2
  refine wpAny_mono (q2 s2 va vb y2 (ra.ext x2) rb) (fun vc s3 h3 => ?_) fun _ _ z => z.after (x1.trans x2)
  obtain ⟨c, rfl, H3, x3, y3, q3⟩ := h3
  have x13 := (x1.trans x2).trans x3
  refine wpAny_truthy_bool ?_
  cases c
  · exact ⟨_, H3, x13, y3, .bool false, q3⟩
  · refine chain_last (wpAny_mono (q3 s3 (t.ext x13 y3)) (fun vd s4 h4 => ?_) fun _ _ z => z.after x13)
    obtain ⟨d, H4, x4, y4, rd, q4⟩ := h4
    refine wpAny_mono (q4 s4 vb vd y4 ((rb.ext x3).ext x4) rd) (fun ve s5 h5 => ?_) fun _ _ z => z.after (x13.trans x4)
    obtain ⟨e, rfl, p⟩ := h5
    exact (p.after (x13.trans x4)).v fun _ _ q => q
end

structure FnOk (fa : Addr) (fd : FuncData) (names : List Str) : Prop where
  hK : ∀ P, (frag P).lookup fa = some ⟨.type "function", none, .func fd, #[]⟩
  hcd : ∀ P, codeIn (frag P) fd.code fd.qualname = true
  keep : ∀ P, keepIn (frag P) (.ref fa) = true
  hbind : ∀ vals : List Value, vals.length = names.length → ∀ s, BindsTo s fd ⟨vals, []⟩ (names.zip vals)
  hnd : names.Nodup
  hglob : fd.globals = mainGlobals
  hblt : fd.builtins = builtinsNs
  hcl : fd.closure = []
  hco : fd.scope.isCoroutine = false
  hgen : fd.scope.isGenerator = false
  hk : fd.scope.kind = .function

theorem cw_def {C : Con} {lv : Nat} {fa : Addr} {args : List V} {H : AH} {Q : V → AH → Prop} {R : Int → AH → Prop} {fd : FuncData} {body : List Stmt} {names : List Str} (k : FnOk fa fd names)
    (hB : Base C.w C.base) (hbody : fd.body = .stmts body) (hlen : names.length = args.length) 
    (h : ∀ A stk L own, (Cx.fn C lv A (callEnv fd L fa) stk own).Ok → Owns (Cx.fn C lv A (callEnv fd L fa) stk own) → EX (Cx.fn C lv A (callEnv fd L fa) stk own) body (names.zip args) H (fun fl _ H' => Q (flVal fl) H') R)
    (hcell : ∀ x ∈ fd.scope.names, x.2 ≠ .cell := by decide) (hloc : ∀ x ∈ names, fd.scope.names.lookup x = some .local := by decide) : CW C (lv + 1) (.ref fa) args H Q R :=
  cw_fn hB k.hK k.hcd hbody (fun vals hv s => k.hbind vals (hv.trans hlen.symm) s) hcell hloc k.hnd k.hglob k.hblt k.hcl k.hco k.hgen k.hk h


/-- the heap only grew -/
theorem Ext.grow {F H} {h h' : Heap} (k : ∀ b o, h.get? b = some o → h'.get? b = some o) : Ext F H h H h' :=
  ⟨fun a o e _ => ⟨o.slots, k a o e, fun _ => rfl⟩, fun a o _ e => e, fun a o e => ⟨o, k a o e⟩, fun a l o z e => ⟨k a o e, z⟩⟩
theorem Sim.grow {w base os H} {s : Shared} {h' : Heap} {tk : Nat} (y : Sim w base os H s) (k : ∀ b o, s.heap.get? b = some o → h'.get? b = some o) : Sim w base os H { s with heap := h', toks := tk } :=
  y.step (H' := H) (Ext.grow (F := []) k).seqK (fun b o e => k b o (y.stays b o e)) [] (fun b ob o hb _ e => ⟨k b ob e, hb⟩) fun a o e => .inl ⟨e, (fun h => (nomatch h)), fun _ _ h => (nomatch h)⟩

inductive APost (Γ : Cx) (H : AH) (s : Shared) (Q : Locs → AH → Prop) (s' : Shared) : Prop
  | mk (m' : Locs) (H' : AH) (x : ExtW Γ.F Γ.own H s.heap H' s'.heap) (t : St Γ m' H' s') (q : Q m' H')
theorem APost.after {Γ H s H' s' Q s''} (x : ExtW Γ.F Γ.own H s.heap H' s'.heap) (p : APost Γ H' s' Q s'') : APost Γ H s Q s'' := by
  obtain ⟨m', H2, x2, t, q⟩ := p
  exact ⟨m', H2, x.trans x2, t, q⟩
/-- a value is handed to a target -/
def AS (Γ : Cx) (target : Expr) (v : V) (m : Locs) (H : AH) (Q : Locs → AH → Prop) : Prop :=
  ∀ s val E, St Γ m H s → Rel H s.heap val v → wpAny (Mw Γ.w) Γ.A (assign target Γ.env val) (fun _ s' => APost Γ H s Q s') E s

section
variable {Γ : Cx} {m : Locs} {H : AH} {Q : Locs → AH → Prop} {x : Str} {pos : Pos}
theorem as_name {v : V} (ok : Γ.Ok) (ow : Owns Γ) (hk : Γ.env.kindOf x = some .local ∨ Γ.env.kindOf x = some .cell ∧ (Γ.env.cells.lookup x).isSome = true) (q : Q ((x, v) :: m) H) : AS Γ (.Name x pos) v m H Q := by
  intro s val E t r
  exact wpAny_assign_Name (wp_store ok ow t r hk fun h' tk e2 t2 => ⟨_, H, e2, t2, q⟩)
theorem as_nameL {v : V} (ok : Γ.Ok) (ow : OwnL Γ) (q : Q ((x, v) :: m) H) (hk : Γ.env.kindOf x = some .local := by rfl) : AS Γ (.Name x pos) v m H Q := by
  intro s val E t r
  refine wpAny_assign_Name ?_
  obtain ⟨mm, hn, hL, hf⟩ := id t.loc
  refine wpAny_storeName_local hk hn (fun h' hn' hs => ?_) (by rw [ok.kind]; rfl)
  obtain ⟨a, b⟩ := store_local t ow hk r hn hf hL hn' hs (s.toks + 1)
  exact ⟨_, H, a, b, q⟩
theorem as_pair {t1 t2 : Expr} {a b : V} {k : Nat} (ok : Γ.Ok) (h : AS Γ t1 a m H (fun m1 H1 => AS Γ t2 b m1 H1 Q)) (he : ∀ env, assignEach [t1, t2] env = [(false, assign t1 env), (false, assign t2 env)] := by intro _; rfl) :
    AS Γ (.Tuple [t1, t2] k pos) (.tup [a, b]) m H Q := by
  intro s val E t r
  refine r.tE fun ad o items n e c d z rr => ?_
  ·
    obtain ⟨x, y, hi, r1, r2⟩ := rr.two
    have hsz : items.size = 2 := by rw [← Array.length_toList, hi]; rfl
    refine wpAny_assign_Tuple ok.handled ⟨o, e, c, n, d⟩ (by rw [he, hsz]; rfl) (by rw [he]; rfl) fun h' hx => ?_
    have k : ∀ b o, s.heap.get? b = some o → h'.get? b = some o := fun b o q => hx b o (Nat.ne_of_lt (Heap.lt_size q)) q
    have eg := Ext.grow (F := Γ.F) (H := H) k
    have t1' : St Γ m H { s with heap := h' } := t.ext (s' := { s with heap := h' }) eg (t.sim.grow (tk := s.toks) k)
    rw [he, hi]
    show wpAny _ _ (do holding [y] (assign t1 Γ.env x); assignInOrder [assign t2 Γ.env] [y]) _ _ _
    refine wpAny_bind (wpAny_holding (wpAny_mono (h { s with heap := h' } x E t1' (r1.ext eg)) (fun _ s1 p => ?_) fun _ _ z => z))
    obtain ⟨m1, H1, x1, t1, q1⟩ := p
    show wpAny _ _ (do holding [] (assign t2 Γ.env y); assignInOrder [] []) _ _ _
    refine wpAny_bind (wpAny_holding (wpAny_mono (q1 s1 y E t1 ((r2.ext eg).seqK x1.seqK)) (fun _ s2 p => ?_) fun _ _ z => z))
    exact wpAny_pure (p.after (ExtW.trans eg.w x1))

/-- an iterator: what it still gives -/
structure Iter (w : World) (A : Around) (target : Expr) (I : Addr) (fp wr : List Addr) (n : Nat) (P : Nat → Value → Heap → Heap → Prop) (S : Nat → Heap → Prop) : Prop where
  frame : ∀ i h h', S i h → (∀ b ∈ fp, ∀ o, h.get? b = some o → h'.get? b = some o) → S i h'
  sub : ∀ b ∈ wr, b ∈ fp
  item : ∀ i (s : Shared) (Q : Option Value → Shared → Prop) (E : Value → Shared → Prop), i < n → S i s.heap →
    (∀ v h' tk, (∀ (Q2 : Unit → Shared → Prop) (E2 : Value → Shared → Prop), (∀ h'', S (i + 1) h'' → (∀ b o, b ∉ wr → s.heap.get? b = some o → h''.get? b = some o) → (∀ b o, s.heap.get? b = some o → ∃ o', h''.get? b = some o') → P i v s.heap h'' → Q2 () { s with heap := h'', toks := tk }) →
        wpAny (Mw w) A (letOwnedTupleGo target (.ref I) v) Q2 E2 { s with heap := h', toks := tk }) → Q (some v) { s with heap := h', toks := tk }) → wpAny (Mw w) A (pyNext (.ref I)) Q E s
  done : ∀ (s : Shared) (Q : Option Value → Shared → Prop) (E : Value → Shared → Prop), S n s.heap →
    (∀ h' tk, (∀ b o, b ∉ wr → s.heap.get? b = some o → h'.get? b = some o) → Q none { s with heap := h', toks := tk }) → wpAny (Mw w) A (pyNext (.ref I)) Q E s
  self : ∀ i (s : Shared) (Q : Value → Shared → Prop) (E : Value → Shared → Prop), S i s.heap → Q (.ref I) s → wpAny (Mw w) A (pyIter (.ref I)) Q E s

end

/-- the proof's heap while an iterator walks: the iterator's own things and the list it walks are locked -/
noncomputable def lockH (H : AH) (wr : List Addr) (lk : List Addr) : AH := fun b => if b ∈ wr then some (.lock .it) else if b ∈ lk then (H b).map .lock else H b
theorem lockH_wr {H wr lk} {b : Addr} (h : b ∈ wr) : lockH H wr lk b = some (.lock .it) := if_pos h
theorem lockH_lk {H : AH} {wr lk} {b : Addr} {o : AO} (h : b ∉ wr) (z : b ∈ lk) (e : H b = some o) : lockH H wr lk b = some (.lock o) := by unfold lockH; rw [if_neg h, if_pos z, e]; rfl
theorem lockH_ne {H : AH} {wr lk} {b : Addr} (h : b ∉ wr) (h2 : b ∉ lk) : lockH H wr lk b = H b := by unfold lockH; rw [if_neg h, if_neg h2]
theorem lockH_none {H : AH} {wr lk} {b : Addr} (h : lockH H wr lk b = none) : b ∉ wr ∧ H b = none := by
  unfold lockH at h
  by_cases q : b ∈ wr
  · rw [if_pos q] at h; cases h
  · rw [if_neg q] at h
    refine ⟨q, ?_⟩
    by_cases z : b ∈ lk
    · rw [if_pos z] at h; cases w : H b with | none => rfl | some o => rw [w] at h; cases h
    · rw [if_neg z] at h; exact h
theorem lockH_none' {H : AH} {wr lk} {b : Addr} (h : b ∉ wr) (e : H b = none) : lockH H wr lk b = none := by
  unfold lockH; rw [if_neg h, e]; by_cases z : b ∈ lk
  · rw [if_pos z]; rfl
  · rw [if_neg z]
theorem lockH_set {H : AH} {wr lk} {a : Addr} {o : AO} (h : a ∉ wr) (h2 : a ∉ lk) : lockH (H.set a o) wr lk = (lockH H wr lk).set a o := by
  funext b
  by_cases q : b = a
  · subst q; rw [lockH_ne h h2, AH.set_self, AH.set_self]
  · rw [AH.set_ne _ _ q]; unfold lockH; rw [AH.set_ne _ _ q]
theorem lockH_notin {H : AH} {wr : List Addr} {a : Addr} (hw : ∀ b ∈ wr, H b = none) {o : AO} (e : H a = some o) : a ∉ wr := fun q => by rw [hw a q] at e; cases e

/-- the locks taken off again -/
noncomputable def unl (H1 : AH) (wr lk : List Addr) (H : AH) : AH := fun b => if b ∈ wr then none else if b ∈ lk then H1 b else H b
def Lk (H1 : AH) (wr lk : List Addr) (H : AH) : Prop := (∀ b ∈ wr, H b = some (.lock .it)) ∧ ∀ a ∈ lk, a ∉ wr → H a = (H1 a).map .lock
theorem Lk.self {H1 wr lk} : Lk H1 wr lk (lockH H1 wr lk) := ⟨fun b hb => lockH_wr hb, fun a ha hn => by unfold lockH; rw [if_neg hn, if_pos ha]⟩
theorem Lk.eq {H1 wr lk H} (l : Lk H1 wr lk H) : lockH (unl H1 wr lk H) wr lk = H := by
  funext b
  unfold lockH unl
  by_cases q : b ∈ wr
  · rw [if_pos q, l.1 b q]
  · rw [if_neg q]
    by_cases z : b ∈ lk
    · rw [if_pos z, if_neg q, if_pos z, l.2 b z q]
    · rw [if_neg z, if_neg q, if_neg z]
theorem unl_lockH {H1 wr lk} (hw : ∀ b ∈ wr, H1 b = none) : unl H1 wr lk (lockH H1 wr lk) = H1 := by
  funext b
  unfold lockH unl
  by_cases q : b ∈ wr
  · rw [if_pos q, hw b q]
  · rw [if_neg q]
    by_cases z : b ∈ lk
    · rw [if_pos z]
    · rw [if_neg z]; show (if b ∈ wr then _ else if b ∈ lk then _ else _) = _; rw [if_neg q, if_neg z]
/-- what a walked iterable gives: the values xs -/
inductive IPost (Γ : Cx) (target : Expr) (H : AH) (s : Shared) (Q : List V → List Addr → List Addr → AH → Prop) (it : Value) (s2 : Shared) : Prop
  | mk (I : Addr) (H1 : AH) (xs : List V) (fp wr lk : List Addr) (P : Nat → Value → Heap → Heap → Prop) (S : Nat → Heap → Prop) (hi : it = .ref I) (w : Iter Γ.w Γ.A target I fp wr xs.length P S) (z : S 0 s2.heap) (x : Ext Γ.F H s.heap (lockH H1 wr lk) s2.heap) (y : Sim Γ.w Γ.base Γ.os (lockH H1 wr lk) s2)
    (a : ∀ b ∈ wr, s.heap.get? b = none ∧ H1 b = none) (b : ∀ a ∈ lk, (∃ o, H1 a = some o) ∧ ∀ l, H a ≠ some (.lock l))
    (c : ∀ b ∈ fp, (lockH H1 wr lk b = none ∧ b ∉ Γ.F ∧ ∃ o, s2.heap.get? b = some o ∧ (b ∈ Γ.own → ∃ items n, o.data = .seq items n)) ∨ ∃ l, lockH H1 wr lk b = some (.lock l))
    (d : ∀ i v x h0 h'' (Hi : AH), xs[i]? = some x → P i v h0 h'' → (∀ a o, Hi a = some o → ∃ ob, h0.get? a = some ob) → SeqK (lockH H1 wr lk) s2.heap Hi h'' → Rel Hi h'' v x) (q : Q xs wr lk H1)

def IV (Γ : Cx) (target iter : Expr) (m : Locs) (H : AH) (Q : List V → List Addr → List Addr → AH → Prop) (R : Int → AH → Prop) : Prop :=
  ∀ s, St Γ m H s → wpAny (Mw Γ.w) Γ.A (eval iter Γ.env) (fun x s1 => wpAny (Mw Γ.w) Γ.A (pyIter x) (IPost Γ target H s Q) (XPost Γ H s R) s1) (XPost Γ H s R) s

theorem SeqK.trans {H h H1 h1 H2 h2} (x : SeqK H h H1 h1) (y : SeqK H1 h1 H2 h2) : SeqK H h H2 h2 := fun a o items n e d z => by
  obtain ⟨⟨sl, e1⟩, z1⟩ := x a o items n e d z
  obtain ⟨⟨sl2, e2⟩, z2⟩ := y a _ items n e1 d z1
  exact ⟨⟨sl2, e2⟩, z2⟩

/-- the frame stands on top of the stack -/
def Top1 (Γ : Cx) : Prop := ∃ outer L, Γ.stk = Γ.env :: outer ∧ Γ.env.frame = some L

theorem unlock_seqK {H wr lk h} : SeqK (lockH H wr lk) h H h := fun a o items n e d z => ⟨⟨o.slots, e⟩, (lockH_none z).2⟩
theorem Sim.unlock {w base os H wr lk} {s : Shared} (y : Sim w base os (lockH H wr lk) s) (hw : ∀ b ∈ wr, H b = none) : Sim w base os H s := by
  have aux : ∀ a dx, lockH H wr lk dx = some (.aux a) → H dx = some (.aux a) := fun a dx e => by
    by_cases q : dx ∈ wr
    · rw [lockH_wr q] at e; cases e
    · by_cases z : dx ∈ lk
      · unfold lockH at e; rw [if_neg q, if_pos z] at e
        cases w : H dx with | none => rw [w] at e; cases e | some o => rw [w] at e; cases e
      · rw [lockH_ne q z] at e; exact e
  have tr : ∀ a o, H a = some o → Matches w (lockH H wr lk) s.heap a o := fun a o e => by
    have q := lockH_notin hw e
    by_cases z : a ∈ lk
    · exact y.view a (.lock o) (lockH_lk q z e)
    · exact y.view a o (by rw [lockH_ne q z]; exact e)
  refine ⟨y.stays, fun a o e => Matches.keep unlock_seqK (fun _ e => e) (fun dx ob hx e => ⟨e, aux a dx hx⟩) (tr a o e), fun a o e => ?_, y.gens, y.os⟩
  have q := lockH_notin hw e
  by_cases z : a ∈ lk
  · exact y.off a (.lock o) (lockH_lk q z e)
  · exact y.off a o (by rw [lockH_ne q z]; exact e)

theorem Loc.by {env H h H' h' m} {mm : Str → Option Value} (hn : h.Ns env.locals mm) (hf : ∀ y u, m.lookup y = some u → VarAt env mm H h y u) (sk : SeqK H h H' h') (hL : ∃ sl o, h.get? env.locals = some o ∧ h'.get? env.locals = some { o with slots := sl }) (hL' : H' env.locals = none)
    (hc : ∀ c o v, h.get? c = some o → o.data = .cell v → H c = none → (∃ sl, h'.get? c = some { o with slots := sl }) ∧ H' c = none) : Loc env H' h' m := by
  obtain ⟨sl, o, e1, e2⟩ := hL
  refine ⟨mm, ns_slots hn (fun o' e' => by rw [e1] at e'; cases e'; exact ⟨sl, e2⟩), hL', fun y u hy => ?_⟩
  rcases hf y u hy with ⟨k, vl, a1, r1⟩ | ⟨k, c, vl, a1, ⟨oc, c1, c2⟩, c3, r1⟩
  · exact .inl ⟨k, vl, a1, r1.seqK sk⟩
  · obtain ⟨⟨sl', c4⟩, c5⟩ := hc c oc _ c1 c2 c3
    exact .inr ⟨k, c, vl, a1, ⟨_, c4, c2⟩, c5, r1.seqK sk⟩
theorem St.unlock {Γ m H wr lk} {s : Shared} (t : St Γ m (lockH H wr lk) s) (hw : ∀ b ∈ wr, H b = none) : St Γ m H s := by
  obtain ⟨mm, hn, hL, hf⟩ := t.loc
  obtain ⟨o, es, ep, e, d, _⟩ := id hn
  refine ⟨t.sim.unlock hw, Loc.by hn hf unlock_seqK ⟨o.slots, o, e, e⟩ (lockH_none hL).2 (fun c o v e d z => ⟨⟨o.slots, e⟩, (lockH_none z).2⟩), fun x c k1 k2 => ?_, t.frames, fun a ha => (lockH_none (t.off a ha)).2⟩
  obtain ⟨⟨v, hv⟩, z⟩ := t.cells x c k1 k2
  exact ⟨⟨v, hv⟩, (lockH_none z).2⟩

theorem xpost_noted {Γ : Cx} {m : Locs} {H : AH} {R : Int → AH → Prop} {s : Shared} {x : Value} {s' : Shared} (ok : Γ.Ok) (tp : Top1 Γ) (t : St Γ m H s) (p : XPostW Γ H s R x s') : notedBy (Mw Γ.w) Γ.A Γ.env (cameBackBy (Mw Γ.w) Γ.A Γ.env (XPostW Γ H s R)) x s' := by
  obtain ⟨outer, L, e1, e2⟩ := tp
  obtain ⟨n, H', e, rfl, xw, y', fr', off', sn, q⟩ := p
  have eF : Γ.F = (Γ.env :: outer).filterMap (·.frame) := by show Γ.stk.filterMap _ = _; rw [e1]
  have hFf : ∀ a ∈ Γ.F, ∀ o, s'.heap.get? a = some o → ∀ vs, o.data ≠ .fields vs := fun a ha o e => by
    obtain ⟨_, o2, e2, nf⟩ := fr'.mem ha; rw [e] at e2; cases e2; exact nf
  have hF0 : ∀ a ∈ Γ.F, s.heap.get? a ≠ none := fun a ha => by
    obtain ⟨_, o2, e2, nf⟩ := t.frames.mem ha; rw [e2]; simp
  have hbF : ∀ a ∈ Γ.F, Γ.base.get? a = none ∧ H' a = none := fun a ha => ⟨(fr'.mem ha).1, off' a ha⟩
  have sn : Snob [L] n e s.heap H' s'.heap := by rw [e2] at sn; exact sn
  have ext : ∀ {h'}, Noted Γ.F H' s.heap s'.heap h' → ExtW Γ.F Γ.own H s.heap H' h' := fun nt =>
    ⟨fun a o ea z w => by
      obtain ⟨sl, e1, f1⟩ := xw.keep a o ea z w
      by_cases qF : a ∈ Γ.F
      · obtain ⟨sl', e3⟩ := nt.frames a _ e1 qF (by
          obtain ⟨_, o2, e4, nf⟩ := t.frames.mem qF
          rw [ea] at e4; cases e4; exact nf)
        exact ⟨sl', e3, fun n => absurd qF n⟩
      · exact ⟨sl, nt.kept a _ e1 qF (.inl (by rw [ea]; simp)), f1⟩,
     xw.none, fun a o ea => by obtain ⟨o', e'⟩ := xw.alive a o ea; exact nt.alive a o' e',
     fun a l o z ea => by
      obtain ⟨e', z'⟩ := xw.lock a l o z ea
      exact ⟨nt.kept a o e' (fun qF => by rw [off' a qF] at z'; cases z') (.inl (by rw [ea]; simp)), z'⟩⟩
  show wpAny _ _ (noteFrame (.ref e) Γ.env) _ _ s'
  refine wp_noteFrame (base := Γ.base) (h0 := s.heap) (H := H') (n := n) (L := L) (env := Γ.env) (outer := outer) (by rw [ok.frames, e1]) e2 (by rw [← e1]; exact fr'.fun) (by rw [← eF]; exact off') (fun a o ea => xw.alive a o ea) sn (fun a z => ?_) (by rw [← eF]; exact hF0) fun h' nt sn' tr => ?_
  · cases hq : H' a with
    | none => exact absurd hq z
    | some o => exact (y'.view a o hq).live
  · rw [← eF] at nt
    have y2 := Sim.noted (tk := s'.toks) nt y' t.sim.stays hbF hFf
    have fr2 := ff_noted nt (fun _ h => h) fr'
    have hFf' : ∀ a ∈ Γ.F, ∀ o, h'.get? a = some o → ∀ vs, o.data ≠ .fields vs := fun a ha o e => by
      obtain ⟨_, o2, e2, nf⟩ := fr2.mem ha; rw [e] at e2; cases e2; exact nf
    obtain ⟨oe, vs, T, c1, c2, c3⟩ := tr
    show wpAny _ _ _ _ _ { s' with heap := h' }
    refine wpAny_bind (wpAny_field c1 c2 c3 ?_)
    rw [if_neg (by simp), e2]
    refine wp_setFlight (s := { s' with heap := h' }) (env := Γ.env) (outer := outer) (L := L) (some L) (fun l h => by cases h; rfl) sn' (by rw [← eF]; exact hFf') fun h'' nt' sn'' => ?_
    rw [← eF] at nt'
    have y3 := Sim.noted (s := { s' with heap := h' }) (tk := s'.toks) nt' y2 t.sim.stays hbF hFf'
    exact ⟨n, H', e, rfl, ext (nt.trans nt'), y3, ff_noted nt' (fun _ h => h) fr2, off', by rw [e2]; exact sn'', q⟩

/-- what a loop's iterator may walk: it stands, and what walks with it -/
def FpOk (Γ : Cx) (H : AH) (h : Heap) (fp : List Addr) : Prop :=
  ∀ b ∈ fp, (H b = none ∧ b ∉ Γ.F ∧ ∃ o, h.get? b = some o ∧ (b ∈ Γ.own → ∃ items n, o.data = .seq items n)) ∨ ∃ l o, H b = some (.lock l) ∧ h.get? b = some o
theorem FpOk.extW {Γ : Cx} {H h H' h' fp} (f : FpOk Γ H h fp) (x : ExtW Γ.F Γ.own H h H' h') : FpOk Γ H' h' fp ∧ ∀ b ∈ fp, ∀ o, h.get? b = some o → h'.get? b = some o := by
  refine ⟨fun b hb => ?_, fun b hb o e => ?_⟩
  · rcases f b hb with ⟨z, nf, o, e, w⟩ | ⟨l, o, z, e⟩
    · obtain ⟨sl, e1, f1⟩ := x.keep b o e z w
      have : sl = o.slots := f1 nf
      subst this
      exact .inl ⟨x.none b o e z, nf, o, e1, w⟩
    · obtain ⟨e1, z1⟩ := x.lock b l o z e
      exact .inr ⟨l, o, z1, e1⟩
  · rcases f b hb with ⟨z, nf, o', e', w⟩ | ⟨l, o', z, e'⟩
    · rw [e] at e'; cases e'
      obtain ⟨sl, e1, f1⟩ := x.keep b o e z w
      have : sl = o.slots := f1 nf
      subst this; exact e1
    · rw [e] at e'; cases e'
      exact (x.lock b l o z e).1

theorem frames_off {H : AH} {h h' base : Heap} (k : ∀ b o, H b = none → h.get? b = some o → h'.get? b = some o) {l : List Env} (hl : FF h base l) (off : ∀ a ∈ l.filterMap (·.frame), H a = none) : FF h' base l := by
  induction l with
  | nil => trivial
  | cons env rest ih =>
    obtain ⟨hk, ⟨L, o, hf, hn, ho, hd⟩, hr⟩ := hl
    have hL : H L = none := off L (by rw [List.filterMap_cons, hf]; exact List.mem_cons_self)
    exact ⟨hk, ⟨L, o, hf, hn, k L o hL ho, hd⟩, ih hr fun a ha => off a (by rw [List.filterMap_cons, hf]; exact List.mem_cons_of_mem _ ha)⟩

/-- a step of the iterator's own -/
theorem St.walked {Γ : Cx} {m : Locs} {H : AH} {s : Shared} {wr : List Addr} {h' : Heap} {tk : Nat} (t : St Γ m H s) (hw : ∀ b ∈ wr, H b = some (.lock .it)) (hwb : ∀ b ∈ wr, Γ.base.get? b = none) (k : ∀ b o, b ∉ wr → s.heap.get? b = some o → h'.get? b = some o) (al : ∀ b o, s.heap.get? b = some o → ∃ o', h'.get? b = some o') :
    St Γ m H { s with heap := h', toks := tk } ∧ SeqK H s.heap H h' := by
  have nw : ∀ a, H a = none → a ∉ wr := fun a z q => by rw [hw a q] at z; cases z
  have sk : SeqK H s.heap H h' := fun a o items n e d z => ⟨⟨o.slots, k a o (nw a z) e⟩, z⟩
  have sim : Sim Γ.w Γ.base Γ.os H { s with heap := h', toks := tk } := by
    refine t.sim.step (H' := H) sk (fun b o e => k b o (fun q => by rw [hwb b q] at e; cases e) (t.sim.stays b o e)) wr (fun b ob o hb hn e => ⟨k b ob hn e, hb⟩) fun a o e => ?_
    by_cases q : a ∈ wr
    · rw [hw a q] at e; cases e
      obtain ⟨ob, e1⟩ := (t.sim.view a _ (hw a q)).live
      exact .inr ⟨al a ob e1, t.sim.off a _ (hw a q)⟩
    · exact .inl ⟨e, q, fun dx hx hq => by rw [hw dx hq] at hx; cases hx⟩
  obtain ⟨mm, hn, hL, hf⟩ := t.loc
  obtain ⟨o, es, ep, e, d, _⟩ := id hn
  refine ⟨⟨sim, Loc.by hn hf sk ⟨o.slots, o, e, k _ o (nw _ hL) e⟩ hL (fun c o v e d z => ⟨⟨o.slots, k c o (nw c z) e⟩, z⟩), fun x c k1 k2 => ?_, frames_off (fun b o z e => k b o (nw b z) e) t.frames t.off, t.off⟩, sk⟩
  · obtain ⟨⟨v, o, e, d⟩, z⟩ := t.cells x c k1 k2
    exact ⟨⟨v, o, k c o (nw c z) e, d⟩, z⟩

/-- the iterator's last step: its things are given up -/
theorem St.walkedOut {Γ : Cx} {m : Locs} {H : AH} {s : Shared} {wr : List Addr} {lk : List Addr} {h' : Heap} {tk : Nat} (t : St Γ m (lockH H wr lk) s) (hw : ∀ b ∈ wr, H b = none) (hwb : ∀ b ∈ wr, Γ.base.get? b = none) (k : ∀ b o, b ∉ wr → s.heap.get? b = some o → h'.get? b = some o) :
    St Γ m H { s with heap := h', toks := tk } := by
  have sk : SeqK (lockH H wr lk) s.heap H h' := fun a o items n e d z => ⟨⟨o.slots, k a o (lockH_none z).1 e⟩, (lockH_none z).2⟩
  have aux : ∀ a dx, lockH H wr lk dx = some (.aux a) → H dx = some (.aux a) ∧ dx ∉ wr := fun a dx e => by
    by_cases q : dx ∈ wr
    · rw [lockH_wr q] at e; cases e
    · by_cases z : dx ∈ lk
      · unfold lockH at e; rw [if_neg q, if_pos z] at e
        cases w : H dx with | none => rw [w] at e; cases e | some o => rw [w] at e; cases e
      · rw [lockH_ne q z] at e; exact ⟨e, q⟩
  have tr : ∀ a o, H a = some o → Matches Γ.w (lockH H wr lk) s.heap a o := fun a o e => by
    have q := lockH_notin hw e
    by_cases z : a ∈ lk
    · exact t.sim.view a (.lock o) (lockH_lk q z e)
    · exact t.sim.view a o (by rw [lockH_ne q z]; exact e)
  have sim : Sim Γ.w Γ.base Γ.os H { s with heap := h', toks := tk } := by
    have u := t.sim.unlock hw
    refine ⟨fun b o e => k b o (fun q => by rw [hwb b q] at e; cases e) (t.sim.stays b o e), fun a o e => ?_, u.off, u.gens, u.os⟩
    exact Matches.keep sk (fun ob e1 => k a ob (lockH_notin hw e) e1) (fun dx ob hx e1 => ⟨k dx ob (aux a dx hx).2 e1, (aux a dx hx).1⟩) (tr a o e)
  obtain ⟨mm, hn, hL, hf⟩ := t.loc
  obtain ⟨o, es, ep, e, d, _⟩ := id hn
  refine ⟨sim, Loc.by hn hf sk ⟨o.slots, o, e, k _ o (lockH_none hL).1 e⟩ (lockH_none hL).2 (fun c o v e d z => ⟨⟨o.slots, k c o (lockH_none z).1 e⟩, (lockH_none z).2⟩), fun x c k1 k2 => ?_, frames_off (fun b o z e => k b o (lockH_none z).1 e) t.frames t.off, fun a ha => (lockH_none (t.off a ha)).2⟩
  obtain ⟨⟨v, o, e, d⟩, z⟩ := t.cells x c k1 k2
  exact ⟨⟨v, o, k c o (lockH_none z).1 e, d⟩, (lockH_none z).2⟩

theorem es_for {Γ : Cx} {m : Locs} {H : AH} {Q : Fl → Locs → AH → Prop} {R : Int → AH → Prop} {pos : Pos} {target iter : Expr} {body : List Stmt} (ok : Γ.Ok) (tp : Top1 Γ)
    (h : IV Γ target iter m H (fun xs wr lk H1 => ∃ J : Nat → Locs → AH → Prop, J 0 m (lockH H1 wr lk) ∧
      (∀ i x mi Hi, xs[i]? = some x → J i mi Hi → Lk H1 wr lk Hi →
        AS Γ target x mi Hi (fun m1 H2 => EX Γ body m1 H2 (fun fl m3 H3 => match fl with
          | .next => J (i + 1) m3 H3 | .cont => J (i + 1) m3 H3 | .brk => Q .next m3 (unl H1 wr lk H3) | .ret v => Q (.ret v) m3 (unl H1 wr lk H3)) R)) ∧
      (∀ mn Hn, J xs.length mn Hn → Lk H1 wr lk Hn → Q .next mn (unl H1 wr lk Hn))) R)
    (hs : ∀ env x, foldedSetIterable iter env x = pure x := by intro _ _; rfl) : ES Γ (.For target iter body [] pos) m H Q R := by
  intro s t
  refine wpAny_For (wpAny_mono (h s t) (fun x0 s1 h1 => wpAny_mono h1 (fun it s2 h2 => ?_) fun _ _ z => z.w t) fun _ _ z => z.w t) (hs _)
  clear h1
  obtain ⟨I, H1, xs, fp, wr, lk, P, S, rfl, W, S0, x1, y1, hwr, hlk, hfp, hval, J, J0, hstep, hend⟩ := h2
  have t2 : St Γ m (lockH H1 wr lk) s2 := t.ext x1 y1
  have hwb : ∀ b ∈ wr, Γ.base.get? b = none := fun b hb => y1.off b _ (lockH_wr hb)
  have hu0 : ∀ H, ∀ b ∈ wr, unl H1 wr lk H b = none := fun H b hb => if_pos hb
  have f2 : FpOk Γ (lockH H1 wr lk) s2.heap fp := fun b hb => by
    rcases hfp b hb with z | ⟨l, z⟩
    · exact .inl z
    · obtain ⟨o, e⟩ := (y1.view b _ z).live; exact .inr ⟨l, o, z, e⟩
  have live2 : ∀ a, (a ∈ wr ∨ a ∈ lk) → ∃ l o, lockH H1 wr lk a = some (.lock l) ∧ s2.heap.get? a = some o := fun a ha => by
    by_cases q : a ∈ wr
    · obtain ⟨o, e⟩ := (y1.view a _ (lockH_wr q)).live; exact ⟨_, o, lockH_wr q, e⟩
    · have z : a ∈ lk := ha.resolve_left q
      obtain ⟨o, e⟩ := (hlk a z).1
      obtain ⟨ob, e2⟩ := (y1.view a _ (lockH_lk q z e)).live; exact ⟨_, ob, lockH_lk q z e, e2⟩
  refine codeAny_forLoop_any (R := fun r s' => match r with | .ok f => FPost Γ H s Q f s' | .error e => cameBackBy (Mw Γ.w) Γ.A Γ.env (XPostW Γ H s R) e s')
    (fun n sI => ∃ i mi Hi, i + n = xs.length ∧ J i mi Hi ∧ Lk H1 wr lk Hi ∧ ExtW Γ.F Γ.own H s.heap Hi sI.heap ∧ St Γ mi Hi sI ∧
      FpOk Γ Hi sI.heap fp ∧ S i sI.heap ∧ SeqK (lockH H1 wr lk) s2.heap Hi sI.heap ∧ (∀ a, (a ∈ wr ∨ a ∈ lk) → ∃ o, sI.heap.get? a = some o)) (fun n sI hI => ?_) xs.length
    ⟨0, m, _, Nat.zero_add _, J0, Lk.self, x1.w, t2, f2, S0, fun a o items n e d z => ⟨⟨o.slots, e⟩, z⟩, fun a ha => by obtain ⟨_, o, _, e⟩ := live2 a ha; exact ⟨o, e⟩⟩
  obtain ⟨i, mi, Hi, hin, hJ, hl, xw, ti, fi, Si, sk, lv⟩ := hI
  have fresh : ∀ b ∈ wr, s.heap.get? b = none := fun b hb => (hwr b hb).1
  -- what the iterator does is not seen from the start
  have see : ∀ {h'}, (∀ b o, b ∉ wr → sI.heap.get? b = some o → h'.get? b = some o) → (∀ b o, sI.heap.get? b = some o → ∃ o', h'.get? b = some o') → ExtW Γ.F Γ.own H s.heap Hi h' := fun k al =>
    ⟨fun a o e z w => by
      obtain ⟨sl, e1, f1⟩ := xw.keep a o e z w
      exact ⟨sl, k a _ (fun q => by rw [fresh a q] at e; cases e) e1, f1⟩, xw.none, fun a o e => by obtain ⟨o', e'⟩ := xw.alive a o e; exact al a o' e',
     fun a l o z e => by
      obtain ⟨e1, z1⟩ := xw.lock a l o z e
      exact ⟨k a o (fun q => by rw [fresh a q] at e; cases e) e1, z1⟩⟩
  have unlW : ∀ {H' h'}, Lk H1 wr lk H' → ExtW Γ.F Γ.own H s.heap H' h' → ExtW Γ.F Γ.own H s.heap (unl H1 wr lk H') h' := fun {H' h'} l x => by
    have e := l.eq
    refine ⟨x.keep, fun a o e1 z => ?_, x.alive, fun a l' o z e1 => ?_⟩
    · have := x.none a o e1 z
      rw [← e] at this
      exact (lockH_none this).2
    · obtain ⟨e2, z1⟩ := x.lock a l' o z e1
      refine ⟨e2, ?_⟩
      have q : a ∉ wr := fun q => by rw [fresh a q] at e1; cases e1
      by_cases z2 : a ∈ lk
      · exact absurd z ((hlk a z2).2 l')
      · unfold unl; rw [if_neg q, if_neg z2]; exact z1
  cases n with
  | zero =>
    have : i = xs.length := by omega
    subst this
    refine W.done sI _ _ Si fun h' tk k => ?_
    rw [← hl.eq] at ti
    have t' := ti.walkedOut (tk := tk) (hu0 Hi) hwb k
    refine wpAny_execs_nil ?_
    have nw : ∀ a o, s.heap.get? a = some o → a ∉ wr := fun a o e q => by rw [fresh a q] at e; cases e
    have u := unlW hl xw
    refine ⟨.next, mi, _, ⟨fun a o e z w => ?_, u.none, fun a o e => ?_, fun a l o z e => ?_⟩, t', .next, hend _ _ hJ hl⟩
    · obtain ⟨sl, e1, f1⟩ := xw.keep a o e z w
      exact ⟨sl, k a _ (nw a o e) e1, f1⟩
    · obtain ⟨o', e'⟩ := xw.alive a o e; exact ⟨o', k a o' (nw a o e) e'⟩
    · obtain ⟨e1, z1⟩ := u.lock a l o z e
      exact ⟨k a o (nw a o e) e1, z1⟩
  | succ n =>
    have hi : i < xs.length := by omega
    obtain ⟨x, hx⟩ : ∃ x, xs[i]? = some x := ⟨xs[i], List.getElem?_eq_getElem hi⟩
    refine W.item i sI _ _ hi Si fun v h' tk hgo => ?_
    refine hgo _ _ fun h'' S1 k al hP => ?_
    obtain ⟨t', sk'⟩ := ti.walked (tk := tk) (fun b hb => hl.1 b hb) hwb k al
    have rel : Rel Hi h'' v x := hval i v x sI.heap h'' _ hx hP (fun a o e => (ti.sim.view a o e).live) (sk.trans sk')
    have xf := see k al
    have ff : FpOk Γ Hi h'' fp := fun b hb => by
      by_cases q : b ∈ wr
      · obtain ⟨o, e⟩ := (t'.sim.view b _ (hl.1 b q)).live
        exact .inr ⟨.it, o, hl.1 b q, e⟩
      · rcases fi b hb with ⟨z, nf, o, e, w⟩ | ⟨l, o, z, e⟩
        · exact .inl ⟨z, nf, o, k b o q e, w⟩
        · exact .inr ⟨l, o, z, k b o q e⟩
    -- the target, then the body
    refine wpAny_mono (hstep i x mi Hi hx hJ hl { sI with heap := h'', toks := tk } v _ t' rel) (fun _ s3 p => ?_) fun _ _ z => z
    obtain ⟨m1, H3, x3, t3, q3⟩ := p
    refine wpAny_mono (q3 s3 t3) (fun f s4 p => ?_) fun e s4 p => xpost_noted ok tp t (p.after (xf.trans x3))
    obtain ⟨mf, m4, H4, x4, t4, r4, q4⟩ := p
    have xs4 := (xf.trans x3).trans x4
    have x34 : ExtW Γ.F Γ.own Hi h'' H4 s4.heap := ExtW.trans x3 x4
    have l4 : Lk H1 wr lk H4 := ⟨fun b hb => by
        obtain ⟨o, e⟩ := lv b (.inl hb)
        obtain ⟨o', e'⟩ := al b o e
        exact (x34.lock b _ o' (hl.1 b hb) e').2, fun a ha hn => by
        obtain ⟨o, e⟩ := lv a (.inr ha)
        obtain ⟨o', e'⟩ := al a o e
        obtain ⟨oo, eo⟩ := (hlk a ha).1
        have z := hl.2 a ha hn
        rw [eo] at z ⊢
        exact (x34.lock a _ o' z e').2⟩
    have lv4 : ∀ a, (a ∈ wr ∨ a ∈ lk) → ∃ o, s4.heap.get? a = some o := fun a ha => by
      obtain ⟨o, e⟩ := lv a ha
      obtain ⟨o', e'⟩ := al a o e
      exact x34.alive a o' e'
    have fin : ∀ {fl : Flow} {mf : Fl}, FlRel (unl H1 wr lk H4) s4.heap fl mf → Q mf m4 (unl H1 wr lk H4) → FPost Γ H s Q fl s4 := fun r q =>
      ⟨_, m4, _, unlW l4 xs4, St.unlock (wr := wr) (lk := lk) (by rw [l4.eq]; exact t4) (hu0 H4), r, q⟩
    have again : J (i + 1) m4 H4 → ∃ mm, mm < n + 1 ∧ ∃ i mi Hi, i + mm = xs.length ∧ J i mi Hi ∧ Lk H1 wr lk Hi ∧ ExtW Γ.F Γ.own H s.heap Hi s4.heap ∧ St Γ mi Hi s4 ∧
        FpOk Γ Hi s4.heap fp ∧ S i s4.heap ∧ SeqK (lockH H1 wr lk) s2.heap Hi s4.heap ∧ (∀ a, (a ∈ wr ∨ a ∈ lk) → ∃ o, s4.heap.get? a = some o) := fun j => by
      obtain ⟨f4, k4⟩ := ff.extW x34
      exact ⟨n, Nat.lt_succ_self n, i + 1, m4, _, by omega, j, l4, xs4, t4, f4, W.frame _ _ _ S1 k4, (sk.trans sk').trans x34.seqK, lv4⟩
    cases r4 with
    | next => exact again q4
    | cont => exact again q4
    | brk => exact fin .next q4
    | ret r => exact fin (.ret (r.seqK (by have := unlock_seqK (H := unl H1 wr lk H4) (wr := wr) (lk := lk) (h := s4.heap); rw [l4.eq] at this; exact this))) q4

noncomputable def ownedIters : List String := ["enumerate", "zip", "dict_itemiterator", "dict_reverseitemiterator", "odict_iterator", "itertools.zip_longest", "itertools.pairwise"]
theorem letOwned_plain {M : Model} {A : Around} {E : Value → Shared → Prop} {s : Shared} {target : Expr} {I : Addr} {v : Value} {o : Obj} {n : String} {Q : Unit → Shared → Prop} (ho : s.heap.get? I = some o) (hc : o.cls = .type n) (hn : ownedIters.contains n = false) (h : Q () s) :
    wpAny M A (letOwnedTupleGo target (.ref I) v) Q E s := by
  obtain ⟨c, d, da, sl⟩ := o
  simp only at hc; subst hc
  unfold letOwnedTupleGo
  have body : wpAny M A (do
      let (.ref r, .ref a) := (Value.ref I, v) | return
      let o ← load r
      match o.cls, o.data with
      | .type n, .fields vs =>
        if ["enumerate", "zip", "dict_itemiterator", "dict_reverseitemiterator", "odict_iterator", "itertools.zip_longest", "itertools.pairwise"].contains n && vs[0]? == some (rawInt a) then
          rule "for.unpacks-the-owned-tuple"
          updateField r 0 .none
      | _, _ => pure ()) Q E s := by
    cases v with
    | ref a =>
      refine wpAny_bind (wpAny_load ho ?_)
      cases da with
      | fields vs =>
        show wpAny M A (if (["enumerate", "zip", "dict_itemiterator", "dict_reverseitemiterator", "odict_iterator", "itertools.zip_longest", "itertools.pairwise"].contains n && vs[0]? == some (rawInt a)) = true then _ else _) Q E s
        rw [if_neg (by rw [show (["enumerate", "zip", "dict_itemiterator", "dict_reverseitemiterator", "odict_iterator", "itertools.zip_longest", "itertools.pairwise"] : List String).contains n = false from hn]; simp)]
        exact wpAny_pure h
      | _ => exact wpAny_pure h
    | _ => exact wpAny_pure h
  cases target <;> first | exact body | exact wpAny_pure h

theorem Iter.ofWalks {w : World} {A : Around} {target : Expr} {I : Addr} {fp : List Addr} {n : Nat} {P : Nat → Value → Prop} {S : Nat → Heap → Prop} (W : Walks pw w A I fp [I] n P S) (hI : ∀ i h, S i h → ∃ o k, h.get? I = some o ∧ o.cls = .type k ∧ ownedIters.contains k = false) :
    Iter w A target I fp [I] n (fun i v _ _ => P i v) S where
  frame := W.frame
  sub := W.sub
  item := fun i s Q E hi st hQ => W.item i s Q E hi st fun v h' tk hP hS k => hQ v h' tk fun Q2 E2 h2 => by
    obtain ⟨o, c, e1, e2, e3⟩ := hI _ _ hS
    refine letOwned_plain (s := { s with heap := h', toks := tk }) e1 e2 e3 (h2 h' hS k (fun b o' e => ?_) hP)
    by_cases q : b ∈ [I]
    · rw [List.mem_singleton.mp q]; exact ⟨o, e1⟩
    · exact ⟨o', k b o' q e⟩
  done := W.done
  self := W.self


theorem Sim.lockup {w base os H wr lk} {s : Shared} {h' : Heap} {tk : Nat} (y : Sim w base os H s) (k : ∀ b o, s.heap.get? b = some o → h'.get? b = some o) (hwr : ∀ b ∈ wr, s.heap.get? b = none ∧ ∃ o, h'.get? b = some o)
    (hlk : ∀ a ∈ lk, ∃ o, H a = some o ∧ (∀ l, o ≠ .lock l) ∧ ∀ x, o ≠ .aux x) :
    Sim w base os (lockH H wr lk) { s with heap := h', toks := tk } ∧ SeqK H s.heap (lockH H wr lk) h' ∧ ∀ F, Ext F H s.heap (lockH H wr lk) h' := by
  have hw0 : ∀ b ∈ wr, H b = none := fun b hb => by
    cases q : H b with
    | none => rfl
    | some o => obtain ⟨ob, e⟩ := (y.view b o q).live; rw [(hwr b hb).1] at e; cases e
  have nw : ∀ a o, s.heap.get? a = some o → a ∉ wr := fun a o e q => by rw [(hwr a q).1] at e; cases e
  have sk : SeqK H s.heap (lockH H wr lk) h' := fun a o items n e d z => ⟨⟨o.slots, k a o e⟩, lockH_none' (nw a o e) z⟩
  have ext : ∀ F, Ext F H s.heap (lockH H wr lk) h' := fun F => ⟨fun a o e z => ⟨o.slots, k a o e, fun _ => rfl⟩, fun a o e z => lockH_none' (nw a o e) z, fun a o e => ⟨o, k a o e⟩, fun a l o z e =>
    ⟨k a o e, by rw [lockH_ne (nw a o e) (fun q => by obtain ⟨o2, e2, n2, _⟩ := hlk a q; rw [z] at e2; cases e2; exact n2 l rfl)]; exact z⟩⟩
  have mt : ∀ a o, H a = some o → Matches w (lockH H wr lk) h' a o := fun a o e => Matches.keep sk (fun ob e1 => k a ob e1) (fun dx ob hx e1 =>
    ⟨k dx ob e1, by rw [lockH_ne (nw dx ob e1) (fun q => by obtain ⟨o2, e2, _, n2⟩ := hlk dx q; rw [hx] at e2; cases e2; exact n2 a rfl)]; exact hx⟩) (y.view a o e)
  have hwb : ∀ b ∈ wr, base.get? b = none := fun b hb => by
    cases q : base.get? b with
    | none => rfl
    | some o => have := y.stays b o q; rw [(hwr b hb).1] at this; cases this
  refine ⟨⟨fun b o e => k b o (y.stays b o e), fun a o e => ?_, fun a o e => ?_, y.gens, y.os⟩, sk, ext⟩
  · by_cases q : a ∈ wr
    · rw [lockH_wr q] at e; cases e; exact (hwr a q).2
    · by_cases z : a ∈ lk
      · obtain ⟨o2, e2, _, _⟩ := hlk a z
        rw [lockH_lk q z e2] at e; cases e
        exact mt a o2 e2
      · rw [lockH_ne q z] at e; exact mt a o e
  · by_cases q : a ∈ wr
    · exact hwb a q
    · by_cases z : a ∈ lk
      · obtain ⟨o2, e2, _, _⟩ := hlk a z
        exact y.off a o2 e2
      · rw [lockH_ne q z] at e; exact y.off a o e

def ItV (Γ : Cx) (target : Expr) (v : V) (H : AH) (Q : List V → List Addr → List Addr → AH → Prop) (R : Int → AH → Prop) : Prop :=
  ∀ m s val, St Γ m H s → Rel H s.heap val v → wpAny (Mw Γ.w) Γ.A (pyIter val) (IPost Γ target H s Q) (XPost Γ H s R) s

theorem IPost.after {Γ target H s H' s' Q it s2} (y : Sim Γ.w Γ.base Γ.os H s) (x : Ext Γ.F H s.heap H' s'.heap) (p : IPost Γ target H' s' Q it s2) : IPost Γ target H s Q it s2 := by
  obtain ⟨I, H1, xs, fp, wr, lk, P, S, e1, W, S0, x1, y1, hwr, hlk, hfp, hval, q⟩ := p
  refine ⟨I, H1, xs, fp, wr, lk, P, S, e1, W, S0, x.trans x1, y1, fun b hb => ⟨x.fresh (hwr b hb).1, (hwr b hb).2⟩, fun a ha => ⟨(hlk a ha).1, fun l z => ?_⟩, hfp, hval, q⟩
  obtain ⟨o, e⟩ := (y.view a _ z).live
  exact (hlk a ha).2 l (x.lock a l o z e).2

theorem iv_of {Γ : Cx} {target iter : Expr} {m : Locs} {H : AH} {Q : List V → List Addr → List Addr → AH → Prop} {R : Int → AH → Prop} (h : EV Γ iter m H (fun v H1 => ItV Γ target v H1 Q R) R) : IV Γ target iter m H Q R := by
  intro s t
  refine wpAny_mono (h s t) (fun v s1 p => ?_) fun _ _ z => z
  obtain ⟨mv, H1, x1, y1, r1, q⟩ := p
  exact wpAny_mono (q m s1 v (t.ext x1 y1) r1) (fun _ _ z => z.after t.sim x1) fun _ _ z => z.after x1

theorem ipost_grow {Γ : Cx} {target : Expr} {m : Locs} {H : AH} {s : Shared} {Q : List V → List Addr → List Addr → AH → Prop} {h' : Heap} {tk : Nat} {fp wr lk : List Addr} {I : Addr} {xs : List V} {P : Nat → Value → Heap → Heap → Prop} {S : Nat → Heap → Prop} (t : St Γ m H s)
    (k : ∀ b o, s.heap.get? b = some o → h'.get? b = some o) (W : Iter Γ.w Γ.A target I fp wr xs.length P S) (S0 : S 0 h') (hwr : ∀ b ∈ wr, s.heap.get? b = none ∧ ∃ o, h'.get? b = some o)
    (hlk : ∀ a ∈ lk, ∃ o, H a = some o ∧ (∀ l, o ≠ .lock l) ∧ ∀ x, o ≠ .aux x)
    (hfp : ∀ b ∈ fp, b ∈ wr ∨ b ∈ lk ∨ (H b = none ∧ ∃ o items n, h'.get? b = some o ∧ o.data = .seq items n))
    (hval : ∀ i v x h0 h'' (Hi : AH), xs[i]? = some x → P i v h0 h'' → (∀ a o, Hi a = some o → ∃ ob, h0.get? a = some ob) → SeqK H s.heap Hi h'' → Rel Hi h'' v x) (q : Q xs wr lk H) :
    IPost Γ target H s Q (.ref I) { s with heap := h', toks := tk } := by
  obtain ⟨y1, sk, ext⟩ := t.sim.lockup (tk := tk) k hwr hlk
  have hw0 : ∀ b ∈ wr, H b = none := fun b hb => by
    cases q : H b with
    | none => rfl
    | some o => obtain ⟨ob, e⟩ := (t.sim.view b o q).live; rw [(hwr b hb).1] at e; cases e
  refine ⟨I, H, xs, fp, wr, lk, P, S, rfl, W, S0, ext _, y1, fun b hb => ⟨(hwr b hb).1, hw0 b hb⟩, fun a ha => ?_, fun b hb => ?_, fun i v x h0 h'' Hi hx hP hl hsk => hval i v x h0 h'' Hi hx hP hl (sk.trans hsk), q⟩
  · obtain ⟨o, e, n, _⟩ := hlk a ha
    exact ⟨⟨o, e⟩, fun l z => by rw [e] at z; cases z; exact n l rfl⟩
  · by_cases z : b ∈ wr
    · exact .inr ⟨_, lockH_wr z⟩
    · rcases hfp b hb with q | q | ⟨q, o, items, n, e, d⟩
      · exact absurd q z
      · obtain ⟨o, e, _⟩ := hlk b q
        exact .inr ⟨_, lockH_lk z q e⟩
      · refine .inl ⟨lockH_none' z q, fun hF => ?_, o, e, fun _ => ⟨items, n, d⟩⟩
        obtain ⟨o2, es, ep, e2, d2⟩ := t.frames.memD hF
        rw [k b o2 e2] at e; cases e; rw [d2] at d; cases d

theorem RelAll.get {H h} {vs : List Value} {xs : List V} (r : RelAll H h vs xs) {i : Nat} {v : Value} {x : V} (e1 : vs[i]? = some v) (e2 : xs[i]? = some x) : Rel H h v x := by
  refine RelAll.ind (P := fun vs xs => ∀ i, vs[i]? = some v → xs[i]? = some x → Rel H h v x) (fun _ e => by cases e) (fun v x vs xs a _ ih i => ?_) r i e1 e2
  cases i with
  | zero => exact fun e1 e2 => Option.some.inj e1 ▸ Option.some.inj e2 ▸ a
  | succ i => exact ih i

section
variable {Γ : Cx} {target : Expr} {H : AH} {Q : List V → List Addr → List Addr → AH → Prop} {R : Int → AH → Prop}
theorem it_list (ok : Γ.Ok) {a : Addr} {xs : List V} (ha : H a = some (.list xs)) (q : ∀ I, H I = none → Q xs [I] [a] H) : ItV Γ target (.ref a) H Q R := by
  intro m s val t r
  refine r.rE ?_
  ·
    obtain ⟨items, n, e, rr⟩ := t.sim.view a _ ha
    have hl : s.heap.IsList a items := ⟨_, e, rfl, n, rfl⟩
    refine wpAny_pyIter_list hl ?_
    have hne : a ≠ s.heap.objs.size := Nat.ne_of_lt (Heap.lt_size e)
    have hlen : items.size = xs.length := by rw [← rr.length, Array.length_toList]
    have kp : ∀ b o, s.heap.get? b = some o → (s.heap.push { cls := .type "list_iterator", data := .fields #[.ref a, .int 0 0] }).get? b = some o := fun b o q => Heap.get?_push_of_some _ q
    have hI : (s.heap.push { cls := .type "list_iterator", data := .fields #[.ref a, .int 0 0] }).get? s.heap.objs.size = some { cls := .type "list_iterator", data := .fields #[.ref a, .int 0 0] } := Heap.get?_push_size _ rfl
    have hn : s.heap.get? s.heap.objs.size = none := Heap.get?_none_of_le (Nat.le_refl _)
    refine ipost_grow (fp := [s.heap.objs.size, a]) (wr := [s.heap.objs.size]) (lk := [a]) (P := fun i v _ _ => items[i]? = some v) (S := fun i h => h.IsListIter s.heap.objs.size a i ∧ h.IsList a items) t kp
      (Iter.ofWalks (n := xs.length) (by rw [← hlen]; exact Walks.list ok.handled s.heap.objs.size a hne items) fun i h hS => ?_) ⟨⟨_, hI, rfl, rfl⟩, hl.push _⟩ (fun b hb => ?_) (fun b hb => ?_) (fun b hb => ?_) (fun i v x h0 h'' Hi hx hP _ sk => ?_) (q _ ?_)
    · obtain ⟨⟨o, e1, e2, _⟩, _⟩ := hS; exact ⟨o, _, e1, e2, by decide⟩
    · rw [List.mem_singleton.mp hb]; exact ⟨hn, _, hI⟩
    · rw [List.mem_singleton.mp hb]; exact ⟨_, ha, (fun _ h => by cases h), fun _ h => by cases h⟩
    · rcases List.mem_cons.mp hb with rfl | hb
      · exact .inl (List.mem_singleton.mpr rfl)
      · exact .inr (.inl hb)
    · have hP' : items[i]? = some v := hP
      exact (rr.get (by rw [Array.getElem?_toList]; exact hP') hx).seqK sk
    · cases z : H s.heap.objs.size with
      | none => rfl
      | some o => obtain ⟨ob, e⟩ := (t.sim.view _ o z).live; rw [hn] at e; cases e
theorem it_tup (ok : Γ.Ok) {xs : List V} (q : ∀ I, H I = none → Q xs [I] [] H) : ItV Γ target (.tup xs) H Q R := by
  intro m s val t r
  refine r.tE fun a o items n e c d z rr => ?_
  ·
    have hl : s.heap.IsTuple a items := ⟨_, e, c, n, d⟩
    refine wpAny_pyIter_tuple hl ?_
    have hne : a ≠ s.heap.objs.size := Nat.ne_of_lt (Heap.lt_size e)
    have hlen : items.size = xs.length := by rw [← rr.length, Array.length_toList]
    have kp : ∀ b o, s.heap.get? b = some o → (s.heap.push { cls := .type "tuple_iterator", data := .fields #[.ref a, .int 0 0] }).get? b = some o := fun b o q => Heap.get?_push_of_some _ q
    have hI : (s.heap.push { cls := .type "tuple_iterator", data := .fields #[.ref a, .int 0 0] }).get? s.heap.objs.size = some { cls := .type "tuple_iterator", data := .fields #[.ref a, .int 0 0] } := Heap.get?_push_size _ rfl
    have hn : s.heap.get? s.heap.objs.size = none := Heap.get?_none_of_le (Nat.le_refl _)
    refine ipost_grow (fp := [s.heap.objs.size, a]) (wr := [s.heap.objs.size]) (lk := []) (P := fun i v _ _ => items[i]? = some v) (S := fun i h => h.IsTupleIter s.heap.objs.size a i ∧ h.IsTuple a items) t kp
      (Iter.ofWalks (n := xs.length) (by rw [← hlen]; exact Walks.tuple ok.handled s.heap.objs.size a hne items) fun i h hS => ?_) ⟨⟨_, hI, rfl, rfl⟩, ⟨o, kp a o e, c, n, d⟩⟩ (fun b hb => ?_) (fun b hb => (nomatch hb)) (fun b hb => ?_) (fun i v x h0 h'' Hi hx hP _ sk => ?_) (q _ ?_)
    · obtain ⟨⟨o, e1, e2, _⟩, _⟩ := hS; exact ⟨o, _, e1, e2, by decide⟩
    · rw [List.mem_singleton.mp hb]; exact ⟨hn, _, hI⟩
    · rcases List.mem_cons.mp hb with rfl | hb
      · exact .inl (List.mem_singleton.mpr rfl)
      · rw [List.mem_singleton.mp hb]; exact .inr (.inr ⟨z, o, items, n, kp a o e, d⟩)
    · have hP' : items[i]? = some v := hP
      exact (rr.get (by rw [Array.getElem?_toList]; exact hP') hx).seqK sk
    · cases z : H s.heap.objs.size with
      | none => rfl
      | some o => obtain ⟨ob, e⟩ := (t.sim.view _ o z).live; rw [hn] at e; cases e
theorem it_str (ok : Γ.Ok) {x : Str} (q : ∀ I, H I = none → Q (x.cps.toList.map fun c => .str ⟨#[c]⟩) [I] [] H) : ItV Γ target (.str x) H Q R := by
  intro m s val t r
  refine r.sE fun tk0 => ?_
  ·
    have hn : s.heap.get? s.heap.objs.size = none := Heap.get?_none_of_le (Nat.le_refl _)
    have hq : H s.heap.objs.size = none := by
      cases z : H s.heap.objs.size with
      | none => rfl
      | some o => obtain ⟨ob, e⟩ := (t.sim.view _ o z).live; rw [hn] at e; cases e
    have hlen : x.cps.size = (x.cps.toList.map fun c => (V.str ⟨#[c]⟩)).length := by rw [List.length_map, Array.length_toList]
    have key : ∀ (ty : String) (hty : ownedIters.contains ty = false), (Walks pw Γ.w Γ.A s.heap.objs.size [s.heap.objs.size] [s.heap.objs.size] x.cps.size (SignAt x) (fun i h => h.IsStrIter s.heap.objs.size ty x tk0 i)) →
        IPost Γ target H s Q (.ref s.heap.objs.size) { s with heap := s.heap.push { cls := .type ty, data := .fields #[.str x tk0, .int 0 0] } } := fun ty hty W => by
      have kp : ∀ b o, s.heap.get? b = some o → (s.heap.push { cls := .type ty, data := .fields #[.str x tk0, .int 0 0] }).get? b = some o := fun b o q => Heap.get?_push_of_some _ q
      have hI : (s.heap.push { cls := .type ty, data := .fields #[.str x tk0, .int 0 0] }).get? s.heap.objs.size = some { cls := .type ty, data := .fields #[.str x tk0, .int 0 0] } := Heap.get?_push_size _ rfl
      refine ipost_grow (fp := [s.heap.objs.size]) (wr := [s.heap.objs.size]) (lk := []) (P := fun i v _ _ => SignAt x i v) (S := fun i h => h.IsStrIter s.heap.objs.size ty x tk0 i) t kp
        (Iter.ofWalks (n := (x.cps.toList.map fun c => (V.str ⟨#[c]⟩)).length) (by rw [← hlen]; exact W) fun i h hS => ?_) ⟨_, hI, rfl, rfl⟩ (fun b hb => ?_) (fun b hb => (nomatch hb)) (fun b hb => .inl hb) (fun i v y h0 h'' Hi hx hP _ sk => ?_) (q _ hq)
      · obtain ⟨o, e1, e2, _⟩ := hS; exact ⟨o, _, e1, e2, hty⟩
      · rw [List.mem_singleton.mp hb]; exact ⟨hn, _, hI⟩
      · obtain ⟨c, u, e1, rfl⟩ := hP
        rw [List.getElem?_map, Array.getElem?_toList, e1] at hx
        cases hx
        exact .str _ _
    cases ha : x.cps.all (· < 128) with
    | true => exact wpAny_pyIter_ascii ha (key _ (by decide) (Walks.strAscii ok.handled _ x tk0))
    | false => exact wpAny_pyIter_wide ha (key _ (by decide) (Walks.strWide ok.handled _ x tk0))
end

/-- what range(a, b) walks -/
noncomputable def rangeL (a : Int) (n : Nat) (c : Int) : List V := (List.range n).map fun (i : Nat) => V.int (a + (i : Int) * c)
theorem it_range {Γ : Cx} {target : Expr} {H : AH} {Q : List V → List Addr → List Addr → AH → Prop} {E : Value → Shared → Prop} {m : Locs} {s : Shared} {r : Addr} {a b c : Int} {tt u v : Tok} (ok : Γ.Ok) (t : St Γ m H s) (hr : IsRange s.heap r a b c tt u v) (hsm : Builtin.Range.small a b c = true) {n : Nat} (hn : Builtin.Range.rangeSize a b c = (n : Int))
    (q : ∀ I, H I = none → Q (rangeL a n c) [I] [] H) : wpAny (Mw Γ.w) Γ.A (pyIter (.ref r)) (IPost Γ target H s Q) E s := by
  have hnn : s.heap.get? s.heap.objs.size = none := Heap.get?_none_of_le (Nat.le_refl _)
  have hq : H s.heap.objs.size = none := by
    cases z : H s.heap.objs.size with
    | none => rfl
    | some o => obtain ⟨ob, e⟩ := (t.sim.view _ o z).live; rw [hnn] at e; cases e
  refine wpAny_pyIter_range hr hsm ?_
  rw [hn]
  have hlen : (rangeL a n c).length = n := by unfold rangeL; rw [List.length_map, List.length_range]
  have kp : ∀ b o, s.heap.get? b = some o → (s.heap.push { cls := .type "range_iterator", data := .fields #[rawInt a, rawInt (n : Int), rawInt c] }).get? b = some o := fun b o q => Heap.get?_push_of_some _ q
  have hI : (s.heap.push { cls := .type "range_iterator", data := .fields #[rawInt a, rawInt (n : Int), rawInt c] }).get? s.heap.objs.size = some { cls := .type "range_iterator", data := .fields #[rawInt a, rawInt (n : Int), rawInt c] } := Heap.get?_push_size _ rfl
  refine ipost_grow (fp := [s.heap.objs.size]) (wr := [s.heap.objs.size]) (lk := []) (P := fun i v _ _ => ∃ t, v = .int (a + i * c) t) (S := fun i h => IsRangeIter h s.heap.objs.size (a + (i : Nat) * c) ((n : Int) - (i : Nat)) c) t kp
    (Iter.ofWalks (n := (rangeL a n c).length) (by rw [hlen]; exact Walks.range ok.handled _ a c n) fun i h hS => ⟨_, _, hS, rfl, by decide⟩) ?_ (fun b hb => ?_) (fun b hb => (nomatch hb)) (fun b hb => .inl hb) (fun i v y h0 h'' Hi hx hP _ sk => ?_) (q _ hq)
  · show IsRangeIter _ _ _ _ _
    have e1 : a + ((0 : Nat) : Int) * c = a := by simp
    have e2 : (n : Int) - ((0 : Nat) : Int) = n := by simp
    rw [e1, e2]; exact hI
  · rw [List.mem_singleton.mp hb]; exact ⟨hnn, _, hI⟩
  · obtain ⟨u, rfl⟩ := hP
    unfold rangeL at hx
    rw [List.getElem?_map] at hx
    cases w : (List.range n)[i]? with
    | none => rw [w] at hx; cases hx
    | some k =>
      rw [w] at hx
      obtain ⟨hk, e⟩ := List.getElem?_eq_some_iff.mp w
      rw [List.getElem_range] at e
      cases hx; subst e
      exact .int _ _

/-- a call of a builtin -/
def BV (Γ : Cx) (f : Value) (args : List V) (H : AH) (Q : V → AH → Prop) (R : Int → AH → Prop) : Prop :=
  ∀ s vals, Sim Γ.w Γ.base Γ.os H s → RelAll H s.heap vals args → wpAny (Mw Γ.w) Γ.A (call f vals) (VPost Γ H s Q) (XPost Γ H s R) s
/-- a call of a builtin whose result is walked -/
def BI (Γ : Cx) (target : Expr) (f : Value) (args : List V) (H : AH) (Q : List V → List Addr → List Addr → AH → Prop) (R : Int → AH → Prop) : Prop :=
  ∀ m s vals, St Γ m H s → RelAll H s.heap vals args → wpAny (Mw Γ.w) Γ.A (call f vals) (fun x s1 => wpAny (Mw Γ.w) Γ.A (pyIter x) (IPost Γ target H s Q) (XPost Γ H s R) s1) (XPost Γ H s R) s

section
variable {Γ : Cx} {target : Expr} {m : Locs} {H : AH} {Q : V → AH → Prop} {I : List V → List Addr → List Addr → AH → Prop} {R : Int → AH → Prop} {pos : Pos}
theorem ev_tcall {fe : Expr} {T : String} {e : Expr} {r : List Expr} (h : EV Γ fe m H (fun v H1 => v = .ty T ∧ EVs Γ (e :: r) m H1 (fun vs H2 => BV Γ (.type T) vs H2 Q R) R) R)
    (he : ∀ env, eval (.Call fe (e :: r) [] pos) env = (do callWith pos (← eval fe env) [] (backTo pos (starEach (e :: r) env)) (backToKw pos (keywordEach [] env))) := by intro _; rfl)
    (hs : ∀ env, starEach (e :: r) env = (false, eval e env) :: starEach r env := by intro _; rfl)
    (hp : ∀ env, (backTo pos (starEach r env)).any (·.1) = false := by intro _; rfl) : EV Γ (.Call fe (e :: r) [] pos) m H Q R := by
  intro s t
  refine Call_ (wpAny_mono (h s t) (fun v s1 h1 => ?_) fun _ _ z => z) (he _)
  obtain ⟨_, H1, x1, y1, r1, rfl, q1⟩ := h1
  refine r1.yE ?_
  have t1 := t.ext x1 y1
  refine PyProof.Rows.callWith_type1 (wpAny_mono (q1 s1 pos t1) (fun vs s2 h2 => ?_) fun _ _ z => z.after x1) (hs _) (hp _)
  obtain ⟨xs, H2, x2, y2, r2, q3⟩ := h2
  exact wpAny_mono (q3 s2 vs y2 r2) (fun _ _ z => z.after (x1.trans x2)) fun _ _ z => z.after (x1.trans x2)
theorem ev_bcall {fe : Expr} {id : String} {e : Expr} {r : List Expr} (h : EV Γ fe m H (fun v H1 => v = .bi id ∧ EVs Γ (e :: r) m H1 (fun vs H2 => BV Γ (.builtin id) vs H2 Q R) R) R)
    (he : ∀ env, eval (.Call fe (e :: r) [] pos) env = (do callWith pos (← eval fe env) [] (backTo pos (starEach (e :: r) env)) (backToKw pos (keywordEach [] env))) := by intro _; rfl)
    (hs : ∀ env, starEach (e :: r) env = (false, eval e env) :: starEach r env := by intro _; rfl)
    (hp : ∀ env, (backTo pos (starEach r env)).any (·.1) = false := by intro _; rfl) : EV Γ (.Call fe (e :: r) [] pos) m H Q R := by
  intro s t
  refine Call_ (wpAny_mono (h s t) (fun v s1 h1 => ?_) fun _ _ z => z) (he _)
  obtain ⟨_, H1, x1, y1, r1, rfl, q1⟩ := h1
  refine r1.cE ?_
  have t1 := t.ext x1 y1
  refine PyProof.Rows.callWith_builtin1 (wpAny_mono (q1 s1 pos t1) (fun vs s2 h2 => ?_) fun _ _ z => z.after x1) (hs _) (hp _)
  obtain ⟨xs, H2, x2, y2, r2, q3⟩ := h2
  exact wpAny_mono (q3 s2 vs y2 r2) (fun _ _ z => z.after (x1.trans x2)) fun _ _ z => z.after (x1.trans x2)
theorem iv_tcall {fe : Expr} {T : String} {e : Expr} {r : List Expr} (h : EV Γ fe m H (fun v H1 => v = .ty T ∧ EVs Γ (e :: r) m H1 (fun vs H2 => BI Γ target (.type T) vs H2 I R) R) R)
    (he : ∀ env, eval (.Call fe (e :: r) [] pos) env = (do callWith pos (← eval fe env) [] (backTo pos (starEach (e :: r) env)) (backToKw pos (keywordEach [] env))) := by intro _; rfl)
    (hs : ∀ env, starEach (e :: r) env = (false, eval e env) :: starEach r env := by intro _; rfl)
    (hp : ∀ env, (backTo pos (starEach r env)).any (·.1) = false := by intro _; rfl) : IV Γ target (.Call fe (e :: r) [] pos) m H I R := by
  intro s t
  refine Call_ (wpAny_mono (h s t) (fun v s1 h1 => ?_) fun _ _ z => z) (he _)
  obtain ⟨_, H1, x1, y1, r1, rfl, q1⟩ := h1
  refine r1.yE ?_
  have t1 := t.ext x1 y1
  refine PyProof.Rows.callWith_type1 (wpAny_mono (q1 s1 pos t1) (fun vs s2 h2 => ?_) fun _ _ z => z.after x1) (hs _) (hp _)
  obtain ⟨xs, H2, x2, y2, r2, q3⟩ := h2
  exact wpAny_mono (q3 m s2 vs (t1.ext x2 y2) r2) (fun _ _ z => wpAny_mono z (fun _ _ z => z.after t.sim (x1.trans x2)) fun _ _ z => z.after (x1.trans x2)) fun _ _ z => z.after (x1.trans x2)
end

theorem Sim.fresh {w base os H s} (y : Sim w base os H s) {a : Addr} (e : s.heap.get? a = none) : H a = none := by
  cases q : H a with
  | none => rfl
  | some o => obtain ⟨ob, e'⟩ := (y.view a o q).live; rw [e] at e'; cases e'
theorem get_none {h : Heap} {k : Nat} : h.get? (h.objs.size + k) = none := Heap.get?_none_of_le (Nat.le_add_right _ _)

/-- an iterator made by a call, then walked -/
theorem BI.of {Γ : Cx} {target : Expr} {H : AH} {I : List V → List Addr → List Addr → AH → Prop} {s : Shared} {x : Value} {s1 : Shared} {R : Int → AH → Prop} {h : Heap} {tk : Nat} {m : Locs} (t : St Γ m H s) (e : s1 = { s with heap := h, toks := tk }) (k : ∀ b o, s.heap.get? b = some o → h.get? b = some o)
    (p : St Γ m H { s with heap := h, toks := tk } → wpAny (Mw Γ.w) Γ.A (pyIter x) (IPost Γ target H { s with heap := h, toks := tk } I) (XPost Γ H { s with heap := h, toks := tk } R) { s with heap := h, toks := tk }) : wpAny (Mw Γ.w) Γ.A (pyIter x) (IPost Γ target H s I) (XPost Γ H s R) s1 := by
  subst e
  have eg := Ext.grow (F := Γ.F) (H := H) k
  exact wpAny_mono (p (t.ext (s' := { s with heap := h, toks := tk }) eg (t.sim.grow k))) (fun _ _ z => z.after t.sim eg) fun _ _ z => z.after eg

section
variable {Γ : Cx} {target : Expr} {H : AH} {Q : List V → List Addr → List Addr → AH → Prop} {R : Int → AH → Prop}
theorem bi_range1 (ok : Γ.Ok) {b : Int} {n : Nat} (hsm : Builtin.Range.small 0 b 1 = true) (hn : Builtin.Range.rangeSize 0 b 1 = (n : Int)) (q : ∀ I, H I = none → Q (rangeL 0 n 1) [I] [] H) : BI Γ target (.type "range") [.int b] H Q R := by
  intro m s vals t r
  refine r.oE fun _ r0 => ?_
  refine r0.iE fun _ => ?_
  refine call_range_1 (BI.of t rfl (fun b o e => Heap.get?_push_of_some _ e) fun t' => ?_)
  exact it_range ok t' (Heap.get?_push_size _ rfl) hsm hn q
theorem bi_range2 (ok : Γ.Ok) {a b : Int} {n : Nat} (hsm : Builtin.Range.small a b 1 = true) (hn : Builtin.Range.rangeSize a b 1 = (n : Int)) (q : ∀ I, H I = none → Q (rangeL a n 1) [I] [] H) : BI Γ target (.type "range") [.int a, .int b] H Q R := by
  intro m s vals t r
  refine r.wE fun _ _ r0 r1 => ?_
  refine r0.iE fun _ => ?_; refine r1.iE fun _ => ?_
  refine call_range_2 (BI.of t rfl (fun b o e => Heap.get?_push_of_some _ e) fun t' => ?_)
  exact it_range ok t' (Heap.get?_push_size _ rfl) hsm hn q
theorem bi_range3 (ok : Γ.Ok) {a b c : Int} {n : Nat} (hc : c ≠ 0) (hp : Builtin.divisionGoesByPylong (b - a) c = false) (hsm : Builtin.Range.small a b c = true) (hn : Builtin.Range.rangeSize a b c = (n : Int)) (q : ∀ I, H I = none → Q (rangeL a n c) [I] [] H) : BI Γ target (.type "range") [.int a, .int b, .int c] H Q R := by
  intro m s vals t r
  refine r.hE fun _ _ _ r0 r1 r2 => ?_
  refine r0.iE fun _ => ?_; refine r1.iE fun _ => ?_; refine r2.iE fun _ => ?_
  refine call_range_3 hc (BI.of t rfl (fun b o e => Heap.get?_push_of_some _ e) fun t' => ?_) (.inl hp)
  exact it_range ok t' (Heap.get?_push_size _ rfl) hsm hn q
theorem bi_reversed (ok : Γ.Ok) {a : Addr} {xs : List V} (ha : H a = some (.list xs)) (q : ∀ I, H I = none → Q xs.reverse [I] [a] H) : BI Γ target (.type "reversed") [.ref a] H Q R := by
  intro m s vals t r
  refine r.oE fun _ r0 => ?_
  refine r0.rE ?_
  obtain ⟨items, n, e, rr⟩ := t.sim.view a _ ha
  have hl : s.heap.IsList a items := ⟨_, e, rfl, n, rfl⟩
  have hn : s.heap.get? s.heap.objs.size = none := get_none (k := 0)
  refine call_reversed_list hl ?_
  have hI : (s.heap.push (revObj a ((items.size : Int) - 1))).get? s.heap.objs.size = some (revObj a ((items.size : Int) - 1)) := Heap.get?_push_size _ rfl
  have hr : Heap.IsRevIter (s.heap.push (revObj a ((items.size : Int) - 1))) s.heap.objs.size a ((items.size : Int) - 1) := ⟨_, hI, rfl, rfl⟩
  refine wpAny_pyIter_revIter hr ?_
  have hne : a ≠ s.heap.objs.size := Nat.ne_of_lt (Heap.lt_size e)
  have hlen : items.size = xs.reverse.length := by rw [List.length_reverse, ← rr.length, Array.length_toList]
  have kp : ∀ b o, s.heap.get? b = some o → (s.heap.push (revObj a ((items.size : Int) - 1))).get? b = some o := fun b o q => Heap.get?_push_of_some _ q
  refine ipost_grow (tk := s.toks) (fp := [s.heap.objs.size, a]) (wr := [s.heap.objs.size]) (lk := [a]) (P := fun i v _ _ => items[items.size - 1 - i]? = some v) (S := fun i h => i ≤ items.size ∧ h.IsRevIter s.heap.objs.size a ((items.size : Int) - 1 - (i : Int)) ∧ h.IsList a items) t kp
    (Iter.ofWalks (n := xs.reverse.length) (by rw [← hlen]; exact Walks.listRev ok.handled s.heap.objs.size a hne items) fun i h hS => ?_) ⟨Nat.zero_le _, by simpa using hr, hl.push _⟩ (fun b hb => ?_) (fun b hb => ?_) (fun b hb => ?_) (fun i v x h0 h'' Hi hx hP _ sk => ?_) (q _ (t.sim.fresh hn))
  · obtain ⟨_, ⟨o, e1, e2, _⟩, _⟩ := hS; exact ⟨o, _, e1, e2, by decide⟩
  · rw [List.mem_singleton.mp hb]; exact ⟨hn, _, hI⟩
  · rw [List.mem_singleton.mp hb]; exact ⟨_, ha, (fun _ h => by cases h), fun _ h => by cases h⟩
  · rcases List.mem_cons.mp hb with rfl | hb
    · exact .inl (List.mem_singleton.mpr rfl)
    · exact .inr (.inl hb)
  · have hP' : items[items.size - 1 - i]? = some v := hP
    obtain ⟨hi, _⟩ := List.getElem?_eq_some_iff.mp hx
    rw [List.length_reverse] at hi
    rw [List.getElem?_reverse hi] at hx
    rw [hlen, List.length_reverse] at hP'
    exact (rr.get (by rw [Array.getElem?_toList]; exact hP') hx).seqK sk

/-- the pairs that zip gives -/
noncomputable def zipL (xs ys : List V) : List V := List.zipWith (fun x y => V.tup [x, y]) xs ys
theorem zipL_length {xs ys : List V} : (zipL xs ys).length = min xs.length ys.length := List.length_zipWith
theorem zipL_get {xs ys : List V} {i : Nat} {p : V} (h : (zipL xs ys)[i]? = some p) : ∃ x y, xs[i]? = some x ∧ ys[i]? = some y ∧ p = .tup [x, y] := by
  obtain ⟨x, y, h1, h2, h3⟩ := List.getElem?_zipWith_eq_some.mp h
  exact ⟨x, y, h1, h2, h3.symm⟩

inductive ZipS (Z TI TO J1 J2 a b : Addr) (i1 i2 : Array Value) (i : Nat) (h : Heap) : Prop
  | mk (x y : Value) (a1 : IsZip h Z TI TO .none) (a2 : IsPair h TI (.ref J1) (.ref J2)) (a3 : IsPair h TO x y) (a4 : h.IsListIter J1 a i) (a5 : h.IsListIter J2 b i) (a6 : h.IsList a i1) (a7 : h.IsList b i2)
inductive ZipP (i1 i2 : Array Value) (i : Nat) (v : Value) (h0 h'' : Heap) : Prop
  | mk (T : Addr) (x y : Value) (e : v = .ref T) (g1 : i1[i]? = some x) (g2 : i2[i]? = some y) (g3 : h0.get? T = none) (g4 : IsPair h'' T x y)
theorem zip_apart {n a b : Addr} (la : @LT.lt Nat _ a n) (lb : @LT.lt Nat _ b n) : ZipApart (n + 4) (n + 2) (n + 3) n (n + 1) a b := by
  constructor <;> (show @Ne Nat _ _; omega)
theorem zip_iter {w : World} {A : Around} (hh : A.handled = none) {t1 t2 : Expr} {kk : Nat} {pp : Pos} {Z TI TO J1 J2 a b : Addr} (D : ZipApart Z TI TO J1 J2 a b) {i1 i2 : Array Value} {n : Nat} (m1 : n ≤ i1.size) (m2 : n ≤ i2.size) (m3 : n = i1.size ∨ n = i2.size) :
    Iter w A (.Tuple [t1, t2] kk pp) Z [Z, TI, TO, J1, J2, a, b] [Z, TO, J1, J2] n (ZipP i1 i2) (ZipS Z TI TO J1 J2 a b i1 i2) := by
  refine ⟨?_, ?_, ?_, ?_, ?_⟩
  · rintro i h h2 ⟨x, y, a1, a2, a3, a4, a5, a6, a7⟩ k
    exact ⟨x, y, k _ (by simp) _ a1, k _ (by simp) _ a2, k _ (by simp) _ a3, a4.at fun o e => k _ (by simp) o e, a5.at fun o e => k _ (by simp) o e, a6.at fun o e => k _ (by simp) o e, a7.at fun o e => k _ (by simp) o e⟩
  · intro c hc
    simp only [List.mem_cons, List.not_mem_nil, or_false] at hc ⊢
    rcases hc with h | h | h | h <;> simp [h]
  · rintro i s3 Q3 E3 hi ⟨x0, y0, a1, a2, a3, a4, a5, a6, a7⟩ hQ
    have h1 : i < i1.size := Nat.lt_of_lt_of_le hi m1
    have h2 : i < i2.size := Nat.lt_of_lt_of_le hi m2
    refine wpAny_pyNext_zip_item D a1 a2 a3 a4 a5 a6 a7 (Array.getElem?_eq_getElem h1) (Array.getElem?_eq_getElem h2) fun h3 b1 b2 b3 b4 b5 b6 b7 => ?_
    refine hQ _ _ s3.toks fun Q4 E4 hgo => ?_
    refine wpAny_letOwnedTupleGo_zip b1 fun h4 c1 c2 => ?_
    have zlt : Z < s3.heap.objs.size := Heap.lt_size a1
    have hTz : s3.heap.objs.size ≠ Z := Nat.ne_of_gt zlt
    refine hgo h4 ⟨_, _, c1, ?_, c2.extBut _ _ D.TOz b2, b3.extBut c2.extBut D.i1z, b4.extBut c2.extBut D.i2z, ?_, ?_⟩ (fun c o hc e => ?_) (fun c o e => ?_) ⟨s3.heap.objs.size, _, _, rfl, Array.getElem?_eq_getElem h1, Array.getElem?_eq_getElem h2, get_none (k := 0), c2.extBut _ _ hTz b5⟩
    · exact c2.extBut _ _ D.TIz (b7 _ _ D.TIz D.TITO D.TIi1 D.TIi2 a2)
    · exact (a6.at fun o e => b7 _ o D.l1z D.l1TO D.l1i1 D.l1i2 e).extBut c2.extBut D.l1z
    · exact (a7.at fun o e => b7 _ o D.l2z D.l2TO D.l2i1 D.l2i2 e).extBut c2.extBut D.l2z
    · simp only [List.mem_cons, List.not_mem_nil, or_false, not_or] at hc
      exact c2.extBut _ _ hc.1 (b7 _ _ hc.1 hc.2.1 hc.2.2.1 hc.2.2.2 e)
    · by_cases q1 : c = Z
      · rw [q1]; exact ⟨_, c1⟩
      · by_cases q2 : c = TO
        · rw [q2]; exact ⟨_, c2.extBut _ _ D.TOz b2⟩
        · by_cases q3 : c = J1
          · rw [q3]; obtain ⟨o, e, _⟩ := b3; exact ⟨o, c2.extBut _ _ D.i1z e⟩
          · by_cases q4 : c = J2
            · rw [q4]; obtain ⟨o, e, _⟩ := b4; exact ⟨o, c2.extBut _ _ D.i2z e⟩
            · exact ⟨o, c2.extBut _ _ q1 (b7 _ _ q1 q2 q3 q4 e)⟩
  · rintro s3 Q3 E3 ⟨x0, y0, a1, a2, a3, a4, a5, a6, a7⟩ hQ
    refine wpAny_pyNext_zip_end hh D a1 a2 a3 a4 a5 a6 a7 ?_ fun h3 k => hQ h3 s3.toks fun c o hc e => ?_
    · exact m3.imp (fun e => Array.getElem?_eq_none (Nat.le_of_eq e.symm)) fun e => Array.getElem?_eq_none (Nat.le_of_eq e.symm)
    · simp only [List.mem_cons, List.not_mem_nil, or_false, not_or] at hc
      exact k _ _ hc.1 hc.2.1 hc.2.2.1 hc.2.2.2 e
  · rintro i s3 Q3 E3 ⟨x0, y0, a1, _⟩ hQ
    exact wpAny_pyIter_zip a1 hQ
theorem bi_zip (ok : Γ.Ok) {a b : Addr} {xs ys : List V} {t1 t2 : Expr} {kk : Nat} {pp : Pos} (ht : target = .Tuple [t1, t2] kk pp) (ha : H a = some (.list xs)) (hb : H b = some (.list ys)) (q : ∀ wr, (∀ z ∈ wr, H z = none) → Q (zipL xs ys) wr [a, b] H) : BI Γ target (.type "zip") [.ref a, .ref b] H Q R := by
  subst ht
  intro m s vals t r
  refine r.wE fun _ _ r0 r1 => ?_
  refine r0.rE ?_; refine r1.rE ?_
  obtain ⟨i1, n1, e1, rr1⟩ := t.sim.view a _ ha
  obtain ⟨i2, n2, e2, rr2⟩ := t.sim.view b _ hb
  have hl1 : s.heap.IsList a i1 := ⟨_, e1, rfl, n1, rfl⟩
  have hl2 : s.heap.IsList b i2 := ⟨_, e2, rfl, n2, rfl⟩
  refine call_zip_2 hl1 hl2 fun h' hz hTI hTO hi1 hi2 hsz kp => ?_
  refine wpAny_pyIter_zip hz ?_
  have la : @LT.lt Nat _ a s.heap.objs.size := Heap.lt_size e1
  have lb : @LT.lt Nat _ b s.heap.objs.size := Heap.lt_size e2
  have len1 : i1.size = xs.length := by rw [← rr1.length, Array.length_toList]
  have len2 : i2.size = ys.length := by rw [← rr2.length, Array.length_toList]
  have fr : ∀ k, s.heap.get? (s.heap.objs.size + k) = none := fun k => Heap.get?_none_of_le (Nat.le_add_right _ _)
  have wrl : ∀ c ∈ [s.heap.objs.size + 4, s.heap.objs.size + 3, s.heap.objs.size, s.heap.objs.size + 1], s.heap.get? c = none ∧ ∃ o, h'.get? c = some o := by
    intro c hc
    simp only [List.mem_cons, List.not_mem_nil, or_false] at hc
    rcases hc with rfl | rfl | rfl | rfl
    · exact ⟨fr 4, _, hz⟩
    · exact ⟨fr 3, _, hTO⟩
    · obtain ⟨o, e, _⟩ := hi1; exact ⟨fr 0, o, e⟩
    · obtain ⟨o, e, _⟩ := hi2; exact ⟨fr 1, o, e⟩
  refine ipost_grow (tk := s.toks) (lk := [a, b]) (xs := zipL xs ys) t kp
    (zip_iter ok.handled (zip_apart la lb) (i1 := i1) (i2 := i2) ?_ ?_ ?_) ⟨_, _, hz, hTI, hTO, hi1, hi2, (⟨_, kp _ _ e1, rfl, n1, rfl⟩ : Heap.IsList h' a i1), (⟨_, kp _ _ e2, rfl, n2, rfl⟩ : Heap.IsList h' b i2)⟩ wrl (fun c hc => ?_) (fun c hc => ?_) (fun i v x h0 h'' Hi hx hP hlv sk => ?_) (q _ fun c hc => t.sim.fresh (wrl c hc).1)
  · rw [zipL_length, len1]; exact Nat.min_le_left _ _
  · rw [zipL_length, len2]; exact Nat.min_le_right _ _
  · rw [zipL_length, len1, len2]; clear wrl; omega
  · simp only [List.mem_cons, List.not_mem_nil, or_false] at hc
    rcases hc with rfl | rfl
    · exact ⟨_, ha, (fun _ h => by cases h), fun _ h => by cases h⟩
    · exact ⟨_, hb, (fun _ h => by cases h), fun _ h => by cases h⟩
  · simp only [List.mem_cons, List.not_mem_nil, or_false] at hc
    rcases hc with rfl | rfl | rfl | rfl | rfl | rfl | rfl
    · exact .inl (by simp)
    · exact .inr (.inr ⟨t.sim.fresh (fr 2), _, _, _, hTI, rfl⟩)
    · exact .inl (by simp)
    · exact .inl (by simp)
    · exact .inl (by simp)
    · exact .inr (.inl (by simp))
    · exact .inr (.inl (by simp))
  · obtain ⟨T, x1, y1, rfl, g1, g2, g3, g4⟩ := hP
    obtain ⟨vx, vy, w1, w2, rfl⟩ := zipL_get hx
    refine .tup g4 rfl rfl ?_ (.cons ((rr1.get (by rw [Array.getElem?_toList]; exact g1) w1).seqK sk) (.cons ((rr2.get (by rw [Array.getElem?_toList]; exact g2) w2).seqK sk) .nil))
    cases z : Hi T with
    | none => rfl
    | some o => obtain ⟨ob, e⟩ := hlv T o z; rw [g3] at e; cases e

/-- the pairs that enumerate gives -/
noncomputable def enumL (xs : List V) : List V := xs.mapIdx fun i x => .tup [.int (i : Int), x]
theorem bi_enumerate (ok : Γ.Ok) {a : Addr} {xs : List V} {t1 t2 : Expr} {kk : Nat} {pp : Pos} (ht : target = .Tuple [t1, t2] kk pp) (ha : H a = some (.list xs)) (q : ∀ wr, (∀ z ∈ wr, H z = none) → Q (enumL xs) wr [a] H) : BI Γ target (.type "enumerate") [.ref a] H Q R := by
  subst ht
  intro m s vals t r
  refine r.oE fun _ r0 => ?_
  refine r0.rE ?_
  obtain ⟨i1, n1, e1, rr1⟩ := t.sim.view a _ ha
  have hl1 : s.heap.IsList a i1 := ⟨_, e1, rfl, n1, rfl⟩
  refine call_enumerate_1 e1 fun h' hz hi1 hsz kp => ?_
  refine wpAny_pyIter_enum hz ?_
  have la : @LT.lt Nat _ a s.heap.objs.size := Heap.lt_size e1
  have len1 : i1.size = xs.length := by rw [← rr1.length, Array.length_toList]
  generalize hZ : s.heap.objs.size + 1 = Z at *
  generalize hI1 : s.heap.objs.size = J1 at *
  have hZJ : Z ≠ J1 := by show @Ne Nat _ _; omega
  have haJ : a ≠ J1 := by show @Ne Nat _ _; omega
  have haZ : a ≠ Z := by show @Ne Nat _ _; omega
  have fr : ∀ c, J1 ≤ c → s.heap.get? c = none := fun c hc => Heap.get?_none_of_le (by rw [hI1]; exact hc)
  have wrl : ∀ c ∈ [Z, J1], s.heap.get? c = none ∧ ∃ o, h'.get? c = some o := by
    intro c hc
    simp only [List.mem_cons, List.not_mem_nil, or_false] at hc
    rcases hc with rfl | rfl
    · exact ⟨fr _ (by omega), _, hz⟩
    · obtain ⟨o, e, _⟩ := hi1; exact ⟨fr _ (by omega), o, e⟩
  have hlen : (enumL xs).length = i1.size := by unfold enumL; rw [List.length_mapIdx, len1]
  refine ipost_grow (tk := s.toks) (fp := [Z, J1, a]) (wr := [Z, J1]) (lk := [a]) (xs := enumL xs)
    (P := fun i v h0 h'' => ∃ T x tk, v = .ref T ∧ i1[i]? = some x ∧ h0.get? T = none ∧ h''.get? T = some { cls := .type "tuple", data := .seq #[.int i tk, x] })
    (S := fun i h => ∃ old, IsEnum h Z J1 i old ∧ h.IsListIter J1 a i ∧ h.IsList a i1) t kp
    ⟨?_, ?_, ?_, ?_, ?_⟩ ⟨_, hz, hi1, (⟨_, kp _ _ e1, rfl, n1, rfl⟩ : Heap.IsList h' a i1)⟩ wrl (fun c hc => ?_) (fun c hc => ?_) (fun i v x h0 h'' Hi hx hP hlv sk => ?_) (q _ fun c hc => t.sim.fresh (wrl c hc).1)
  · rintro i h h2 ⟨x, a1, a4, a6⟩ k
    exact ⟨x, k _ (by simp) _ a1, a4.at fun o e => k _ (by simp) o e, a6.at fun o e => k _ (by simp) o e⟩
  · intro c hc
    simp only [List.mem_cons, List.not_mem_nil, or_false] at hc ⊢
    rcases hc with h | h <;> simp [h]
  · rintro i s3 Q3 E3 hi ⟨x0, a1, a4, a6⟩ hQ
    rw [hlen] at hi
    refine wpAny_pyNext_enum_item a1 a4 a6 (Array.getElem?_eq_getElem hi) hZJ fun h3 b1 b2 b3 b4 b5 => ?_
    refine hQ _ _ (s3.toks + 1) fun Q4 E4 hgo => ?_
    refine wpAny_letOwnedTupleGo_enum b1 fun h4 c1 c2 => ?_
    have zlt : Z < s3.heap.objs.size := Heap.lt_size a1
    have hTz : s3.heap.objs.size ≠ Z := Nat.ne_of_gt zlt
    have c1' : IsEnum h4 Z J1 ((i + 1 : Nat) : Int) i1[i] := by push_cast; exact c1
    refine hgo h4 ⟨_, c1', b2.extBut c2.extBut hZJ.symm, ?_⟩ (fun c o hc e => ?_) (fun c o e => ?_) ⟨s3.heap.objs.size, _, _, rfl, Array.getElem?_eq_getElem hi, get_none (k := 0), c2.extBut _ _ hTz b3⟩
    · exact (a6.at fun o e => b5 _ o haZ haJ e).extBut c2.extBut haZ
    · simp only [List.mem_cons, List.not_mem_nil, or_false, not_or] at hc
      exact c2.extBut _ _ hc.1 (b5 _ _ hc.1 hc.2 e)
    · by_cases q1 : c = Z
      · rw [q1]; exact ⟨_, c1⟩
      · by_cases q3 : c = J1
        · rw [q3]; obtain ⟨o, e, _⟩ := b2; exact ⟨o, c2.extBut _ _ hZJ.symm e⟩
        · exact ⟨o, c2.extBut _ _ q1 (b5 _ _ q1 q3 e)⟩
  · rintro s3 Q3 E3 ⟨x0, a1, a4, a6⟩ hQ
    refine wpAny_pyNext_enum_end ok.handled a1 a4 a6 (by rw [hlen]; exact Array.getElem?_eq_none (Nat.le_refl _)) fun h3 k => hQ h3 s3.toks fun c o hc e => ?_
    simp only [List.mem_cons, List.not_mem_nil, or_false, not_or] at hc
    exact k _ _ hc.2 e
  · rintro i s3 Q3 E3 ⟨x0, a1, _⟩ hQ
    exact wpAny_pyIter_enum a1 hQ
  · rw [List.mem_singleton.mp hc]
    exact ⟨_, ha, (fun _ h => by cases h), fun _ h => by cases h⟩
  · simp only [List.mem_cons, List.not_mem_nil, or_false] at hc
    rcases hc with rfl | rfl | rfl
    · exact .inl (by simp)
    · exact .inl (by simp)
    · exact .inr (.inl (by simp))
  · obtain ⟨T, x1, tk, rfl, g1, g3, g4⟩ := hP
    unfold enumL at hx
    rw [List.getElem?_mapIdx] at hx
    cases w : xs[i]? with
    | none => rw [w] at hx; cases hx
    | some vx =>
      rw [w] at hx; cases hx
      refine .tup g4 rfl rfl ?_ (.cons (.int _ _) (.cons ((rr1.get (by rw [Array.getElem?_toList]; exact g1) w).seqK sk) .nil))
      cases z : Hi T with
      | none => rfl
      | some o => obtain ⟨ob, e⟩ := hlv T o z; rw [g3] at e; cases e
end

theorem noX {Γ : Cx} {H : AH} {s : Shared} {x : Value} {s' : Shared} (p : XPost Γ H s (fun _ _ => False) x s') : False := by
  obtain ⟨_, _, _, _, _, _, _, q⟩ := p; exact q
abbrev NoR : Int → AH → Prop := fun _ _ => False

/-- a loop's turns, whatever the loop: BD says what a turn's body must meet -/
def LoopRule (Γ : Cx) (target : Expr) (It : Addr) (code : Code) (BD : Locs → AH → (Locs → AH → Prop) → Prop) : Prop :=
  ∀ (I : Nat → Shared → Prop) (Rf : Result → Shared → Prop), (∀ n s E, I n s → wpAny (Mw Γ.w) Γ.A (pyNext (.ref It)) (fun r s1 => match r with
      | none => Rf (.ok .next) s1
      | some v => wpAny (Mw Γ.w) Γ.A (letOwnedTupleGo target (.ref It) v) (fun _ s1' => wpAny (Mw Γ.w) Γ.A (assign target Γ.env v) (fun _ s2 => ∃ m1 H2 P, St Γ m1 H2 s2 ∧ BD m1 H2 P ∧ ∀ s', APost Γ H2 s2 P s' → ∃ k, k < n ∧ I k s') E s1') E s1) E s) →
    ∀ n s, I n s → codeAny (Mw Γ.w) Γ.A code Rf s

theorem walk_loop {Γ : Cx} {m : Locs} {H : AH} {s s2 : Shared} {target : Expr} {Q : Locs → AH → Prop} {code : Code} {BD : Locs → AH → (Locs → AH → Prop) → Prop} {I : Addr} {H1 : AH} {xs : List V} {fp wr lk : List Addr} {P : Nat → Value → Heap → Heap → Prop} {S : Nat → Heap → Prop}
    (lr : LoopRule Γ target I code BD)
    (W : Iter Γ.w Γ.A target I fp wr xs.length P S) (S0 : S 0 s2.heap) (x1 : ExtW Γ.F Γ.own H s.heap (lockH H1 wr lk) s2.heap) (t2 : St Γ m (lockH H1 wr lk) s2)
    (hwr : ∀ b ∈ wr, s.heap.get? b = none ∧ H1 b = none) (hlk : ∀ a ∈ lk, (∃ o, H1 a = some o) ∧ ∀ l, H a ≠ some (.lock l))
    (hfp : ∀ b ∈ fp, (lockH H1 wr lk b = none ∧ b ∉ Γ.F ∧ ∃ o, s2.heap.get? b = some o ∧ (b ∈ Γ.own → ∃ items n, o.data = .seq items n)) ∨ ∃ l, lockH H1 wr lk b = some (.lock l))
    (hval : ∀ i v x h0 h'' (Hi : AH), xs[i]? = some x → P i v h0 h'' → (∀ a o, Hi a = some o → ∃ ob, h0.get? a = some ob) → SeqK (lockH H1 wr lk) s2.heap Hi h'' → Rel Hi h'' v x)
    (h : ∃ J : Nat → Locs → AH → Prop, J 0 m (lockH H1 wr lk) ∧
      (∀ i x mi Hi, xs[i]? = some x → J i mi Hi → Lk H1 wr lk Hi → AS Γ target x mi Hi (fun m1 H2 => BD m1 H2 (fun m3 H3 => J (i + 1) m3 H3))) ∧
      (∀ mn Hn, J xs.length mn Hn → Lk H1 wr lk Hn → Q mn (unl H1 wr lk Hn))) :
    codeAny (Mw Γ.w) Γ.A code (fun r s' => r = .ok .next ∧ APost Γ H s Q s') s2 := by
  obtain ⟨J, J0, hstep, hend⟩ := h
  have hwb : ∀ b ∈ wr, Γ.base.get? b = none := fun b hb => t2.sim.off b _ (lockH_wr hb)
  have hu0 : ∀ H, ∀ b ∈ wr, unl H1 wr lk H b = none := fun H b hb => if_pos hb
  have f2 : FpOk Γ (lockH H1 wr lk) s2.heap fp := fun b hb => by
    rcases hfp b hb with z | ⟨l, z⟩
    · exact .inl z
    · obtain ⟨o, e⟩ := (t2.sim.view b _ z).live; exact .inr ⟨l, o, z, e⟩
  have live2 : ∀ a, (a ∈ wr ∨ a ∈ lk) → ∃ l o, lockH H1 wr lk a = some (.lock l) ∧ s2.heap.get? a = some o := fun a ha => by
    by_cases q : a ∈ wr
    · obtain ⟨o, e⟩ := (t2.sim.view a _ (lockH_wr q)).live; exact ⟨_, o, lockH_wr q, e⟩
    · have z : a ∈ lk := ha.resolve_left q
      obtain ⟨o, e⟩ := (hlk a z).1
      obtain ⟨ob, e2⟩ := (t2.sim.view a _ (lockH_lk q z e)).live; exact ⟨_, ob, lockH_lk q z e, e2⟩
  refine lr (fun n sI => ∃ i mi Hi, i + n = xs.length ∧ J i mi Hi ∧ Lk H1 wr lk Hi ∧ ExtW Γ.F Γ.own H s.heap Hi sI.heap ∧ St Γ mi Hi sI ∧
      FpOk Γ Hi sI.heap fp ∧ S i sI.heap ∧ SeqK (lockH H1 wr lk) s2.heap Hi sI.heap ∧ (∀ a, (a ∈ wr ∨ a ∈ lk) → ∃ o, sI.heap.get? a = some o)) _ (fun n sI E hI => ?_) xs.length s2
    ⟨0, m, _, Nat.zero_add _, J0, Lk.self, x1, t2, f2, S0, fun a o items n e d z => ⟨⟨o.slots, e⟩, z⟩, fun a ha => by obtain ⟨_, o, _, e⟩ := live2 a ha; exact ⟨o, e⟩⟩
  obtain ⟨i, mi, Hi, hin, hJ, hl, xw, ti, fi, Si, sk, lv⟩ := hI
  have fresh : ∀ b ∈ wr, s.heap.get? b = none := fun b hb => (hwr b hb).1
  have see : ∀ {h'}, (∀ b o, b ∉ wr → sI.heap.get? b = some o → h'.get? b = some o) → (∀ b o, sI.heap.get? b = some o → ∃ o', h'.get? b = some o') → ExtW Γ.F Γ.own H s.heap Hi h' := fun k al =>
    ⟨fun a o e z w => by
      obtain ⟨sl, e1, f1⟩ := xw.keep a o e z w
      exact ⟨sl, k a _ (fun q => by rw [fresh a q] at e; cases e) e1, f1⟩, xw.none, fun a o e => by obtain ⟨o', e'⟩ := xw.alive a o e; exact al a o' e',
     fun a l o z e => by
      obtain ⟨e1, z1⟩ := xw.lock a l o z e
      exact ⟨k a o (fun q => by rw [fresh a q] at e; cases e) e1, z1⟩⟩
  have unlW : ∀ {H' h'}, Lk H1 wr lk H' → ExtW Γ.F Γ.own H s.heap H' h' → ExtW Γ.F Γ.own H s.heap (unl H1 wr lk H') h' := fun {H' h'} l x => by
    have e := l.eq
    refine ⟨x.keep, fun a o e1 z => ?_, x.alive, fun a l' o z e1 => ?_⟩
    · have := x.none a o e1 z
      rw [← e] at this
      exact (lockH_none this).2
    · obtain ⟨e2, z1⟩ := x.lock a l' o z e1
      refine ⟨e2, ?_⟩
      have q : a ∉ wr := fun q => by rw [fresh a q] at e1; cases e1
      by_cases z2 : a ∈ lk
      · exact absurd z ((hlk a z2).2 l')
      · unfold unl; rw [if_neg q, if_neg z2]; exact z1
  cases n with
  | zero =>
    have : i = xs.length := by omega
    subst this
    refine W.done sI _ _ Si fun h' tk k => ?_
    rw [← hl.eq] at ti
    have t' := ti.walkedOut (tk := tk) (hu0 Hi) hwb k
    have nw : ∀ a o, s.heap.get? a = some o → a ∉ wr := fun a o e q => by rw [fresh a q] at e; cases e
    have u := unlW hl xw
    refine ⟨rfl, mi, _, ⟨fun a o e z w => ?_, u.none, fun a o e => ?_, fun a l o z e => ?_⟩, t', hend _ _ hJ hl⟩
    · obtain ⟨sl, e1, f1⟩ := xw.keep a o e z w
      exact ⟨sl, k a _ (nw a o e) e1, f1⟩
    · obtain ⟨o', e'⟩ := xw.alive a o e; exact ⟨o', k a o' (nw a o e) e'⟩
    · obtain ⟨e1, z1⟩ := u.lock a l o z e
      exact ⟨k a o (nw a o e) e1, z1⟩
  | succ n =>
    have hi : i < xs.length := by omega
    obtain ⟨x, hx⟩ : ∃ x, xs[i]? = some x := ⟨xs[i], List.getElem?_eq_getElem hi⟩
    refine W.item i sI _ _ hi Si fun v h' tk hgo => ?_
    refine hgo _ _ fun h'' S1 k al hP => ?_
    obtain ⟨t', sk'⟩ := ti.walked (tk := tk) (fun b hb => hl.1 b hb) hwb k al
    have rel : Rel Hi h'' v x := hval i v x sI.heap h'' _ hx hP (fun a o e => (ti.sim.view a o e).live) (sk.trans sk')
    have xf := see k al
    have ff : FpOk Γ Hi h'' fp := fun b hb => by
      by_cases q : b ∈ wr
      · obtain ⟨o, e⟩ := (t'.sim.view b _ (hl.1 b q)).live
        exact .inr ⟨.it, o, hl.1 b q, e⟩
      · rcases fi b hb with ⟨z, nf, o, e, w⟩ | ⟨l, o, z, e⟩
        · exact .inl ⟨z, nf, o, k b o q e, w⟩
        · exact .inr ⟨l, o, z, k b o q e⟩
    refine wpAny_mono (hstep i x mi Hi hx hJ hl { sI with heap := h'', toks := tk } v _ t' rel) (fun _ s3 p => ?_) fun _ _ z => z
    obtain ⟨m1, H3, x3, t3, q3⟩ := p
    refine ⟨m1, H3, _, t3, q3, fun s4 p => ?_⟩
    obtain ⟨m4, H4, x4, t4, q4⟩ := p
    have xs4 := (xf.trans x3).trans x4
    have x34 : ExtW Γ.F Γ.own Hi h'' H4 s4.heap := ExtW.trans x3 x4
    have l4 : Lk H1 wr lk H4 := ⟨fun b hb => by
        obtain ⟨o, e⟩ := lv b (.inl hb)
        obtain ⟨o', e'⟩ := al b o e
        exact (x34.lock b _ o' (hl.1 b hb) e').2, fun a ha hn => by
        obtain ⟨o, e⟩ := lv a (.inr ha)
        obtain ⟨o', e'⟩ := al a o e
        obtain ⟨oo, eo⟩ := (hlk a ha).1
        have z := hl.2 a ha hn
        rw [eo] at z ⊢
        exact (x34.lock a _ o' z e').2⟩
    have lv4 : ∀ a, (a ∈ wr ∨ a ∈ lk) → ∃ o, s4.heap.get? a = some o := fun a ha => by
      obtain ⟨o, e⟩ := lv a ha
      obtain ⟨o', e'⟩ := al a o e
      exact x34.alive a o' e'
    obtain ⟨f4, k4⟩ := ff.extW x34
    exact ⟨n, Nat.lt_succ_self n, i + 1, m4, _, by omega, q4, l4, xs4, t4, f4, W.frame _ _ _ S1 k4, (sk.trans sk').trans x34.seqK, lv4⟩

/-- the tests of a comprehension -/
def TVs (Γ : Cx) : List Expr → Locs → AH → (Bool → AH → Prop) → Prop
  | [], _, H, B => B true H
  | [c], m, H, B => TV Γ c m H B NoR
  | _, _, _, _ => False

/-- a comprehension's turn: the tests, then the item is appended -/
def BDs (Γ : Cx) (D : Addr) (ifs : List Expr) (elt : Expr) (m : Locs) (H : AH) (P : Locs → AH → Prop) : Prop :=
  TVs Γ ifs m H fun b H1 => if b then EV Γ elt m H1 (fun v H2 => ∃ acc, H2 D = some (.list acc) ∧ acc.length < 1000000 ∧ P m (H2.set D (.list (acc ++ [v])))) NoR else P m H1

theorem St.listSet {Γ : Cx} {m : Locs} {H : AH} {s : Shared} {D : Addr} {acc acc' : List V} {h' : Heap} {tk : Nat} (t : St Γ m H s) (hD : H D = some (.list acc)) (hs : Heap.SameBut D s.heap h') {items : Array Value} {n : Nat} (e : h'.get? D = some { cls := .type "list", data := .seq items n }) (r : RelAll H s.heap items.toList acc') :
    St Γ m (H.set D (.list acc')) { s with heap := h', toks := tk } ∧ Ext Γ.F H s.heap (H.set D (.list acc')) h' := by
  have nD : ∀ a, H a = none → a ≠ D := fun a z q => by rw [q, hD] at z; cases z
  have kp : ∀ a o, a ≠ D → s.heap.get? a = some o → h'.get? a = some o := fun a o n e => hs.extBut a o n e
  have ext : Ext Γ.F H s.heap (H.set D (.list acc')) h' := ⟨fun a o e z => ⟨o.slots, kp a o (nD a z) e, fun _ => rfl⟩, fun a o _ z => by rw [AH.set_ne _ _ (nD a z)]; exact z, fun a o e => by
      by_cases q : a = D
      · exact ⟨_, q ▸ ‹h'.get? D = _›⟩
      · exact ⟨o, kp a o q e⟩, fun a l o z e => by
      have q : a ≠ D := fun q => by rw [q, hD] at z; cases z
      exact ⟨kp a o q e, by rw [AH.set_ne _ _ q]; exact z⟩⟩
  have sim : Sim Γ.w Γ.base Γ.os (H.set D (.list acc')) { s with heap := h', toks := tk } := by
    refine t.sim.step ext.seqK (fun b o e => kp b o (fun q => by have := t.sim.off D _ hD; rw [← q, e] at this; cases this) (t.sim.stays b o e)) [D] (fun b ob o hb hn e => ?_) fun a o ea => ?_
    · have q : b ≠ D := fun q => hn (List.mem_singleton.mpr q)
      exact ⟨kp b ob q e, by rw [AH.set_ne _ _ q]; exact hb⟩
    · by_cases q : a = D
      · subst q; rw [AH.set_self] at ea; cases ea
        exact .inr ⟨⟨items, n, e, r.ext ext⟩, t.sim.off a _ hD⟩
      · rw [AH.set_ne _ _ q] at ea
        exact .inl ⟨ea, fun z => q (List.mem_singleton.mp z), fun dx hx z => by rw [List.mem_singleton.mp z, hD] at hx; cases hx⟩
  exact ⟨t.ext ext sim, ext⟩

/-- list.append on a list that H holds -/
theorem wp_append {Γ : Cx} {m : Locs} {H : AH} {s : Shared} {D : Addr} {acc : List V} {x : Value} {v : V} {Q : Value → Shared → Prop} {E : Value → Shared → Prop} (t : St Γ m H s) (hD : H D = some (.list acc)) (hsz : acc.length < 1000000) (r : Rel H s.heap x v)
    (h : ∀ h', St Γ m (H.set D (.list (acc ++ [v]))) { s with heap := h' } → Ext Γ.F H s.heap (H.set D (.list (acc ++ [v]))) h' → Q .none { s with heap := h' }) : wpAny (Mw Γ.w) Γ.A (call (.builtin "list.append") [.ref D, x]) Q E s := by
  obtain ⟨items, n, e, rr⟩ := t.sim.view D _ hD
  have hl : s.heap.IsList D items := ⟨_, e, rfl, n, rfl⟩
  have hlen : items.size = acc.length := by rw [← rr.length, Array.length_toList]
  have hd' := Obj.data_mapSeq (o := { cls := .type "list", data := .seq items n }) rfl (·.push x)
  refine wpAny_call_entry slot_list_append hl.typeIs entry_list_append ?_ (args_list_append _ _)
  show wpAny _ _ (updateSeq D (·.push x) >>= fun _ => ret .none) _ _ s
  refine wpAny_bind ?_
  refine wpAny_updateSeq e rfl (wpAny_pure ⟨.none, rfl, ?_⟩) (by rw [hlen]; exact Nat.le_trans (Nat.le_of_lt hsz) (by decide)) (by rw [Array.size_push, hlen]; exact Nat.le_trans (Nat.succ_le_of_lt hsz) (by decide))
  have hs : Heap.SameBut D s.heap (s.heap.update D (Obj.mapSeq (·.push x))) := Heap.SameBut.update ..
  obtain ⟨n', hd'⟩ := hd'
  have g : (s.heap.update D (Obj.mapSeq (·.push x))).get? D = some { cls := .type "list", data := .seq (items.push x) n' } := by
    rw [Heap.get?_update_self _ e (Obj.isFreed_of_seq hd')]
    have hc := Obj.cls_mapSeq ({ cls := .type "list", data := .seq items n } : Obj) (·.push x)
    show some (Obj.mapSeq (·.push x) { cls := .type "list", data := .seq items n }) = _
    have : (Obj.mapSeq (·.push x) { cls := .type "list", data := .seq items n } : Obj) = { cls := .type "list", data := .seq (items.push x) n' } := by
      simp only [Obj.mapSeq] at hd' ⊢
      simpa using hd'
    rw [this]
  have rl : RelAll H s.heap (items.push x).toList (acc ++ [v]) := by
    rw [Array.toList_push]
    have key : ∀ (vs : List Value) (xs : List V), RelAll H s.heap vs xs → RelAll H s.heap (vs ++ [x]) (xs ++ [v]) := by
      intro vs
      induction vs with
      | nil => intro xs r0; cases r0; exact .cons r .nil
      | cons a vs ih => intro xs r0; cases r0 with | cons r1 r2 => exact .cons r1 (ih _ r2)
    exact key _ _ rr
  obtain ⟨t', x'⟩ := t.listSet (tk := s.toks) hD hs g rl
  exact h _ t' x'

abbrev TP (code : Code) (Rf : Result → Shared → Prop) (I : Nat → Shared → Prop) (n : Nat) : PySem.Fin → Shared → Prop := fun fin s' => match fin with | .done f => Rf (.ok f) s' | .again c' => c' = code ∧ ∃ m, m < n ∧ I m s'
section
variable {Γ : Cx}
theorem loop_list1 {target elt iter : Expr} {ifs : List Expr} {scope : Scope} {pos : Pos} {It D : Addr} : LoopRule Γ target It (.compLoop (.ListComp elt [⟨target, iter, ifs, 0⟩] scope pos) 0 (.ref It) (.ref D) Γ.env) (BDs Γ D ifs elt) := by
  intro I Rf turn n s hI
  refine codeAny_loop rfl I (fun n s hI => ?_) n hI
  show wpAny _ Γ.A ((compTurn (.ListComp elt [⟨target, iter, ifs, 0⟩] scope pos) 0 (.ref It) (.ref D) Γ.env).onRaise (fun x => do noteFrame x Γ.env; theTreesLotGoes x)) _ _ s
  refine wpAny_noted ?_
  rw [compTurn_list]
  refine wpAny_bind (wpAny_standAt (wpAny_bind (wpAny_mono (turn n s _ hI) (fun r s₁ h₁ => ?_) fun _ _ h' => h')))
  cases r with
  | none => exact wpAny_pure h₁
  | some v =>
    refine wpAny_bind (wpAny_mono h₁ (fun _ s2 h2 => wpAny_bind (wpAny_mono h2 (fun _ s3 h3 => ?_) fun _ _ h' => h')) fun _ _ h' => h')
    obtain ⟨m1, H2, P, t, bd, fin⟩ := h3
    refine wpAny_bind ?_
    have after : ∀ (ok : Bool) s4 H4, St Γ m1 H4 s4 → Ext Γ.F H2 s3.heap H4 s4.heap → (if ok then EV Γ elt m1 H4 (fun v H2 => ∃ acc, H2 D = some (.list acc) ∧ acc.length < 1000000 ∧ P m1 (H2.set D (.list (acc ++ [v])))) NoR else P m1 H4) →
        wpAny (Mw Γ.w) Γ.A (if ok = true then (do let _ ← (do let _ ← call (.builtin "list.append") [.ref D, ← eval elt Γ.env]); again (.compLoop (.ListComp elt [⟨target, iter, ifs, 0⟩] scope pos) 0 (.ref It) (.ref D) Γ.env)) else again (.compLoop (.ListComp elt [⟨target, iter, ifs, 0⟩] scope pos) 0 (.ref It) (.ref D) Γ.env))
          (TP (.compLoop (.ListComp elt [⟨target, iter, ifs, 0⟩] scope pos) 0 (.ref It) (.ref D) Γ.env) Rf I n) (notedBy (Mw Γ.w) Γ.A Γ.env fun e s' => Rf (.error e) s') s4 := by
      intro ok s4 H4 t4 x4 h
      cases ok with
      | false =>
        refine wpAny_pure ⟨rfl, fin s4 ⟨m1, H4, x4.w, t4, h⟩⟩
      | true =>
        refine wpAny_bind (wpAny_bind (wpAny_mono (h s4 t4) (fun x s5 p => ?_) fun _ _ z => (noX z).elim))
        obtain ⟨v, H5, x5, y5, r5, acc, hD, hsz, q⟩ := p
        refine wpAny_bind (wp_append (t4.ext x5 y5) hD hsz r5 fun h' t6 x6 => wpAny_pure (wpAny_pure ⟨rfl, fin _ ⟨m1, _, ((x4.trans x5).trans x6).w, t6, q⟩⟩))
    cases ifs with
    | nil => exact wpAny_tests_nil (after true s3 H2 t .refl bd)
    | cons c l =>
      cases l with
      | cons d l => exact bd.elim
      | nil =>
        refine wpAny_tests_one (wpAny_mono (bd s3 t) (fun b s4 p => ?_) fun _ _ z => (noX z).elim)
        obtain ⟨H4, x4, y4, q⟩ := p
        exact after b s4 H4 (t.ext x4 y4) x4 q

theorem compTurn_two1 (elt t0 i0 t1 i1 : Expr) (scope : Scope) (pos : Pos) (it acc : Value) (env : Env) :
    compTurn (.ListComp elt [⟨t0, i0, [], 0⟩, ⟨t1, i1, [], 0⟩] scope pos) 1 it acc env = (standAt i1.pos >>= fun _ => pyNext it >>= fun r => match r with
      | none => pure (.done .next)
      | some v => letOwnedTupleGo t1 it v >>= fun _ => assign t1 env v >>= fun _ =>
        (eval elt env >>= fun x => call (.builtin "list.append") [acc, x] >>= fun _ => pure ()) >>= fun _ =>
          again (.compLoop (.ListComp elt [⟨t0, i0, [], 0⟩, ⟨t1, i1, [], 0⟩] scope pos) 1 it acc env)) := by rfl
theorem compTurn_two0 (elt t0 i0 t1 i1 : Expr) (scope : Scope) (pos : Pos) (it acc : Value) (env : Env) :
    compTurn (.ListComp elt [⟨t0, i0, [], 0⟩, ⟨t1, i1, [], 0⟩] scope pos) 0 it acc env = (standAt i0.pos >>= fun _ => pyNext it >>= fun r => match r with
      | none => pure (.done .next)
      | some v => letOwnedTupleGo t0 it v >>= fun _ => assign t0 env v >>= fun _ => eval i1 env >>= fun x => standAt i1.pos >>= fun _ => foldedSetIterable i1 env x >>= fun x => holding [x] (pyIter x) >>= fun y =>
        runOwn (.compStart (.ListComp elt [⟨t0, i0, [], 0⟩, ⟨t1, i1, [], 0⟩] scope pos) 1 y acc env) env >>= fun _ =>
          again (.compLoop (.ListComp elt [⟨t0, i0, [], 0⟩, ⟨t1, i1, [], 0⟩] scope pos) 0 it acc env)) := by rfl

theorem codeAny_compStart_two {prog : Program} {w : World} {A : Around} {R : Result → Shared → Prop} {s : Shared} {elt t0 i0 t1 i1 scope pos it acc env}
    (h0 : codeAny (model prog w) A (.compLoop (.ListComp elt [⟨t0, i0, [], 0⟩, ⟨t1, i1, [], 0⟩] scope pos) 1 it acc env) R s)
    (h : wpAny (model prog w) A (pyIter it) (fun it' s' => codeAny (model prog w) A (.compLoop (.ListComp elt [⟨t0, i0, [], 0⟩, ⟨t1, i1, [], 0⟩] scope pos) 1 it' acc env) R s')
      (notedBy (model prog w) A env fun x s' => R (.error x) s') s) :
    codeAny (model prog w) A (.compStart (.ListComp elt [⟨t0, i0, [], 0⟩, ⟨t1, i1, [], 0⟩] scope pos) 1 it acc env) R s := by
  refine codeAny_of_tree ?_
  show wpAny _ _ ((compStart (.ListComp elt [⟨t0, i0, [], 0⟩, ⟨t1, i1, [], 0⟩] scope pos) 1 it acc env).onRaise (fun x => do noteFrame x env; standAt theWindowsPlace)) _ _ s
  refine wpAny_notedAt ?_
  unfold compStart
  show wpAny _ _ (ask >>= _) _ _ s
  refine wpAny_bind (wpAny_askSetting (wpAny_ite ?_))
  split
  · first
      | exact wpAny_bind (wpAny_pure (wpAny_pure (And.intro rfl h0)))
      | exact wpAny_pure (And.intro rfl h0)
  · first
      | exact wpAny_bind (wpAny_rule (wpAny_bind (wpAny_standAt (wpAny_bind (wpAny_mono h (fun it' s' h' => wpAny_pure (And.intro rfl h')) fun _ _ x => x)))))
      | (refine wpAny_bind (wpAny_rule ?_); show wpAny _ _ (standAt i1.pos >>= _) _ _ s; exact wpAny_bind (wpAny_standAt (wpAny_bind (wpAny_mono h (fun it' s' h' => wpAny_pure (And.intro rfl h')) fun _ _ x => x))))

theorem loop_inner {t0 i0 t1 i1 elt : Expr} {scope : Scope} {pos : Pos} {It D : Addr} : LoopRule Γ t1 It (.compLoop (.ListComp elt [⟨t0, i0, [], 0⟩, ⟨t1, i1, [], 0⟩] scope pos) 1 (.ref It) (.ref D) Γ.env) (BDs Γ D [] elt) := by
  intro I Rf turn n s hI
  refine codeAny_loop rfl I (fun n s hI => ?_) n hI
  show wpAny _ Γ.A ((compTurn (.ListComp elt [⟨t0, i0, [], 0⟩, ⟨t1, i1, [], 0⟩] scope pos) 1 (.ref It) (.ref D) Γ.env).onRaise (fun x => do noteFrame x Γ.env; theTreesLotGoes x)) _ _ s
  refine wpAny_noted ?_
  rw [compTurn_two1]
  refine wpAny_bind (wpAny_standAt (wpAny_bind (wpAny_mono (turn n s _ hI) (fun r s₁ h₁ => ?_) fun _ _ h' => h')))
  cases r with
  | none => exact wpAny_pure h₁
  | some v =>
    refine wpAny_bind (wpAny_mono h₁ (fun _ s2 h2 => wpAny_bind (wpAny_mono h2 (fun _ s3 h3 => ?_) fun _ _ h' => h')) fun _ _ h' => h')
    obtain ⟨m1, H2, P, t, bd, fin⟩ := h3
    have bd : EV Γ elt m1 H2 (fun v H2 => ∃ acc, H2 D = some (.list acc) ∧ acc.length < 1000000 ∧ P m1 (H2.set D (.list (acc ++ [v])))) NoR := bd
    refine wpAny_bind (wpAny_bind (wpAny_mono (bd s3 t) (fun x s5 p => ?_) fun _ _ z => (noX z).elim))
    obtain ⟨v, H5, x5, y5, r5, acc, hD, hsz, q⟩ := p
    exact wpAny_bind (wp_append (t.ext x5 y5) hD hsz r5 fun h' t6 x6 => wpAny_pure (wpAny_pure ⟨rfl, fin _ ⟨m1, _, (x5.trans x6).w, t6, q⟩⟩))

/-- the outer turn of a comprehension with two clauses -/
def BD2 (Γ : Cx) (D : Addr) (t1 i1 elt : Expr) (m : Locs) (H : AH) (P : Locs → AH → Prop) : Prop :=
  IV Γ t1 i1 m H (fun xs wr lk H1 => ∃ J : Nat → Locs → AH → Prop, J 0 m (lockH H1 wr lk) ∧
      (∀ i x mi Hi, xs[i]? = some x → J i mi Hi → Lk H1 wr lk Hi → AS Γ t1 x mi Hi (fun m1 H2 => BDs Γ D [] elt m1 H2 (fun m3 H3 => J (i + 1) m3 H3))) ∧
      (∀ mn Hn, J xs.length mn Hn → Lk H1 wr lk Hn → P mn (unl H1 wr lk Hn))) NoR

theorem loop_outer {t0 i0 t1 i1 elt : Expr} {scope : Scope} {pos : Pos} {It D : Addr} (hs : ∀ env x, foldedSetIterable i1 env x = pure x := by intro _ _; rfl) :
    LoopRule Γ t0 It (.compLoop (.ListComp elt [⟨t0, i0, [], 0⟩, ⟨t1, i1, [], 0⟩] scope pos) 0 (.ref It) (.ref D) Γ.env) (BD2 Γ D t1 i1 elt) := by
  intro I Rf turn n s hI
  refine codeAny_loop rfl I (fun n s hI => ?_) n hI
  show wpAny _ Γ.A ((compTurn (.ListComp elt [⟨t0, i0, [], 0⟩, ⟨t1, i1, [], 0⟩] scope pos) 0 (.ref It) (.ref D) Γ.env).onRaise (fun x => do noteFrame x Γ.env; theTreesLotGoes x)) _ _ s
  refine wpAny_noted ?_
  rw [compTurn_two0]
  refine wpAny_bind (wpAny_standAt (wpAny_bind (wpAny_mono (turn n s _ hI) (fun r s₁ h₁ => ?_) fun _ _ h' => h')))
  cases r with
  | none => exact wpAny_pure h₁
  | some v =>
    refine wpAny_bind (wpAny_mono h₁ (fun _ s2 h2 => wpAny_bind (wpAny_mono h2 (fun _ s3 h3 => ?_) fun _ _ h' => h')) fun _ _ h' => h')
    obtain ⟨m1, H2, P, t, bd, fin⟩ := h3
    refine wpAny_bind (wpAny_mono (bd s3 t) (fun x s4 h4 => ?_) fun _ _ z => (noX z).elim)
    refine wpAny_bind (wpAny_standAt ?_)
    rw [hs]
    refine wpAny_bind (wpAny_pure (wpAny_bind (wpAny_holding (wpAny_mono h4 (fun it s5 h5 => ?_) fun _ _ z => (noX z).elim))))
    obtain ⟨I2, H1, xs, fp, wr, lk, P2, S, rfl, W, S0, x1, y1, hwr, hlk, hfp, hval, hJ⟩ := h5
    refine wpAny_bind (wpAny_runOwn ?_)
    show codeAny (Mw Γ.w) Γ.A _ _ _
    have wl := walk_loop (s := s3) (Q := P) (loop_inner (t0 := t0) (i0 := i0) (i1 := i1) (scope := scope) (pos := pos) (D := D)) W S0 x1.w (t.ext x1 y1) hwr hlk hfp hval hJ
    refine codeAny_compStart_two (codeAny_mono wl ?_) (W.self 0 _ _ _ S0 (codeAny_mono wl ?_))
    · rintro r s6 ⟨rfl, p⟩; exact wpAny_pure ⟨rfl, fin _ p⟩
    · rintro r s6 ⟨rfl, p⟩; exact wpAny_pure ⟨rfl, fin _ p⟩
end

theorem Sim.newAt {w base os H} {s : Shared} {D : Addr} {o : AO} {h' : Heap} {tk : Nat} (y : Sim w base os H s) (k : ∀ b ob, s.heap.get? b = some ob → h'.get? b = some ob) (hD : s.heap.get? D = none) (mt : Matches w (H.set D o) h' D o) (ho : ∀ x, o ≠ .aux x := by intro _ h; cases h) :
    Sim w base os (H.set D o) { s with heap := h', toks := tk } ∧ ∀ F, Ext F H s.heap (H.set D o) h' := by
  have hH : H D = none := y.fresh hD
  have ne : ∀ a ob, s.heap.get? a = some ob → a ≠ D := fun a ob e q => by rw [q, hD] at e; cases e
  have ext : ∀ F, Ext F H s.heap (H.set D o) h' := fun F => ⟨fun a ob e _ => ⟨ob.slots, k a ob e, fun _ => rfl⟩, fun a ob e z => by rw [AH.set_ne _ _ (ne a ob e)]; exact z, fun a ob e => ⟨ob, k a ob e⟩, fun a l ob z e => ⟨k a ob e, by rw [AH.set_ne _ _ (ne a ob e)]; exact z⟩⟩
  refine ⟨y.step (ext []).seqK (fun b ob e => k b ob (y.stays b ob e)) [] (fun b ob o2 hb _ e => ⟨k b ob e, by rw [AH.set_ne _ _ (ne b ob e)]; exact hb⟩) fun a o2 ea => ?_, ext⟩
  by_cases q : a = D
  · subst q; rw [AH.set_self] at ea; cases ea
    refine .inr ⟨mt, ?_⟩
    cases z : base.get? a with
    | none => rfl
    | some ob => have := y.stays a ob z; rw [hD] at this; cases this
  · rw [AH.set_ne _ _ q] at ea
    exact .inl ⟨ea, (fun h => (nomatch h)), fun _ _ h => (nomatch h)⟩

noncomputable abbrev Cx.comp (Γ : Cx) (scope : Scope) (cl : List (Str × Addr)) (C : Addr) : Cx := { Γ with env := compEnvC scope cl C Γ.env, own := [C] }

/-- what a comprehension sees of what is around it -/
structure Caps (Γ : Cx) (scope : Scope) (cl : List (Str × Addr)) (m cap : Locs) : Prop where
  get : ∀ x v, cap.lookup x = some v → m.lookup x = some v ∧ Γ.env.kindOf x ≠ some .local ∧ ((relabel scope Γ.env).names.lookup x = some .cell ∨ (relabel scope Γ.env).names.lookup x = some .free) ∧ cl.lookup x = Γ.env.cells.lookup x
  cells : ∀ x c, (relabel scope Γ.env).names.lookup x = some .cell → cl.lookup x = some c → Γ.env.kindOf x = some .cell ∧ Γ.env.cells.lookup x = some c

theorem Caps.nil {Γ : Cx} {scope : Scope} {m : Locs} : Caps Γ scope [] m [] := ⟨(fun _ _ h => by cases h), fun _ _ _ h => by cases h⟩

inductive CFin (Γ : Cx) (H : AH) (s : Shared) (Q : V → AH → Prop) (C D : Addr) (s' : Shared) : Prop
  | mk (Hn : AH) (x : Ext Γ.F H s.heap Hn s'.heap) (y : Sim Γ.w Γ.base Γ.os Hn s') (q : Q (.ref D) Hn) (n : ∃ m, s'.heap.Ns C m) (a : Hn C = none) (b : s.heap.get? C = none) (c : Γ.base.get? C = none)

theorem CFin.ns {Γ : Cx} {H : AH} {s : Shared} {Q : V → AH → Prop} {C D : Addr} {s' : Shared} (f : CFin Γ H s Q C D s') : ∃ m, s'.heap.Ns C m := by obtain ⟨_, _, _, _, n, _⟩ := f; exact n
def CompLoopOb (Γ : Cx) (scope : Scope) (cl : List (Str × Addr)) (target : Expr) (cap : Locs) (BD : Addr → Addr → Locs → AH → (Locs → AH → Prop) → Prop) (Q : V → AH → Prop) (xs : List V) (wr lk : List Addr) (H1 : AH) : Prop :=
  ∀ C D, OwnL (Γ.comp scope cl C) → H1 D = none → D ∉ wr → D ∉ lk → ∃ J : Nat → Locs → AH → Prop, J 0 cap (lockH (H1.set D (.list [])) wr lk) ∧
    (∀ i x mi Hi, xs[i]? = some x → J i mi Hi → Lk (H1.set D (.list [])) wr lk Hi → AS (Γ.comp scope cl C) target x mi Hi (fun m1 H2 => BD C D m1 H2 (fun m3 H3 => J (i + 1) m3 H3))) ∧
    (∀ mn Hn, J xs.length mn Hn → Lk (H1.set D (.list [])) wr lk Hn → Q (.ref D) (unl (H1.set D (.list [])) wr lk Hn))

theorem comp_core {Γ : Cx} {m cap : Locs} {H : AH} {s s2 : Shared} {target e : Expr} {scope : Scope} {cl : List (Str × Addr)} {BD : Addr → Addr → Locs → AH → (Locs → AH → Prop) → Prop} {Q : V → AH → Prop} {it : Value} {E : Value → Shared → Prop} (ok : Γ.Ok)
    (hcell : ∀ y ∈ scope.names, y.2 ≠ .cell) (hkind : scope.kind = .function) (hc : Caps Γ scope cl m cap)
    (lr : ∀ C D It, LoopRule (Γ.comp scope cl C) target It (.compLoop e 0 (.ref It) (.ref D) (compEnvC scope cl C Γ.env)) (BD C D))
    (sr : ∀ it acc env R s, codeAny (Mw Γ.w) Γ.A (.compLoop e 0 it acc env) R s → wpAny (Mw Γ.w) Γ.A (pyIter it) (fun it' s' => codeAny (Mw Γ.w) Γ.A (.compLoop e 0 it' acc env) R s') (notedBy (Mw Γ.w) Γ.A env fun x s' => R (.error x) s') s → codeAny (Mw Γ.w) Γ.A (.compStart e 0 it acc env) R s)
    (t : St Γ m H s) (p : IPost Γ target H s (CompLoopOb Γ scope cl target cap BD Q) it s2) (RR : Value → Addr → Result → Shared → Prop)
    (hRR : ∀ C D s', CFin Γ H s Q C D s' → RR (.ref D) C (.ok .next) s') :
    wpAny (Mw Γ.w) Γ.A (newList []) (fun acc s₃ => wpAny (Mw Γ.w) Γ.A (newFunctionEnv scope Γ.env.globals cl [] Γ.env.qual none .none (some Γ.env)) (fun cenv s₄ =>
      codeAny (Mw Γ.w) Γ.A (.compStart e 0 it acc { cenv with scope := relabel scope Γ.env }) (RR acc cenv.locals) s₄) E s₃) E s2 := by
  obtain ⟨I, H1, xs, fp, wr, lk, P2, S, rfl, W, S0, x1, y1, hwr, hlk, hfp, hval, hJ⟩ := p
  refine wpAny_newObj_type (wpAny_newFunctionEnv hcell (by intro y hy; simp at hy) (fun h₁ hns₁ hsb₁ => ?_) hkind)
  dsimp only at hns₁ hsb₁ ⊢
  generalize hH2 : s2.heap.push { cls := .type "list", dict := none, data := .seq ([] : List Value).toArray } = H2 at hns₁ hsb₁ ⊢
  have hC : H2.objs.size = s2.heap.objs.size + 1 := by rw [← hH2, Heap.size_push]
  have hDC : s2.heap.objs.size ≠ H2.objs.size := by rw [hC]; exact Nat.ne_of_lt (Nat.lt_succ_self _)
  have below : ∀ b, b < s2.heap.objs.size → b ≠ H2.objs.size := fun b hb => by rw [hC]; exact Nat.ne_of_lt (Nat.lt_succ_of_lt hb)
  have old : ∀ b o, s2.heap.get? b = some o → h₁.get? b = some o := fun b o e => hsb₁.extBut b o (below b (Heap.lt_size e)) (Heap.get?_push_of_some _ (hH2 ▸ Heap.get?_push_of_some _ e))
  have hDo : h₁.get? s2.heap.objs.size = some { cls := .type "list", data := .seq #[] } := hsb₁.extBut _ _ hDC (Heap.get?_push_of_some _ (hH2 ▸ Heap.get?_push_size _ rfl))
  have hDn : s2.heap.get? s2.heap.objs.size = none := get_none (k := 0)
  have hCn : s2.heap.get? H2.objs.size = none := by rw [hC]; exact get_none (k := 1)
  generalize hDe : s2.heap.objs.size = D at *
  generalize hCe : H2.objs.size = C at *
  clear hsb₁ hH2 hC below
  have lw : ∀ b ∈ wr, ∃ o, s2.heap.get? b = some o := fun b hb => (y1.view b _ (lockH_wr hb)).live
  have nDw : D ∉ wr := fun q => by obtain ⟨o, e⟩ := lw D q; rw [hDn] at e; cases e
  have ll : ∀ b ∈ lk, ∃ o, s2.heap.get? b = some o := fun b hb => by
    by_cases q : b ∈ wr
    · exact lw b q
    · obtain ⟨o, e⟩ := (hlk b hb).1; exact (y1.view b _ (lockH_lk q hb e)).live
  have nDl : D ∉ lk := fun q => by obtain ⟨o, e⟩ := ll D q; rw [hDn] at e; cases e
  have hHD : H1 D = none := by have := y1.fresh hDn; exact (lockH_none this).2
  have eL : lockH (H1.set D (.list [])) wr lk = (lockH H1 wr lk).set D (.list []) := lockH_set nDw nDl
  have sm := y1.newAt (D := D) (o := .list []) (tk := s2.toks + ([] : List (Str × Value)).length) old hDn ⟨_, _, hDo, .nil⟩
  rw [← eL] at sm
  obtain ⟨sim4, ext4⟩ := sm
  have ext := x1.trans (ext4 Γ.F)
  have hHC : lockH (H1.set D (.list [])) wr lk C = none := by
    rw [eL, AH.set_ne _ _ (Ne.symm hDC)]; exact y1.fresh hCn
  have hsC : s.heap.get? C = none := x1.fresh hCn
  have hbC : Γ.base.get? C = none := by
    cases z : Γ.base.get? C with
    | none => rfl
    | some ob => have := y1.stays C ob z; rw [hCn] at this; cases this
  have hcellAt : ∀ c v, s.heap.IsCell c v → H c = none → h₁.IsCell c v ∧ lockH (H1.set D (.list [])) wr lk c = none := fun c v ⟨oc, hc, hd⟩ z => by
    obtain ⟨sl, e, _⟩ := ext.keep c oc hc z
    exact ⟨⟨_, e, hd⟩, ext.none c oc hc z⟩
  have st4 : St (Γ.comp scope cl C) cap (lockH (H1.set D (.list [])) wr lk) { s2 with heap := h₁, toks := s2.toks + ([] : List (Str × Value)).length } := by
    refine ⟨sim4, ⟨_, hns₁, hHC, fun x v hv => ?_⟩, fun x c k1 k2 => ?_, frames_ext ext t.frames t.off, fun a ha => ?_⟩
    · obtain ⟨g1, g2, g3, g4⟩ := hc.get x v hv
      obtain ⟨mm, _, _, hf⟩ := t.loc
      rcases hf x v g1 with ⟨k, _⟩ | ⟨_, c, val, e1, e2, e3, e4⟩
      · exact absurd k g2
      · obtain ⟨e5, e6⟩ := hcellAt c _ e2 e3
        exact .inr ⟨g3, c, val, g4.trans e1, e5, e6, e4.ext ext⟩
    · obtain ⟨g1, g2⟩ := hc.cells x c k1 k2
      obtain ⟨⟨v, hv⟩, z⟩ := t.cells x c g1 g2
      obtain ⟨e5, e6⟩ := hcellAt c v hv z
      exact ⟨⟨v, e5⟩, e6⟩
    · obtain ⟨_, o, ho, _⟩ := t.frames.mem ha
      exact ext.none a o ho (t.off a ha)
  have wl := walk_loop (Γ := Γ.comp scope cl C) (s := s) (H := H) (Q := fun _ Hn => Q (.ref D) Hn) (lr C D I) W (W.frame 0 _ _ S0 fun b _ o e => old b o e) ext.w st4
    (fun b hb => ⟨(hwr b hb).1, by rw [AH.set_ne _ _ (fun (q : b = D) => nDw (q ▸ hb))]; exact (hwr b hb).2⟩)
    (fun a ha => ⟨by obtain ⟨o, e⟩ := (hlk a ha).1; exact ⟨o, by rw [AH.set_ne _ _ (fun (q : a = D) => nDl (q ▸ ha))]; exact e⟩, (hlk a ha).2⟩)
    (fun b hb => by
      rcases hfp b hb with ⟨z, nf, o, e, w⟩ | ⟨l, z⟩
      · have q : b ≠ D := (nz e hDn)
        refine .inl ⟨by rw [eL, AH.set_ne _ _ q]; exact z, nf, o, old b o e, fun hb => ?_⟩
        rw [List.mem_singleton.mp hb, hCn] at e; cases e
      · obtain ⟨o, e⟩ := (y1.view b _ z).live
        have q : b ≠ D := (nz e hDn)
        exact .inr ⟨l, by rw [eL, AH.set_ne _ _ q]; exact z⟩)
    (fun i v x h0 h'' Hi hx hP hl sk => hval i v x h0 h'' Hi hx hP hl ((ext4 []).seqK.trans sk)) (hJ C D ⟨List.mem_singleton.mpr rfl, fun a ha => by rw [List.mem_singleton.mp ha]; exact hbC⟩ hHD nDw nDl)
  have fin : ∀ s', APost (Γ.comp scope cl C) H s (fun _ Hn => Q (.ref D) Hn) s' → CFin Γ H s Q C D s' := fun s' p => by
    obtain ⟨mn, Hn, xw, t', q⟩ := p
    obtain ⟨mm, hn, hz, _⟩ := t'.loc
    refine ⟨Hn, ⟨fun a o e z => xw.keep a o e z fun hb => ?_, xw.none, xw.alive, xw.lock⟩, t'.sim, q, ⟨mm, hn⟩, hz, hsC, hbC⟩
    rw [List.mem_singleton.mp hb, hsC] at e; cases e
  refine sr _ _ _ _ _ (codeAny_mono wl ?_) (W.self 0 _ _ _ (W.frame 0 _ _ S0 fun b _ o e => old b o e) (codeAny_mono wl ?_))
  · rintro r s' ⟨rfl, p⟩; exact hRR C D s' (fin s' p)
  · rintro r s' ⟨rfl, p⟩; exact hRR C D s' (fin s' p)

/-- only a namespace that nobody sees turned -/
theorem CFin.but {Γ H s Q C D s'} {h' : Heap} (x : CFin Γ H s Q C D s') (hs : Heap.SameBut C s'.heap h') : VPost Γ H s Q (.ref D) { s' with heap := h' } := by
  obtain ⟨Hn, x, y, q, ⟨mm, hn⟩, hz, hsC, hbC⟩ := x
  obtain ⟨oC, es, ep, eC, dC, _⟩ := id hn
  have kp : ∀ a o, a ≠ C → s'.heap.get? a = some o → h'.get? a = some o := fun a o n e => hs.extBut a o n e
  have nC : ∀ a o items n, s'.heap.get? a = some o → o.data = .seq items n → a ≠ C := fun a o items n e d q => by rw [q, eC] at e; cases e; rw [dC] at d; cases d
  refine ⟨_, Hn, ⟨fun a o e z => ?_, x.none, fun a o e => ?_, fun a l o z e => ?_⟩, ?_, .ref D, q⟩
  · obtain ⟨sl, e1, f1⟩ := x.keep a o e z
    exact ⟨sl, kp a _ (nz e hsC) e1, f1⟩
  · obtain ⟨o', e'⟩ := x.alive a o e
    exact ⟨o', kp a o' (nz e hsC) e'⟩
  · obtain ⟨e1, z1⟩ := x.lock a l o z e
    exact ⟨kp a o (nz e hsC) e1, z1⟩
  · exact y.step (H' := Hn) (tk := s'.toks) (fun a o items n e d z => ⟨⟨o.slots, kp a o (nC a o items n e d) e⟩, z⟩) (fun b o e => kp b o (nz e hbC) (y.stays b o e)) [] (fun b ob o hb _ e => ⟨kp b ob (nz hb hz) e, hb⟩)
      fun a o e => .inl ⟨e, (fun h => (nomatch h)), fun _ _ h => (nomatch h)⟩

section
variable {Γ : Cx} {m cap : Locs} {H : AH} {target iter elt : Expr} {scope : Scope} {cl : List (Str × Addr)} {Q : V → AH → Prop} {R : Int → AH → Prop} {pos : Pos}

theorem ev_comp {ifs : List Expr} (ok : Γ.Ok) (h : IV Γ target iter m H (CompLoopOb Γ scope cl target cap (fun C D => BDs (Γ.comp scope cl C) D ifs elt) Q) R) (hc : Caps Γ scope cl m cap)
    (hclos : closureFor scope Γ.env = pure cl) (hcell : ∀ y ∈ scope.names, y.2 ≠ .cell := by decide) (hkind : scope.kind = .function := by rfl) (hnames : ∀ y ∈ scope.names, y.2 = .local → scope.names.lookup y.1 = some .local := by decide)
    (hs : ∀ env x, foldedSetIterable iter env x = pure x := by intro _ _; rfl) : EV Γ (.ListComp elt [⟨target, iter, ifs, 0⟩] scope pos) m H Q R := by
  intro s t
  rw [eval_ListComp]
  refine wpAny_comprehension_free (use := none) rfl (hs _) hclos hkind hnames (wpAny_mono (h s t) (fun x s1 h1 => wpAny_mono h1 (fun it s2 p => ?_) fun _ _ z => z) fun _ _ z => z)
  refine comp_core ok hcell hkind hc (fun C D It => loop_list1) (fun it acc env R s a b => codeAny_compStart_list a b) t p (fun acc C => compPost (Mw Γ.w) Γ.A (XPost Γ H s R) none (VPost Γ H s Q) acc C) fun C D s' f => ?_
  obtain ⟨mm, hn⟩ := f.ns
  exact ⟨mm, hn, fun h' hs' => f.but hs'⟩
theorem ev_comp2 {t1 i1 : Expr} (ok : Γ.Ok) (h : IV Γ target iter m H (CompLoopOb Γ scope cl target cap (fun C D => BD2 (Γ.comp scope cl C) D t1 i1 elt) Q) R) (hc : Caps Γ scope cl m cap)
    (hclos : closureFor scope Γ.env = pure cl) (hcell : ∀ y ∈ scope.names, y.2 ≠ .cell := by decide) (hkind : scope.kind = .function := by rfl) (hnames : ∀ y ∈ scope.names, y.2 = .local → scope.names.lookup y.1 = some .local := by decide)
    (hs : ∀ env x, foldedSetIterable iter env x = pure x := by intro _ _; rfl) (hs1 : ∀ env x, foldedSetIterable i1 env x = pure x := by intro _ _; rfl) : EV Γ (.ListComp elt [⟨target, iter, [], 0⟩, ⟨t1, i1, [], 0⟩] scope pos) m H Q R := by
  intro s t
  rw [eval_ListComp]
  refine wpAny_comprehension_free (use := none) rfl (hs _) hclos hkind hnames (wpAny_mono (h s t) (fun x s1 h1 => wpAny_mono h1 (fun it s2 p => ?_) fun _ _ z => z) fun _ _ z => z)
  refine comp_core ok hcell hkind hc (fun C D It => loop_outer hs1) (fun it acc env R s a b => codeAny_compStart_list a b) t p (fun acc C => compPost (Mw Γ.w) Γ.A (XPost Γ H s R) none (VPost Γ H s Q) acc C) fun C D s' f => ?_
  obtain ⟨mm, hn⟩ := f.ns
  exact ⟨mm, hn, fun h' hs' => f.but hs'⟩

/-- the frame does not see a namespace that nobody sees -/
theorem St.but {s : Shared} {C : Addr} {h' : Heap} (t : St Γ m H s) (hn : ∃ mm, s.heap.Ns C mm) (hz : H C = none) (hb : Γ.base.get? C = none) (hL : C ≠ Γ.env.locals) (hF : C ∉ Γ.F) (hs : Heap.SameBut C s.heap h') : St Γ m H { s with heap := h' } := by
  obtain ⟨mC, hn⟩ := hn
  obtain ⟨oC, es, ep, eC, dC, _⟩ := id hn
  have kp : ∀ a o, a ≠ C → s.heap.get? a = some o → h'.get? a = some o := fun a o n e => hs.extBut a o n e
  have nC : ∀ a o items n, s.heap.get? a = some o → o.data = .seq items n → a ≠ C := fun a o items n e d q => by rw [q, eC] at e; cases e; rw [dC] at d; cases d
  have nc : ∀ c o v, s.heap.get? c = some o → o.data = .cell v → c ≠ C := fun a o v e d q => by rw [q, eC] at e; cases e; rw [dC] at d; cases d
  have sk : SeqK H s.heap H h' := fun a o items n e d z => ⟨⟨o.slots, kp a o (nC a o items n e d) e⟩, z⟩
  have sim : Sim Γ.w Γ.base Γ.os H { s with heap := h', toks := s.toks } := t.sim.step (H' := H) sk (fun b o e => kp b o (nz e hb) (t.sim.stays b o e)) [] (fun b ob o hb _ e => ⟨kp b ob (nz hb hz) e, hb⟩)
      fun a o e => .inl ⟨e, (fun h => (nomatch h)), fun _ _ h => (nomatch h)⟩
  obtain ⟨mm, hnn, hLL, hf⟩ := t.loc
  obtain ⟨o, es', ep', e, d, _⟩ := id hnn
  refine ⟨sim, Loc.by hnn hf sk ⟨o.slots, o, e, kp _ o (Ne.symm hL) e⟩ hLL (fun c o v e d z => ⟨⟨o.slots, kp c o (nc c o v e d) e⟩, z⟩), fun x c k1 k2 => ?_, ?_, t.off⟩
  · obtain ⟨⟨v, o, e, d⟩, z⟩ := t.cells x c k1 k2
    exact ⟨⟨v, o, kp c o (nc c o v e d) e, d⟩, z⟩
  · have key : ∀ l : List Env, (∀ a ∈ l.filterMap (·.frame), a ≠ C) → FF s.heap Γ.base l → FF h' Γ.base l := by
      intro l
      induction l with
      | nil => intro _ _; trivial
      | cons env rest ih =>
        rintro hq ⟨hk, ⟨L, o, hf, hn, ho, hd⟩, hr⟩
        exact ⟨hk, ⟨L, o, hf, hn, kp L o (hq L (by rw [List.filterMap_cons, hf]; exact List.mem_cons_self)) ho, hd⟩, ih (fun a ha => hq a (by rw [List.filterMap_cons, hf]; exact List.mem_cons_of_mem _ ha)) hr⟩
    exact key Γ.stk (fun a ha q => hF (q ▸ ha)) t.frames

theorem used_comp {x : Str} {px : Pos} {s : Shared} (ok : Γ.Ok) (ow : Owns Γ) {Q : Fl → Locs → AH → Prop} (hx : Γ.env.kindOf x = some .local) (t : St Γ m H s) {C D : Addr} {s' : Shared} (f : CFin Γ H s (fun v H1 => Q .next ((x, v) :: m) H1) C D s') :
    wpAny (Mw Γ.w) Γ.A (assign (.Name x px) Γ.env (.ref D)) (fun _ s'' => ∃ m, s''.heap.Ns C m ∧ ∀ h', Heap.SameBut C s''.heap h' → FPost Γ H s Q .next { s'' with heap := h' }) (XPostW Γ H s R) s' := by
  obtain ⟨Hn, xe, y, q, ⟨mC, hnC⟩, hz, hsC, hbC⟩ := f
  have t1 : St Γ m Hn s' := t.ext xe y
  obtain ⟨mm, hn, hL, hf⟩ := id t1.loc
  have hLC : Γ.env.locals ≠ C := fun q => by
    obtain ⟨_, hn0, _⟩ := t.loc
    obtain ⟨o, _, _, e, _⟩ := hn0; rw [q, hsC] at e; cases e
  refine wpAny_assign_Name (wpAny_storeName_local hx hn (fun h' hn' hs => ?_) (by rw [ok.kind]; rfl))
  obtain ⟨a, b⟩ := store_local t1 ow.l hx (.ref D) hn hf hL hn' hs (s'.toks + 1)
  have hnC' := hnC.sameBut hs (Ne.symm hLC)
  refine ⟨mC, hnC', fun h'' hs'' => ?_⟩
  have hF : C ∉ Γ.F := fun z => by obtain ⟨_, o, ho, _⟩ := t.frames.mem z; rw [hsC] at ho; cases ho
  have t3 := b.but ⟨mC, hnC'⟩ hz hbC (Ne.symm hLC) hF hs''
  have kp : ∀ a o, a ≠ C → h'.get? a = some o → h''.get? a = some o := fun a o n e => hs''.extBut a o n e
  have nw : ∀ a o, s.heap.get? a = some o → a ≠ C := fun a o e q => by rw [q, hsC] at e; cases e
  have xw := xe.w.trans a
  refine ⟨_, _, Hn, ⟨fun a o e z w => ?_, xw.none, fun a o e => ?_, fun a l o z e => ?_⟩, t3, .next, q⟩
  · obtain ⟨sl, e1, f1⟩ := xw.keep a o e z w
    exact ⟨sl, kp a _ (nw a o e) e1, f1⟩
  · obtain ⟨o', e'⟩ := xw.alive a o e
    exact ⟨o', kp a o' (nw a o e) e'⟩
  · obtain ⟨e1, z1⟩ := xw.lock a l o z e
    exact ⟨kp a o (nw a o e) e1, z1⟩
end

section
variable {Γ : Cx} {m cap : Locs} {H : AH} {target iter elt : Expr} {scope : Scope} {cl : List (Str × Addr)} {Q : Fl → Locs → AH → Prop} {R : Int → AH → Prop} {pos spos px : Pos} {x : Str}
theorem es_assign_comp {ifs : List Expr} (ok : Γ.Ok) (ow : Owns Γ) (hx : Γ.env.kindOf x = some .local) (h : IV Γ target iter m H (CompLoopOb Γ scope cl target cap (fun C D => BDs (Γ.comp scope cl C) D ifs elt) (fun v H1 => Q .next ((x, v) :: m) H1)) R) (hc : Caps Γ scope cl m cap)
    (hclos : closureFor scope Γ.env = pure cl) (hsw : swapsWith (.ListComp elt [⟨target, iter, ifs, 0⟩] scope pos) (some (.Name x px)) spos.line Γ.env = pure true)
    (hcell : ∀ y ∈ scope.names, y.2 ≠ .cell := by decide) (hkind : scope.kind = .function := by rfl) (hnames : ∀ y ∈ scope.names, y.2 = .local → scope.names.lookup y.1 = some .local := by decide)
    (hs : ∀ env x, foldedSetIterable iter env x = pure x := by intro _ _; rfl) : ES Γ (.Assign [.Name x px] (.ListComp elt [⟨target, iter, ifs, 0⟩] scope pos) spos) m H Q R := by
  intro s t
  rw [exec_Assign_Name_used _ _ _ _ hsw]
  refine wpAny_bind (wpAny_standAt (wpAny_bind ?_))
  show wpAny _ Γ.A (do let _ ← comprehension (.ListComp elt [⟨target, iter, ifs, 0⟩] scope pos) scope Γ.env _ (newList []) false (eval iter Γ.env) (some (assign (.Name x px) Γ.env))) _ _ s
  refine wpAny_bind (wpAny_mono (wpAny_comprehension_free (use := some (assign (.Name x px) Γ.env)) (Q := fun _ s' => FPost Γ H s Q .next s') rfl (hs _) hclos hkind hnames
    (wpAny_mono (h s t) (fun xv s₁ h₁ => wpAny_mono h₁ (fun it s₂ p => ?_) fun _ _ e => e.w t) fun _ _ e => e.w t)) (fun _ s' hq => wpAny_pure (wpAny_pure hq)) fun _ _ e => e)
  refine comp_core ok hcell hkind hc (fun C D It => loop_list1) (fun it acc env R s a b => codeAny_compStart_list a b) t p (fun acc C => compPost (Mw Γ.w) Γ.A (XPostW Γ H s R) (some (assign (.Name x px) Γ.env)) (fun _ s' => FPost Γ H s Q .next s') acc C) fun C D s' f => ?_
  exact used_comp ok ow hx t f
theorem es_assign_comp2 {t1 i1 : Expr} (ok : Γ.Ok) (ow : Owns Γ) (hx : Γ.env.kindOf x = some .local) (h : IV Γ target iter m H (CompLoopOb Γ scope cl target cap (fun C D => BD2 (Γ.comp scope cl C) D t1 i1 elt) (fun v H1 => Q .next ((x, v) :: m) H1)) R) (hc : Caps Γ scope cl m cap)
    (hclos : closureFor scope Γ.env = pure cl) (hsw : swapsWith (.ListComp elt [⟨target, iter, [], 0⟩, ⟨t1, i1, [], 0⟩] scope pos) (some (.Name x px)) spos.line Γ.env = pure true)
    (hcell : ∀ y ∈ scope.names, y.2 ≠ .cell := by decide) (hkind : scope.kind = .function := by rfl) (hnames : ∀ y ∈ scope.names, y.2 = .local → scope.names.lookup y.1 = some .local := by decide)
    (hs : ∀ env x, foldedSetIterable iter env x = pure x := by intro _ _; rfl) (hs1 : ∀ env x, foldedSetIterable i1 env x = pure x := by intro _ _; rfl) : ES Γ (.Assign [.Name x px] (.ListComp elt [⟨target, iter, [], 0⟩, ⟨t1, i1, [], 0⟩] scope pos) spos) m H Q R := by
  intro s t
  rw [exec_Assign_Name_used _ _ _ _ hsw]
  refine wpAny_bind (wpAny_standAt (wpAny_bind ?_))
  show wpAny _ Γ.A (do let _ ← comprehension (.ListComp elt [⟨target, iter, [], 0⟩, ⟨t1, i1, [], 0⟩] scope pos) scope Γ.env _ (newList []) false (eval iter Γ.env) (some (assign (.Name x px) Γ.env))) _ _ s
  refine wpAny_bind (wpAny_mono (wpAny_comprehension_free (use := some (assign (.Name x px) Γ.env)) (Q := fun _ s' => FPost Γ H s Q .next s') rfl (hs _) hclos hkind hnames
    (wpAny_mono (h s t) (fun xv s₁ h₁ => wpAny_mono h₁ (fun it s₂ p => ?_) fun _ _ e => e.w t) fun _ _ e => e.w t)) (fun _ s' hq => wpAny_pure (wpAny_pure hq)) fun _ _ e => e)
  refine comp_core ok hcell hkind hc (fun C D It => loop_outer hs1) (fun it acc env R s a b => codeAny_compStart_list a b) t p (fun acc C => compPost (Mw Γ.w) Γ.A (XPostW Γ H s R) (some (assign (.Name x px) Γ.env)) (fun _ s' => FPost Γ H s Q .next s') acc C) fun C D s' f => ?_
  exact used_comp ok ow hx t f
end


theorem Top1.fn {C : Con} {lv : Nat} {A : Around} {fd : FuncData} {L fa : Addr} {stk : List Env} {own : List Addr} : Top1 (Cx.fn C lv A (callEnv fd L fa) stk own) := ⟨stk, L, rfl, rfl⟩
theorem Top1.fnC {C : Con} {lv : Nat} {A : Around} {fd : FuncData} {L fa : Addr} {stk : List Env} {own : List Addr} : Top1 (Cx.fn C lv A (callEnvC fd L fa) stk own) := ⟨stk, L, rfl, rfl⟩

theorem bindL_not {k : Str → Option NameKind} {x : Str} : ∀ {b : List (Str × Value)} {m : Str → Option Value}, (∀ p ∈ b, p.1 ≠ x) → bindL k b m x = m x
  | [], _, _ => rfl
  | (n, v) :: r, m, h => by
    unfold bindL
    rw [bindL_not fun p hp => h p (.tail _ hp)]
    by_cases q : k n = some .local
    · rw [if_pos q]; exact if_neg (Ne.symm (h (n, v) (.head _)))
    · rw [if_neg q]
theorem bindC_not {k : Str → Option NameKind} {x : Str} : ∀ {b : List (Str × Value)} {m : Str → Option Value}, (∀ p ∈ b, p.1 ≠ x) → bindC k b m x = m x
  | [], _, _ => rfl
  | (n, v) :: r, m, h => by
    unfold bindC
    rw [bindC_not fun p hp => h p (.tail _ hp)]
    by_cases q : k n = some .local
    · rw [if_pos q]
    · rw [if_neg q]; exact if_neg (Ne.symm (h (n, v) (.head _)))

theorem binds_get {H : AH} {h : Heap} {k : Str → Option NameKind} {x : Str} {v : V} : ∀ (ns : List Str) (vs : List Value) (as : List V) (m c : Str → Option Value), RelAll H h vs as → ns.Nodup → (ns.zip as).lookup x = some v →
    ∃ val, Rel H h val v ∧ x ∈ ns ∧ (k x = some .local → bindL k (ns.zip vs) m x = some val) ∧ (k x ≠ some .local → bindC k (ns.zip vs) c x = some val) := by
  intro ns
  induction ns with
  | nil => intro vs as _ _ _ _ e; cases e
  | cons n ns ih =>
    intro vs as m c r nd e
    cases r with
    | nil => cases e
    | @cons v0 x0 vs as r0 rs =>
      rw [List.zip_cons_cons, List.lookup_cons] at e
      by_cases q : x = n
      · subst q
        rw [beq_self_eq_true] at e; cases e
        have hno : ∀ p ∈ ns.zip vs, p.1 ≠ x := fun p hp z => (List.nodup_cons.mp nd).1 (z ▸ (List.of_mem_zip (a := p.1) (b := p.2) hp).1)
        refine ⟨v0, r0, List.mem_cons_self, fun hk => ?_, fun hk => ?_⟩
        · rw [List.zip_cons_cons]; unfold bindL; rw [bindL_not hno, if_pos hk]; exact if_pos rfl
        · rw [List.zip_cons_cons]; unfold bindC; rw [bindC_not hno, if_neg hk]; exact if_pos rfl
      · rw [beq_eq_false_iff_ne.mpr q] at e
        rw [List.zip_cons_cons]; unfold bindL bindC
        obtain ⟨val, e1, e2, e3, e4⟩ := ih vs as (if k n = some .local then fun y => if y = n then some v0 else m y else m) (if k n = some .local then c else fun y => if y = n then some v0 else c y) rs (List.nodup_cons.mp nd).2 e
        exact ⟨val, e1, List.mem_cons_of_mem _ e2, e3, e4⟩

/-- the contract of a def with cells, from its body -/
theorem cw_fnc {C : Con} {lv : Nat} {fa : Addr} {args : List V} {H : AH} {Q : V → AH → Prop} {R : Int → AH → Prop} {fd : FuncData} {body : List Stmt} {names : List Str} {oc : Value} {od : Option Addr} {osl : Array (Option Value)}
    (hB : Base C.w C.base) (hK : ∀ P, (frag P).lookup fa = some ⟨oc, od, .func fd, osl⟩) (hcd : ∀ P, codeIn (frag P) fd.code fd.qualname = true) (hbody : fd.body = .stmts body)
    (hbind : ∀ vals : List Value, vals.length = args.length → bindArgs fd ⟨vals, []⟩ = pure (names.zip vals))
    (hkind : ∀ k : Nat, ∀ x ∈ names, fd.scope.names.lookup x = some .local ∨ (fd.scope.names.lookup x = some .cell ∧ ((cellsFrom (k + 1) fd.scope.names []).lookup x).isSome = true)) (hnd : names.Nodup)
    (hglob : fd.globals = mainGlobals) (hblt : fd.builtins = builtinsNs) (hcl : fd.closure = [])
    (hco : fd.scope.isCoroutine = false) (hgen : fd.scope.isGenerator = false) (hk : fd.scope.kind = .function)
    (h : ∀ A stk L own, (Cx.fn C lv A (callEnvC fd L fa) stk own).Ok → Owns (Cx.fn C lv A (callEnvC fd L fa) stk own) → EX (Cx.fn C lv A (callEnvC fd L fa) stk own) body (names.zip args) H (fun fl _ H' => Q (flVal fl) H') R) : CW C (lv + 1) (.ref fa) args H Q R := by
  intro A stk s vals a1 a2 a3 a4 a5 a6 a7 a8
  have hlen : vals.length = args.length := a8.length
  have hKs : (frag C.w.params).In s.heap := hB.K.keeps a7.stays
  obtain ⟨mg, mb, T⟩ := hB.T
  refine (codeAny_call_cells (fd := fd) (body := body) (binds := names.zip vals) (by have : recursionLimit = 1000 := rfl; omega) (hKs _ _ (hK _)) rfl (T.nolimit.keeps a7.stays) (codeRec_of hKs (hcd _)) hbody (hbind vals hlen) hcl
    (fun x hx => hkind _ x.1 (List.of_mem_zip hx).1) (fun s1 ic => ?_) hco hgen hk)
  let L := s.heap.objs.size
  let env := callEnvC fd L fa
  let own := L :: env.cells.map (·.2)
  let Γ : Cx := Cx.fn C lv (A.deeper env) env stk own
  obtain ⟨h₁, tk₁, rfl⟩ := ic.toInCall.same
  have hk₁ : ∀ b o, s.heap.get? b = some o → h₁.get? b = some o := ic.toInCall.keep
  have hn : h₁.Ns L _ := ic.toInCall.ns
  have hge : ∀ a ∈ own, L ≤ a := fun a ha => by
    rcases List.mem_cons.mp ha with rfl | ha
    · exact Nat.le_refl _
    · obtain ⟨⟨n, c⟩, hm, rfl⟩ := List.mem_map.mp ha
      exact Nat.le_of_lt (ic.above n c hm)
  have hown : ∀ a ∈ own, s.heap.get? a = none := fun a ha => Heap.get?_none_of_le (hge a ha)
  have hLn : s.heap.get? L = none := Heap.get?_none_of_le (Nat.le_refl _)
  have hbo : ∀ a ∈ own, C.base.get? a = none := fun a ha => by
    cases q : C.base.get? a with
    | none => rfl
    | some o => have := a7.stays _ _ q; rw [hown a ha] at this; cases this
  have hHo : ∀ a ∈ own, H a = none := fun a ha => a7.fresh (hown a ha)
  have hLo : L ∈ own := List.mem_cons_self
  have hco' : ∀ x c, env.cells.lookup x = some c → c ∈ own := fun x c hc => List.mem_cons_of_mem _ (List.mem_map.mpr ⟨(x, c), mem_of_lookup hc, rfl⟩)
  have hks : fd.scope.kind ≠ .module := by rw [hk]; decide
  have okΓ : Γ.Ok := ⟨hB, Around.frames_deeper a1, hk, hglob, hblt, by show A.depth + 1 + 10 * lv ≤ 900; omega, by show A.units + 3 + 100 * lv ≤ 9000; omega, a4⟩
  have ow : Owns Γ := ⟨hLo, fun x c _ hc => hco' x c hc, hbo, fun x c y c' hx hy e => name_of_addr ic.apart (mem_of_lookup hx) (e ▸ mem_of_lookup hy)⟩
  have ext0 : Ext (stk.filterMap (·.frame)) H s.heap H h₁ := Ext.grow hk₁
  have sim1 : Sim C.w C.base C.os H { s with heap := h₁, toks := tk₁ } := a7.grow hk₁
  have rel1 : RelAll H h₁ vals args := a8.ext ext0
  have st1 : St Γ (names.zip args) H { s with heap := h₁, toks := tk₁ } := by
    refine ⟨sim1, ⟨_, hn, hHo L hLo, fun x v hv => ?_⟩, fun x c hx hc => ⟨⟨_, ic.cell x c hc⟩, hHo c (hco' x c hc)⟩, ?_, ?_⟩
    · obtain ⟨val, r, hx, e1, e2⟩ := binds_get (k := env.kindOf) names vals args (fun _ => none) (fun _ => none) rel1 hnd hv
      rcases hkind L x hx with k | ⟨k, k2⟩
      · exact .inl ⟨k, val, e1 k, r⟩
      · have k' : env.kindOf x = some .cell := k
        obtain ⟨c, hc⟩ := Option.isSome_iff_exists.mp k2
        refine .inr ⟨.inl k', c, val, hc, ?_, hHo c (hco' x c hc), r⟩
        have := ic.cell x c hc
        rw [e2 (by rw [k']; decide)] at this
        exact this
    · obtain ⟨o, es, ep, e, d, _⟩ := hn
      exact ⟨hks, ⟨L, o, rfl, hbo L hLo, e, es, ep, d⟩, frames_ext ext0 a5 a6⟩
    · intro a ha
      rw [show Γ.F = L :: stk.filterMap (·.frame) from rfl] at ha
      rcases List.mem_cons.mp ha with rfl | ha
      · exact hHo L hLo
      · exact a6 a ha
  have ne : ∀ a o, s.heap.get? a = some o → a ∉ own := fun a o e q => by rw [hown a q] at e; cases e
  have back : ∀ {H' h'}, ExtW Γ.F Γ.own H h₁ H' h' → Ext (stk.filterMap (·.frame)) H s.heap H' h' := fun x =>
    ⟨fun a o e z => by
      obtain ⟨sl, e1, f1⟩ := x.keep a o (hk₁ a o e) z (fun q => absurd q (ne a o e))
      exact ⟨sl, e1, fun q => f1 fun z => by rcases List.mem_cons.mp z with z | z; exact ne a o e (z ▸ hLo); exact q z⟩,
     fun a o e z => x.none a o (hk₁ a o e) z, fun a o e => x.alive a o (hk₁ a o e), fun a l o z e => x.lock a l o z (hk₁ a o e)⟩
  refine wpAny_mono (h (A.deeper env) stk L own okΓ ow _ st1) (fun f s' p => ?_) fun e s' p => ?_
  · obtain ⟨mf, m', H', x, t', r, q⟩ := p
    cases r with
    | ret r => exact ⟨_, H', back x, t'.sim, r, q⟩
    | next => exact ⟨.none, H', back x, t'.sim, .none, q⟩
    | brk => exact ⟨.none, H', back x, t'.sim, .none, q⟩
    | cont => exact ⟨.none, H', back x, t'.sim, .none, q⟩
  · obtain ⟨n, H', x, rfl, xw, y', fr', off', sn, q⟩ := p
    have hFf : ∀ a ∈ Γ.F, ∀ o, s'.heap.get? a = some o → ∀ vs, o.data ≠ .fields vs := fun a ha o e => by
      obtain ⟨_, o2, e2, nf⟩ := fr'.mem ha; rw [e] at e2; cases e2; exact nf
    have hF0 : ∀ a ∈ Γ.F, h₁.get? a ≠ none := fun a ha => by
      obtain ⟨_, o2, e2, nf⟩ := st1.frames.mem ha; rw [e2]; simp
    have hbF : ∀ a ∈ Γ.F, C.base.get? a = none ∧ H' a = none := fun a ha => ⟨(fr'.mem ha).1, off' a ha⟩
    have h0s : C.base.StaysIn h₁ := fun b o e => hk₁ b o (a7.stays b o e)
    show wpAny _ (A.deeper env) (do noteFrame (.ref x) env; setFlight (.ref x) none) _ _ s'
    refine wpAny_bind (wp_noteFrame (base := C.base) (h0 := h₁) (H := H') (n := n) (L := L) (Around.frames_deeper a1) rfl fr'.fun off' (fun a o e => xw.alive a o e) sn (fun a z => ?_) hF0 fun h' nt sn' _ => ?_)
    · cases hq : H' a with
      | none => exact absurd hq z
      | some o => exact (y'.view a o hq).live
    · have y2 := Sim.noted (tk := s'.toks) nt y' h0s hbF hFf
      have hFf' : ∀ a ∈ Γ.F, ∀ o, h'.get? a = some o → ∀ vs, o.data ≠ .fields vs := fun a ha o e => by
        obtain ⟨_, o2, e2, nf⟩ := (ff_noted nt (fun _ h => h) fr').mem ha; rw [e] at e2; cases e2; exact nf
      refine wp_setFlight (s := { s' with heap := h' }) (env := env) (outer := stk) (L := L) none (fun l h => by cases h) sn' hFf' fun h'' nt' sn'' => ?_
      have y3 := Sim.noted (s := { s' with heap := h' }) (tk := s'.toks) nt' y2 h0s hbF hFf'
      have ntt := nt.trans nt'
      refine ⟨n, H', x, rfl, (back xw).noted (F' := Γ.F) ⟨fun a o e hF c => ntt.kept a o e hF (c.imp (fun z q => z (by cases w : s.heap.get? a with | none => rfl | some o2 => rw [hk₁ a o2 w] at q; cases q)) id), ntt.frames, ntt.alive⟩ (fun a ha hn => ?_) (fun a ha o e => ?_) a6, y3, ?_, q⟩
      · rcases List.mem_cons.mp ha with rfl | ha
        · exact hLn
        · exact absurd ha hn
      · obtain ⟨_, o2, e2, nf⟩ := a5.mem ha; rw [e] at e2; cases e2; exact nf
      · exact Snob.afterW (F0 := []) (W := []) (H := H) (H' := H) ⟨fun a o e _ _ => ⟨o.slots, hk₁ a o e, fun _ => rfl⟩, fun a o _ e => e, fun a o e => ⟨o, hk₁ a o e⟩, fun a l o z e => ⟨hk₁ a o e, z⟩⟩ sn''

structure FnCOk (fa : Addr) (fd : FuncData) (names : List Str) : Prop where
  hK : ∀ P, (frag P).lookup fa = some ⟨.type "function", none, .func fd, #[]⟩
  hcd : ∀ P, codeIn (frag P) fd.code fd.qualname = true
  keep : ∀ P, keepIn (frag P) (.ref fa) = true
  hbind : ∀ vals : List Value, vals.length = names.length → bindArgs fd ⟨vals, []⟩ = pure (names.zip vals)
  hkind : ∀ k : Nat, ∀ x ∈ names, fd.scope.names.lookup x = some .local ∨ (fd.scope.names.lookup x = some .cell ∧ ((cellsFrom (k + 1) fd.scope.names []).lookup x).isSome = true)
  hnd : names.Nodup
  hglob : fd.globals = mainGlobals
  hblt : fd.builtins = builtinsNs
  hcl : fd.closure = []
  hco : fd.scope.isCoroutine = false
  hgen : fd.scope.isGenerator = false
  hk : fd.scope.kind = .function

theorem cw_defc {C : Con} {lv : Nat} {fa : Addr} {args : List V} {H : AH} {Q : V → AH → Prop} {R : Int → AH → Prop} {fd : FuncData} {body : List Stmt} {names : List Str} (k : FnCOk fa fd names)
    (hB : Base C.w C.base) (hbody : fd.body = .stmts body) (hlen : names.length = args.length) 
    (h : ∀ A stk L own, (Cx.fn C lv A (callEnvC fd L fa) stk own).Ok → Owns (Cx.fn C lv A (callEnvC fd L fa) stk own) → EX (Cx.fn C lv A (callEnvC fd L fa) stk own) body (names.zip args) H (fun fl _ H' => Q (flVal fl) H') R) : CW C (lv + 1) (.ref fa) args H Q R :=
  cw_fnc hB k.hK k.hcd hbody (fun vals hv => k.hbind vals (hv.trans hlen.symm)) k.hkind k.hnd k.hglob k.hblt k.hcl k.hco k.hgen k.hk h

mutual
inductive DV (H : AH) : V → PyData → Prop
  | none : DV H .none .none
  | bool (b : Bool) : DV H (.bool b) (.bool b)
  | int (i : Int) : DV H (.int i) (.int i)
  | str (x : Str) : DV H (.str x) (.str x)
  | tup {vs ds} : DVs H vs ds → DV H (.tup vs) (.tuple ds)
  | lst {vs ds} : DVs H vs ds → DV H (.lst vs) (.list ds)
  | ref {a vs ds} : H a = some (.list vs) → DVs H vs ds → DV H (.ref a) (.list ds)
  | lref {a vs ds} : H a = some (.lock (.list vs)) → DVs H vs ds → DV H (.ref a) (.list ds)
inductive DVs (H : AH) : List V → List PyData → Prop
  | nil : DVs H [] []
  | cons {v d vs ds} : DV H v d → DVs H vs ds → DVs H (v :: vs) (d :: ds)
end
theorem DV.reads {w base os H} {s : Shared} (y : Sim w base os H s) {v : V} {d : PyData} {val : Value} (dv : DV H v d) (r : Rel H s.heap val v) : ∃ as, Reads s.heap val d as := by
  refine DV.rec (motive_1 := fun v d _ => ∀ val, Rel H s.heap val v → ∃ as, Reads s.heap val d as) (motive_2 := fun vs ds _ => ∀ vals, RelAll H s.heap vals vs → ∃ as, ReadsAll s.heap vals ds as)
    (fun _ r => r.nE ⟨_, .none⟩) (fun b _ r => r.bE ⟨_, .bool b⟩) (fun _ _ r => r.iE fun _ => ⟨_, .int _ _⟩) (fun _ _ r => r.sE fun _ => ⟨_, .str _ _⟩)
    (fun _ k _ r => r.tE fun _ _ _ _ e c d z rr => (k _ rr).elim fun _ q => ⟨_, .tuple e c d q⟩) (fun _ k _ r => r.lE fun _ _ _ _ e c d z rr => (k _ rr).elim fun _ q => ⟨_, .list e c d q⟩)
    (fun ha _ k _ r => r.rE ?_) (fun ha _ k _ r => r.rE ?_) (fun _ r => r.zE ⟨_, .nil⟩) (fun _ _ a b _ r => r.kE fun _ _ r1 r2 => (a _ r1).elim fun _ q1 => (b _ r2).elim fun _ q2 => ⟨_, .cons q1 q2⟩) dv val r
  all_goals
    obtain ⟨items, n, e, rr⟩ := y.view _ _ ha
    exact (k _ rr).elim fun _ q => ⟨_, .list e rfl rfl q⟩

section
variable {Γ : Cx} {m : Locs} {H : AH} {Q : V → AH → Prop} {B : Bool → AH → Prop} {R : Int → AH → Prop} {pos : Pos}

theorem cmp_eqD {a b : V} {da db : PyData} (ok : Γ.Ok) (ha : DV H a da) (hb : DV H b db) (q : B (PyData.eqv da db) H) (sa : SeqAt.shaped da = true := by first | kernel_rfl | decide +kernel) (sb : SeqAt.shaped db = true := by first | kernel_rfl | decide +kernel) : CmpV Γ .Eq a b H B R := by
  intro s va vb y ra rb
  obtain ⟨as, h1⟩ := ha.reads y ra
  obtain ⟨bs, h2⟩ := hb.reads y rb
  exact SeqAt.compareEq_shaped h1 h2 sa sb (by have := ok.units; show Γ.A.units + 64 < 9900; omega) (cb y q)
theorem cmp_neD {a b : V} {da db : PyData} (ok : Γ.Ok) (ha : DV H a da) (hb : DV H b db) (q : B (!PyData.eqv da db) H) (sa : SeqAt.shaped da = true := by first | kernel_rfl | decide +kernel) (sb : SeqAt.shaped db = true := by first | kernel_rfl | decide +kernel) : CmpV Γ .NotEq a b H B R := by
  intro s va vb y ra rb
  obtain ⟨as, h1⟩ := ha.reads y ra
  obtain ⟨bs, h2⟩ := hb.reads y rb
  exact SeqAt.compareNe_shaped h1 h2 sa sb (by have := ok.units; show Γ.A.units + 64 < 9900; omega) (cb y q)
theorem cmp_eqS {x z : Str} (q : B (x == z) H) : CmpV Γ .Eq (.str x) (.str z) H B R := by
  intro s va vb y ra rb; refine ra.sE fun _ => ?_; refine rb.sE fun _ => ?_; exact PyProof.Rows.eq_str (cb y q)
theorem cmp_neS {x z : Str} (q : B (x != z) H) : CmpV Γ .NotEq (.str x) (.str z) H B R := by
  intro s va vb y ra rb; refine ra.sE fun _ => ?_; refine rb.sE fun _ => ?_; exact PyProof.Rows.ne_str (cb y q)
noncomputable def V.isNone : V → Bool
  | .none => true
  | _ => false
theorem Rel.isNone {H h val v} (r : Rel H h val v) : (val == .none) = v.isNone := by cases r <;> rfl
theorem cmp_is {a : V} (q : B a.isNone H) : CmpV Γ .Is a .none H B R := by
  intro s va vb y ra rb
  refine rb.nE ?_
  refine is_none ?_
  rw [ra.isNone]; exact cb y q
theorem cmp_isNot {a : V} (q : B (!a.isNone) H) : CmpV Γ .IsNot a .none H B R := by
  intro s va vb y ra rb
  refine rb.nE ?_
  refine isNot_none ?_
  rw [ra.isNone]; exact cb y q
theorem cmp_le_str {x y : Str} (q : B (!decide (y.cps.toList < x.cps.toList)) H) : CmpV Γ .LtE (.str x) (.str y) H B R := by
  intro s va vb y ra rb
  refine ra.sE fun _ => ?_; refine rb.sE fun _ => ?_
  exact P.le_str (cb y q)
theorem cmp_in_str {x y : Str} (q : B (!(Builtin.Str.occurrences x y 0 x.length 1).isEmpty) H) : CmpV Γ .In (.str y) (.str x) H B R := by
  intro s va vb y ra rb
  refine ra.sE fun _ => ?_; refine rb.sE fun _ => ?_
  exact P.in_str (cb y q)

theorem VPost.new {s : Shared} {D : Addr} {o : AO} {h' : Heap} {tk : Nat} (y : Sim Γ.w Γ.base Γ.os H s) (k : ∀ b ob, s.heap.get? b = some ob → h'.get? b = some ob) (hD : s.heap.get? D = none) (mt : Matches Γ.w (H.set D o) h' D o) (q : H D = none → Q (.ref D) (H.set D o)) (ho : ∀ x, o ≠ .aux x := by intro _ h; cases h) :
    VPost Γ H s Q (.ref D) { s with heap := h', toks := tk } := by
  obtain ⟨y', x'⟩ := y.newAt (tk := tk) k hD mt ho
  exact ⟨_, _, x' _, y', .ref D, q (y.fresh hD)⟩
theorem Ext.newAt {F : List Addr} {D : Addr} {o : AO} {h h' : Heap} (k : ∀ b ob, h.get? b = some ob → h'.get? b = some ob) (hD : h.get? D = Option.none) : Ext F H h (H.set D o) h' := by
  have ne : ∀ a ob, h.get? a = some ob → a ≠ D := fun a ob e q => by rw [q, hD] at e; cases e
  exact ⟨fun a ob e _ => ⟨ob.slots, k a ob e, fun _ => rfl⟩, fun a ob e z => by rw [AH.set_ne _ _ (ne a ob e)]; exact z, fun a ob e => ⟨ob, k a ob e⟩, fun a l ob z e => ⟨k a ob e, by rw [AH.set_ne _ _ (ne a ob e)]; exact z⟩⟩
theorem VPost.newList {s : Shared} {vs : Array Value} {xs : List V} {c : Nat} (y : Sim Γ.w Γ.base Γ.os H s) (r : RelAll H s.heap vs.toList xs) (q : ∀ D, H D = none → Q (.ref D) (H.set D (.list xs))) :
    VPost Γ H s Q (.ref s.heap.objs.size) { s with heap := s.heap.push { cls := .type "list", data := .seq vs c } } := by
  have k : ∀ b ob, s.heap.get? b = some ob → (s.heap.push { cls := .type "list", data := .seq vs c }).get? b = some ob := fun b ob e => Heap.get?_push_of_some _ e
  exact VPost.new (o := .list xs) (tk := s.toks) y k (get_none (k := 0)) ⟨vs, c, Heap.get?_push_size _ rfl, r.ext (Ext.newAt (F := []) k (get_none (k := 0)))⟩ (q _)
theorem VPost.newTup {s : Shared} {vs : Array Value} {xs : List V} {c : Nat} (y : Sim Γ.w Γ.base Γ.os H s) (r : RelAll H s.heap vs.toList xs) (q : Q (.tup xs) H) :
    VPost Γ H s Q (.ref s.heap.objs.size) { s with heap := s.heap.push { cls := .type "tuple", data := .seq vs c } } := by
  have k : ∀ b ob, s.heap.get? b = some ob → (s.heap.push { cls := .type "tuple", data := .seq vs c }).get? b = some ob := fun b ob e => Heap.get?_push_of_some _ e
  exact ⟨_, H, Ext.grow k, y.grow (tk := s.toks) k, .tup (Heap.get?_push_size _ rfl) rfl rfl (y.fresh (get_none (k := 0))) (r.ext (Ext.grow (F := []) k)), q⟩

theorem ev_list {es : List Expr} (h : EVs Γ es m H (fun vs H1 => vs.length ≤ 1000 ∧ ∀ D, H1 D = none → Q (.ref D) (H1.set D (.list vs))) R) : EV Γ (.List es pos) m H Q R := by
  intro s t
  refine wpAny_List (wpAny_mono (h s pos t) (fun vs s1 p => ?_) fun _ _ z => z)
  obtain ⟨xs, H1, x1, y1, r1, hl, q⟩ := p
  refine ⟨by rw [r1.length]; exact Nat.le_trans hl (by decide), ?_⟩
  exact (VPost.newList (vs := vs.toArray) y1 (by simpa using r1) q).after x1
theorem ev_tuple {es : List Expr} {k : Nat} (h : EVs Γ es m H (fun vs H1 => vs.length ≤ 1000 ∧ Q (.tup vs) H1) R) : EV Γ (.Tuple es k pos) m H Q R := by
  intro s t
  refine wpAny_Tuple (wpAny_mono (h s pos t) (fun vs s1 p => ?_) fun _ _ z => z)
  obtain ⟨xs, H1, x1, y1, r1, hl, q⟩ := p
  refine ⟨by rw [r1.length]; exact Nat.le_trans hl (by decide), ?_⟩
  exact (VPost.newTup (vs := vs.toArray) y1 (by simpa using r1) q).after x1
theorem op_addL {a b : Addr} {xs ys : List V} (ha : H a = some (.list xs)) (hb : H b = some (.list ys)) (hz : xs.length + ys.length ≤ 10000) (q : ∀ D, H D = none → Q (.ref D) (H.set D (.list (xs ++ ys)))) : OpV Γ .Add (.ref a) (.ref b) H Q R := by
  intro s va vb y ra rb
  refine ra.rE ?_; refine rb.rE ?_
  obtain ⟨i1, n1, e1, r1⟩ := y.view _ _ ha
  obtain ⟨i2, n2, e2, r2⟩ := y.view _ _ hb
  have key : ∀ (vs : List Value) (xs : List V), RelAll H s.heap vs xs → RelAll H s.heap (vs ++ i2.toList) (xs ++ ys) := by
    intro vs
    induction vs with
    | nil => intro xs r0; cases r0; exact r2
    | cons a vs ih => intro xs r0; cases r0 with | cons r1 r2 => exact .cons r1 (ih _ r2)
  refine P.add_list e1 e2 (VPost.newList y (by rw [Array.toList_append]; exact key _ _ r1) q) ?_
  have l1 := r1.length; have l2 := r2.length
  rw [Array.length_toList] at l1 l2
  rw [l1, l2]; exact Nat.le_trans hz (by decide)
end

/-- a list that H knows, locked or not -/
def LA (H : AH) (a : Addr) (xs : List V) : Prop := H a = some (.list xs) ∨ H a = some (.lock (.list xs))
theorem LA.at {w base os H a xs} {s : Shared} (h : LA H a xs) (y : Sim w base os H s) : ListM H s.heap a xs := by
  rcases h with h | h
  · exact y.view a _ h
  · exact y.view a _ h
theorem LA.list {H : AH} {a : Addr} {xs : List V} (h : H a = some (.list xs)) : LA H a xs := .inl h

theorem lenL {H h} {items : Array Value} {xs : List V} (r : RelAll H h items.toList xs) : items.size = xs.length := by rw [← r.length, Array.length_toList]

section
variable {Γ : Cx} {m : Locs} {H : AH} {Q : V → AH → Prop} {B : Bool → AH → Prop} {R : Int → AH → Prop} {pos : Pos}

theorem bv_len {a : Addr} {xs : List V} (h : LA H a xs) (hz : xs.length ≤ 1000000) (q : Q (.int xs.length) H) : BV Γ (.builtin "len") [.ref a] H Q R := by
  intro s vals y r
  refine r.oE fun _ r0 => ?_
  refine r0.rE ?_
  obtain ⟨items, n, e, rr⟩ := h.at y
  have hl := lenL rr
  refine call_len_list (l := a) (items := items) ⟨_, e, rfl, n, rfl⟩ (by rw [hl]; omega) ?_
  rw [hl]
  exact ⟨_, H, .refl, y.toks _, .int _ _, q⟩
theorem bv_len_str {x : Str} (hz : x.length ≤ 1000000) (q : Q (.int x.length) H) : BV Γ (.builtin "len") [.str x] H Q R := by
  intro s vals y r
  refine r.oE fun _ r0 => ?_
  refine r0.sE fun _ => ?_
  exact P.len_str (by omega) ⟨_, H, .refl, y.toks _, .int _ _, q⟩
theorem bv_abs {i : Int} (q : Q (.int (if i < 0 then -i else i)) H) : BV Γ (.builtin "abs") [.int i] H Q R := by
  intro s vals y r
  refine r.oE fun _ r0 => ?_
  refine r0.iE fun _ => ?_
  exact call_abs_int fun u tk => ⟨_, H, .refl, y.toks _, .int _ _, q⟩
theorem bv_ord {c : Nat} (q : Q (.int c) H) : BV Γ (.builtin "ord") [.str ⟨#[c]⟩] H Q R := by
  intro s vals y r
  refine r.oE fun _ r0 => ?_
  refine r0.sE fun _ => ?_
  exact P.ord_of_char ⟨_, H, .refl, y.toks _, .int _ _, q⟩
theorem bv_chr {i : Int} (hi : (decide (i < 0) || decide (i > 0x10FFFF)) = false) (q : Q (.str ⟨#[i.toNat]⟩) H) : BV Γ (.builtin "chr") [.int i] H Q R := by
  intro s vals y r
  refine r.oE fun _ r0 => ?_
  refine r0.iE fun _ => ?_
  exact P.chr_of_int hi ⟨_, H, .refl, y.toks _, .str _ _, q⟩
theorem bv_str {i : Int} (hi : i.natAbs.log2 < 1920) (q : Q (.str (toString i)) H) : BV Γ (.type "str") [.int i] H Q R := by
  intro s vals y r
  refine r.oE fun _ r0 => ?_
  refine r0.iE fun _ => ?_
  exact P.str_of_int hi ⟨_, H, .refl, y.toks _, .str _ _, q⟩
theorem bv_tuple {a : Addr} {xs : List V} (h : LA H a xs) (hz : xs.length ≤ 1000000) (q : Q (.tup xs) H) : BV Γ (.type "tuple") [.ref a] H Q R := by
  intro s vals y r
  refine r.oE fun _ r0 => ?_
  refine r0.rE ?_
  obtain ⟨items, n, e, rr⟩ := h.at y
  refine call_tuple_list (l := a) (items := items) ⟨_, e, rfl, n, rfl⟩ (fun h' k => ?_) (by rw [lenL rr]; exact Nat.le_trans hz (by decide))
  have y' := y.grow (tk := s.toks) k
  exact (VPost.newTup (s := { s with heap := h' }) y' (rr.ext (Ext.grow (F := []) k)) q).after (Ext.grow k)
theorem bv_listOfTup {xs : List V} (hz : xs.length ≤ 1000000) (q : ∀ D, H D = none → Q (.ref D) (H.set D (.list xs))) : BV Γ (.type "list") [.tup xs] H Q R := by
  intro s vals y r
  refine r.oE fun _ r0 => ?_
  refine r0.tE fun a o items n e c d z rr => ?_
  ·
    refine call_list_seq a (.inr rfl) e c d (fun h' c' k g => ?_) (by rw [lenL rr]; exact Nat.le_trans hz (by decide))
    exact VPost.new (o := .list xs) (tk := s.toks) y k (get_none (k := 0)) ⟨_, _, g, rr.ext (Ext.newAt (F := []) k (get_none (k := 0)))⟩ (q _)

/-- what type a value is of, where methods are looked for -/
def TyV (Γ : Cx) (H : AH) (v : V) (T : String) : Prop := ∀ s val, Sim Γ.w Γ.base Γ.os H s → Rel H s.heap val v → s.TypeIs val T ∧ ∀ a, val = .ref a → ∃ ob, s.heap.get? a = some ob ∧ ob.dict = none
theorem ty_list {a : Addr} {xs : List V} (h : LA H a xs) : TyV Γ H (.ref a) "list" := by
  intro s val y r
  refine r.rE ?_
  obtain ⟨items, n, e, rr⟩ := h.at y
  exact ⟨⟨_, e, rfl⟩, fun a' q => by cases q; exact ⟨_, e, rfl⟩⟩
theorem ty_str {x : Str} : TyV Γ H (.str x) "str" := by
  intro s val y r
  refine r.sE fun _ => ?_
  exact ⟨typeIs_str _ _ _, fun a' q => by cases q⟩
theorem ty_dict {a : Addr} {kvs} (h : H a = some (.dict kvs)) : TyV Γ H (.ref a) "dict" := by
  intro s val y r
  refine r.rE ?_
  obtain ⟨_, xs, ⟨o, es, ep, e, ⟨c, d, _⟩, _⟩, _⟩ := y.view _ _ h
  exact ⟨⟨_, e, c⟩, fun a' q => by cases q; exact ⟨_, e, d⟩⟩

theorem ev_meth {o e : Expr} {r : List Expr} {name : Str} {apos : Pos} {T id : String} (pa : PlainAttrs T) (sl : Slot T name id) (hty : typeOf (.builtin id) = pure (.type "method_descriptor"))
    (h : EV Γ o m H (fun ov H1 => TyV Γ H1 ov T ∧ EVs Γ (e :: r) m H1 (fun vs H2 => BV Γ (.builtin id) (ov :: vs) H2 Q R) R) R)
    (hbase : ∀ env, attributeBase o name env (eval o env) = eval o env := by intro _; rfl)
    (hfew : ∀ env, ((backTo pos (starEach (e :: r) env)).all (fun x => !x.1) && (backToKw pos (keywordEach [] env)).all (fun x => x.1.isSome)
      && decide ((e :: r).length + ([] : List Keyword).length + (if ([] : List Keyword).isEmpty then 0 else 1) < 30)) = true := by intro _; rfl)
    (hline : (apos.endLine == pos.line) = true := by rfl)
    (hs : ∀ env, starEach (e :: r) env = (false, eval e env) :: starEach r env := by intro _; rfl)
    (hp : ∀ env, (backTo pos (starEach r env)).any (·.1) = false := by intro _; rfl) : EV Γ (.Call (.Attribute o name apos) (e :: r) [] pos) m H Q R := by
  intro s t
  refine wpAny_Call_method_lateS (hbase _) (hfew _) hline (wpAny_mono (h s t) (fun ov s1 p => ?_) fun _ _ z => z)
  obtain ⟨v, H1, x1, y1, r1, ty, q1⟩ := p
  obtain ⟨hT, hd⟩ := ty s1 ov y1 r1
  have t1 := t.ext x1 y1
  refine ⟨T, id, pa, sl, hty, hT, hd, ?_⟩
  refine callWith_method1 (wpAny_mono (q1 s1 pos t1) (fun vs s2 h2 => ?_) fun _ _ z => z.after x1) (hs _) (hp _)
  obtain ⟨xs, H2, x2, y2, r2, q3⟩ := h2
  exact wpAny_mono (q3 s2 (ov :: vs) y2 (.cons (r1.ext x2) r2)) (fun _ _ z => z.after (x1.trans x2)) fun _ _ z => z.after (x1.trans x2)

theorem Sim.listSet {D : Addr} {s : Shared} {acc acc' : List V} {h' : Heap} {tk : Nat} (y : Sim Γ.w Γ.base Γ.os H s) (hD : H D = some (.list acc)) (hs : Heap.SameBut D s.heap h') {items : Array Value} {n : Nat} (e : h'.get? D = some { cls := .type "list", data := .seq items n }) (r : RelAll H s.heap items.toList acc') :
    Sim Γ.w Γ.base Γ.os (H.set D (.list acc')) { s with heap := h', toks := tk } ∧ Ext Γ.F H s.heap (H.set D (.list acc')) h' := by
  have nD : ∀ a, H a = none → a ≠ D := fun a z q => by rw [q, hD] at z; cases z
  have kp : ∀ a o, a ≠ D → s.heap.get? a = some o → h'.get? a = some o := fun a o n e => hs.extBut a o n e
  have ext : Ext Γ.F H s.heap (H.set D (.list acc')) h' := ⟨fun a o e z => ⟨o.slots, kp a o (nD a z) e, fun _ => rfl⟩, fun a o _ z => by rw [AH.set_ne _ _ (nD a z)]; exact z, fun a o e => by
      by_cases q : a = D
      · exact ⟨_, q ▸ ‹h'.get? D = _›⟩
      · exact ⟨o, kp a o q e⟩, fun a l o z e => by
      have q : a ≠ D := fun q => by rw [q, hD] at z; cases z
      exact ⟨kp a o q e, by rw [AH.set_ne _ _ q]; exact z⟩⟩
  refine ⟨?_, ext⟩
  refine y.step ext.seqK (fun b o e => kp b o (fun q => by have := y.off D _ hD; rw [← q, e] at this; cases this) (y.stays b o e)) [D] (fun b ob o hb hn e => ?_) fun a o ea => ?_
  · have q : b ≠ D := fun q => hn (List.mem_singleton.mpr q)
    exact ⟨kp b ob q e, by rw [AH.set_ne _ _ q]; exact hb⟩
  · by_cases q : a = D
    · subst q; rw [AH.set_self] at ea; cases ea
      exact .inr ⟨⟨items, n, e, r.ext ext⟩, y.off a _ hD⟩
    · rw [AH.set_ne _ _ q] at ea
      exact .inl ⟨ea, fun z => q (List.mem_singleton.mp z), fun dx hx z => by rw [List.mem_singleton.mp z, hD] at hx; cases hx⟩

theorem RelAll.snoc {H h} {v : Value} {x : V} (r : Rel H h v x) {vs : List Value} {xs : List V} (rr : RelAll H h vs xs) : RelAll H h (vs ++ [v]) (xs ++ [x]) :=
  RelAll.ind (P := fun vs xs => RelAll H h (vs ++ [v]) (xs ++ [x])) (.cons r .nil) (fun _ _ _ _ a _ b => .cons a b) rr
theorem mapSeq_list {f : Array Value → Array Value} {items : Array Value} {n : Nat} : ∃ n', (Obj.mapSeq f { cls := .type "list", data := .seq items n } : Obj) = { cls := .type "list", data := .seq (f items) n' } := by
  obtain ⟨n', hd'⟩ := Obj.data_mapSeq (o := { cls := .type "list", data := .seq items n }) rfl f
  refine ⟨n', ?_⟩
  simp only [Obj.mapSeq] at hd' ⊢
  simpa using hd'

theorem bv_append {D : Addr} {acc : List V} {v : V} (hD : H D = some (.list acc)) (hsz : acc.length < 1000000) (q : Q .none (H.set D (.list (acc ++ [v])))) : BV Γ (.builtin "list.append") [.ref D, v] H Q R := by
  intro s vals y r
  refine r.wE fun _ _ r0 r1 => ?_
  refine r0.rE ?_
  obtain ⟨items, n, e, rr⟩ := y.view D _ hD
  have hl : s.heap.IsList D items := ⟨_, e, rfl, n, rfl⟩
  have hlen := lenL rr
  refine wpAny_call_entry slot_list_append hl.typeIs entry_list_append ?_ (args_list_append _ _)
  rename_i x
  show wpAny _ _ (updateSeq D (·.push x) >>= fun _ => ret .none) _ _ s
  refine wpAny_bind ?_
  refine wpAny_updateSeq e rfl (wpAny_pure ⟨.none, rfl, ?_⟩) (by rw [hlen]; exact Nat.le_trans (Nat.le_of_lt hsz) (by decide)) (by rw [Array.size_push, hlen]; exact Nat.le_trans (Nat.succ_le_of_lt hsz) (by decide))
  obtain ⟨n', g⟩ := mapSeq_list (f := (·.push x)) (items := items) (n := n)
  have g2 : (s.heap.update D (Obj.mapSeq (·.push x))).get? D = some { cls := .type "list", data := .seq (items.push x) n' } := by
    rw [Heap.get?_update_self _ e (by rw [g]; rfl)]; exact congrArg some g
  obtain ⟨y', x'⟩ := y.listSet (tk := s.toks) hD (Heap.SameBut.update ..) g2 (by rw [Array.toList_push]; exact rr.snoc r1)
  exact ⟨_, _, x', y', .none, q⟩
theorem bv_pop0 {D : Addr} {v : V} {acc : List V} (hD : H D = some (.list (v :: acc))) (hsz : acc.length < 1000000) (q : Q v (H.set D (.list acc))) : BV Γ (.builtin "list.pop") [.ref D, .int 0] H Q R := by
  intro s vals y r
  refine r.wE fun _ _ r0 r1 => ?_
  refine r0.rE ?_; refine r1.iE fun _ => ?_
  obtain ⟨items, n, e, rr⟩ := y.view D _ hD
  have hlen := lenL rr
  rw [List.length_cons] at hlen
  obtain ⟨x, hx⟩ : ∃ x, items[0]? = some x := ⟨items[0]'(by omega), Array.getElem?_eq_getElem (by omega)⟩
  have hl : s.heap.IsList D items := ⟨_, e, rfl, n, rfl⟩
  have hk : seqIndex? 0 items.size = some 0 := by
    show (if (decide ((0 : Int) ≤ 0) && decide ((0 : Int) < (items.size : Int))) = true then some (Int.toNat 0) else none) = some 0
    have h0 : (0 : Int) < (items.size : Int) := by omega
    rw [if_pos (by rw [decide_eq_true h0]; rfl)]; rfl
  refine call_meets F.slot_list_pop hl.typeIs F.entry_list_pop (F.args_list_pop_2 _ _) (MeetsSeq.list_pop_at D items n 0 _ 0 x (by rfl) hk hx (by rw [hlen]; exact Nat.le_trans (Nat.succ_le_of_lt hsz) (by decide))) ⟨e, ?_⟩
  obtain ⟨n', g⟩ := mapSeq_list (f := fun xs => xs.eraseIdxIfInBounds 0) (items := items) (n := n)
  have g2 : (s.heap.update D (Obj.mapSeq fun xs => xs.eraseIdxIfInBounds 0)).get? D = some { cls := .type "list", data := .seq (items.eraseIdxIfInBounds 0) n' } := by
    rw [Heap.get?_update_self _ e (by rw [g]; rfl)]; exact congrArg some g
  have he : (items.eraseIdxIfInBounds 0).toList = items.toList.tail := by
    have : items.eraseIdxIfInBounds 0 = items.eraseIdx 0 (by omega) := by unfold Array.eraseIdxIfInBounds; rw [dif_pos (by omega)]
    rw [this, Array.toList_eraseIdx]
    cases items.toList <;> rfl
  have hi : ∃ tl, items.toList = x :: tl := by
    have : items.toList[0]? = some x := by rw [Array.getElem?_toList]; exact hx
    cases h : items.toList with
    | nil => rw [h] at this; cases this
    | cons a tl => rw [h] at this; cases this; exact ⟨tl, rfl⟩
  obtain ⟨tl, hi⟩ := hi
  rw [hi] at rr
  obtain ⟨ra, rb⟩ := rr.un
  ·
    obtain ⟨y', x'⟩ := y.listSet (tk := s.toks) hD (Heap.SameBut.update ..) g2 (acc' := acc) (by rw [he, hi]; exact rb)
    exact ⟨_, _, x', y', ra.ext x', q⟩
end

theorem Flds.find {w H h} {n : Str} {es : List DictEntry} {fs : List (Str × V)} (f : Flds w H h es fs) {v : V} (e : fs.lookup n = some v) : ∃ val, getL n es = some (some val) ∧ Rel H h val v := by
  induction f with
  | nil => cases e
  | @cons n' t val v' es fs r f ih =>
    rw [List.lookup_cons] at e
    by_cases q : n = n'
    · subst q
      rw [beq_self_eq_true] at e; cases e
      refine ⟨val, ?_, r⟩
      unfold getL
      rw [List.find?_cons_of_pos (by show Value.isStr (.str n t) n = true; simp [Value.isStr])]
    · rw [beq_eq_false_iff_ne.mpr q] at e
      obtain ⟨val', e1, r1⟩ := ih e
      refine ⟨val', ?_, r1⟩
      unfold getL at e1 ⊢
      rw [List.find?_cons_of_neg (by show ¬ (Value.isStr (.str n' t) n = true); simp [Value.isStr]; exact fun z => q z.symm)]
      cases z : es.find? (·.key.isStr n) with
      | some en => rw [z] at e1; exact e1
      | none => rw [z] at e1; dsimp only at e1; split at e1 <;> cases e1
theorem Flds.none_ {w H h} {n : Str} {es : List DictEntry} {fs : List (Str × V)} (f : Flds w H h es fs) (e : fs.lookup n = none) : getL n es = some none := by
  induction f with
  | nil => rfl
  | @cons n' t val v' es fs r f ih =>
    rw [List.lookup_cons] at e
    by_cases q : n = n'
    · subst q; rw [beq_self_eq_true] at e; cases e
    · rw [beq_eq_false_iff_ne.mpr q] at e
      have e1 := ih e
      unfold getL at e1 ⊢
      rw [List.find?_cons_of_neg (by show ¬ (Value.isStr (.str n' t) n = true); simp [Value.isStr]; exact fun z => q z.symm)]
      cases z : es.find? (·.key.isStr n) with
      | some en => rw [z] at e1; cases e1
      | none =>
        rw [z] at e1; dsimp only at e1 ⊢
        rw [List.any_cons]
        show (if (DictEntry.refKey ⟨_, .str n' t, val⟩ || es.any (·.refKey)) = true then _ else _) = _
        rw [show DictEntry.refKey ⟨PyData.keyHash w.params n', .str n' t, val⟩ = false from rfl, Bool.false_or]
        exact e1

/-- a field set, or added at the end -/
noncomputable def putF (n : Str) (v : V) : List (Str × V) → List (Str × V)
  | [] => [(n, v)]
  | (k, x) :: r => if k = n then (k, v) :: r else (k, x) :: putF n v r
theorem putF_cons {n k : Str} {v x : V} {r : List (Str × V)} : putF n v ((k, x) :: r) = if k = n then (k, v) :: r else (k, x) :: putF n v r := rfl
theorem Flds.put {w H h} {n : Str} {t : Tok} {val : Value} {v : V} (r : Rel H h val v) {es : List DictEntry} {fs : List (Str × V)} (f : Flds w H h es fs) : Flds w H h (putL n (PyData.keyHash w.params n) (.str n t) val es) (putF n v fs) := by
  induction f with
  | nil => exact .cons r .nil
  | @cons n' t' val' v' es fs r' f ih =>
    unfold putL; rw [putF_cons]
    by_cases q : n' = n
    · subst q
      rw [if_pos (by show Value.isStr (.str n' t') n' = true; simp [Value.isStr]), if_pos rfl]
      exact .cons r f
    · rw [if_neg (by show ¬ (Value.isStr (.str n' t') n = true); simp [Value.isStr]; exact fun z => q z), if_neg q]
      exact .cons r' ih
theorem Flds.length {w H h} {es : List DictEntry} {fs : List (Str × V)} (f : Flds w H h es fs) : es.length = fs.length := by
  induction f with
  | nil => rfl
  | cons _ _ ih => exact congrArg (· + 1) ih
theorem putL_length {n : Str} {hh : Int} {k v : Value} : ∀ {es : List DictEntry}, (putL n hh k v es).length ≤ es.length + 1
  | [] => Nat.le_refl _
  | e :: r => by
    unfold putL
    split
    · exact Nat.le_succ _
    · exact Nat.succ_le_succ putL_length

/-- what a class of the text lets do with its instances -/
structure ClsOk (C : Addr) (name : Str) : Prop where
  get : ∀ P, plainGet (frag P) C name = true
  dict : ∀ P, hasDictIn (frag P) C = true
  find : ∀ P, findIn (frag P) (.ref C) name = some none
structure ClsSet (C : Addr) (name : Str) : Prop where
  set : ∀ P, findIn (frag P) (.ref C) "__setattr__" = some (some (.builtin "object.__setattr__"))
  over : ∀ P, plainOver (frag P) C = true
  taker : ∀ P, takerIn (frag P) C name = some none
  dict : ∀ P, hasDictIn (frag P) C = true

theorem osa_raw {w : World} {A : Around} {R : Result → Shared → Prop} {s : Shared} {x C dx : Addr} {name : Str} {tk : Tok} {v : Value} {es : List DictEntry} {n : Nat} (X : (frag w.params).In s.heap)
    (hx : s.heap.get? x = some (instObj C dx)) (hdx : s.heap.get? dx = some (dictOf es n)) (hp : plainOver (frag w.params) C = true) (ht : takerIn (frag w.params) C name = some none) (hh : hasDictIn (frag w.params) C = true)
    (hl : (getL name es).isSome = true) (hz : es.length ≤ 900)
    (h : ∀ h' n', Heap.SameBut dx s.heap h' → h'.get? dx = some (dictOf (putL name (PyData.keyHash w.params name) (.str name s.toks) v es) n') → R (.ok (.ret .none)) { s with heap := h', toks := s.toks + 1 }) :
    codeAny (Mw w) A (.call (.builtin "object.__setattr__") ⟨[.ref x, .str name tk, v], []⟩) R s := by
  have I : InstAt s.heap x (instObj C dx) C (some (dictOf es n)) := ⟨hx, rfl, rfl, hdx⟩
  refine osa_open X I hp ht fun b => ?_
  obtain ⟨cd, hc, hd'⟩ := any_some hh
  have g : Obj.putName name (PyData.keyHash w.params name) (.str name s.toks) v (dictOf es n) = dictOf (putL name (PyData.keyHash w.params name) (.str name s.toks) v es) (putN name es n) := putName_dict ..
  have D' : (s.heap.update dx (Obj.putName name (PyData.keyHash w.params name) (.str name s.toks) v)).get? dx = some (dictOf (putL name (PyData.keyHash w.params name) (.str name s.toks) v es) (putN name es n)) := by
    rw [Heap.get?_update_self _ hdx (by rw [g]; rfl), g]
  refine wpAny_bind (wpAny_pure (wpAny_bind (wpAny_bind (wpAny_loadPart hx (wpAny_bind ((looks_clsIn X hc).here ?_))))))
  rw [hd']
  refine wpAny_pure (a := some dx) (wpAny_bind (wpAny_pure (wpAny_bind ?_)))
  unfold nsSet
  refine wpAny_bind (wpAny_bind (wpAny_askSetting (wpAny_pure (wpAny_bind (wpAny_mkText (wpAny_bind (wpAny_loadPart hdx ?_)))))))
  have c : (!es.toArray.any (·.key.isStr name) && es.toArray.any (·.refKey)) = false := by
    unfold getL at hl
    rw [← Array.any_toList, ← Array.any_toList]
    cases z : es.find? (·.key.isStr name) with
    | some en =>
      show (!es.any _ && es.any _) = false
      rw [List.any_eq_true.mpr ⟨en, List.mem_of_find?_eq_some z, List.find?_some z⟩]; rfl
    | none =>
      rw [z] at hl; dsimp only at hl
      by_cases q : es.any (·.refKey) = true
      · rw [if_pos q] at hl; cases hl
      · show (!es.any _ && es.any _) = false
        rw [Bool.not_eq_true] at q; rw [q, Bool.and_false]
  dsimp only [dictOf]
  rw [aRefKeyMayBeTheName_at, c]
  refine wpAny_updatePart hdx ?_
  refine wpAny_bind (wpAny_lookBehind D' (pastItsLine_dict (by rw [List.size_toArray, sizeLine_eq]; have := putL_length (n := name) (hh := PyData.keyHash w.params name) (k := .str name s.toks) (v := v) (es := es); omega)) ?_)
  exact wpAny_pure (h _ _ (Heap.SameBut.update ..) D')

/-- the type of a value, as isinstance sees it -/
inductive TK (H : AH) : V → Value → Prop
  | int (i : Int) : TK H (.int i) (.type "int")
  | str (x : Str) : TK H (.str x) (.type "str")
  | none : TK H .none (.type "NoneType")
  | bool (b : Bool) : TK H (.bool b) (.type "bool")
  | tup (vs : List V) : TK H (.tup vs) (.type "tuple")
  | list {a vs} : LA H a vs → TK H (.ref a) (.type "list")
  | inst {a C fs} : H a = some (.inst C fs) → TK H (.ref a) (.ref C)
structure KitC (C : Addr) : Prop where
  hg : ∀ P, plainGet (frag P) C "__class__" = true
  hd : ∀ P, hasDictIn (frag P) C = true
  ha : ∀ P, findIn (frag P) (.ref C) "__class__" = some (some (.builtin "object.__class__"))
  hn : ∀ P, specialIn (frag P) (.builtin "object.__class__") "__get__" = some (some (.builtin "getset_descriptor.__get__"))
  hk : ∀ P, takesIn (frag P) (.builtin "object.__class__") = some true
  hm : ∀ P, mroIn (frag P) C (.type "object") = some true

theorem TK.kit {w base os H} {s : Shared} {v : V} {t val : Value} (y : Sim w base os H s) (k : TK H v t) (kc : ∀ C, t = .ref C → KitC C) (r : Rel H s.heap val v) : ∃ Hp : Heap → Prop, KitX (frag w.params) val t Hp ∧ Hp s.heap := by
  cases k with
  | int i => refine r.iE fun _ => ?_; exact ⟨_, kitx_int, trivial⟩
  | str i => refine r.sE fun _ => ?_; exact ⟨_, kitx_str, trivial⟩
  | none => refine r.nE ?_; exact ⟨_, kitx_none, trivial⟩
  | bool b => refine r.bE ?_; exact ⟨_, kitx_bool, trivial⟩
  | tup vs => refine r.tE fun _ _ _ _ e c d z rr => ?_; exact ⟨_, kitx_tuple, _, e, c⟩
  | list h => refine r.rE ?_; obtain ⟨items, n, e, _⟩ := h.at y; exact ⟨_, kitx_list, _, e, rfl⟩
  | inst h =>
    refine r.rE ?_
    obtain ⟨dx, es, n, e1, e2, e3, _⟩ := y.view _ _ h
    have c := kc _ rfl
    exact ⟨_, kitx_own (c.hg _) (c.hd _) (c.ha _) (c.hn _) (c.hk _) (c.hm _), ⟨e1, rfl, rfl, e3⟩⟩
theorem Rel.notLoader {H h val v} (r : Rel H h val v) (hb : ∀ i, v ≠ .bi i) : val ≠ .builtin "__main__.__loader__#opaque" := by
  cases r <;> intro q <;> first | (cases q; exact hb _ rfl) | cases q
theorem TK.notBi {H v t} (k : TK H v t) : ∀ i, v ≠ .bi i := by cases k <;> intro i q <;> cases q

section
variable {Γ : Cx} {m : Locs} {H : AH} {Q : V → AH → Prop} {B : Bool → AH → Prop} {R : Int → AH → Prop} {pos : Pos}
theorem bv_isi {v : V} {t : Value} {C : Addr} {b : Bool} (ok : Γ.Ok) (k : TK H v t) (kc : ∀ D, t = .ref D → KitC D) (e : ∀ P, kitOne (frag P) t (.ref C) = some b) (q : Q (.bool b) H) : BV Γ (.builtin "isinstance") [v, .ref C] H Q R := by
  intro s vals y r
  refine r.wE fun _ _ r0 r1 => ?_
  refine r1.rE ?_
  obtain ⟨Hp, Z, hp⟩ := k.kit y kc r0
  exact kia_one Z (ok.base.K.keeps y.stays) hp (e _) (r0.notLoader k.notBi) fun tk => ⟨_, H, .refl, y.toks _, .bool _, q⟩
theorem bv_isiT {v : V} {t : Value} {T : String} {b : Bool} (ok : Γ.Ok) (k : TK H v t) (kc : ∀ D, t = .ref D → KitC D) (e : ∀ P, kitOne (frag P) t (.type T) = some b) (q : Q (.bool b) H) : BV Γ (.builtin "isinstance") [v, .ty T] H Q R := by
  intro s vals y r
  refine r.wE fun _ _ r0 r1 => ?_
  refine r1.yE ?_
  obtain ⟨Hp, Z, hp⟩ := k.kit y kc r0
  exact kia_one Z (ok.base.K.keeps y.stays) hp (e _) (r0.notLoader k.notBi) fun tk => ⟨_, H, .refl, y.toks _, .bool _, q⟩
theorem bv_isiTT {v : V} {t : Value} {T U : String} {b : Bool} (ok : Γ.Ok) (k : TK H v t) (kc : ∀ D, t = .ref D → KitC D) (e : ∀ P, kitAny (frag P) t [.type T, .type U] = some b) (q : Q (.bool b) H) : BV Γ (.builtin "isinstance") [v, .tup [.ty T, .ty U]] H Q R := by
  intro s vals y r
  refine r.wE fun _ _ r0 r1 => ?_
  refine r1.tE fun a o items n eo co d z ri => ?_
  ·
    obtain ⟨x, y', hi, p1, p2⟩ := ri.two
    cases p1; cases p2
    have hit : items = [Value.type T, Value.type U].toArray := by rw [← hi, Array.toArray_toList]
    obtain ⟨Hp, Z, hp⟩ := k.kit y kc r0
    obtain ⟨oc, od, oda, osl⟩ := o
    dsimp only at co d
    subst co; subst d; subst hit
    exact kia_tup (its := [Value.type T, Value.type U]) Z (ok.base.K.keeps y.stays) hp eo (e _) (r0.notLoader k.notBi) fun tk => ⟨_, H, .refl, y.toks _, .bool _, q⟩

/-- a field of an instance is read -/
def GAttr (Γ : Cx) (o : V) (name : Str) (H : AH) (Q : V → AH → Prop) : Prop := ∀ s vo E, Sim Γ.w Γ.base Γ.os H s → Rel H s.heap vo o → wpAny (Mw Γ.w) Γ.A (getAttr vo name true) (VPost Γ H s Q) E s
theorem ga_field {a C : Addr} {fs : List (Str × V)} {name : Str} {v : V} (ok : Γ.Ok) (ha : H a = some (.inst C fs)) (c : ClsOk C name) (hv : fs.lookup name = some v) (q : Q v H) (hb : ∀ i, v ≠ .bi i := by intro _ h; cases h) : GAttr Γ (.ref a) name H Q := by
  intro s vo E y r
  refine r.rE ?_
  obtain ⟨dx, es, n, e1, e2, e3, f⟩ := y.view _ _ ha
  obtain ⟨val, g, rv⟩ := f.find hv
  have I : InstAt s.heap a (instObj C dx) C (some (dictOf es n)) := ⟨e1, rfl, rfl, e3⟩
  refine get_value (ok.base.K.keeps y.stays) I (plainGet_of (c.get _)).1 (findObj_own (c.dict _) (c.find _) rfl g) ?_ ⟨v, H, .refl, y.toks _, rv, q⟩
  cases rv <;> first | rfl | exact absurd rfl (hb _)
theorem ev_attr {value : Expr} {attr : Str} (h : EV Γ value m H (fun o H1 => GAttr Γ o attr H1 Q) R) (hbase : ∀ env, attributeBase value attr env (eval value env) = eval value env := by intro _; rfl) : EV Γ (.Attribute value attr pos) m H Q R := by
  intro s t
  rw [arm_eval_Attribute, hbase]
  refine wpAny_bind (wpAny_mono (h s t) (fun o s1 p => ?_) fun _ _ z => z)
  obtain ⟨mo, H1, x1, y1, r1, q⟩ := p
  refine wpAny_bind (wpAny_standAt (wpAny_bind (wpAny_holding (wpAny_mono (q s1 o _ y1 r1) (fun v s2 p2 => ?_) fun _ _ z => z))))
  exact wpAny_bind (wpAny_letTemporaryGo (wpAny_pure (p2.after x1)))

/-- a field of an instance is set -/
def SAttr (Γ : Cx) (o : V) (name : Str) (v : V) (H : AH) (Q : AH → Prop) : Prop := ∀ s vo val E, Sim Γ.w Γ.base Γ.os H s → Rel H s.heap vo o → Rel H s.heap val v → wpAny (Mw Γ.w) Γ.A (setAttr vo name val) (fun _ s' => ∃ H', Ext Γ.F H s.heap H' s'.heap ∧ Sim Γ.w Γ.base Γ.os H' s' ∧ Q H') E s

theorem sa_field {a C : Addr} {fs : List (Str × V)} {name : Str} {v : V} {Q : AH → Prop} (ok : Γ.Ok) (ha : H a = some (.inst C fs)) (c : ClsSet C name) (hz : fs.length ≤ 900) (q : Q (H.set a (.inst C (putF name v fs)))) : SAttr Γ (.ref a) name v H Q := by
  intro s vo val E y r rv
  refine r.rE ?_
  obtain ⟨dx, es, n, e1, e2, e3, f⟩ := y.view _ _ ha
  have X := ok.base.K.keeps y.stays
  have I : InstAt s.heap a (instObj C dx) C (some (dictOf es n)) := ⟨e1, rfl, rfl, e3⟩
  have hl : (getL name es).isSome = true := by
    cases z : fs.lookup name with
    | none => rw [f.none_ z]; rfl
    | some v' => obtain ⟨val', g, _⟩ := f.find z; rw [g]; rfl
  refine set_plain X I (c.set _) (osa_raw (s := { s with toks := s.toks + 1 }) X e1 e3 (c.over _) (c.taker _) (c.dict _) hl (by rw [f.length]; exact hz) fun h' n' hs g => ?_)
  have hax : a ≠ dx := fun q => by rw [q, e2] at ha; cases ha
  have kp : ∀ b o, b ≠ dx → s.heap.get? b = some o → h'.get? b = some o := fun b o n e => hs.extBut b o n e
  have nD : ∀ b, H b = none → b ≠ dx ∧ b ≠ a := fun b z => ⟨((nz e2 z).symm), ((nz ha z).symm)⟩
  have ext : Ext Γ.F H s.heap (H.set a (.inst C (putF name v fs))) h' := ⟨fun b o e z => ⟨o.slots, kp b o (nD b z).1 e, fun _ => rfl⟩, fun b o _ z => by rw [AH.set_ne _ _ (nD b z).2]; exact z, fun b o e => by
      by_cases q : b = dx
      · exact ⟨_, q ▸ g⟩
      · exact ⟨o, kp b o q e⟩, fun b l o z e => by
      have q1 : b ≠ dx := fun q => by rw [q, e2] at z; cases z
      have q2 : b ≠ a := fun q => by rw [q, ha] at z; cases z
      exact ⟨kp b o q1 e, by rw [AH.set_ne _ _ q2]; exact z⟩⟩
  refine ⟨_, ext, ?_, q⟩
  refine y.step ext.seqK (fun b o e => kp b o (fun q => by have := y.off dx _ e2; rw [← q, e] at this; cases this) (y.stays b o e)) [dx, a] (fun b ob o hb hn e => ?_) fun b o ea => ?_
  · simp only [List.mem_cons, List.not_mem_nil, or_false, not_or] at hn
    exact ⟨kp b ob hn.1 e, by rw [AH.set_ne _ _ hn.2]; exact hb⟩
  · by_cases q : b = a
    · subst q; rw [AH.set_self] at ea; cases ea
      exact .inr ⟨⟨dx, _, n', kp _ _ hax e1, by rw [AH.set_ne _ _ hax.symm]; exact e2, g, (f.put rv).ext ext⟩, y.off b _ ha⟩
    · rw [AH.set_ne _ _ q] at ea
      by_cases q2 : b = dx
      · subst q2; rw [e2] at ea; cases ea
        exact .inr ⟨⟨_, g, fun vs h => by cases h⟩, y.off b _ e2⟩
      · refine .inl ⟨ea, fun z => ?_, fun d hd z => ?_⟩
        · simp only [List.mem_cons, List.not_mem_nil, or_false] at z; exact z.elim q2 q
        · simp only [List.mem_cons, List.not_mem_nil, or_false] at z
          rcases z with rfl | rfl
          · rw [e2] at hd; cases hd; exact q rfl
          · rw [ha] at hd; cases hd
end

section
variable {Γ : Cx} {m : Locs} {H : AH} {Q : Fl → Locs → AH → Prop} {R : Int → AH → Prop} {pos : Pos}
theorem es_setattr {o value : Expr} {attr : Str} {pos' : Pos} (h : EV Γ value m H (fun v H1 => EV Γ o m H1 (fun ov H2 => SAttr Γ ov attr v H2 (fun H3 => Q .next m H3)) R) R)
    (hs : swapsWith value (some (.Attribute o attr pos')) pos.line Γ.env = pure false := by rfl) : ES Γ (.Assign [.Attribute o attr pos'] value pos) m H Q R := by
  intro s t
  refine plainObj_wpAny_Assign_Attribute (wpAny_mono (h s t) (fun val s1 p => ?_) fun _ _ z => z.w t) hs
  obtain ⟨v, H1, x1, y1, r1, q1⟩ := p
  refine wpAny_mono (q1 s1 (t.ext x1 y1)) (fun vo s2 p2 => ?_) fun _ _ z => (z.after x1).w t
  obtain ⟨ov, H2, x2, y2, r2, q2⟩ := p2
  refine wpAny_mono (q2 s2 vo val _ y2 r2 (r1.ext x2)) (fun _ s3 p3 => ?_) fun _ _ z => z
  obtain ⟨H3, x3, y3, q3⟩ := p3
  have x := (x1.trans x2).trans x3
  exact ⟨_, m, H3, x.w, t.ext x y3, .next, q3⟩
end

/-- a value is indexed -/
def GI (Γ : Cx) (o i : V) (H : AH) (Q : V → AH → Prop) (R : Int → AH → Prop) : Prop := ∀ s vo vi, Sim Γ.w Γ.base Γ.os H s → Rel H s.heap vo o → Rel H s.heap vi i →
  (∃ T id, typeLookup (.type T) "__getitem__" = pure (some (.builtin id)) ∧ s.TypeIs vo T) ∧ wpAny (Mw Γ.w) Γ.A (getItem vo vi) (VPost Γ H s Q) (XPost Γ H s R) s

theorem tail_of {prog : Program} {w : World} {A : Around} {E : Value → Shared → Prop} {s : Shared} {value slice : Expr} {o i : Value} {T id : String} {Q : Value → Shared → Prop} (hT : s.TypeIs o T)
    (hl : typeLookup (.type T) "__getitem__" = pure (some (.builtin id))) (h : wpAny (model prog w) A (getItem o i) Q E s)
    (hs : subscripted slice false o i = operate [o, i] (getItem o i) ∨ subscripted slice false o i = operate [i, o] (getItem o i)) :
    wpAny (model prog w) A (subscriptTail value slice o i) Q E s := by
  unfold subscriptTail
  refine wpAny_bind ?_
  rw [getitemInPython_of_ne hT.not_modules]
  refine wpAny_bind (wpAny_specialOf hT hl ?_)
  have fin : wpAny (model prog w) A (subscripted slice false o i) (fun r s₃ => wpAny (model prog w) A (letTemporaryGo value o r >>= fun _ => pure r) Q E s₃) E s := by
    rcases hs with hs | hs
    · rw [hs]
      exact wpAny_operating (wpAny_mono h (fun r s₃ h₃ => wpAny_bind (wpAny_letTemporaryGo (wpAny_pure h₃))) fun _ _ x => x)
    · rw [hs]
      exact wpAny_operating (wpAny_mono h (fun r s₃ h₃ => wpAny_bind (wpAny_letTemporaryGo (wpAny_pure h₃))) fun _ _ x => x)
  first
    | exact wpAny_pure (wpAny_bind fin)
    | exact wpAny_bind (wpAny_pure (wpAny_bind fin))
    | exact wpAny_bind fin

/-- what a slice of a list picks -/
noncomputable def sliceV (xs : List V) (lo hi st : Option Int) : List V :=
  (sliceRange (sliceBounds lo hi st xs.length).1 (sliceBounds lo hi st xs.length).2.1 (sliceBounds lo hi st xs.length).2.2).filterMap (xs[·]?)
theorem RelAll.pick {H h} {items : Array Value} {xs : List V} (r : RelAll H h items.toList xs) : ∀ (ks : List Nat), RelAll H h (ks.filterMap (items[·]?)) (ks.filterMap (xs[·]?)) := by
  intro ks
  induction ks with
  | nil => exact .nil
  | cons k ks ih =>
    have hl := lenL r
    by_cases q : k < items.size
    · have e1 : items[k]? = some items[k] := Array.getElem?_eq_getElem q
      have e2 : xs[k]? = some (xs[k]'(by omega)) := List.getElem?_eq_getElem (by omega)
      rw [List.filterMap_cons, List.filterMap_cons, e1, e2]
      exact .cons (r.get (by rw [Array.getElem?_toList]; exact e1) e2) ih
    · have e1 : items[k]? = none := Array.getElem?_eq_none (by omega)
      have e2 : xs[k]? = none := List.getElem?_eq_none (by omega)
      rw [List.filterMap_cons, List.filterMap_cons, e1, e2]
      exact ih

section
variable {Γ : Cx} {m : Locs} {H : AH} {Q : V → AH → Prop} {B : Bool → AH → Prop} {R : Int → AH → Prop} {pos : Pos}
theorem ev_sub {value slice : Expr} (h : EV Γ value m H (fun o H1 => EV Γ slice m H1 (fun i H2 => GI Γ o i H2 Q R) R) R)
    (hs : ∀ o i, subscripted slice false o i = operate [o, i] (getItem o i) := by intro _ _; rfl) : EV Γ (.Subscript value slice pos) m H Q R := by
  intro s t
  refine Subscript_ (wpAny_mono (h s t) (fun o s1 p => ?_) fun _ _ z => z)
  obtain ⟨mo, H1, x1, y1, r1, q1⟩ := p
  refine wpAny_mono (q1 s1 (t.ext x1 y1)) (fun i s2 p2 => ?_) fun _ _ z => z.after x1
  obtain ⟨mi, H2, x2, y2, r2, q2⟩ := p2
  obtain ⟨⟨T, id, hl, hT⟩, g⟩ := q2 s2 o i y2 (r1.ext x2) r2
  exact tail_of hT hl (wpAny_mono g (fun _ _ z => z.after (x1.trans x2)) fun _ _ z => z.after (x1.trans x2)) (.inl (hs _ _))
theorem gi_list {a : Addr} {xs : List V} {i : Int} {v : V} (h : LA H a xs) (h0 : 0 ≤ i) (hz : xs.length ≤ 1000000) (hv : xs[i.toNat]? = some v) (q : Q v H) : GI Γ (.ref a) (.int i) H Q R := by
  intro s vo vi y ro ri
  refine ro.rE ?_; refine ri.iE fun _ => ?_
  obtain ⟨items, n, e, rr⟩ := h.at y
  have hl : s.heap.IsList a items := ⟨_, e, rfl, n, rfl⟩
  obtain ⟨hi, _⟩ := List.getElem?_eq_some_iff.mp hv
  have hx : items[i.toNat]? = some (items[i.toNat]'(by rw [lenL rr]; exact hi)) := Array.getElem?_eq_getElem _
  refine ⟨⟨"list", _, F.slot_list_getitem.lookup, hl.typeIs⟩, wpAny_getItem_list hl h0 (by omega) hx ⟨v, H, .refl, y, rr.get (by rw [Array.getElem?_toList]; exact hx) hv, q⟩⟩
theorem gi_list_neg {a : Addr} {xs : List V} {i : Int} {v : V} (h : LA H a xs) (h0 : i < 0) (h1 : -(xs.length : Int) ≤ i) (hz : xs.length ≤ 1000000) (hv : xs[(i + xs.length).toNat]? = some v) (q : Q v H) : GI Γ (.ref a) (.int i) H Q R := by
  intro s vo vi y ro ri
  refine ro.rE ?_; refine ri.iE fun _ => ?_
  obtain ⟨items, n, e, rr⟩ := h.at y
  have hl : s.heap.IsList a items := ⟨_, e, rfl, n, rfl⟩
  have hln := lenL rr
  obtain ⟨hi, _⟩ := List.getElem?_eq_some_iff.mp hv
  have hx : items[(i + items.size).toNat]? = some (items[(i + items.size).toNat]'(by rw [hln]; exact hi)) := Array.getElem?_eq_getElem _
  refine ⟨⟨"list", _, F.slot_list_getitem.lookup, hl.typeIs⟩, wpAny_getItem_list_neg hl h0 (by rw [hln]; exact h1) (by omega) hx ⟨v, H, .refl, y, rr.get (by rw [Array.getElem?_toList]; exact hx) (by rw [hln]; exact hv), q⟩⟩
theorem gi_tup {xs : List V} {i : Int} {v : V} (h0 : 0 ≤ i) (hz : xs.length ≤ 1000000) (hv : xs[i.toNat]? = some v) (q : Q v H) : GI Γ (.tup xs) (.int i) H Q R := by
  intro s vo vi y ro ri
  refine ri.iE fun _ => ?_
  refine ro.tE fun a o items n e c d z rr => ?_
  ·
    have hl : IsTup s.heap a items := ⟨_, e, c, n, d⟩
    obtain ⟨hi, _⟩ := List.getElem?_eq_some_iff.mp hv
    have hln := lenL rr
    have hx : items[i.toNat]? = some (items[i.toNat]'(by rw [hln]; exact hi)) := Array.getElem?_eq_getElem _
    have hj : seqIndex? i items.size = some i.toNat := by
      show (if (decide ((0 : Int) ≤ if i < 0 then i + items.size else i) && decide ((if i < 0 then i + (items.size : Int) else i) < (items.size : Int))) = true then some ((if i < 0 then i + (items.size : Int) else i).toNat) else none) = _
      rw [if_neg (by omega : ¬ i < 0), if_pos (by rw [decide_eq_true h0, decide_eq_true (by omega : i < (items.size : Int))]; rfl)]
    refine ⟨⟨"tuple", _, F.slot_tuple_getitem.lookup, ⟨_, e, c⟩⟩, PyProof.Rows.getItem_tuple hl (by omega) (by omega) hj hx ⟨v, H, .refl, y, rr.get (by rw [Array.getElem?_toList]; exact hx) hv, q⟩⟩
theorem gi_str {x : Str} {i : Int} {c : Nat} (hr : (decide (i < -(2 ^ 63 : Int)) || decide (i ≥ 2 ^ 63)) = false) (hc : (seqIndex? i x.length).bind (x.cps[·]?) = some c) (q : Q (.str ⟨#[c]⟩) H) : GI Γ (.str x) (.int i) H Q R := by
  intro s vo vi y ro ri
  refine ro.sE fun _ => ?_; refine ri.iE fun _ => ?_
  exact ⟨⟨"str", _, F.slot_str_getitem.lookup, typeIs_str _ _ _⟩, P.getItem_str hr hc ⟨_, H, .refl, y.toks _, .str _ _, q⟩⟩

/-- a part of a slice -/
def PartV (Γ : Cx) (e : Option Expr) (m : Locs) (H : AH) (K : Option Int → AH → Prop) (R : Int → AH → Prop) : Prop := match e with
  | none => K none H
  | some e => EV Γ e m H (fun v H1 => ∃ i, v = .int i ∧ K (some i) H1) R
theorem PartV.at {e : Option Expr} {K : Option Int → AH → Prop} (h : PartV Γ e m H K R) {s : Shared} (t : St Γ m H s) : wpAny (Mw Γ.w) Γ.A (evalPart e Γ.env) (fun v s' => ∃ H' i, Ext Γ.F H s.heap H' s'.heap ∧ Sim Γ.w Γ.base Γ.os H' s' ∧ IsPart v i ∧ K i H') (XPost Γ H s R) s := by
  cases e with
  | none => rw [evalPart_none]; exact wpAny_pure ⟨H, none, .refl, t.sim, .none, h⟩
  | some e =>
    rw [evalPart_some]
    refine wpAny_mono (h s t) (fun v s1 p => ?_) fun _ _ z => z
    obtain ⟨mv, H1, x1, y1, r1, i, rfl, q⟩ := p
    refine r1.iE fun _ => ?_
    exact ⟨H1, some i, x1, y1, .int _ _, q⟩

def SliceOk (Γ : Cx) (o : V) (lo hi st : Option Int) (H : AH) (Q : V → AH → Prop) : Prop :=
  (∃ a xs, o = .ref a ∧ LA H a xs ∧ st ≠ some 0 ∧ xs.length ≤ 1000000 ∧ ∀ D, H D = none → Q (.ref D) (H.set D (.list (sliceV xs lo hi st)))) ∨
  (∃ xs, o = .lst xs ∧ st ≠ some 0 ∧ xs.length ≤ 1000000 ∧ ∀ D, H D = none → Q (.ref D) (H.set D (.list (sliceV xs lo hi st)))) ∨
  (∃ x i, o = .str x ∧ lo = some i ∧ hi = none ∧ st = none ∧ x.length ≤ 1000000 ∧ Q (.str (Txt.slice x (some i) none)) H)

theorem ev_slice {value : Expr} {l u st : Option Expr} {p : Pos} (h : EV Γ value m H (fun o H1 => PartV Γ l m H1 (fun l H2 => PartV Γ u m H2 (fun u H3 => PartV Γ st m H3 (fun st H4 => SliceOk Γ o l u st H4 Q) R) R) R) R) : EV Γ (.Subscript value (.Slice l u st p) pos) m H Q R := by
  intro s t
  refine Subscript_ (wpAny_mono (h s t) (fun o s1 p => ?_) fun _ _ z => z)
  obtain ⟨mo, H1, x1, y1, r1, q1⟩ := p
  have t1 := t.ext x1 y1
  refine wpAny_Slice (wpAny_mono (q1.at t1) (fun vl s2 p2 => ?_) fun _ _ z => z.after x1)
  obtain ⟨H2, il, x2, y2, pl, q2⟩ := p2
  refine wpAny_mono (q2.at (t1.ext x2 y2)) (fun vu s3 p3 => ?_) fun _ _ z => z.after (x1.trans x2)
  obtain ⟨H3, iu, x3, y3, pu, q3⟩ := p3
  refine wpAny_mono (q3.at ((t1.ext x2 y2).ext x3 y3)) (fun vs s4 p4 => ?_) fun _ _ z => z.after ((x1.trans x2).trans x3)
  obtain ⟨H4, is, x4, y4, ps, q4⟩ := p4
  have xx := ((x1.trans x2).trans x3).trans x4
  have ro := ((r1.ext x2).ext x3).ext x4
  have k : ∀ b ob, s4.heap.get? b = some ob → (s4.heap.push { cls := .type "slice", data := .fields #[vl, vu, vs] }).get? b = some ob := fun b ob e => Heap.get?_push_of_some _ e
  have eg := Ext.grow (F := Γ.F) (H := H4) k
  have y5 := y4.grow (tk := s4.toks) k
  have hsl : Heap.IsSliceOf (s4.heap.push { cls := .type "slice", data := .fields #[vl, vu, vs] }) s4.heap.objs.size vl vu vs := Heap.IsSliceOf.new ..
  have hsub : ∀ o i, subscripted (.Slice l u st p) false o i = operate [o, i] (getItem o i) ∨ subscripted (.Slice l u st p) false o i = operate [i, o] (getItem o i) := fun o i => by
    cases st with
    | none => exact .inr rfl
    | some e => exact .inl rfl
  rcases q4 with ⟨a, xs, rfl, hla, hst, hz, q⟩ | ⟨xs, rfl, hst, hz, q⟩ | ⟨x, i, rfl, rfl, rfl, rfl, hz, q⟩
  · refine ro.rE ?_
    obtain ⟨items, n, e, rr⟩ := hla.at y4
    have hl : (s4.heap.push { cls := .type "slice", data := .fields #[vl, vu, vs] }).IsList a items := ⟨_, k _ _ e, rfl, n, rfl⟩
    have hln := lenL rr
    refine tail_of (T := "list") (s := { s4 with heap := s4.heap.push { cls := .type "slice", data := .fields #[vl, vu, vs] } }) ⟨_, k _ _ e, rfl⟩ F.slot_list_getitem.lookup (wpAny_getItem_list_slice hl hsl pl pu ps hst ?_ (by rw [hln]; exact Nat.le_trans hz (by decide))) (hsub _ _)
    refine ((VPost.newList (s := { s4 with heap := s4.heap.push { cls := .type "slice", data := .fields #[vl, vu, vs] } }) (xs := sliceV xs il iu is) y5 ?_ q).after eg).after xx
    unfold slicePick sliceV
    rw [List.toList_toArray, hln]
    exact RelAll.pick (rr.ext eg) _
  · refine ro.lE fun a o items n e c d z rr => ?_
    ·
      have hl : (s4.heap.push { cls := .type "slice", data := .fields #[vl, vu, vs] }).IsList a items := ⟨_, k _ _ e, c, n, d⟩
      have hln := lenL rr
      refine tail_of (T := "list") (s := { s4 with heap := s4.heap.push { cls := .type "slice", data := .fields #[vl, vu, vs] } }) ⟨_, k _ _ e, c⟩ F.slot_list_getitem.lookup (wpAny_getItem_list_slice hl hsl pl pu ps hst ?_ (by rw [hln]; exact Nat.le_trans hz (by decide))) (hsub _ _)
      refine ((VPost.newList (s := { s4 with heap := s4.heap.push { cls := .type "slice", data := .fields #[vl, vu, vs] } }) (xs := sliceV xs il iu is) y5 ?_ q).after eg).after xx
      unfold slicePick sliceV
      rw [List.toList_toArray, hln]
      exact RelAll.pick (rr.ext eg) _
  · refine ro.sE fun _ => ?_
    cases pl; cases pu; cases ps
    refine tail_of (T := "str") (s := { s4 with heap := s4.heap.push { cls := .type "slice", data := .fields _ } }) (typeIs_str _ _ _) F.slot_str_getitem.lookup
      (wpAny_getItem_str_slice (l := some (i, _)) (u := none) (st := none) ⟨_, Heap.get?_push_size _ rfl, rfl, rfl⟩ rfl (post_val_or_str ⟨Nat.le_trans (Txt.slice_le x _ _) (Nat.le_trans hz (by decide)), fun t' k' => ?_⟩)) (hsub _ _)
    exact VPost.after xx (VPost.after eg ⟨_, H4, .refl, y5.toks _, .str _ _, q⟩)
end

theorem isStrOf_self (x : Str) (t : Tok) : Value.isStrOf x (.str x t) = true := by simp [Value.isStrOf]
theorem isInt_self (i : Int) (t : Tok) : Value.isInt i (.int i t) = true := by simp [Value.isInt]
/-- a key as the text writes it -/
inductive IsKV (H : AH) : V → KV → Prop
  | str (x : Str) : IsKV H (.str x) (.inl x)
  | int (i : Int) : IsKV H (.int i) (.inr i)
inductive AreKV (H : AH) : List V → List KV → Prop
  | nil : AreKV H [] []
  | cons {v k vs ks} : IsKV H v k → AreKV H vs ks → AreKV H (v :: vs) (k :: ks)
theorem AreKV.items {w H h} {vs : List V} {ks : List KV} {vals : List Value} (k : AreKV H vs ks) (r : RelAll H h vals vs) : ItemsAre (mixKind w) ks vals := by
  induction k generalizing vals with
  | nil => exact r.zE .nil
  | cons a b ih =>
    refine r.kE fun _ _ r1 r2 => .cons ?_ (ih r2)
    cases a with
    | str x => exact r1.sE fun tk => isStrOf_self x tk
    | int i => exact r1.iE fun tk => isInt_self i tk
theorem IsTupleKey.of {w H h} {vs : List V} {ks : List KV} {a : Addr} (k : AreKV H vs ks) (r : Rel H h (.ref a) (.tup vs)) : (tupKind w).is h ks a := by
  cases r with
  | tup e c d z rr => exact ⟨_, _, _, e, c, d, k.items rr⟩

noncomputable def kvGet (kvs : List (List KV × V)) (k : List KV) : Option V := (kvs.find? fun x => decide (x.1 = k)).map (·.2)
noncomputable def kvPut (kvs : List (List KV × V)) (k : List KV) (v : V) : List (List KV × V) :=
  if (kvGet kvs k).isSome then kvs.map (fun x => if x.1 = k then (x.1, v) else x) else kvs ++ [(k, v)]

theorem Kvs.get {H h} {k : List KV} {xs : List (List KV × Addr × Value)} {kvs : List (List KV × V)} (f : Kvs H h xs kvs) : (atKey xs k = none ∧ kvGet kvs k = none) ∨ ∃ a val v, atKey xs k = some (a, val) ∧ kvGet kvs k = some v ∧ Rel H h val v := by
  induction f with
  | nil => exact .inl ⟨rfl, rfl⟩
  | @cons k' a val v xs kvs z r f ih =>
    by_cases q : k' = k
    · subst q
      refine .inr ⟨a, val, v, ?_, ?_, r⟩
      · unfold atKey; rw [List.find?_cons_of_pos (by simp)]; rfl
      · unfold kvGet; rw [List.find?_cons_of_pos (by simp)]; rfl
    · have e1 : atKey ((k', a, val) :: xs) k = atKey xs k := by unfold atKey; rw [List.find?_cons_of_neg (by simpa using q)]
      have e2 : kvGet ((k', v) :: kvs) k = kvGet kvs k := by unfold kvGet; rw [List.find?_cons_of_neg (by simpa using q)]
      rw [e1, e2]; exact ih
theorem Kvs.mapPut {H h} {k : List KV} {val : Value} {v : V} (r : Rel H h val v) {xs : List (List KV × Addr × Value)} {kvs : List (List KV × V)} (f : Kvs H h xs kvs) : Kvs H h (xs.map (putAt k val)) (kvs.map fun x => if x.1 = k then (x.1, v) else x) := by
  induction f with
  | nil => exact .nil
  | @cons k' a val' v' xs kvs z r' f ih =>
    rw [List.map_cons, List.map_cons]
    by_cases q : k' = k
    · rw [show putAt k val (k', a, val') = (k', a, val) from if_pos q, if_pos q]; exact .cons z r ih
    · rw [show putAt k val (k', a, val') = (k', a, val') from if_neg q, if_neg q]; exact .cons z r' ih
theorem Kvs.snoc {H h} {k : List KV} {a : Addr} {val : Value} {v : V} (z : H a = none) (r : Rel H h val v) {xs : List (List KV × Addr × Value)} {kvs : List (List KV × V)} (f : Kvs H h xs kvs) : Kvs H h (xs ++ [(k, a, val)]) (kvs ++ [(k, v)]) := by
  induction f with
  | nil => exact .cons z r .nil
  | cons z' r' f ih => exact .cons z' r' ih
theorem Kvs.put {H h} {k : List KV} {a : Addr} {val : Value} {v : V} (z : H a = none) (r : Rel H h val v) {xs : List (List KV × Addr × Value)} {kvs : List (List KV × V)} (f : Kvs H h xs kvs) : Kvs H h (storedH xs k a val) (kvPut kvs k v) := by
  unfold storedH kvPut
  rcases f.get (k := k) with ⟨e1, e2⟩ | ⟨a', val', v', e1, e2, _⟩
  · rw [e1, e2]; exact f.snoc z r
  · rw [e1, e2]; exact f.mapPut r
theorem Kvs.length {H h} {xs : List (List KV × Addr × Value)} {kvs : List (List KV × V)} (f : Kvs H h xs kvs) : xs.length = kvs.length := by
  induction f with
  | nil => rfl
  | cons _ _ _ ih => exact congrArg (· + 1) ih
theorem Kvs.ext {F H h H' h'} (x : Ext F H h H' h') {w : World} {xs : List (List KV × Addr × Value)} {kvs : List (List KV × V)} (hk : ∀ y ∈ xs, (tupKind w).is h y.1 y.2.1) (f : Kvs H h xs kvs) : Kvs H' h' xs kvs := (f.seqK x.seqK hk).1


theorem room_of {Γ : Cx} (ok : Γ.Ok) : (tupKind Γ.w).room Γ.A.in1 := by have := ok.units; show Γ.A.units + 1 < 9900; omega

section
variable {Γ : Cx} {m : Locs} {H : AH} {Q : V → AH → Prop} {B : Bool → AH → Prop} {R : Int → AH → Prop} {pos : Pos}
theorem ev_dict0 (ok : Γ.Ok) (q : ∀ D, H D = none → Q (.ref D) (H.set D (.dict []))) : EV Γ (.Dict [] [] pos) m H Q R := by
  intro s t
  rw [eval_Dict_empty]
  refine wpAny_bind (wpAny_standAt (wpAny_newObj_type ?_))
  obtain ⟨mg, mb, T⟩ := ok.base.T
  have lo : sysModules < s.heap.objs.size := modules_low (T.nolimit.keeps t.sim.stays)
  have k : ∀ b ob, s.heap.get? b = some ob → (s.heap.push { cls := .type "dict", data := .dict #[] }).get? b = some ob := fun b ob e => Heap.get?_push_of_some _ e
  exact VPost.new (o := .dict []) (tk := s.toks) t.sim k (get_none (k := 0)) ⟨beq_eq_false_iff_ne.mpr (Nat.ne_of_gt lo), [], Heap.DictOfH.new _, .nil⟩ (q _)
theorem cmp_notIn {d : Addr} {kvs : List (List KV × V)} {vs : List V} {ks : List KV} (ok : Γ.Ok) (hd : H d = some (.dict kvs)) (k : AreKV H vs ks) (q : B (!(kvGet kvs ks).isSome) H) : CmpV Γ .NotIn (.tup vs) (.ref d) H B R := by
  intro s va vb y ra rb
  refine rb.rE ?_
  obtain ⟨hs, xs, hm, f⟩ := y.view _ _ hd
  refine ra.tE fun a o items n e c dd z rr => ?_
  ·
    refine wpAny_notIn_heap (room_of ok) (IsTupleKey.of k (.tup e c dd z rr)) hs hm ?_
    rcases f.get (k := ks) with ⟨e1, e2⟩ | ⟨a', val', v', e1, e2, _⟩
    · rw [e1]; rw [e2] at q; exact ⟨_, rfl, H, .refl, y.toks _, q⟩
    · rw [e1]; rw [e2] at q; exact ⟨_, rfl, H, .refl, y.toks _, q⟩
theorem gi_dict {d : Addr} {kvs : List (List KV × V)} {vs : List V} {ks : List KV} {v : V} (ok : Γ.Ok) (hd : H d = some (.dict kvs)) (k : AreKV H vs ks) (hv : kvGet kvs ks = some v) (q : Q v H) : GI Γ (.ref d) (.tup vs) H Q R := by
  intro s vo vi y ro ri
  refine ro.rE ?_
  obtain ⟨hs, xs, hm, f⟩ := y.view _ _ hd
  refine ri.tE fun a o items n e c dd z rr => ?_
  ·
    rcases f.get (k := ks) with ⟨e1, e2⟩ | ⟨a', val', v', e1, e2, r2⟩
    · rw [e2] at hv; cases hv
    · rw [e2] at hv; cases hv
      exact ⟨⟨"dict", _, F.slot_dict_getitem.lookup, hm.typeIs⟩, wpAny_getItem_heap (room_of ok) (IsTupleKey.of k (.tup e c dd z rr)) hm e1 ⟨_, H, .refl, y.toks _, r2, q⟩⟩
/-- dict.get with a default -/
theorem bv_get {d : Addr} {kvs : List (List KV × V)} {vs : List V} {ks : List KV} {dv : V} (ok : Γ.Ok) (hd : H d = some (.dict kvs)) (k : AreKV H vs ks) (q : Q ((kvGet kvs ks).getD dv) H) : BV Γ (.builtin "dict.get") [.ref d, .tup vs, dv] H Q R := by
  intro s vals y r
  refine r.hE fun _ _ _ r0 r1 r2 => ?_
  refine r0.rE ?_
  obtain ⟨hs, xs, hm, f⟩ := y.view _ _ hd
  refine r1.tE fun a o items n e c dd z rr => ?_
  ·
    have hk := IsTupleKey.of (w := Γ.w) k (.tup e c dd z rr)
    refine call_meetsIn F.slot_dict_get hm.typeIs F.entry_dict_get (F.args_dict_get_3 _ _ _) (meetsH_dict_get_default (tupKind Γ.w) _ _ hs _) ⟨room_of ok, ks, xs, hk, hm, ?_⟩
    rcases f.get (k := ks) with ⟨e1, e2⟩ | ⟨a', val', v', e1, e2, r3⟩
    · rw [e1]; rw [e2] at q; exact ⟨_, H, .refl, y.toks _, r2, q⟩
    · rw [e1]; rw [e2] at q; exact ⟨_, H, .refl, y.toks _, r3, q⟩
end

/-- a thing is stored at an index -/
def SI (Γ : Cx) (o i v : V) (H : AH) (Q : AH → Prop) : Prop := ∀ s vo vi val E, Sim Γ.w Γ.base Γ.os H s → Rel H s.heap vo o → Rel H s.heap vi i → Rel H s.heap val v →
  wpAny (Mw Γ.w) Γ.A (setItem vo vi val) (fun _ s' => ∃ H', Ext Γ.F H s.heap H' s'.heap ∧ Sim Γ.w Γ.base Γ.os H' s' ∧ Q H') E s

theorem RelAll.set {H h} {v : Value} {x : V} (r : Rel H h v x) {vs : List Value} {xs : List V} {k : Nat} (rr : RelAll H h vs xs) : RelAll H h (vs.set k v) (xs.set k x) := by
  refine RelAll.ind (P := fun vs xs => ∀ k, RelAll H h (vs.set k v) (xs.set k x)) (fun _ => .nil) (fun w y vs xs a b ih i => ?_) rr k
  cases i with
  | zero => exact .cons r b
  | succ i => exact .cons a (ih i)

section
variable {Γ : Cx} {m : Locs} {H : AH} {R : Int → AH → Prop} {pos : Pos}
theorem si_list {a : Addr} {xs : List V} {i : Int} {v : V} {Q : AH → Prop} (ha : H a = some (.list xs)) (h0 : 0 ≤ i) (hz : xs.length ≤ 1000000) (hi : i < xs.length) (q : Q (H.set a (.list (xs.set i.toNat v)))) : SI Γ (.ref a) (.int i) v H Q := by
  intro s vo vi val E y ro ri rv
  refine ro.rE ?_; refine ri.iE fun _ => ?_
  obtain ⟨items, n, e, rr⟩ := y.view _ _ ha
  have hln := lenL rr
  refine ki_setAt (n := n) (items := items) e h0 (by omega) (by omega) ?_
  obtain ⟨n', g⟩ := mapSeq_list (f := (·.setIfInBounds i.toNat val)) (items := items) (n := n)
  have g2 : (s.heap.update a (Obj.mapSeq (·.setIfInBounds i.toNat val))).get? a = some { cls := .type "list", data := .seq (items.setIfInBounds i.toNat val) n' } := by
    rw [Heap.get?_update_self _ e (by rw [g]; rfl)]; exact congrArg some g
  obtain ⟨y', x'⟩ := y.listSet (tk := s.toks) ha (Heap.SameBut.update ..) g2 (by rw [Array.toList_setIfInBounds]; exact rr.set rv)
  exact ⟨_, x', y', q⟩
theorem si_dict {d : Addr} {kvs : List (List KV × V)} {vs : List V} {ks : List KV} {v : V} {Q : AH → Prop} (ok : Γ.Ok) (hd : H d = some (.dict kvs)) (k : AreKV H vs ks) (hz : kvs.length ≤ 1000000) (q : Q (H.set d (.dict (kvPut kvs ks v)))) : SI Γ (.ref d) (.tup vs) v H Q := by
  intro s vo vi val E y ro ri rv
  refine ro.rE ?_
  obtain ⟨hs, xs, hm, f⟩ := y.view _ _ hd
  refine ri.tE fun a o items n e c dd z rr => ?_
  ·
    refine wpAny_setItem_heap (room_of ok) (IsTupleKey.of k (.tup e c dd z rr)) hm (fun h' hm' hs' => ?_) (by rw [f.length]; exact Nat.le_trans hz (by decide))
    have nD : ∀ b, H b = none → b ≠ d := fun b z q => by rw [q, hd] at z; cases z
    have kp : ∀ b o, b ≠ d → s.heap.get? b = some o → h'.get? b = some o := fun b o n e => hs'.extBut b o n e
    have live : ∃ od, h'.get? d = some od := by obtain ⟨od, _, _, e, _⟩ := hm'; exact ⟨od, e⟩
    have ext : Ext Γ.F H s.heap (H.set d (.dict (kvPut kvs ks v))) h' := ⟨fun b o e z => ⟨o.slots, kp b o (nD b z) e, fun _ => rfl⟩, fun b o _ z => by rw [AH.set_ne _ _ (nD b z)]; exact z, fun b o e => by
        by_cases q : b = d
        · exact q ▸ live
        · exact ⟨o, kp b o q e⟩, fun b l o z e => by
        have q1 : b ≠ d := fun q => by rw [q, hd] at z; cases z
        exact ⟨kp b o q1 e, by rw [AH.set_ne _ _ q1]; exact z⟩⟩
    have hk : ∀ y ∈ xs, (tupKind Γ.w).is s.heap y.1 y.2.1 := by obtain ⟨_, _, _, _, _, _, _, hk, _⟩ := hm; exact hk
    have hk' : ∀ y ∈ storedH xs ks a val, (tupKind Γ.w).is s.heap y.1 y.2.1 := by
      intro y hy
      unfold storedH at hy
      split at hy
      · obtain ⟨x, hx, rfl⟩ := List.mem_map.mp hy
        have := hk x hx
        unfold putAt; split <;> exact this
      · rcases List.mem_append.mp hy with hy | hy
        · exact hk y hy
        · rw [List.mem_singleton.mp hy]; exact IsTupleKey.of k (.tup e c dd z rr)
    refine ⟨_, ext, ?_, q⟩
    refine y.step ext.seqK (fun b o e => kp b o (fun q => by have := y.off d _ hd; rw [← q, e] at this; cases this) (y.stays b o e)) [d] (fun b ob o hb hn e => ?_) fun b o ea => ?_
    · have q : b ≠ d := fun q => hn (List.mem_singleton.mpr q)
      exact ⟨kp b ob q e, by rw [AH.set_ne _ _ q]; exact hb⟩
    · by_cases q : b = d
      · subst q; rw [AH.set_self] at ea; cases ea
        exact .inr ⟨⟨hs, _, hm', (f.put z rv).ext ext hk'⟩, y.off b _ hd⟩
      · rw [AH.set_ne _ _ q] at ea
        exact .inl ⟨ea, fun z => q (List.mem_singleton.mp z), fun dx hx z => by rw [List.mem_singleton.mp z, hd] at hx; cases hx⟩
theorem es_setitem {o i value : Expr} {pos' : Pos} {Q : Fl → Locs → AH → Prop} (h : EV Γ value m H (fun v H1 => EV Γ o m H1 (fun ov H2 => EV Γ i m H2 (fun iv H3 => SI Γ ov iv v H3 (fun H4 => Q .next m H4)) R) R) R)
    (hs : swapsWith value (some (.Subscript o i pos')) pos.line Γ.env = pure false := by rfl) : ES Γ (.Assign [.Subscript o i pos'] value pos) m H Q R := by
  intro s t
  refine wpAny_Assign_Subscript (wpAny_mono (h s t) (fun val s1 p => ?_) fun _ _ z => z.w t) hs
  obtain ⟨v, H1, x1, y1, r1, q1⟩ := p
  have t1 := t.ext x1 y1
  refine wpAny_mono (q1 s1 t1) (fun vo s2 p2 => ?_) fun _ _ z => (z.after x1).w t
  obtain ⟨ov, H2, x2, y2, r2, q2⟩ := p2
  refine wpAny_mono (q2 s2 (t1.ext x2 y2)) (fun vi s3 p3 => ?_) fun _ _ z => (z.after (x1.trans x2)).w t
  obtain ⟨iv, H3, x3, y3, r3, q3⟩ := p3
  refine wpAny_mono (q3 s3 vo vi val _ y3 (r2.ext x3) r3 ((r1.ext x2).ext x3)) (fun _ s4 p4 => ?_) fun _ _ z => z
  obtain ⟨H4, x4, y4, q4⟩ := p4
  have x := ((x1.trans x2).trans x3).trans x4
  exact ⟨_, m, H4, x.w, t.ext x y4, .next, q4⟩

/-- name op= value -/
def IOp (Γ : Cx) (op : Operator) (a b : V) (H : AH) (Q : V → AH → Prop) : Prop := ∀ s va vb E, Sim Γ.w Γ.base Γ.os H s → Rel H s.heap va a → Rel H s.heap vb b → wpAny (Mw Γ.w) Γ.A (inplaceOp op va vb) (VPost Γ H s Q) E s
theorem iop_div {i j : Int} {Q : V → AH → Prop} (hj : j ≠ 0) (hp : Builtin.divisionGoesByPylong i j = false) (q : Q (.int (i.fdiv j)) H) : IOp Γ .FloorDiv (.int i) (.int j) H Q := by
  intro s va vb E y ra rb; refine ra.iE fun _ => ?_; refine rb.iE fun _ => ?_
  exact ifloordiv_int hj (VPost.tok y (.int _ _) q) (.inl hp)
theorem es_aug {x : Str} {np : Pos} {op : Operator} {value : Expr} {a : V} {Q : Fl → Locs → AH → Prop} (ok : Γ.Ok) (ow : Owns Γ) (hx : m.lookup x = some a) (hk : Γ.env.kindOf x = some .local) (h : EV Γ value m H (fun b H1 => IOp Γ op a b H1 (fun v H2 => Q .next ((x, v) :: m) H2)) R) : ES Γ (.AugAssign (.Name x np) op value pos) m H Q R := by
  intro s t
  obtain ⟨mm, n, _, f⟩ := t.loc
  rcases f x a hx with ⟨_, val, e1, r1⟩ | ⟨k, _⟩
  · refine wpAny_AugAssign_Name (wpAny_loadName_local ok.kind hk n e1 (wpAny_mono (h s t) (fun vb s1 p => ?_) fun _ _ z => z.w t))
    obtain ⟨b, H1, x1, y1, r2, q⟩ := p
    refine wpAny_mono (q s1 val vb _ y1 (r1.ext x1) r2) (fun v s2 p2 => ?_) fun _ _ z => z
    obtain ⟨mv, H2, x2, y2, r3, q2⟩ := p2
    refine wp_store ok ow (t.ext (x1.trans x2) y2) r3 (.inl hk) fun h' tk e2 t2 => ?_
    exact ⟨_, _, H2, (x1.trans x2).w.trans e2, t2, .next, q2⟩
  · rcases k with k | k <;> rw [hk] at k <;> cases k

/-- while: a measure and what holds before each test -/
theorem es_while {test : Expr} {body : List Stmt} {Q : Fl → Locs → AH → Prop} (ok : Γ.Ok) (tp : Top1 Γ) (J : Nat → Locs → AH → Prop) (n : Nat) (h0 : J n m H)
    (h : ∀ n mi Hi, J n mi Hi → TV Γ test mi Hi (fun b H1 => if b then EX Γ body mi H1 (fun fl m2 H2 => match fl with
        | .next => ∃ k, k < n ∧ J k m2 H2 | .cont => ∃ k, k < n ∧ J k m2 H2 | .brk => Q .next m2 H2 | .ret v => Q (.ret v) m2 H2) R else Q .next mi H1) R) : ES Γ (.While test body [] pos) m H Q R := by
  intro s t
  refine wpAny_While (codeAny_whileLoop (R := fun r s' => match r with | .ok f => FPost Γ H s Q f s' | .error e => cameBackBy (Mw Γ.w) Γ.A Γ.env (XPostW Γ H s R) e s')
    (fun n sI => ∃ mi Hi, J n mi Hi ∧ ExtW Γ.F Γ.own H s.heap Hi sI.heap ∧ St Γ mi Hi sI) (fun n sI hI => ?_) n ⟨m, H, h0, .refl, t⟩)
  obtain ⟨mi, Hi, hJ, xw, ti⟩ := hI
  refine wpAny_mono (h n mi Hi hJ sI ti) (fun b s1 p => ?_) fun e s1 p => xpost_noted ok tp t ((p.w ti).after xw)
  obtain ⟨H1, x1, y1, q⟩ := p
  have t1 := ti.ext x1 y1
  cases b with
  | false => exact wpAny_execs_nil ⟨_, mi, H1, xw.trans x1.w, t1, .next, q⟩
  | true =>
    refine wpAny_mono (q s1 t1) (fun f s2 p2 => ?_) fun e s2 p2 => xpost_noted ok tp t (p2.after (xw.trans x1.w))
    obtain ⟨mf, m2, H2, x2, t2, r2, q2⟩ := p2
    have xx := (xw.trans x1.w).trans x2
    cases r2 with
    | next => obtain ⟨k, hk, j⟩ := q2; exact ⟨k, hk, m2, H2, j, xx, t2⟩
    | cont => obtain ⟨k, hk, j⟩ := q2; exact ⟨k, hk, m2, H2, j, xx, t2⟩
    | brk => exact ⟨_, m2, H2, xx, t2, .next, q2⟩
    | ret r => exact ⟨_, m2, H2, xx, t2, .ret r, q2⟩
end

section
variable {prog : Program} {w : World} {A : Around} {E : Value → Shared → Prop} {s : Shared}

/-- the values of a dict, whatever its keys -/
theorem rv_call {d : Addr} {Q : Value → Shared → Prop} (hT : s.TypeIs (.ref d) "dict") (hd : (d == sysModules) = false)
    (h : Q (.ref s.heap.objs.size) { s with heap := s.heap.push { cls := .type "dict_values", data := .fields #[.ref d] } }) : wpAny (model prog w) A (call (.builtin "dict.values") [.ref d]) Q E s := by
  refine wpAny_call_entry F.slot_dict_values hT F.entry_dict_values ?_ (F.args_dict_values_1 _)
  refine wpAny_bind ?_
  unfold Builtin.Dict.noArgs
  refine wpAny_bind (wpAny_notOrdered_dict hT ?_)
  show wpAny _ _ (pure d) _ _ s
  refine wpAny_pure ?_
  show wpAny _ _ (Builtin.Dict.showsAll d >>= _) _ _ s
  unfold Builtin.Dict.showsAll
  rw [if_neg (by rw [hd]; exact Bool.false_ne_true)]
  refine wpAny_bind (wpAny_pure ?_)
  exact wpAny_bind (wpAny_newObj_type (wpAny_pure ⟨_, rfl, h⟩))

theorem rv_iter {v d : Addr} {o : Obj} {es : Array DictEntry} {ep : Nat} {Q : Value → Shared → Prop} (hv : s.heap.IsValuesView v d) (ho : s.heap.get? d = some o) (hdat : o.data = .dict es ep)
    (hQ : Q (.ref s.heap.objs.size) { s with heap := s.heap.push { cls := .type "dict_valueiterator", data := .fields #[.ref d, .int 0 0, .int es.size 0, .int ep 0] } }) :
    wpAny (model prog w) A (pyIter (.ref v)) Q E s := by
  obtain ⟨ov, hov, hcv, hdv⟩ := id hv
  refine wpAny_pyIter_slot hv.typeIs F.slot_dict_values_iter (wpAny_call_entry F.slot_dict_values_iter hv.typeIs F.entry_dict_values_iter ?_ (F.args_dict_values_iter_1 _))
  unfold Builtin.«dict_values.__iter__»
  refine wpAny_bind (wpAny_pure ?_)
  refine wpAny_bind ?_
  unfold Builtin.Dict_items.dictOf
  refine wpAny_bind (wpAny_field hov hdv (x := .ref d) rfl (wpAny_pure ?_))
  refine wpAny_bind ?_
  unfold Builtin.Dict_items.newIterator
  refine wpAny_bind (wpAny_dictEntries ho hdat ?_)
  refine wpAny_bind (wpAny_dictEpoch ho hdat ?_)
  have hown : Builtin.Dict_items.ownsTuple "dict_valueiterator" = false := by decide
  simp only [hown, Bool.false_eq_true, if_false]
  refine wpAny_newObj_type (wpAny_pure ⟨_, rfl, "dict_valueiterator", _, ⟨_, Heap.get?_push_size _ rfl, rfl⟩, F.slot_dict_valueiterator_next.lookup, ?_⟩)
  simpa [rawInt] using hQ

theorem rv_item {it d : Addr} {i ep : Nat} {es : Array DictEntry} {od : Obj} {v : Value} {Q : Option Value → Shared → Prop} (hit : s.heap.IsValIter it d i es.size ep)
    (hod : s.heap.get? d = some od) (hdd : od.data = .dict es ep) (hx : (es[i]?).map (·.val) = some v)
    (hQ : ∀ h', h'.IsValIter it d (i + 1) es.size ep → Heap.SameBut it s.heap h' → Q (some v) { s with heap := h' }) :
    wpAny (model prog w) A (pyNext (.ref it)) Q E s := by
  obtain ⟨o, ho, hc, hd⟩ := id hit
  unfold pyNext
  refine wpAny_bind (wpAny_attempt (wpAny_callSpecial?_slot (name := Str.ofString "__next__") hit.typeIs F.slot_dict_valueiterator_next
    (wpAny_call_entry F.slot_dict_valueiterator_next hit.typeIs F.entry_dict_valueiterator_next ?_ (F.args_dict_valueiterator_next_1 _))))
  refine wpAny_bind (wpAny_pure ?_)
  refine wpAny_bind ?_
  refine wpAny_bind ?_
  first | refine wpAny_bind (wpAny_typeNameOfWhole_valiter hit.typeIs (wpAny_pure ?_)) | refine wpAny_bind (wpAny_typeNameOf_valiter hit.typeIs (wpAny_pure ?_))
  refine wpAny_bind (wpAny_fieldsOf ho hd ?_)
  have hown : Builtin.Dict_items.ownsTuple "dict_valueiterator" = false := by decide
  rw [if_neg (by rw [hown]; exact Bool.false_ne_true)]
  show wpAny _ _ (if (Value.ref d == Value.none) = true then _ else _) _ _ s
  rw [if_neg (show ¬ ((Value.ref d == Value.none) = true) from Bool.false_ne_true)]
  refine wpAny_bind (wpAny_pure ?_)
  refine wpAny_bind (wpAny_dictEntries hod hdd ?_)
  rw [if_neg (by simp)]
  refine wpAny_bind (wpAny_pure ?_)
  refine wpAny_bind (wpAny_dictEpoch hod hdd ?_)
  rw [if_neg (by simp)]
  refine wpAny_pure ?_
  have hlt' : i < es.size := by
    rcases Nat.lt_or_ge i es.size with h | h
    · exact h
    · rw [Array.getElem?_eq_none h] at hx; cases hx
  have hval : es[i].val = v := by rw [Array.getElem?_eq_getElem hlt'] at hx; simpa using hx
  dsimp only
  rw [if_neg (show ¬ ((i : Int) < 0) from by omega), Int.toNat_natCast, Array.getElem?_eq_getElem hlt']
  refine wpAny_bind ?_
  first | refine wpAny_bind (wpAny_typeNameOfWhole_valiter hit.typeIs (wpAny_pure ?_)) | refine wpAny_bind (wpAny_typeNameOf_valiter hit.typeIs (wpAny_pure ?_))
  refine wpAny_bind (wpAny_isOneOf_valiter hit.typeIs ?_)
  show wpAny _ _ (setField (.ref it) 1 (rawInt ((i : Int) + 1)) >>= _) _ _ s
  refine wpAny_bind (wpAny_setField ho hd (by simp) ?_)
  have hit' : (s.heap.update it (Obj.mapFields (·.setIfInBounds 1 (rawInt ((i : Int) + 1))))).IsValIter it d (i + 1) es.size ep :=
    ⟨_, Heap.get?_update_self _ ho (Obj.isFreed_of_fields (Obj.data_mapFields hd _)), (Obj.cls_mapFields ..).trans hc, by rw [Obj.data_mapFields hd]; simp [rawInt]⟩
  refine wpAny_bind (wpAny_holding ?_)
  refine wpAny_bind (wpAny_isOneOf_valiter (s := { s with heap := s.heap.update it (Obj.mapFields (·.setIfInBounds 1 (rawInt ((i : Int) + 1)))) }) hit'.typeIs ?_)
  refine wpAny_bind (wpAny_isOneOf_valiter (s := { s with heap := s.heap.update it (Obj.mapFields (·.setIfInBounds 1 (rawInt ((i : Int) + 1)))) }) hit'.typeIs ?_)
  show wpAny _ _ (pure es[i].val) _ _ _
  exact wpAny_pure (wpAny_pure ⟨_, rfl, wpAny_pure (hval ▸ hQ _ hit' (Heap.SameBut.update ..))⟩)

theorem rv_end {it d : Addr} {i ep : Nat} {es : Array DictEntry} {od : Obj} {Q : Option Value → Shared → Prop} (hh : A.handled = none) (hit : s.heap.IsValIter it d i es.size ep)
    (hod : s.heap.get? d = some od) (hdd : od.data = .dict es ep) (hge : es.size ≤ i)
    (hQ : ∀ h', Heap.ExtBut it s.heap h' → Q none { s with heap := h' }) : wpAny (model prog w) A (pyNext (.ref it)) Q E s := by
  obtain ⟨o, ho, hc, hd⟩ := id hit
  unfold pyNext
  refine wpAny_bind (wpAny_attempt (wpAny_callSpecial?_slot (name := Str.ofString "__next__") hit.typeIs F.slot_dict_valueiterator_next
    (wpAny_call_entry F.slot_dict_valueiterator_next hit.typeIs F.entry_dict_valueiterator_next ?_ (F.args_dict_valueiterator_next_1 _))))
  refine wpAny_bind (wpAny_pure ?_)
  refine wpAny_bind ?_
  refine wpAny_bind ?_
  first | refine wpAny_bind (wpAny_typeNameOfWhole_valiter hit.typeIs (wpAny_pure ?_)) | refine wpAny_bind (wpAny_typeNameOf_valiter hit.typeIs (wpAny_pure ?_))
  refine wpAny_bind (wpAny_fieldsOf ho hd ?_)
  have hown : Builtin.Dict_items.ownsTuple "dict_valueiterator" = false := by decide
  rw [if_neg (by rw [hown]; exact Bool.false_ne_true)]
  show wpAny _ _ (if (Value.ref d == Value.none) = true then _ else _) _ _ s
  rw [if_neg (show ¬ ((Value.ref d == Value.none) = true) from Bool.false_ne_true)]
  refine wpAny_bind (wpAny_pure ?_)
  refine wpAny_bind (wpAny_dictEntries hod hdd ?_)
  rw [if_neg (by simp)]
  refine wpAny_bind (wpAny_pure ?_)
  refine wpAny_bind (wpAny_dictEpoch hod hdd ?_)
  rw [if_neg (by simp)]
  refine wpAny_pure ?_
  dsimp only
  rw [if_neg (show ¬ ((i : Int) < 0) from by omega), Int.toNat_natCast, Array.getElem?_eq_none hge]
  refine wpAny_bind ?_
  first | refine wpAny_bind (wpAny_typeNameOfWhole_valiter hit.typeIs (wpAny_pure ?_)) | refine wpAny_bind (wpAny_typeNameOf_valiter hit.typeIs (wpAny_pure ?_))
  show wpAny _ _ (setField (.ref it) 0 .none >>= _) _ _ s
  refine wpAny_bind (wpAny_setField ho hd (by simp) ?_)
  show wpAny _ _ (newExc (.type "StopIteration") [] >>= _) _ _ _
  refine wpAny_bind ?_
  simp only [newExc, newTuple]
  refine wpAny_bind (wpAny_newObj_type ?_ (by size_fits))
  refine wpAny_bind (m := firstArgMember _ _) (wpAny_of_eq (a := Value.none) (by first | rfl | (simp only [firstArgMember]; rfl)) ?_)
  refine wpAny_newObj_type ?_ (by size_fits)
  unfold raiseNew
  refine wpAny_bind (wpAny_handled ?_)
  rw [show A.in1.handled = none from hh]
  refine wpAny_bind (wpAny_pure (wpAny_throw ?_))
  refine wpAny_bind (wpAny_isInstance (T := "StopIteration") (b := true) ⟨_, Heap.get?_push_size _ rfl, rfl⟩ isSubtype_stop ?_)
  exact wpAny_pure (hQ _ (((Heap.SameBut.update ..).extBut.push _).push _))

theorem rv_self {it d : Addr} {i n ep : Nat} {Q : Value → Shared → Prop} (hit : s.heap.IsValIter it d i n ep) (h : Q (.ref it) s) : wpAny (model prog w) A (pyIter (.ref it)) Q E s := wpAny_pyIter_valiter hit h
end

/-- walking a dict's values -/
theorem Walks.vals {w : World} {A : Around} (hh : A.handled = none) (I d : Addr) (hne : d ≠ I) (od : Obj) (es : Array DictEntry) (ep : Nat) (hdd : od.data = .dict es ep) :
    Walks pw w A I [I, d] [I] es.size (fun i v => (es[i]?).map (·.val) = some v) (fun i h => h.IsValIter I d i es.size ep ∧ h.get? d = some od) where
  sub := fun b hb => by simp at hb; simp [hb]
  frame := fun _ _ _ st hk => ⟨let ⟨o, ho, r⟩ := st.1; ⟨o, hk I (by simp) o ho, r⟩, hk d (by simp) od st.2⟩
  item := fun i s Q E hi st hQ => by
    refine rv_item st.1 st.2 hdd (v := es[i].val) (by simp [hi]) fun h' hit' hs' => ?_
    exact hQ _ h' s.toks (by simp [hi]) ⟨hit', hs'.extBut d od hne st.2⟩ fun b o hb e => hs'.extBut b o (fun h => hb (by simp [h])) e
  done := fun s Q E st hQ => rv_end hh st.1 st.2 hdd (Nat.le_refl _) fun h' he' => hQ h' s.toks fun b o hb e => he' b o (fun h => hb (by simp [h])) e
  self := fun _ _ _ _ st hQ => rv_self st.1 hQ

theorem Kvs.vals {w : World} {H h} {xs : List (List KV × Addr × Value)} {kvs : List (List KV × V)} (f : Kvs H h xs kvs) : RelAll H h ((xs.map (entryOfKey (tupKind w))).map (·.val)) (kvs.map (·.2)) := by
  induction f with
  | nil => exact .nil
  | cons _ r _ ih => exact .cons r ih

section
variable {Γ : Cx} {target : Expr} {m : Locs} {H : AH} {I : List V → List Addr → List Addr → AH → Prop} {R : Int → AH → Prop} {pos : Pos}
theorem iv_values {o : Expr} {apos : Pos} (ok : Γ.Ok) (h : EV Γ o m H (fun v H1 => ∃ d kvs, v = .ref d ∧ H1 d = some (.dict kvs) ∧ ∀ J, H1 J = none → I (kvs.map (·.2)) [J] [d] H1) R)
    (hbase : ∀ env, attributeBase o "values" env (eval o env) = eval o env := by intro _; rfl) (hline : (apos.endLine == pos.line) = true := by rfl) : IV Γ target (.Call (.Attribute o "values" apos) [] [] pos) m H I R := by
  intro s t
  refine Call_method0 (hbase _) hline (wpAny_mono (h s t) (fun ov s1 p => ?_) fun _ _ z => z)
  obtain ⟨v, H1, x1, y1, r1, d, kvs, rfl, hd, q⟩ := p
  refine r1.rE ?_
  obtain ⟨hs, xs, ⟨od, es, ep, e, ⟨c, dn, sl⟩, hdd, hes, hk, hnd⟩, f⟩ := y1.view _ _ hd
  have hT : s1.TypeIs (.ref d) "dict" := ⟨_, e, c⟩
  refine ⟨"dict", _, F.plainAttrs_dict, F.slot_dict_values, F.type_dict_values, hT, (fun a z => by cases z; exact ⟨_, e, dn⟩), ?_⟩
  refine callWith_method0 (env := Γ.env) (rv_call hT hs ?_)
  have k1 : ∀ b ob, s1.heap.get? b = some ob → (s1.heap.push { cls := .type "dict_values", data := .fields #[.ref d] }).get? b = some ob := fun b ob e => Heap.get?_push_of_some _ e
  have t1 := t.ext x1 y1
  have eg := Ext.grow (F := Γ.F) (H := H1) k1
  have y2 := y1.grow (tk := s1.toks) k1
  have t2 : St Γ m H1 { s1 with heap := s1.heap.push { cls := .type "dict_values", data := .fields #[.ref d] } } := t1.ext (s' := { s1 with heap := s1.heap.push { cls := .type "dict_values", data := .fields #[.ref d] } }) eg y2
  refine rv_iter (o := od) ⟨_, Heap.get?_push_size _ rfl, rfl, rfl⟩ (k1 _ _ e) hdd ?_
  generalize hs2 : ({ s1 with heap := s1.heap.push { cls := .type "dict_values", data := .fields #[.ref d] } } : Shared) = s2 at t2
  have eh : s1.heap.push { cls := .type "dict_values", data := .fields #[.ref d] } = s2.heap := by rw [← hs2]
  have k2 : ∀ b ob, s2.heap.get? b = some ob → (s2.heap.push { cls := .type "dict_valueiterator", data := .fields #[.ref d, .int 0 0, .int es.size 0, .int ep 0] }).get? b = some ob := fun b ob e => Heap.get?_push_of_some _ e
  have e2 : s2.heap.get? d = some od := by rw [← eh]; exact k1 _ _ e
  have hne : d ≠ s2.heap.objs.size := Nat.ne_of_lt (Heap.lt_size e2)
  have hI : (s2.heap.push { cls := .type "dict_valueiterator", data := .fields #[.ref d, .int 0 0, .int es.size 0, .int ep 0] }).get? s2.heap.objs.size = some _ := Heap.get?_push_size _ rfl
  have hlen : es.size = (kvs.map (·.2)).length := by rw [List.length_map, ← f.length, ← Array.length_toList, hes, List.length_map]
  have vals := f.vals (w := Γ.w)
  have p := ipost_grow (target := target) (Q := I) (tk := s2.toks) (fp := [s2.heap.objs.size, d]) (wr := [s2.heap.objs.size]) (lk := [d]) (P := fun i v _ _ => (es[i]?).map (·.val) = some v) (S := fun i h => h.IsValIter s2.heap.objs.size d i es.size ep ∧ h.get? d = some od) (xs := kvs.map (·.2)) t2 k2
    (Iter.ofWalks (n := (kvs.map (·.2)).length) (by rw [← hlen]; exact Walks.vals ok.handled s2.heap.objs.size d hne od es ep hdd) fun i h hS => by obtain ⟨⟨o, a1, a2, _⟩, _⟩ := hS; exact ⟨o, "dict_valueiterator", a1, a2, by decide⟩)
    ⟨⟨_, hI, rfl, rfl⟩, k2 _ _ e2⟩ (fun b hb => by rw [List.mem_singleton.mp hb]; exact ⟨get_none (k := 0), _, hI⟩) (fun b hb => by rw [List.mem_singleton.mp hb]; exact ⟨_, hd, (fun _ h => by cases h), fun _ h => by cases h⟩)
    (fun b hb => by
      rcases List.mem_cons.mp hb with rfl | hb
      · exact .inl (List.mem_singleton.mpr rfl)
      · exact .inr (.inl hb))
    (fun i v x h0 h'' Hi hx hP _ sk => by
      have hP' : (es[i]?).map (·.val) = some v := hP
      refine (vals.get (i := i) ?_ hx).seqK (eg.seqK.trans (by rw [eh]; exact sk))
      rw [← hes, List.getElem?_map, Array.getElem?_toList]; exact hP')
    (q _ (t2.sim.fresh (get_none (k := 0))))
  subst hs2
  exact (IPost.after t1.sim eg p).after t.sim x1
end

/-- what is known of a class whose instances are made -/
structure MakeOk (C fI : Addr) : Prop where
  makes : ∀ P, makesIn (frag P) C = true
  init : ∀ P, findIn (frag P) (.ref C) "__init__" = some (some (.ref fI))
  fn : ∀ P, typeIn (frag P) (.ref fI) = some (.type "function")

theorem under_tc {A : Around} {C : Addr} {vals : List Value} {stk : List Env} (h : A.frames = some stk) : (A.under (.builtin "type.__call__" ⟨.ref C :: vals, []⟩)).frames = some stk ∧ (A.under (.builtin "type.__call__" ⟨.ref C :: vals, []⟩)).depth ≤ A.depth + 1 ∧ (A.under (.builtin "type.__call__" ⟨.ref C :: vals, []⟩)).units ≤ A.units + 1 ∧ (A.under (.builtin "type.__call__" ⟨.ref C :: vals, []⟩)).handled = A.handled := by
  refine ⟨?_, ?_, ?_, rfl⟩
  · show pushEnvs (Code.envs (.builtin "type.__call__" ⟨.ref C :: vals, []⟩)) A.frames = _
    rw [show Code.envs (.builtin "type.__call__" ⟨.ref C :: vals, []⟩) = [] from by kernel_rfl]; exact h
  · show A.depth + Code.weight (.builtin "type.__call__" ⟨.ref C :: vals, []⟩) ≤ _
    have : Code.weight (.builtin "type.__call__" ⟨.ref C :: vals, []⟩) = 1 := by kernel_rfl
    omega
  · show A.units + Code.cUnits (.builtin "type.__call__" ⟨.ref C :: vals, []⟩) ≤ _
    have : Code.cUnits (.builtin "type.__call__" ⟨.ref C :: vals, []⟩) = 1 := by kernel_rfl
    omega

theorem Sim.newInst {w base os H} {s : Shared} {C : Addr} (y : Sim w base os H s) :
    H s.heap.objs.size = none ∧ H (s.heap.objs.size + 1) = none ∧
    Sim w base os ((H.set s.heap.objs.size (.aux (s.heap.objs.size + 1))).set (s.heap.objs.size + 1) (.inst C [])) { s with heap := (s.heap.push emptyDict).push (instObj C s.heap.objs.size) } ∧
    ∀ F, Ext F H s.heap ((H.set s.heap.objs.size (.aux (s.heap.objs.size + 1))).set (s.heap.objs.size + 1) (.inst C [])) ((s.heap.push emptyDict).push (instObj C s.heap.objs.size)) := by
  have k : ∀ b o, s.heap.get? b = some o → ((s.heap.push emptyDict).push (instObj C s.heap.objs.size)).get? b = some o := fun b o e => Heap.get?_push_of_some _ (Heap.get?_push_of_some _ e)
  have gd : ((s.heap.push emptyDict).push (instObj C s.heap.objs.size)).get? s.heap.objs.size = some emptyDict := Heap.get?_push_of_some _ (Heap.get?_push_size _ rfl)
  have gx : ((s.heap.push emptyDict).push (instObj C s.heap.objs.size)).get? (s.heap.objs.size + 1) = some (instObj C s.heap.objs.size) := by
    have := Heap.get?_push_size (s.heap.push emptyDict) (o := instObj C s.heap.objs.size) rfl
    rwa [Heap.size_push] at this
  have hd : s.heap.get? s.heap.objs.size = none := get_none (k := 0)
  have hx : s.heap.get? (s.heap.objs.size + 1) = none := get_none (k := 1)
  have ne : ∀ a o, s.heap.get? a = some o → a ≠ s.heap.objs.size ∧ a ≠ s.heap.objs.size + 1 := fun a o e => ⟨(nz e hd), (nz e hx)⟩
  have dx : s.heap.objs.size ≠ s.heap.objs.size + 1 := Nat.ne_of_lt (Nat.lt_succ_self _)
  generalize s.heap.objs.size = d at *
  have hz : ∀ a o, H a = some o → a ≠ d ∧ a ≠ d + 1 := fun a o e => by obtain ⟨ob, e2⟩ := (y.view a o e).live; exact ne a ob e2
  have ext : ∀ F, Ext F H s.heap ((H.set d (.aux (d + 1))).set (d + 1) (.inst C [])) ((s.heap.push emptyDict).push (instObj C d)) := fun F =>
    ⟨fun a o e _ => ⟨o.slots, k a o e, fun _ => rfl⟩, fun a o e z => by rw [AH.set_ne _ _ (ne a o e).2, AH.set_ne _ _ (ne a o e).1]; exact z, fun a o e => ⟨o, k a o e⟩, fun a l o z e => ⟨k a o e, by rw [AH.set_ne _ _ (ne a o e).2, AH.set_ne _ _ (ne a o e).1]; exact z⟩⟩
  have hb : ∀ a, s.heap.get? a = none → base.get? a = none := fun a e => by
    cases z : base.get? a with
    | none => rfl
    | some o => have := y.stays a o z; rw [e] at this; cases this
  refine ⟨y.fresh hd, y.fresh hx, ?_, ext⟩
  refine y.step (tk := s.toks) (ext []).seqK (fun b o e => k b o (y.stays b o e)) [] (fun b ob o hb' _ e => ⟨k b ob e, by rw [AH.set_ne _ _ (ne b ob e).2, AH.set_ne _ _ (ne b ob e).1]; exact hb'⟩) fun a o ea => ?_
  by_cases q : a = d + 1
  · subst q; rw [AH.set_self] at ea; cases ea
    exact .inr ⟨⟨d, [], 0, gx, by rw [AH.set_ne _ _ dx, AH.set_self], gd, .nil⟩, hb _ hx⟩
  · rw [AH.set_ne _ _ q] at ea
    by_cases q2 : a = d
    · subst q2; rw [AH.set_self] at ea; cases ea
      exact .inr ⟨⟨_, gd, fun vs h => by cases h⟩, hb _ hd⟩
    · rw [AH.set_ne _ _ q2] at ea
      exact .inl ⟨ea, (fun h => (nomatch h)), fun _ _ h => (nomatch h)⟩

/-- an instance is made: its __init__ runs -/
theorem cw_new {Co : Con} {lv : Nat} {C fI : Addr} {args : List V} {H : AH} {Q : V → AH → Prop} {R : Int → AH → Prop} (hB : Base Co.w Co.base) (mk : MakeOk C fI)
    (h : ∀ x d, H x = none → H d = none → d ≠ x → CW Co lv (.ref fI) (.ref x :: args) ((H.set d (.aux x)).set x (.inst C [])) (fun v H' => v = .none ∧ Q (.ref x) H') R) : CW Co (lv + 1) (.ref C) args H Q R := by
  intro A stk s vals a1 a2 a3 a4 a5 a6 a7 a8
  have X : (frag Co.w.params).In s.heap := hB.K.keeps a7.stays
  obtain ⟨hp, g, dr, tk, os⟩ := s
  refine make_core (makes_of X (mk.makes _)) (looks_findIn X (mk.init _)) (fun self => bind_fn X self (mk.fn _)) (.inl rfl) ?_
  obtain ⟨u1, u2, u3, u4⟩ := under_tc (C := C) (vals := vals) a1
  obtain ⟨z1, z2, y', x'⟩ := a7.newInst (C := C)
  have dx : hp.objs.size ≠ hp.objs.size + 1 := Nat.ne_of_lt (Nat.lt_succ_self _)
  have c := h (hp.objs.size + 1) hp.objs.size z2 z1 dx
  have ff := frames_ext (x' (stk.filterMap (·.frame))) a5 a6
  have off : ∀ a ∈ stk.filterMap (·.frame), ((H.set hp.objs.size (.aux (hp.objs.size + 1))).set (hp.objs.size + 1) (.inst C [])) a = none := fun a ha => by
    obtain ⟨_, o, ho, _⟩ := a5.mem ha
    exact (x' []).none a o ho (a6 a ha)
  have cc := c (A.under (.builtin "type.__call__" ⟨.ref C :: vals, []⟩)) stk _ (.ref (hp.objs.size + 1) :: vals) u1 (by omega) (by omega) (u4.trans a4) ff off y' (.cons (.ref _) (a8.ext (x' [])))
  refine codeAny_mono cc fun r s' p => ?_
  rcases r with e | (v | _ | _ | _)
  · obtain ⟨n, H', e, rfl, x, y, sn, q⟩ := p
    exact ⟨n, H', e, rfl, (x' _).trans x, y, sn.after (x' []), q⟩
  all_goals first | exact p | (obtain ⟨mv, H', x, y, r, rfl, q⟩ := p; refine r.nE ?_; exact ⟨rfl, _, H', (x' _).trans x, y, .ref _, q⟩)

structure ClsMeth (C : Addr) (name : Str) (f : Addr) : Prop where
  ga : ∀ P, specialIn (frag P) (.ref C) "__getattribute__" = some (some (.builtin "type.__getattribute__"))
  rd : ∀ P, readsIn (frag P) C (.type "type") = true
  fc : ∀ P, findCls (frag P) (.ref C) (.type "type") name = some (.val (.ref f))
  keep : ∀ P, keepIn (frag P) (.ref f) = true
theorem XPost.tk {Γ H s R x s'} {k : Nat} (z : XPost Γ H { s with toks := k } R x s') : XPost Γ H s R x s' := by obtain ⟨n, H', e, a, b, c, d, f⟩ := z; exact ⟨n, H', e, a, b, c, d, f⟩
section
variable {Γ : Cx} {m : Locs} {H : AH} {Q : V → AH → Prop} {R : Int → AH → Prop} {pos : Pos}
theorem ev_cmeth {o e : Expr} {r : List Expr} {name : Str} {apos : Pos} {C f : Addr} {lv : Nat} {pl : Sem Bool} (ok : Γ.Ok) (cm : ClsMeth C name f)
    (h : EV Γ o m H (fun v H1 => v = .ref C ∧ EVs Γ (e :: r) m H1 (fun vs H2 => CW Γ.con lv (.ref f) vs H2 Q R) R) R) (hl : lv ≤ Γ.lv)
    (he : eval (.Call (.Attribute o name apos) (e :: r) [] pos) Γ.env = (do
      let ov ← eval o Γ.env
      standAt apos.atName
      let (f, first) ← holding [ov] (getMethod ov name pl)
      callWith pos f first (backTo pos (starEach (e :: r) Γ.env)) []) := by rfl)
    (hs : ∀ env, starEach (e :: r) env = (false, eval e env) :: starEach r env := by intro _; rfl)
    (hp : ∀ env, (backTo pos (starEach r env)).any (·.1) = false := by intro _; rfl) : EV Γ (.Call (.Attribute o name apos) (e :: r) [] pos) m H Q R := by
  intro s t
  refine MethodCall_ (pl := pl) (wpAny_mono (h s t) (fun ov s1 p => ?_) fun _ _ z => z) he
  obtain ⟨_, H1, x1, y1, r1, rfl, q1⟩ := p
  refine r1.rE ?_
  have X := frag_at ok y1
  have t1 := t.ext x1 y1
  refine method_cls X (cm.ga _) (cls_value X (cm.rd _) (cm.fc _) rfl ?_)
  have t1' : St Γ m H1 { s1 with toks := s1.toks + 1 } := ⟨t1.sim.toks _, t1.loc, t1.cells, t1.frames, t1.off⟩
  refine callWith_K (h₀ := s1.heap) X (cm.keep _) (wpAny_mono (q1 { s1 with toks := s1.toks + 1 } pos t1') (fun vs s2 h2 => ?_) fun _ _ z => z.tk.after x1) (hs _) (hp _)
  obtain ⟨xs, H2, x2, y2, r2, q3⟩ := h2
  refine ⟨frag_at ok y2, ?_⟩
  exact wpAny_mono (q3.at ok hl (t1'.ext x2 y2) r2) (fun _ _ z => z.after (x1.trans x2)) fun _ _ z => z.after (x1.trans x2)
end

section
variable {w : World} {A : Around} {E : Value → Shared → Prop} {h : Heap} {g : Array GenState} {d : Drawn} {t : Nat} {os : OsState}
variable {nm q : Str} {N : Addr} {bs : List Value} {hdct : Bool} {sn : List Str} {sub : List Value} {ab : Bool} {col : Option Bool} {dd : Option Addr} {k0 k1 k2 k3 k5 : Option Value}

noncomputable abbrev excTail : List Value := [.type "Exception", .type "BaseException", .type "object"]
noncomputable abbrev rawExc (C t : Addr) : Obj := { cls := .ref C, data := .fields #[.ref t, .none, .none, .none, .bool false, .none] }

theorem exc_type_call {C fI : Addr} {rest : List Value} {Q : Value → Shared → Prop} (X : (frag w.params).In h) (hi : findIn (frag w.params) (.ref C) "__init__" = some (some (.ref fI))) (hf : typeIn (frag w.params) (.ref fI) = some (.type "function"))
    (hC : h.get? C = some (excClassObj nm q C N bs excTail hdct sn sub ab col dd k0 k1 k2 k3 k5 "Exception.__new__"))
    (hq : codeAny (Mw w) A (.call (.ref fI) ⟨.ref (h.objs.size + 1) :: rest, []⟩) (fun r s' => match r with | .ok (.ret v) => v = .none ∧ Q (.ref (h.objs.size + 1)) s' | .ok _ => False | .error e => E e s') ⟨(h.push { cls := .type "tuple", data := .seq rest.toArray }).push (rawExc C h.objs.size), g, d, t, os⟩) (hrest : rest.length ≤ sizeLine) :
    wpAny (Mw w) A (Builtin.«type.__call__» ⟨.ref C :: rest, []⟩) (fun fin s' => ∃ v, fin = .done (.ret v) ∧ Q v s') E ⟨h, g, d, t, os⟩ := by
  have F := PySem.F.excBase_Exception
  have T : OwnTail h excTail excTail := .base
  repeat (first | with_reducible refine wpAny_loadPart_at hC ?_ | with_reducible refine wpAny_madeBy_exc hC ?_ | wp_step)
  refine codeAny_call_builtin_code (Code.quiet_builtin _ F.quiet) (wpAny_check_new_subT F T hC ?_)
  refine codeAny_exc_new_subT F T hC ?_ hrest
  show wpAny _ _ _ _ _ _
  have k : ∀ b o, h.get? b = some o → ((h.push { cls := .type "tuple", data := .seq rest.toArray }).push (rawExc C h.objs.size)).get? b = some o := fun b o e => Heap.get?_push_of_some _ (Heap.get?_push_of_some _ e)
  have hC₁ := k _ _ hC
  have hget : ((h.push { cls := .type "tuple", data := .seq rest.toArray }).push (rawExc C h.objs.size)).get? (h.objs.size + 1) = some (rawExc C h.objs.size) := by heap_get
  have hcC : (Value.ref C :: excTail).contains (.ref C) = true := by simp
  have X' := X.keeps k
  have i1 := looks_findIn (M := Mw w) X' hi
  have b1 := bind_fn (M := Mw w) X' (.ref (h.objs.size + 1)) hf
  unfold isInstance
  repeat (first | with_reducible refine wpAny_loadPart_at hget ?_ | (with_reducible refine wpAny_isSubtype_exc hC₁ ?_; rw [hcC]) | wp_step)
  show wpAny _ _ (typeLookup (.ref C) _) _ _ _
  refine i1.at ?_
  dsimp only
  refine wpAny_holding (wpAny_bind (b1.at ?_))
  refine wpAny_bind (wpAny_call (codeAny_mono hq fun r s' z => ?_))
  rcases r with e | (v | _ | _ | _) <;> first | exact z | exact z.elim | skip
  obtain ⟨rfl, z⟩ := z
  exact wpAny_pure (wpAny_pure ⟨_, rfl, z⟩)

/-- an exception of the text's own class is made: its __init__ runs -/
theorem exc_call {C fI : Addr} {rest : List Value} {R : Result → Shared → Prop} (X : (frag w.params).In h) (hi : findIn (frag w.params) (.ref C) "__init__" = some (some (.ref fI))) (hf : typeIn (frag w.params) (.ref fI) = some (.type "function"))
    (hC : h.get? C = some (excClassObj nm q C N bs excTail hdct sn sub ab col dd k0 k1 k2 k3 k5 "Exception.__new__"))
    (hq : codeAny (Mw w) (A.under (.builtin "type.__call__" ⟨.ref C :: rest, []⟩)) (.call (.ref fI) ⟨.ref (h.objs.size + 1) :: rest, []⟩) (InitBack (h.objs.size + 1) R) ⟨(h.push { cls := .type "tuple", data := .seq rest.toArray }).push (rawExc C h.objs.size), g, d, t, os⟩) (hrest : rest.length ≤ sizeLine) :
    codeAny (Mw w) A (.call (.ref C) ⟨rest, []⟩) R ⟨h, g, d, t, os⟩ := by
  have f1 := tc_lookup
  have f2 := tc_bind (.ref C)
  have hT : (⟨h, g, d, t, os⟩ : Shared).TypeIs (.ref C) "type" := ⟨_, hC, rfl⟩
  refine codeAny_of_tree ?_
  show wpAny _ _ (callAny (.ref C) _) _ _ _
  repeat (any_goals (first | assumption | with_reducible refine wpAny_loadPart_at hC ?_ | wp_step))
  refine ⟨rfl, ?_⟩
  refine codeAny_call_builtin_at (Code.quiet_builtin _ (by decide +kernel)) entry_typeCall (wpAny_check_type_call_sub hC ?_)
  refine wpAny_mono (exc_type_call (Q := fun v s' => R (.ok (.ret v)) s') (E := fun e s' => R (.error e) s') X hi hf hC (codeAny_mono hq fun r s' z => ?_) hrest) (fun fin s' z => ?_) fun _ _ z => z
  · rcases r with e | (v | _ | _ | _) <;> first | exact z | exact z.elim
  · obtain ⟨v, rfl, z⟩ := z; exact z
end

section
variable {M : Model} {A : Around} {E : Value → Shared → Prop} {env : Env}
variable {nm q : Str} {C N : Addr} {bs : List Value} {hdct : Bool} {sn : List Str} {sub : List Value} {ab : Bool} {col : Option Bool} {dd : Option Addr} {k0 k1 k2 k3 k5 : Option Value} {newId : String}
theorem raise_own {s : Shared} {x : Sem Value} {Q : Flow → Shared → Prop} (hh : A.handled = none)
    (h : wpAny M A x (fun v s₁ => ∃ e dx t sl, v = .ref e ∧ s₁.heap.get? C = some (excClassObj nm q C N bs excTail hdct sn sub ab col dd k0 k1 k2 k3 k5 newId) ∧
      s₁.heap.get? e = some ⟨.ref C, some dx, .fields #[.ref t, .none, .none, .none, .bool false, .none], sl⟩ ∧ E (.ref e) s₁) E s) :
    wpAny M A (raiseStmt env (some x) none) Q E s := by
  have hcB : (Value.ref C :: excTail).contains (.type "BaseException") = true := by rw [List.contains_cons]; simp
  unfold raiseStmt
  refine wpAny_bind (wpAny_mono h (fun v s₁ h₁ => ?_) fun _ _ x => x)
  obtain ⟨e, dx, t, sl, rfl, hC, he, hE⟩ := h₁
  obtain ⟨hp, g, d, tk, os⟩ := s₁
  repeat (first | with_reducible refine wpAny_loadPart_at he ?_ | with_reducible refine wpAny_loadPart_at hC ?_ | (with_reducible refine wpAny_isSubtype_exc hC ?_; rw [hcB]) | wp_step)
  exact wpAny_raiseNew_none hh hE
end

theorem wd_type : typeOf (.builtin "Exception.__init__") = pure (.type "wrapper_descriptor") := by show builtinType _ = _; rw [builtinType_eq_fast]; kernel_rfl
theorem wd_get : Slot "wrapper_descriptor" "__get__" "wrapper_descriptor.__get__" := .of (owner := "wrapper_descriptor") (n := "__get__") (by rw [typeLookup_type, builtinLookup_eq_fast]; kernel_rfl) (by decide +kernel) (by decide +kernel) (by decide +kernel)
  (by first | exact .inl (by kernel_rfl) | exact .inr (by kernel_rfl)) (by rw [isSubtype_type]; kernel_rfl)
theorem wd_entry : entryFor table "wrapper_descriptor.__get__" = some Builtin.«wrapper_descriptor.__get__» := entryFor_of_tree (by kernel_rfl)
theorem wd_args (a b c : Value) : argsOk "wrapper_descriptor.__get__" ⟨[a, b, c], []⟩ := by unfold argsOk; kernel_rfl

theorem own_init : ∀ P, ownIn (frag P) "__init__" (.type "Exception") = some (some (.builtin "Exception.__init__")) := fun P => by kernel_rfl
section
variable {w : World} {A : Around} {E : Value → Shared → Prop} {h : Heap} {g : Array GenState} {d : Drawn} {t : Nat} {os : OsState}
variable {nm q : Str} {N : Addr} {bs : List Value} {hdct : Bool} {sn : List Str} {sub : List Value} {ab : Bool} {col : Option Bool} {dd : Option Addr} {k0 k1 k2 k3 k5 : Option Value}

theorem sg_ga {so x C : Addr} {ox : Obj} {tk : Tok} {Q : PySem.Fin → Shared → Prop} (X : (frag w.params).In h)
    (hso : h.get? so = some { cls := .type "super", dict := none, data := .fields #[.ref C, .ref x, .ref C], slots := #[] }) (hno : Looks (Mw w) h (opaqueClassAbove (.ref C)) none)
    (hC : h.get? C = some (excClassObj nm q C N bs excTail hdct sn sub ab col dd k0 k1 k2 k3 k5 "Exception.__new__")) (hx : h.get? x = some ox) (hxc : ox.cls = .ref C) (hne : x ≠ C)
    (hq : Q (.done (.ret (.ref h.objs.size))) ⟨h.push { cls := .type "method-wrapper", data := .fields #[.builtin "Exception.__init__", .ref x] }, g, d, t, os⟩) :
    wpAny (Mw w) A (Builtin.«super.__getattribute__» ⟨[.ref so, .str "__init__" tk], []⟩) Q E ⟨h, g, d, t, os⟩ := by
  have hlk := wd_get.lookup
  have hxC : (Value.ref x == Value.ref C) = false := by simp [hne]
  have hdt : ({ cls := .type "super", dict := none, data := .fields #[.ref C, .ref x, .ref C], slots := #[] } : Obj).data = .fields #[.ref C, .ref x, .ref C] := rfl
  have f0 : (#[.ref C, .ref x, .ref C] : Array Value)[0]? = some (.ref C) := rfl
  have f1 : (#[.ref C, .ref x, .ref C] : Array Value)[1]? = some (.ref x) := rfl
  have f2 : (#[.ref C, .ref x, .ref C] : Array Value)[2]? = some (.ref C) := rfl
  have hm : Looks (Mw w) h (mroOf (.ref C)) (.ref C :: excTail) := fun A Q E s k q => wpAny_mroOf_exc (k _ _ hC) q
  have hl : ((Value.ref C :: excTail).dropWhile (· != .ref C)).drop 1 = excTail := by simp
  have hn : (("__init__" : Str) == ("__class__" : Str)) = false := by decide
  have hTf : (⟨h, g, d, t, os⟩ : Shared).TypeIs (.builtin "Exception.__init__") "wrapper_descriptor" := wd_type
  unfold Builtin.«super.__getattribute__»
  iterate 14 (try first
    | (with_reducible refine wpAny_field hso hdt f0 ?_) | (with_reducible refine wpAny_field hso hdt f1 ?_) | (with_reducible refine wpAny_field hso hdt f2 ?_)
    | (with_reducible refine ks_wpAny_notOpaque hno ?_)
    | (with_reducible refine Looks.at hm ?_; rw [hl])
    | (refine ks_forIn_along X (fun _ _ => rfl) rfl ?_ hf)
    | (with_reducible refine wpAny_bind (wpAny_of_eq wd_type ?_))
    | (with_reducible refine wpAny_bind (wpAny_of_eq hlk ?_))
    | (simp only [hn, hxC, Bool.or_false, Bool.false_eq_true, if_false])
    | wp_step
    | dsimp only)
  refine wpAny_field hso hdt f2 ?_
  rw [if_neg (by simp)]
  refine wpAny_bind (ks_wpAny_notOpaque hno ?_)
  rw [if_neg (by simp)]
  refine wpAny_bind (hm.at ?_)
  rw [hl]
  refine wpAny_bind ?_
  unfold excTail
  rw [List.forIn_cons]
  refine wpAny_bind (wpAny_bind ((looks_ownIn X (own_init w.params)).at ?_))
  dsimp only
  refine wpAny_bind (wpAny_of_eq wd_type (wpAny_bind (wpAny_of_eq hlk ?_)))
  dsimp only
  rw [hxC, if_neg Bool.false_ne_true]
  refine wpAny_bind (wpAny_holding (wpAny_call_entry wd_get hTf wd_entry ?_ (wd_args _ _ _)))
  unfold Builtin.«wrapper_descriptor.__get__»
  iterate 60 (try (first
    | (with_reducible refine wpAny_loadPart_at hx ?_; rw [hxc])
    | (with_reducible refine wpAny_isSubtype_exc hC ?_)
    | wp_step))
  refine ⟨_, rfl, wpAny_bind (wpAny_pure (wpAny_pure ?_))⟩
  exact wpAny_pure (wpAny_pure hq)

/-- super().__init__ of an exception of the text's own: a method-wrapper -/
theorem sg_method {so x C : Addr} {ox : Obj} {pl : Sem Bool} {Q : Value × List Value → Shared → Prop} (X : (frag w.params).In h)
    (hso : h.get? so = some { cls := .type "super", dict := none, data := .fields #[.ref C, .ref x, .ref C], slots := #[] }) (hno : Looks (Mw w) h (opaqueClassAbove (.ref C)) none)
    (hC : h.get? C = some (excClassObj nm q C N bs excTail hdct sn sub ab col dd k0 k1 k2 k3 k5 "Exception.__new__")) (hx : h.get? x = some ox) (hxc : ox.cls = .ref C) (hne : x ≠ C)
    (hq : Q (.ref h.objs.size, []) ⟨h.push { cls := .type "method-wrapper", data := .fields #[.builtin "Exception.__init__", .ref x] }, g, d, t + 1, os⟩) :
    wpAny (Mw w) A (getMethod (.ref so) "__init__" pl) Q E ⟨h, g, d, t, os⟩ := by
  have hlk := F.ks_slot_super_ga.lookup
  have hcan := F.ks_canon_super_ga
  have hT : ∀ t', (⟨h, g, d, t', os⟩ : Shared).TypeIs (.ref so) "super" := fun _ => ⟨_, hso, rfl⟩
  unfold getMethod
  refine wpAny_bind (wpAny_specialOf (hT _) hlk ?_)
  show wpAny _ _ (if (Manifest.canonical "super.__getattribute__" != "object.__getattribute__") = true then _ else _) _ _ _
  rw [if_pos hcan]
  unfold getAttr getAttrBy
  refine wpAny_bind (wpAny_bind (wpAny_mkText (wpAny_holding (wpAny_bind (wpAny_typeOf (hT _) (wpAny_bind (wpAny_of_eq hlk ?_)))))))
  show wpAny _ _ (getAttrByItsOwn (.ref so) (.str "__init__" t) (.type "super") (.builtin "super.__getattribute__") true false) _ _ _
  unfold getAttrByItsOwn hookBefore callGetattribute boundAndCalled
  refine wpAny_bind (wpAny_of_eq (show (if onTheHeap (.type "super") then typeLookup (.type "super") "__getattr__" else pure none) = pure none from rfl) ?_)
  refine wpAny_bind (wpAny_attempt (wpAny_holding ?_))
  show wpAny _ _ (bindSpecial (.builtin "super.__getattribute__") (.ref so) >>= _) _ _ _
  refine wpAny_bind (wpAny_of_eq (F.ks_slot_super_ga.bind _) ?_)
  refine wpAny_mono (Q := fun v s' => v = .ref h.objs.size ∧ s' = ⟨h.push { cls := .type "method-wrapper", data := .fields #[.builtin "Exception.__init__", .ref x] }, g, d, t + 1, os⟩) (E := fun _ _ => False)
    (wpAny_call_entry F.ks_slot_super_ga (hT _) F.ks_entry_super_ga (sg_ga X hso hno hC hx hxc hne ⟨_, rfl, rfl, rfl⟩) (F.ks_gaArgs_super _ _)) (fun v s' hv => ?_) fun _ _ z => z.elim
  obtain ⟨rfl, rfl⟩ := hv
  exact wpAny_pure (wpAny_pure hq)
end

section
variable {w : World} {A : Around} {E : Value → Shared → Prop} {h : Heap} {g : Array GenState} {d : Drawn} {t : Nat} {os : OsState}
variable {nm q : Str} {N : Addr} {bs : List Value} {hdct : Bool} {sn : List Str} {sub : List Value} {ab : Bool} {col : Option Bool} {dd : Option Addr} {k0 k1 k2 k3 k5 : Option Value}

theorem mw_call {mw x C t0 : Addr} {v : Value} {Q : Value → Shared → Prop} (hC : h.get? C = some (excClassObj nm q C N bs excTail hdct sn sub ab col dd k0 k1 k2 k3 k5 "Exception.__new__"))
    (hmw : h.get? mw = some { cls := .type "method-wrapper", data := .fields #[.builtin "Exception.__init__", .ref x] }) (he : h.get? x = some (rawExc C t0))
    (hq : ∀ h', h'.get? x = some (rawExc C h.objs.size) → (∀ b o, b ≠ x → h.get? b = some o → h'.get? b = some o) → h'.objs.size = h.objs.size + 1 → Q .none ⟨h', g, d, t, os⟩) : wpAny (Mw w) A (call (.ref mw) [v]) Q E ⟨h, g, d, t, os⟩ := by
  have F := PySem.F.excBase_Exception
  refine wpAny_call (codeAny_of_tree ?_)
  show wpAny _ _ (callAny (.ref mw) _) _ _ _
  unfold callAny
  refine wpAny_bind (wpAny_load hmw ?_)
  dsimp only
  rw [if_pos (by decide +kernel)]
  show wpAny _ _ (checkBoundCall "Exception.__init__" ⟨[.ref x, v], []⟩ >>= fun _ => again (.builtin "Exception.__init__" ⟨[.ref x, v], []⟩)) _ _ _
  have T : OwnTail h excTail excTail := .base
  unfold checkBoundCall
  iterate 3 (try wp_step)
  have hcls : (rawExc C t0).cls = .ref C := rfl
  repeat (first | (with_reducible refine wpAny_loadPart_at he ?_; rw [hcls]) | with_reducible refine wpAny_loadPart_at hC ?_ | wp_step)
  show _ ∧ codeAny _ _ _ _ _
  refine ⟨Code.quiet_builtin _ (by decide +kernel), codeAny_builtin F.initEntry ?_⟩
  wp_walk
  show Q _ _
  refine hq _ ?_ (fun b o n e => ?_) ?_
  · rw [Heap.get?_update_self _ (Heap.get?_push_of_some _ he) rfl]; rfl
  · rw [Heap.get?_update_other _ _ (Ne.symm n)]; exact Heap.get?_push_of_some _ e
  · exact (Heap.SameBut.update ..).1.trans (Heap.size_push ..)

theorem callWith_mw {M : Model} {s : Shared} {pos : Pos} {mw : Addr} {mo : Obj} {env : Env} {e : Expr} {rest : List Expr} {Q : Value → Shared → Prop} (hc : mo.cls = .type "method-wrapper") {vs : Array Value} (hd : mo.data = .fields vs)
    (h : wpAny M A (spliced (backTo pos (starEach (e :: rest) env))) (fun vs s₁ => s₁.heap.get? mw = some mo ∧ wpAny M A (call (.ref mw) vs) Q E s₁) E s)
    (he : starEach (e :: rest) env = (false, eval e env) :: starEach rest env := by rfl) (hplain : (backTo pos (starEach rest env)).any (·.1) = false := by rfl) :
    wpAny M A (callWith pos (.ref mw) [] (backTo pos (starEach (e :: rest) env)) []) Q E s := by
  rw [he] at h ⊢
  unfold callWith
  refine wpAny_bind (wpAny_holding (wpAny_mono (evalArgs_plain (Q := fun a s₁ => a.kw = [] ∧ s₁.heap.get? mw = some mo ∧ wpAny M A (call (.ref mw) a.pos) Q E s₁) (wpAny_mono h (fun vs s₁ h₁ => ⟨rfl, h₁⟩) fun _ _ z => z)) (fun x s₁ h₁ => wpAny_bind (wpAny_standAt ?_)) fun _ _ z => z))
  obtain ⟨xp, xk⟩ := x
  obtain ⟨hk, ho, hcall⟩ := h₁
  dsimp only at hk hcall
  subst hk
  have hp : (backTo pos ((false, eval e env) :: starEach rest env)).any (·.1) = false := by show (false || (backTo pos (starEach rest env)).any (·.1)) = false; rw [hplain]; rfl
  simp only [hp, List.any_nil, Bool.or_false]
  refine wpAny_bind (m := keeperOf (.ref mw)) ?_
  unfold keeperOf
  refine wpAny_bind (wpAny_load ho ?_)
  rw [hd]
  dsimp only
  rw [hc, if_pos (by decide +kernel)]
  refine wpAny_pure ?_
  rw [if_pos (by decide +kernel)]
  exact wpAny_bind (wpAny_mono hcall (fun r s₂ hr => wpAny_bind (wpAny_holding (wpAny_point (wpAny_pure hr)))) fun _ _ x => x)
end

theorem snob_sa : ∀ P, findIn (frag P) (.ref 34) "__setattr__" = some (some (.builtin "object.__setattr__")) := fun P => by kernel_rfl
theorem snob_number : ∀ P, takerIn (frag P) 34 "number" = some none := fun P => by kernel_rfl
theorem snob_told : ∀ P, takerIn (frag P) 34 "told" = some none := fun P => by kernel_rfl
theorem snob_dict : ∀ P, hasDictIn (frag P) 34 = true := fun P => by kernel_rfl
theorem snob_cls : ∀ P, (clsIn (frag P) 34).map (·.mro) = some (.ref 34 :: excTail) := fun P => by kernel_rfl
theorem snob_sub : ∀ P, mroIn (frag P) 34 (.type "object") = some true := fun P => by kernel_rfl

section
open PySem.Builtin PySem.Builtin.Object PySem.Builtin.ObjectAttr
variable {w : World} {A : Around} {R : Result → Shared → Prop} {s : Shared}
theorem osx_open {x : Addr} {ox : Obj} {od : Option Obj} {name : Str} {tk : Tok} {v : Value} (X : (frag w.params).In s.heap) (I : InstAt s.heap x ox 34 od) (ht : takerIn (frag w.params) 34 name = some none)
    (h : ∀ b, wpAny (Mw w) A.in1 (storeInOwnDict (.ref x) (.ref 34) (.str name tk) name v b)
      (fun fin s' => match fin with | .done f => R (.ok f) s' | .again c' => c'.quiet = true ∧ codeAny (Mw w) A c' R s') (fun e s' => R (.error e) s') s) :
    codeAny (Mw w) A (.call (.builtin "object.__setattr__") ⟨[.ref x, .str name tk, v], []⟩) R s := by
  have SF := PySem.F.store_object
  have SE := PySem.F.store_Exception
  have hmro := snob_cls w.params
  obtain ⟨cd, hc, ho⟩ := Option.map_eq_some_iff.mp hmro
  have sub : Looks (Mw w) s.heap (isInstance (.ref x) (.type "object")) true := I.type.andThen (looks_mroIn X (snob_sub _))
  refine codeAny_call_builtin SF.slot.plain SF.entry (@check_slot (Mw w) _ _ s "object.__setattr__" "object" "__setattr__" (.ref x) [.str name tk, v] [] _ SF.kind SF.split sub (SF.args (.ref x) (.str name tk) v) ?_)
  obtain ⟨attr, ha, hr⟩ := Option.bind_eq_some_iff.mp ht
  have hm : Looks (Mw w) s.heap (mroOf (.ref 34)) cd.mro := (looks_clsIn X hc).andThen .now
  have L3 : Looks (Mw w) s.heap (storeTaker? attr) none := by
    cases attr with
    | none => cases hr; exact .now
    | some a =>
      obtain ⟨b, hb, e⟩ := Option.map_eq_some_iff.mp hr
      refine (looks_takesIn X hb).andThen ?_
      cases b
      · exact .now
      · cases e
  rw [osa_eq, refuse_eq]
  refine wpAny_bind (wpAny_bind (I.type.here (wpAny_bind (hm.here ?_))))
  rw [ho, refuseLoop_ref, SE.passes]
  refine wpAny_pure (wpAny_bind (I.type.here (wpAny_bind ((looks_findIn X ha).here (wpAny_bind (L3.here ?_))))))
  exact h _

/-- a name is stored in a dict of names -/
theorem sid_raw {E : Value → Shared → Prop} {dx : Addr} {name : Str} {tk : Tok} {v : Value} {es : List DictEntry} {n : Nat} {Q : PySem.Fin → Shared → Prop} (hdx : s.heap.get? dx = some (dictOf es n)) (hl : (getL name es).isSome = true) (hz : es.length ≤ 900)
    (h : ∀ h' n', Heap.SameBut dx s.heap h' → h'.get? dx = some (dictOf (putL name (PyData.keyHash w.params name) (.str name s.toks) v es) n') → Q (.done (.ret .none)) { s with heap := h', toks := s.toks + 1 }) :
    wpAny (Mw w) A (storeInDict dx (.str name tk) name v) Q E s := by
  have g : Obj.putName name (PyData.keyHash w.params name) (.str name s.toks) v (dictOf es n) = dictOf (putL name (PyData.keyHash w.params name) (.str name s.toks) v es) (putN name es n) := putName_dict ..
  have D' : (s.heap.update dx (Obj.putName name (PyData.keyHash w.params name) (.str name s.toks) v)).get? dx = some (dictOf (putL name (PyData.keyHash w.params name) (.str name s.toks) v es) (putN name es n)) := by
    rw [Heap.get?_update_self _ hdx (by rw [g]; rfl), g]
  unfold storeInDict
  refine wpAny_bind (wpAny_pure (wpAny_bind ?_))
  unfold nsSet
  refine wpAny_bind (wpAny_bind (wpAny_askSetting (wpAny_pure (wpAny_bind (wpAny_mkText (wpAny_bind (wpAny_loadPart hdx ?_)))))))
  have c : (!es.toArray.any (·.key.isStr name) && es.toArray.any (·.refKey)) = false := by
    unfold getL at hl
    rw [← Array.any_toList, ← Array.any_toList]
    cases z : es.find? (·.key.isStr name) with
    | some en =>
      show (!es.any _ && es.any _) = false
      rw [List.any_eq_true.mpr ⟨en, List.mem_of_find?_eq_some z, List.find?_some z⟩]; rfl
    | none =>
      rw [z] at hl; dsimp only at hl
      by_cases q : es.any (·.refKey) = true
      · rw [if_pos q] at hl; cases hl
      · show (!es.any _ && es.any _) = false
        rw [Bool.not_eq_true] at q; rw [q, Bool.and_false]
  dsimp only [dictOf]
  rw [aRefKeyMayBeTheName_at, c]
  refine wpAny_updatePart hdx ?_
  refine wpAny_bind (wpAny_lookBehind D' (pastItsLine_dict (by rw [List.size_toArray, sizeLine_eq]; have := putL_length (n := name) (hh := PyData.keyHash w.params name) (k := .str name s.toks) (v := v) (es := es); omega)) ?_)
  exact wpAny_pure (h _ _ (Heap.SameBut.update ..) D')

/-- the first field of an exception: its dict is made -/
theorem osx_first {x : Addr} {fs : Array Value} {name : Str} {tk : Tok} {v : Value} (X : (frag w.params).In s.heap) (hx : s.heap.get? x = some ⟨.ref 34, none, .fields fs, #[]⟩) (ht : takerIn (frag w.params) 34 name = some none)
    (h : ∀ h' n, h'.get? x = some ⟨.ref 34, some s.heap.objs.size, .fields fs, #[]⟩ → h'.get? s.heap.objs.size = some (dictOf [⟨PyData.keyHash w.params name, .str name s.toks, v⟩] n) → (∀ b o, b ≠ x → s.heap.get? b = some o → h'.get? b = some o) → h'.objs.size = s.heap.objs.size + 1 → R (.ok (.ret .none)) { s with heap := h', toks := s.toks + 1 }) :
    codeAny (Mw w) A (.call (.builtin "object.__setattr__") ⟨[.ref x, .str name tk, v], []⟩) R s := by
  have I : InstAt s.heap x ⟨.ref 34, none, .fields fs, #[]⟩ 34 none := ⟨hx, rfl, rfl, trivial⟩
  refine osx_open X I ht fun b => ?_
  obtain ⟨cd, hc, hd'⟩ := any_some (snob_dict w.params)
  unfold storeInOwnDict
  refine wpAny_bind (wpAny_pure ?_)
  dsimp only
  rw [if_neg (by simp)]
  unfold ownDictForStores instanceDict
  refine wpAny_bind (wpAny_bind (wpAny_loadPart hx (wpAny_bind ((looks_clsIn X hc).here ?_))))
  rw [hd']
  have hs0 : s.heap.get? s.heap.objs.size = none := get_none (k := 0)
  have hne : x ≠ s.heap.objs.size := (nz hx hs0)
  have hx1 := Heap.get?_push_of_some emptyDict hx
  refine (show wpAny (Mw w) A.in1 (alloc emptyDict >>= fun d => update x (fun o => { o with dict := some d }) >>= fun _ => pure (some d)) _ _ s from ?_)
  refine wpAny_bind (wpAny_alloc (wpAny_bind (wpAny_update hx1 (wpAny_pure ?_))))
  dsimp only
  have hd0 := Heap.get?_push_size s.heap (o := emptyDict) rfl
  refine sid_raw (es := []) (n := 0) (by rw [Heap.get?_update_other _ _ hne]; exact hd0) rfl (by decide) fun h' n' sb g => ?_
  refine h h' n' ?_ g (fun b o nb e => ?_) ?_
  · refine sb.extBut _ _ hne ?_
    show ((s.heap.push emptyDict).update x _).get? x = _
    rw [Heap.get?_update_self _ hx1 rfl]
  · refine sb.extBut _ _ (nz e hs0) ?_
    show ((s.heap.push emptyDict).update x _).get? b = _
    rw [Heap.get?_update_other _ _ (Ne.symm nb)]
    exact Heap.get?_push_of_some _ e
  · rw [sb.1]
    show ((s.heap.push emptyDict).update x _).objs.size = _
    exact (Heap.SameBut.update ..).1.trans (Heap.size_push ..)

/-- a further field of an exception -/
theorem osx_more {x dx : Addr} {fs : Array Value} {sl : Array (Option Value)} {name : Str} {tk : Tok} {v : Value} {es : List DictEntry} {n : Nat} (X : (frag w.params).In s.heap) (hx : s.heap.get? x = some ⟨.ref 34, some dx, .fields fs, sl⟩) (hdx : s.heap.get? dx = some (dictOf es n)) (ht : takerIn (frag w.params) 34 name = some none)
    (hl : (getL name es).isSome = true) (hz : es.length ≤ 900)
    (h : ∀ h' n', Heap.SameBut dx s.heap h' → h'.get? dx = some (dictOf (putL name (PyData.keyHash w.params name) (.str name s.toks) v es) n') → R (.ok (.ret .none)) { s with heap := h', toks := s.toks + 1 }) :
    codeAny (Mw w) A (.call (.builtin "object.__setattr__") ⟨[.ref x, .str name tk, v], []⟩) R s := by
  have I : InstAt s.heap x ⟨.ref 34, some dx, .fields fs, sl⟩ 34 (some (dictOf es n)) := ⟨hx, rfl, rfl, hdx⟩
  refine osx_open X I ht fun b => ?_
  obtain ⟨cd, hc, hd'⟩ := any_some (snob_dict w.params)
  unfold storeInOwnDict
  refine wpAny_bind (wpAny_pure ?_)
  dsimp only
  rw [if_neg (by simp)]
  unfold ownDictForStores instanceDict
  refine wpAny_bind (wpAny_bind (wpAny_loadPart hx (wpAny_bind ((looks_clsIn X hc).here ?_))))
  rw [hd']
  refine (show wpAny (Mw w) A.in1 (pure (some dx)) _ _ s from wpAny_pure ?_)
  exact sid_raw hdx hl hz h
end

section
variable {α : Type} {P : List α → Prop} {l : List α} {a b c d e : Str}
@[elab_as_elim] theorem len1E (h : l.length = [a].length) (k : ∀ x, P [x]) : P l := match l, h with
  | [x], _ => k x
@[elab_as_elim] theorem len2E (h : l.length = [a, b].length) (k : ∀ x y, P [x, y]) : P l := match l, h with
  | x :: r, h => len1E (a := b) (P := fun r => P (x :: r)) (Nat.succ.inj h) fun y => k x y
@[elab_as_elim] theorem len3E (h : l.length = [a, b, c].length) (k : ∀ x y z, P [x, y, z]) : P l := match l, h with
  | x :: r, h => len2E (a := b) (b := c) (P := fun r => P (x :: r)) (Nat.succ.inj h) fun y z => k x y z
@[elab_as_elim] theorem len4E (h : l.length = [a, b, c, d].length) (k : ∀ x y z w, P [x, y, z, w]) : P l := match l, h with
  | x :: r, h => len3E (a := b) (b := c) (c := d) (P := fun r => P (x :: r)) (Nat.succ.inj h) fun y z w => k x y z w
@[elab_as_elim] theorem len5E (h : l.length = [a, b, c, d, e].length) (k : ∀ x y z w v, P [x, y, z, w, v]) : P l := match l, h with
  | x :: r, h => len4E (a := b) (b := c) (c := d) (d := e) (P := fun r => P (x :: r)) (Nat.succ.inj h) fun y z w v => k x y z w v
end
theorem ok114 : FnOk 114 fd114 ["self", "kind", "owner", "key"] := ⟨fun P => by kernel_rfl, fun P => by kernel_rfl, fun P => by kernel_rfl, fun _ h s => len4E h fun _ _ _ _ => .of_eq rfl, by decide, rfl, rfl, rfl, rfl, rfl, rfl⟩
theorem ok135 : FnOk 135 fd135 ["self", "word", "number"] := ⟨fun P => by kernel_rfl, fun P => by kernel_rfl, fun P => by kernel_rfl, fun _ h s => len3E h fun _ _ _ => .of_eq rfl, by decide, rfl, rfl, rfl, rfl, rfl, rfl⟩
theorem ok149 : FnOk 149 fd149 ["value"] := ⟨fun P => by kernel_rfl, fun P => by kernel_rfl, fun P => by kernel_rfl, fun _ h s => len1E h fun _ => .of_eq rfl, by decide, rfl, rfl, rfl, rfl, rfl, rfl⟩
theorem ok156 : FnOk 156 fd156 ["value"] := ⟨fun P => by kernel_rfl, fun P => by kernel_rfl, fun P => by kernel_rfl, fun _ h s => len1E h fun _ => .of_eq rfl, by decide, rfl, rfl, rfl, rfl, rfl, rfl⟩
theorem ok163 : FnOk 163 fd163 ["value"] := ⟨fun P => by kernel_rfl, fun P => by kernel_rfl, fun P => by kernel_rfl, fun _ h s => len1E h fun _ => .of_eq rfl, by decide, rfl, rfl, rfl, rfl, rfl, rfl⟩
theorem ok170 : FnOk 170 fd170 ["number", "width"] := ⟨fun P => by kernel_rfl, fun P => by kernel_rfl, fun P => by kernel_rfl, fun _ h s => len2E h fun _ _ => .of_eq rfl, by decide, rfl, rfl, rfl, rfl, rfl, rfl⟩
theorem ok177 : FnOk 177 fd177 ["text", "width"] := ⟨fun P => by kernel_rfl, fun P => by kernel_rfl, fun P => by kernel_rfl, fun _ h s => len2E h fun _ _ => .of_eq rfl, by decide, rfl, rfl, rfl, rfl, rfl, rfl⟩
theorem ok184 : FnOk 184 fd184 ["number"] := ⟨fun P => by kernel_rfl, fun P => by kernel_rfl, fun P => by kernel_rfl, fun _ h s => len1E h fun _ => .of_eq rfl, by decide, rfl, rfl, rfl, rfl, rfl, rfl⟩
theorem ok191 : FnOk 191 fd191 ["value", "width"] := ⟨fun P => by kernel_rfl, fun P => by kernel_rfl, fun P => by kernel_rfl, fun _ h s => len2E h fun _ _ => .of_eq rfl, by decide, rfl, rfl, rfl, rfl, rfl, rfl⟩
theorem ok198 : FnOk 198 fd198 ["value", "width"] := ⟨fun P => by kernel_rfl, fun P => by kernel_rfl, fun P => by kernel_rfl, fun _ h s => len2E h fun _ _ => .of_eq rfl, by decide, rfl, rfl, rfl, rfl, rfl, rfl⟩
theorem ok212 : FnOk 212 fd212 ["one", "other"] := ⟨fun P => by kernel_rfl, fun P => by kernel_rfl, fun P => by kernel_rfl, fun _ h s => len2E h fun _ _ => .of_eq rfl, by decide, rfl, rfl, rfl, rfl, rfl, rfl⟩
theorem ok219 : FnOk 219 fd219 ["value"] := ⟨fun P => by kernel_rfl, fun P => by kernel_rfl, fun P => by kernel_rfl, fun _ h s => len1E h fun _ => .of_eq rfl, by decide, rfl, rfl, rfl, rfl, rfl, rfl⟩
theorem ok233 : FnOk 233 fd233 ["self", "number", "told", "bounds", "value"] := ⟨fun P => by kernel_rfl, fun P => by kernel_rfl, fun P => by kernel_rfl, fun _ h s => len5E h fun _ _ _ _ _ => .of_eq rfl, by decide, rfl, rfl, rfl, rfl, rfl, rfl⟩
theorem ok252 : FnOk 252 fd252 ["self", "number"] := ⟨fun P => by kernel_rfl, fun P => by kernel_rfl, fun P => by kernel_rfl, fun _ h s => len2E h fun _ _ => .of_eq rfl, by decide, rfl, rfl, rfl, rfl, rfl, rfl⟩
theorem ok264 : FnOk 264 fd264 ["text", "width"] := ⟨fun P => by kernel_rfl, fun P => by kernel_rfl, fun P => by kernel_rfl, fun _ h s => len2E h fun _ _ => .of_eq rfl, by decide, rfl, rfl, rfl, rfl, rfl, rfl⟩
theorem ok271 : FnOk 271 fd271 ["text", "width"] := ⟨fun P => by kernel_rfl, fun P => by kernel_rfl, fun P => by kernel_rfl, fun _ h s => len2E h fun _ _ => .of_eq rfl, by decide, rfl, rfl, rfl, rfl, rfl, rfl⟩
theorem ok278 : FnOk 278 fd278 ["bounds"] := ⟨fun P => by kernel_rfl, fun P => by kernel_rfl, fun P => by kernel_rfl, fun _ h s => len1E h fun _ => .of_eq rfl, by decide, rfl, rfl, rfl, rfl, rfl, rfl⟩
theorem ok285 : FnOk 285 fd285 ["array", "places"] := ⟨fun P => by kernel_rfl, fun P => by kernel_rfl, fun P => by kernel_rfl, fun _ h s => len2E h fun _ _ => .of_eq rfl, by decide, rfl, rfl, rfl, rfl, rfl, rfl⟩
theorem ok292 : FnOk 292 fd292 ["array", "place"] := ⟨fun P => by kernel_rfl, fun P => by kernel_rfl, fun P => by kernel_rfl, fun _ h s => len2E h fun _ _ => .of_eq rfl, by decide, rfl, rfl, rfl, rfl, rfl, rfl⟩
theorem ok299 : FnOk 299 fd299 ["table", "key"] := ⟨fun P => by kernel_rfl, fun P => by kernel_rfl, fun P => by kernel_rfl, fun _ h s => len2E h fun _ _ => .of_eq rfl, by decide, rfl, rfl, rfl, rfl, rfl, rfl⟩
theorem ok304 : FnCOk 304 fd304 ["owner", "keys", "width"] where
  hK := fun P => by kernel_rfl
  hcd := fun P => by kernel_rfl
  keep := fun P => by kernel_rfl
  hbind := fun _ h => len3E h fun _ _ _ => rfl
  hkind := fun k x hx => by
    simp only [List.mem_cons, List.not_mem_nil, or_false] at hx
    rcases hx with rfl | rfl | rfl
    all_goals first | exact .inl (by rfl) | exact .inr ⟨by rfl, by rfl⟩
  hnd := by decide
  hglob := rfl
  hblt := rfl
  hcl := rfl
  hco := rfl
  hgen := rfl
  hk := rfl
theorem ok311 : FnOk 311 fd311 ["ref"] := ⟨fun P => by kernel_rfl, fun P => by kernel_rfl, fun P => by kernel_rfl, fun _ h s => len1E h fun _ => .of_eq rfl, by decide, rfl, rfl, rfl, rfl, rfl, rfl⟩
theorem ok318 : FnOk 318 fd318 ["ref", "value"] := ⟨fun P => by kernel_rfl, fun P => by kernel_rfl, fun P => by kernel_rfl, fun _ h s => len2E h fun _ _ => .of_eq rfl, by decide, rfl, rfl, rfl, rfl, rfl, rfl⟩
theorem ok325 : FnOk 325 fd325 ["value"] := ⟨fun P => by kernel_rfl, fun P => by kernel_rfl, fun P => by kernel_rfl, fun _ h s => len1E h fun _ => .of_eq rfl, by decide, rfl, rfl, rfl, rfl, rfl, rfl⟩
theorem ok330 : FnOk 330 fd330 ["table"] := ⟨fun P => by kernel_rfl, fun P => by kernel_rfl, fun P => by kernel_rfl, fun _ h s => len1E h fun _ => .of_eq rfl, by decide, rfl, rfl, rfl, rfl, rfl, rfl⟩
theorem ok335 : FnOk 335 fd335 ["table", "number"] := ⟨fun P => by kernel_rfl, fun P => by kernel_rfl, fun P => by kernel_rfl, fun _ h s => len2E h fun _ _ => .of_eq rfl, by decide, rfl, rfl, rfl, rfl, rfl, rfl⟩
theorem ok340 : FnOk 340 fd340 ["rows", "number"] := ⟨fun P => by kernel_rfl, fun P => by kernel_rfl, fun P => by kernel_rfl, fun _ h s => len2E h fun _ _ => .of_eq rfl, by decide, rfl, rfl, rfl, rfl, rfl, rfl⟩
theorem ok345 : FnCOk 345 fd345 ["array"] where
  hK := fun P => by kernel_rfl
  hcd := fun P => by kernel_rfl
  keep := fun P => by kernel_rfl
  hbind := fun _ h => len1E h fun _ => rfl
  hkind := fun k x hx => by
    simp only [List.mem_cons, List.not_mem_nil, or_false] at hx
    subst hx
    all_goals first | exact .inl (by rfl) | exact .inr ⟨by rfl, by rfl⟩
  hnd := by decide
  hglob := rfl
  hblt := rfl
  hcl := rfl
  hco := rfl
  hgen := rfl
  hk := rfl
theorem ok352 : FnOk 352 fd352 ["array", "number"] := ⟨fun P => by kernel_rfl, fun P => by kernel_rfl, fun P => by kernel_rfl, fun _ h s => len2E h fun _ _ => .of_eq rfl, by decide, rfl, rfl, rfl, rfl, rfl, rfl⟩
theorem ok359 : FnOk 359 fd359 ["box", "many"] := ⟨fun P => by kernel_rfl, fun P => by kernel_rfl, fun P => by kernel_rfl, fun _ h s => len2E h fun _ _ => .of_eq rfl, by decide, rfl, rfl, rfl, rfl, rfl, rfl⟩
theorem ok364 : FnOk 364 fd364 ["script"] := ⟨fun P => by kernel_rfl, fun P => by kernel_rfl, fun P => by kernel_rfl, fun _ h s => len1E h fun _ => .of_eq rfl, by decide, rfl, rfl, rfl, rfl, rfl, rfl⟩
theorem ok371 : FnOk 371 fd371 ["deed"] := ⟨fun P => by kernel_rfl, fun P => by kernel_rfl, fun P => by kernel_rfl, fun _ h s => len1E h fun _ => .of_eq rfl, by decide, rfl, rfl, rfl, rfl, rfl, rfl⟩
theorem ok378 : FnOk 378 fd378 ["box"] := ⟨fun P => by kernel_rfl, fun P => by kernel_rfl, fun P => by kernel_rfl, fun _ h s => len1E h fun _ => .of_eq rfl, by decide, rfl, rfl, rfl, rfl, rfl, rfl⟩
theorem ok383 : FnCOk 383 fd383 ["bounds"] where
  hK := fun P => by kernel_rfl
  hcd := fun P => by kernel_rfl
  keep := fun P => by kernel_rfl
  hbind := fun _ h => len1E h fun _ => rfl
  hkind := fun k x hx => by
    simp only [List.mem_cons, List.not_mem_nil, or_false] at hx
    subst hx
    all_goals first | exact .inl (by rfl) | exact .inr ⟨by rfl, by rfl⟩
  hnd := by decide
  hglob := rfl
  hblt := rfl
  hcl := rfl
  hco := rfl
  hgen := rfl
  hk := rfl
theorem ok388 : FnCOk 388 fd388 ["box"] where
  hK := fun P => by kernel_rfl
  hcd := fun P => by kernel_rfl
  keep := fun P => by kernel_rfl
  hbind := fun _ h => len1E h fun _ => rfl
  hkind := fun k x hx => by
    simp only [List.mem_cons, List.not_mem_nil, or_false] at hx
    subst hx
    all_goals first | exact .inl (by rfl) | exact .inr ⟨by rfl, by rfl⟩
  hnd := by decide
  hglob := rfl
  hblt := rfl
  hcl := rfl
  hco := rfl
  hgen := rfl
  hk := rfl
theorem ok393 : FnCOk 393 fd393 ["box"] where
  hK := fun P => by kernel_rfl
  hcd := fun P => by kernel_rfl
  keep := fun P => by kernel_rfl
  hbind := fun _ h => len1E h fun _ => rfl
  hkind := fun k x hx => by
    simp only [List.mem_cons, List.not_mem_nil, or_false] at hx
    subst hx
    all_goals first | exact .inl (by rfl) | exact .inr ⟨by rfl, by rfl⟩
  hnd := by decide
  hglob := rfl
  hblt := rfl
  hcl := rfl
  hco := rfl
  hgen := rfl
  hk := rfl
theorem ok398 : FnOk 398 fd398 ["script"] := ⟨fun P => by kernel_rfl, fun P => by kernel_rfl, fun P => by kernel_rfl, fun _ h s => len1E h fun _ => .of_eq rfl, by decide, rfl, rfl, rfl, rfl, rfl, rfl⟩

theorem g_kind_of : ∀ P, nsIn (frag P) mainGlobals ("kind_of" : Str) = some (some (.ref 149)) := fun P => by kernel_rfl
theorem g_is_null : ∀ P, nsIn (frag P) mainGlobals ("is_null" : Str) = some (some (.ref 156)) := fun P => by kernel_rfl
theorem g_is_plain : ∀ P, nsIn (frag P) mainGlobals ("is_plain" : Str) = some (some (.ref 163)) := fun P => by kernel_rfl
theorem g_fits : ∀ P, nsIn (frag P) mainGlobals ("fits" : Str) = some (some (.ref 170)) := fun P => by kernel_rfl
theorem g_whole_of_text : ∀ P, nsIn (frag P) mainGlobals ("whole_of_text" : Str) = some (some (.ref 177)) := fun P => by kernel_rfl
theorem g_text_of_whole : ∀ P, nsIn (frag P) mainGlobals ("text_of_whole" : Str) = some (some (.ref 184)) := fun P => by kernel_rfl
theorem g_to_whole : ∀ P, nsIn (frag P) mainGlobals ("to_whole" : Str) = some (some (.ref 191)) := fun P => by kernel_rfl
theorem g_need_whole : ∀ P, nsIn (frag P) mainGlobals ("need_whole" : Str) = some (some (.ref 198)) := fun P => by kernel_rfl
theorem g_same_value : ∀ P, nsIn (frag P) mainGlobals ("same_value" : Str) = some (some (.ref 212)) := fun P => by kernel_rfl
theorem g_table_key : ∀ P, nsIn (frag P) mainGlobals ("table_key" : Str) = some (some (.ref 219)) := fun P => by kernel_rfl
theorem g_whole_in : ∀ P, nsIn (frag P) mainGlobals ("whole_in" : Str) = some (some (.ref 264)) := fun P => by kernel_rfl
theorem g_read_bounds : ∀ P, nsIn (frag P) mainGlobals ("read_bounds" : Str) = some (some (.ref 271)) := fun P => by kernel_rfl
theorem g_size_of_bounds : ∀ P, nsIn (frag P) mainGlobals ("size_of_bounds" : Str) = some (some (.ref 278)) := fun P => by kernel_rfl
theorem g_array_place : ∀ P, nsIn (frag P) mainGlobals ("array_place" : Str) = some (some (.ref 285)) := fun P => by kernel_rfl
theorem g_places_of : ∀ P, nsIn (frag P) mainGlobals ("places_of" : Str) = some (some (.ref 292)) := fun P => by kernel_rfl
theorem g_table_entry : ∀ P, nsIn (frag P) mainGlobals ("table_entry" : Str) = some (some (.ref 299)) := fun P => by kernel_rfl
theorem g_item_ref : ∀ P, nsIn (frag P) mainGlobals ("item_ref" : Str) = some (some (.ref 304)) := fun P => by kernel_rfl
theorem g_slot_get : ∀ P, nsIn (frag P) mainGlobals ("slot_get" : Str) = some (some (.ref 311)) := fun P => by kernel_rfl
theorem g_slot_set : ∀ P, nsIn (frag P) mainGlobals ("slot_set" : Str) = some (some (.ref 318)) := fun P => by kernel_rfl
theorem g_prototype_of : ∀ P, nsIn (frag P) mainGlobals ("prototype_of" : Str) = some (some (.ref 325)) := fun P => by kernel_rfl
theorem g_entries_of : ∀ P, nsIn (frag P) mainGlobals ("entries_of" : Str) = some (some (.ref 330)) := fun P => by kernel_rfl
theorem g_table_to_array : ∀ P, nsIn (frag P) mainGlobals ("table_to_array" : Str) = some (some (.ref 335)) := fun P => by kernel_rfl
theorem g_rows_array : ∀ P, nsIn (frag P) mainGlobals ("rows_array" : Str) = some (some (.ref 340)) := fun P => by kernel_rfl
theorem g_rows_of : ∀ P, nsIn (frag P) mainGlobals ("rows_of" : Str) = some (some (.ref 345)) := fun P => by kernel_rfl
theorem g_array_to_table : ∀ P, nsIn (frag P) mainGlobals ("array_to_table" : Str) = some (some (.ref 352)) := fun P => by kernel_rfl
theorem g__law_take : ∀ P, nsIn (frag P) mainGlobals ("_law_take" : Str) = some (some (.ref 359)) := fun P => by kernel_rfl
theorem g__law_box : ∀ P, nsIn (frag P) mainGlobals ("_law_box" : Str) = some (some (.ref 364)) := fun P => by kernel_rfl
theorem g__law_error : ∀ P, nsIn (frag P) mainGlobals ("_law_error" : Str) = some (some (.ref 371)) := fun P => by kernel_rfl
theorem g__law_bounds : ∀ P, nsIn (frag P) mainGlobals ("_law_bounds" : Str) = some (some (.ref 378)) := fun P => by kernel_rfl
theorem g__law_every : ∀ P, nsIn (frag P) mainGlobals ("_law_every" : Str) = some (some (.ref 383)) := fun P => by kernel_rfl
theorem g__law_array_right : ∀ P, nsIn (frag P) mainGlobals ("_law_array_right" : Str) = some (some (.ref 388)) := fun P => by kernel_rfl
theorem g__law_table_right : ∀ P, nsIn (frag P) mainGlobals ("_law_table_right" : Str) = some (some (.ref 393)) := fun P => by kernel_rfl
theorem g_SnobolError : ∀ P, nsIn (frag P) mainGlobals ("SnobolError" : Str) = some (some (.ref 34)) := fun P => by kernel_rfl
theorem g_Pattern : ∀ P, nsIn (frag P) mainGlobals ("Pattern" : Str) = some (some (.ref 54)) := fun P => by kernel_rfl
theorem g_NameRef : ∀ P, nsIn (frag P) mainGlobals ("NameRef" : Str) = some (some (.ref 117)) := fun P => by kernel_rfl
theorem g_Holder : ∀ P, nsIn (frag P) mainGlobals ("Holder" : Str) = some (some (.ref 138)) := fun P => by kernel_rfl
theorem g_Array : ∀ P, nsIn (frag P) mainGlobals ("Array" : Str) = some (some (.ref 236)) := fun P => by kernel_rfl
theorem g_Table : ∀ P, nsIn (frag P) mainGlobals ("Table" : Str) = some (some (.ref 255)) := fun P => by kernel_rfl
theorem n_isinstance : ∀ P, nsIn (frag P) mainGlobals ("isinstance" : Str) = some none := fun P => by kernel_rfl
theorem b_isinstance : bootBuiltins ("isinstance" : Str) = some (.builtin "isinstance") := by kernel_rfl
theorem n_len : ∀ P, nsIn (frag P) mainGlobals ("len" : Str) = some none := fun P => by kernel_rfl
theorem b_len : bootBuiltins ("len" : Str) = some (.builtin "len") := by kernel_rfl
theorem n_abs : ∀ P, nsIn (frag P) mainGlobals ("abs" : Str) = some none := fun P => by kernel_rfl
theorem b_abs : bootBuiltins ("abs" : Str) = some (.builtin "abs") := by kernel_rfl
theorem n_ord : ∀ P, nsIn (frag P) mainGlobals ("ord" : Str) = some none := fun P => by kernel_rfl
theorem b_ord : bootBuiltins ("ord" : Str) = some (.builtin "ord") := by kernel_rfl
theorem n_chr : ∀ P, nsIn (frag P) mainGlobals ("chr" : Str) = some none := fun P => by kernel_rfl
theorem b_chr : bootBuiltins ("chr" : Str) = some (.builtin "chr") := by kernel_rfl
theorem n_str : ∀ P, nsIn (frag P) mainGlobals ("str" : Str) = some none := fun P => by kernel_rfl
theorem b_str : bootBuiltins ("str" : Str) = some (.type "str") := by kernel_rfl
theorem n_int : ∀ P, nsIn (frag P) mainGlobals ("int" : Str) = some none := fun P => by kernel_rfl
theorem b_int : bootBuiltins ("int" : Str) = some (.type "int") := by kernel_rfl
theorem n_range : ∀ P, nsIn (frag P) mainGlobals ("range" : Str) = some none := fun P => by kernel_rfl
theorem b_range : bootBuiltins ("range" : Str) = some (.type "range") := by kernel_rfl
theorem n_zip : ∀ P, nsIn (frag P) mainGlobals ("zip" : Str) = some none := fun P => by kernel_rfl
theorem b_zip : bootBuiltins ("zip" : Str) = some (.type "zip") := by kernel_rfl
theorem n_reversed : ∀ P, nsIn (frag P) mainGlobals ("reversed" : Str) = some none := fun P => by kernel_rfl
theorem b_reversed : bootBuiltins ("reversed" : Str) = some (.type "reversed") := by kernel_rfl
theorem n_enumerate : ∀ P, nsIn (frag P) mainGlobals ("enumerate" : Str) = some none := fun P => by kernel_rfl
theorem b_enumerate : bootBuiltins ("enumerate" : Str) = some (.type "enumerate") := by kernel_rfl
theorem n_tuple : ∀ P, nsIn (frag P) mainGlobals ("tuple" : Str) = some none := fun P => by kernel_rfl
theorem b_tuple : bootBuiltins ("tuple" : Str) = some (.type "tuple") := by kernel_rfl
theorem n_list : ∀ P, nsIn (frag P) mainGlobals ("list" : Str) = some none := fun P => by kernel_rfl
theorem b_list : bootBuiltins ("list" : Str) = some (.type "list") := by kernel_rfl
theorem kit236 : KitC 236 where
  hg := fun P => by kernel_rfl
  hd := fun P => by kernel_rfl
  ha := fun P => by kernel_rfl
  hn := fun P => by kernel_rfl
  hk := fun P => by kernel_rfl
  hm := fun P => by kernel_rfl
theorem kit255 : KitC 255 where
  hg := fun P => by kernel_rfl
  hd := fun P => by kernel_rfl
  ha := fun P => by kernel_rfl
  hn := fun P => by kernel_rfl
  hk := fun P => by kernel_rfl
  hm := fun P => by kernel_rfl
theorem set117_kind : ClsSet 117 "kind" where
  set := fun P => by kernel_rfl
  over := fun P => by kernel_rfl
  taker := fun P => by kernel_rfl
  dict := fun P => by kernel_rfl
theorem get117_owner : ClsOk 117 "owner" where
  get := fun P => by kernel_rfl
  dict := fun P => by kernel_rfl
  find := fun P => by kernel_rfl
theorem set117_owner : ClsSet 117 "owner" where
  set := fun P => by kernel_rfl
  over := fun P => by kernel_rfl
  taker := fun P => by kernel_rfl
  dict := fun P => by kernel_rfl
theorem get117_key : ClsOk 117 "key" where
  get := fun P => by kernel_rfl
  dict := fun P => by kernel_rfl
  find := fun P => by kernel_rfl
theorem set117_key : ClsSet 117 "key" where
  set := fun P => by kernel_rfl
  over := fun P => by kernel_rfl
  taker := fun P => by kernel_rfl
  dict := fun P => by kernel_rfl
theorem get236_word : ClsOk 236 "word" where
  get := fun P => by kernel_rfl
  dict := fun P => by kernel_rfl
  find := fun P => by kernel_rfl
theorem set236_word : ClsSet 236 "word" where
  set := fun P => by kernel_rfl
  over := fun P => by kernel_rfl
  taker := fun P => by kernel_rfl
  dict := fun P => by kernel_rfl
theorem get236_number : ClsOk 236 "number" where
  get := fun P => by kernel_rfl
  dict := fun P => by kernel_rfl
  find := fun P => by kernel_rfl
theorem set236_number : ClsSet 236 "number" where
  set := fun P => by kernel_rfl
  over := fun P => by kernel_rfl
  taker := fun P => by kernel_rfl
  dict := fun P => by kernel_rfl
theorem set236_mark : ClsSet 236 "mark" where
  set := fun P => by kernel_rfl
  over := fun P => by kernel_rfl
  taker := fun P => by kernel_rfl
  dict := fun P => by kernel_rfl
theorem get236_told : ClsOk 236 "told" where
  get := fun P => by kernel_rfl
  dict := fun P => by kernel_rfl
  find := fun P => by kernel_rfl
theorem set236_told : ClsSet 236 "told" where
  set := fun P => by kernel_rfl
  over := fun P => by kernel_rfl
  taker := fun P => by kernel_rfl
  dict := fun P => by kernel_rfl
theorem get236_bounds : ClsOk 236 "bounds" where
  get := fun P => by kernel_rfl
  dict := fun P => by kernel_rfl
  find := fun P => by kernel_rfl
theorem set236_bounds : ClsSet 236 "bounds" where
  set := fun P => by kernel_rfl
  over := fun P => by kernel_rfl
  taker := fun P => by kernel_rfl
  dict := fun P => by kernel_rfl
theorem get236_items : ClsOk 236 "items" where
  get := fun P => by kernel_rfl
  dict := fun P => by kernel_rfl
  find := fun P => by kernel_rfl
theorem set236_items : ClsSet 236 "items" where
  set := fun P => by kernel_rfl
  over := fun P => by kernel_rfl
  taker := fun P => by kernel_rfl
  dict := fun P => by kernel_rfl
theorem get255_word : ClsOk 255 "word" where
  get := fun P => by kernel_rfl
  dict := fun P => by kernel_rfl
  find := fun P => by kernel_rfl
theorem set255_word : ClsSet 255 "word" where
  set := fun P => by kernel_rfl
  over := fun P => by kernel_rfl
  taker := fun P => by kernel_rfl
  dict := fun P => by kernel_rfl
theorem get255_number : ClsOk 255 "number" where
  get := fun P => by kernel_rfl
  dict := fun P => by kernel_rfl
  find := fun P => by kernel_rfl
theorem set255_number : ClsSet 255 "number" where
  set := fun P => by kernel_rfl
  over := fun P => by kernel_rfl
  taker := fun P => by kernel_rfl
  dict := fun P => by kernel_rfl
theorem set255_mark : ClsSet 255 "mark" where
  set := fun P => by kernel_rfl
  over := fun P => by kernel_rfl
  taker := fun P => by kernel_rfl
  dict := fun P => by kernel_rfl
theorem get255_entries : ClsOk 255 "entries" where
  get := fun P => by kernel_rfl
  dict := fun P => by kernel_rfl
  find := fun P => by kernel_rfl
theorem set255_entries : ClsSet 255 "entries" where
  set := fun P => by kernel_rfl
  over := fun P => by kernel_rfl
  taker := fun P => by kernel_rfl
  dict := fun P => by kernel_rfl
theorem mk117 : MakeOk 117 114 where
  makes := fun P => by kernel_rfl
  init := fun P => by kernel_rfl
  fn := fun P => by kernel_rfl
theorem keep117 : ∀ P, keepIn (frag P) (.ref 117) = true := fun P => by kernel_rfl
theorem mk236 : MakeOk 236 233 where
  makes := fun P => by kernel_rfl
  init := fun P => by kernel_rfl
  fn := fun P => by kernel_rfl
theorem keep236 : ∀ P, keepIn (frag P) (.ref 236) = true := fun P => by kernel_rfl
theorem mk255 : MakeOk 255 252 where
  makes := fun P => by kernel_rfl
  init := fun P => by kernel_rfl
  fn := fun P => by kernel_rfl
theorem keep255 : ∀ P, keepIn (frag P) (.ref 255) = true := fun P => by kernel_rfl
theorem cmHolder : ClsMeth 138 "__init__" 135 where
  ga := fun P => by kernel_rfl
  rd := fun P => by kernel_rfl
  fc := fun P => by kernel_rfl
  keep := fun P => by kernel_rfl
theorem is_int_str : ∀ P, kitOne (frag P) (.type "int") (.type "str") = some false := fun P => by kernel_rfl
theorem is_int_int : ∀ P, kitOne (frag P) (.type "int") (.type "int") = some true := fun P => by kernel_rfl
theorem is_int_plain : ∀ P, kitAny (frag P) (.type "int") [.type "str", .type "int"] = some true := fun P => by kernel_rfl
theorem is_str_236 : ∀ P, kitOne (frag P) (.type "str") (.ref 236) = some false := fun P => by kernel_rfl
theorem is_str_255 : ∀ P, kitOne (frag P) (.type "str") (.ref 255) = some false := fun P => by kernel_rfl
theorem is_str_str : ∀ P, kitOne (frag P) (.type "str") (.type "str") = some true := fun P => by kernel_rfl
theorem is_str_int : ∀ P, kitOne (frag P) (.type "str") (.type "int") = some false := fun P => by kernel_rfl
theorem is_str_plain : ∀ P, kitAny (frag P) (.type "str") [.type "str", .type "int"] = some true := fun P => by kernel_rfl
theorem is_r236_54 : ∀ P, kitOne (frag P) (.ref 236) (.ref 54) = some false := fun P => by kernel_rfl
theorem is_r236_138 : ∀ P, kitOne (frag P) (.ref 236) (.ref 138) = some true := fun P => by kernel_rfl
theorem is_r236_236 : ∀ P, kitOne (frag P) (.ref 236) (.ref 236) = some true := fun P => by kernel_rfl
theorem is_r236_str : ∀ P, kitOne (frag P) (.ref 236) (.type "str") = some false := fun P => by kernel_rfl
theorem is_r236_int : ∀ P, kitOne (frag P) (.ref 236) (.type "int") = some false := fun P => by kernel_rfl
theorem is_r236_plain : ∀ P, kitAny (frag P) (.ref 236) [.type "str", .type "int"] = some false := fun P => by kernel_rfl
theorem is_r255_54 : ∀ P, kitOne (frag P) (.ref 255) (.ref 54) = some false := fun P => by kernel_rfl
theorem is_r255_138 : ∀ P, kitOne (frag P) (.ref 255) (.ref 138) = some true := fun P => by kernel_rfl
theorem is_r255_236 : ∀ P, kitOne (frag P) (.ref 255) (.ref 236) = some false := fun P => by kernel_rfl
theorem is_r255_255 : ∀ P, kitOne (frag P) (.ref 255) (.ref 255) = some true := fun P => by kernel_rfl
theorem is_r255_str : ∀ P, kitOne (frag P) (.ref 255) (.type "str") = some false := fun P => by kernel_rfl
theorem is_r255_int : ∀ P, kitOne (frag P) (.ref 255) (.type "int") = some false := fun P => by kernel_rfl
theorem is_r255_plain : ∀ P, kitAny (frag P) (.ref 255) [.type "str", .type "int"] = some false := fun P => by kernel_rfl

theorem k30 : ∀ P, (frag P).lookup 30 = some (ob30 P) := fun P => by kernel_rfl
theorem k31 : ∀ P, (frag P).lookup 31 = some ⟨.type "function", none, .func fd31, #[]⟩ := fun P => by kernel_rfl
theorem k34 : ∀ P, (frag P).lookup 34 = some (ob34 P) := fun P => by kernel_rfl
theorem k18 : ∀ P, (frag P).lookup 18 = some ⟨.type "cell", none, .cell (some (.ref 34)), #[]⟩ := fun P => by kernel_rfl
theorem cd31 : ∀ P, codeIn (frag P) fd31.code fd31.qualname = true := fun P => by kernel_rfl
theorem n_super : ∀ P, nsIn (frag P) mainGlobals ("super" : Str) = some none := fun P => by kernel_rfl
theorem b_super : bootBuiltins ("super" : Str) = some (.type "super") := by kernel_rfl
theorem op_static : ∀ P, nsIn (frag P) cStatics "thirdparty.any" = some none := fun P => by kernel_rfl
theorem sub34 : ∀ P, mroIn (frag P) 34 (.ref 34) = some true := fun P => by kernel_rfl


section
variable {w : World} {base : Heap}
theorem snob_init (hB : Base w base) {A : Around} {R : Result → Shared → Prop} {s : Shared} {x t0 : Addr} {nv tv : Value} (hd : A.depth < 990) (st : base.StaysIn s.heap) (hx : s.heap.get? x = some (rawExc 34 t0)) (hxb : base.get? x = none)
    (hq : ∀ h' tk dx es n t1, h'.get? x = some ⟨.ref 34, some dx, .fields #[.ref t1, .none, .none, .none, .bool false, .none], #[]⟩ → h'.get? dx = some (dictOf es n) → s.heap.get? dx = none → getL "number" es = some (some nv) → (∀ b o, b ≠ x → s.heap.get? b = some o → h'.get? b = some o) →
      R (.ok (.ret .none)) { s with heap := h', toks := tk }) : codeAny (Mw w) A (.call (.ref 31) ⟨[.ref x, nv, tv], []⟩) R s := by
  have X : (frag w.params).In s.heap := hB.K.keeps st
  obtain ⟨mg, mb, T⟩ := hB.T
  refine ks_codeAny_call_defAt (fd := fd31) (body := bod st31) (binds := [("self", .ref x), ("number", nv), ("told", tv)]) (by have : recursionLimit = 1000 := rfl; omega) (X _ _ (k31 _)) rfl (T.nolimit.keeps st) (codeRec_of X (cd31 _)) rfl (kp_binds X (fun S => by kernel_rfl)) (by decide) (fun y hy => by simp only [List.mem_cons, List.not_mem_nil, or_false] at hy; rcases hy with rfl | rfl | rfl <;> rfl) (fun h₁ hns hk₁ => ?_) rfl rfl rfl
  have X₁ : (frag w.params).In h₁ := X.keeps hk₁
  have st₁ : base.StaysIn h₁ := fun b o e => hk₁ b o (st b o e)
  have hL : s.heap.get? s.heap.objs.size = none := get_none (k := 0)
  generalize hLe : s.heap.objs.size = L at *
  refine ks_wpAt_execs_cons (ks_wpAt_Expr_any (ks_wpAt_MethodCall ?_))
  have hx₁ : h₁.get? x = some (rawExc 34 t0) := hk₁ _ _ hx
  have hfile : ((pw.main.file : Str) == ("/claim/cut.py" : Str)) = true := by kernel_rfl
  have htop : (pw.main.scope.names.lookup ("super" : Str)).isSome = false := by kernel_rfl
  refine ks_wpAt_super_base (fd := fd31) (ar := ((pars st31).posonlyargs ++ (pars st31).args).headD default) (env := callEnv fd31 L 31) rfl rfl (by decide) rfl (X₁ _ _ (k31 _)) rfl rfl rfl (X₁ _ _ (k30 _)) rfl rfl hfile htop ?_
  refine ks_loadName_global rfl rfl (loadGlobal_builtin (mg := mg) (mb := mb) (T.g.keeps st₁) (mg_none_of hB.K T.g (n_super _)) (T.b.keeps st₁) ((T.builtins _ (by decide +kernel)).trans b_super) ⟨rfl, ?_⟩)
  refine wpAny_loadName_free rfl rfl rfl ⟨_, X₁ _ _ (k18 _), rfl⟩ ?_
  refine wpAny_loadName_local rfl rfl hns (v := .ref x) rfl ?_
  refine ks_wpAny_isType_cls (X₁ _ _ (k34 _)) rfl ⟨rfl, ?_⟩
  refine ks_wpAny_call_super (X₁ _ _ (k34 _)) rfl hx₁ rfl (fun c e => by cases e) (looks_mroIn X₁ (sub34 _)) (fun h₂ hso hk₂ => ?_)
  have X₂ : (frag w.params).In h₂ := X₁.keeps hk₂
  have hx34 : x ≠ 34 := fun q => by rw [q, hB.K _ _ (k34 _)] at hxb; cases hxb
  refine sg_method X₂ hso (looks_opaque X₂ (op_static _)) (X₂ _ _ (k34 _)) (hk₂ _ _ hx₁) rfl hx34 ?_
  have hk₃ : ∀ b o, h₂.get? b = some o → (h₂.push { cls := .type "method-wrapper", data := .fields #[.builtin "Exception.__init__", .ref x] }).get? b = some o := fun b o e => Heap.get?_push_of_some _ e
  have hmw : (h₂.push { cls := .type "method-wrapper", data := .fields #[.builtin "Exception.__init__", .ref x] }).get? h₂.objs.size = some { cls := .type "method-wrapper", data := .fields #[.builtin "Exception.__init__", .ref x] } := Heap.get?_push_size _ rfl
  generalize h₂.push { cls := .type "method-wrapper", data := .fields #[.builtin "Exception.__init__", .ref x] } = h₃ at hk₃ hmw ⊢
  refine callWith_mw (env := callEnv fd31 L 31) (rest := []) (mo := { cls := .type "method-wrapper", data := .fields #[.builtin "Exception.__init__", .ref x] }) rfl rfl ?_
  refine spliced_cons ?_
  refine Constant_str (pos := ⟨5, 25, 5, 32⟩) (k := 0) ?_
  refine wpAny_pure ⟨hmw, ?_⟩
  have X₃ : (frag w.params).In h₃ := X₂.keeps hk₃
  refine mw_call (X₃ _ _ (k34 _)) hmw (hk₃ _ _ (hk₂ _ _ hx₁)) (fun h₄ e₄ k₄ sz => ?_)
  have up : ∀ b o, b ≠ x → s.heap.get? b = some o → h₄.get? b = some o := fun b o n e => k₄ b o n (hk₃ _ _ (hk₂ _ _ (hk₁ b o e)))
  have st₄ : base.StaysIn h₄ := fun b o e => up b o (nz e hxb) (st b o e)
  have X₄ : (frag w.params).In h₄ := hB.K.keeps st₄
  have hLx : L ≠ x := ((nz hx hL).symm)
  have keepNs : ∀ {h h' : Heap} {m : Str → Option Value}, h.Ns L m → (∀ b o, b = L → h.get? b = some o → h'.get? b = some o) → h'.Ns L m := fun ⟨o, es, ep, e, d, r⟩ k => ⟨o, es, ep, k _ _ rfl e, d, r⟩
  have hns₄ := keepNs hns (fun b o q e => k₄ b o (q ▸ hLx) (hk₃ _ _ (hk₂ _ _ e)))
  refine PySem.wpAt_of_wpAny ?_
  refine wpAny_execs_cons (plainObj_wpAny_Assign_Attribute ?_)
  refine wpAny_Name (wpAny_loadName_local rfl rfl hns₄ (v := nv) rfl ?_) (by decide)
  refine wpAny_Name (wpAny_loadName_local rfl rfl hns₄ (v := .ref x) rfl ?_) (by decide)
  have I₄ : InstAt h₄ x (rawExc 34 h₃.objs.size) 34 none := ⟨e₄, rfl, rfl, trivial⟩
  refine set_plain X₄ I₄ (snob_sa _) (osx_first X₄ e₄ (snob_number _) fun h₅ n₅ e₅ d₅ k₅ sz₅ => ?_)
  show wpAny _ _ _ _ _ _
  have hdx₄ : h₄.get? h₄.objs.size = none := get_none (k := 0)
  have hxd : x ≠ h₄.objs.size := (nz e₄ hdx₄)
  have hLd : L ≠ h₄.objs.size := fun q => by
    obtain ⟨o, _, _, e, _⟩ := hns₄
    rw [q, hdx₄] at e; cases e
  have e₅ : h₅.get? x = some ⟨.ref 34, some h₄.objs.size, .fields #[.ref h₃.objs.size, .none, .none, .none, .bool false, .none], #[]⟩ := e₅
  obtain ⟨tk5, d₅⟩ : ∃ tk, h₅.get? h₄.objs.size = some (dictOf [⟨PyData.keyHash w.params "number", .str "number" tk, nv⟩] n₅) := ⟨_, d₅⟩
  have hns₅ := keepNs hns₄ (fun b o q e => k₅ b o (q ▸ hLx) e)
  have st₅ : base.StaysIn h₅ := fun b o e => k₅ b o (nz e hxb) (st₄ b o e)
  have X₅ : (frag w.params).In h₅ := hB.K.keeps st₅
  refine wpAny_execs_cons (plainObj_wpAny_Assign_Attribute ?_)
  refine wpAny_Name (wpAny_loadName_local rfl rfl hns₅ (v := tv) rfl ?_) (by decide)
  refine wpAny_Name (wpAny_loadName_local rfl rfl hns₅ (v := .ref x) rfl ?_) (by decide)
  have I₅ : InstAt h₅ x ⟨.ref 34, some h₄.objs.size, .fields #[.ref h₃.objs.size, .none, .none, .none, .bool false, .none], #[]⟩ 34 (some (dictOf [⟨PyData.keyHash w.params "number", .str "number" tk5, nv⟩] n₅)) := ⟨e₅, rfl, rfl, d₅⟩
  refine set_plain X₅ I₅ (snob_sa _) (osx_more X₅ e₅ d₅ (snob_told _) rfl (by show 1 ≤ 900; decide) fun h₆ n₆ sb g₆ => ?_)
  show wpAny _ _ _ _ _ _
  refine wpAny_execs_nil ?_
  refine hq h₆ _ h₄.objs.size _ n₆ h₃.objs.size (sb.extBut _ _ hxd e₅) g₆ ?_ rfl (fun b o n e => sb.extBut _ _ ?_ (k₅ _ _ n (up _ _ n e)))
  · cases z : s.heap.get? h₄.objs.size with
    | none => rfl
    | some o => have := up _ _ hxd.symm z; rw [hdx₄] at this; cases this
  · intro q
    have := up _ _ n e
    rw [q, hdx₄] at this; cases this
end

theorem keep34 : ∀ P, keepIn (frag P) (.ref 34) = true := fun P => by kernel_rfl
theorem g_Snob : ∀ P, nsIn (frag P) mainGlobals ("SnobolError" : Str) = some (some (.ref 34)) := fun P => by kernel_rfl
theorem init34 : ∀ P, findIn (frag P) (.ref 34) "__init__" = some (some (.ref 31)) := fun P => by kernel_rfl
theorem fn31 : ∀ P, typeIn (frag P) (.ref 31) = some (.type "function") := fun P => by kernel_rfl
section
variable {Γ : Cx} {m : Locs} {H : AH} {Q : Fl → Locs → AH → Prop} {R : Int → AH → Prop} {pos : Pos}
theorem raise34 {M : Model} {A : Around} {E : Value → Shared → Prop} {env : Env} {P : Params} {s : Shared} {x : Sem Value} {Q : Flow → Shared → Prop} (hh : A.handled = none)
    (h : wpAny M A x (fun v s₁ => ∃ e dx t sl, v = .ref e ∧ s₁.heap.get? 34 = some (ob34 P) ∧ s₁.heap.get? e = some ⟨.ref 34, some dx, .fields #[.ref t, .none, .none, .none, .bool false, .none], sl⟩ ∧ E (.ref e) s₁) E s) : wpAny M A (raiseStmt env (some x) none) Q E s :=
  raise_own (C := 34) (N := 33) (nm := "SnobolError") (q := "SnobolError") (bs := [.type "Exception"]) (hdct := true) (sn := []) (sub := []) (ab := false) (col := none) (dd := none) (k0 := some (.ref 15)) (k1 := none) (k2 := some (.str "SnobolError" 189)) (k3 := some (.str "SnobolError" 197)) (k5 := some (.bool true)) (newId := "Exception.__new__") hh h
/-- the class is called: the exception stands, not yet on its way -/
theorem wp_snob {s : Shared} {vn vt : Value} {n : Int} {E : Value → Shared → Prop} {K : Value → Shared → Prop} (ok : Γ.Ok) (t : St Γ m H s) (r1 : Rel H s.heap vn (.int n))
    (hK : ∀ e h' tk dx es k tt t1, h'.get? e = some ⟨.ref 34, some dx, .fields #[.ref t1, .none, .none, .none, .bool false, .none], #[]⟩ → h'.get? dx = some (dictOf es k) → s.heap.get? e = none → s.heap.get? dx = none → getL "number" es = some (some (.int n tt)) →
      (∀ b o, s.heap.get? b = some o → h'.get? b = some o) → K (.ref e) { s with heap := h', toks := tk }) : wpAny (Mw Γ.w) Γ.A (call (.ref 34) [vn, vt]) K E s := by
  refine r1.iE fun _ => ?_
  rename_i tt
  have X := frag_at ok t.sim
  have st := t.sim.stays
  obtain ⟨hp, g, d, tk, os⟩ := s
  obtain ⟨u1, u2, u3, u4⟩ := under_tc (C := 34) (vals := [.int n tt, vt]) ok.frames
  have k : ∀ b o, hp.get? b = some o → ((hp.push { cls := .type "tuple", data := .seq [Value.int n tt, vt].toArray }).push (rawExc 34 hp.objs.size)).get? b = some o := fun b o e => Heap.get?_push_of_some _ (Heap.get?_push_of_some _ e)
  have hget : ((hp.push { cls := .type "tuple", data := .seq [Value.int n tt, vt].toArray }).push (rawExc 34 hp.objs.size)).get? (hp.objs.size + 1) = some (rawExc 34 hp.objs.size) := by heap_get
  have hn : hp.get? (hp.objs.size + 1) = none := get_none (k := 1)
  have hb : Γ.base.get? (hp.objs.size + 1) = none := by
    cases z : Γ.base.get? (hp.objs.size + 1) with
    | none => rfl
    | some o => have := st _ _ z; rw [show (Shared.heap ⟨hp, g, d, tk, os⟩) = hp from rfl, hn] at this; cases this
  refine wpAny_call (exc_call X (init34 _) (fn31 _) (X _ _ (k34 _)) (snob_init ok.base (by have := ok.depth; omega) (fun b o e => k b o (st b o e)) hget hb (fun h' tk' dx es kk t1 a1 a2 a3 a4 a5 => ?_)) (by show 2 ≤ sizeLine; decide))
  refine ⟨rfl, hK _ h' tk' dx es kk tt t1 a1 a2 hn ?_ a4 fun b o e => a5 b o (fun q => by rw [q] at e; rw [show (Shared.heap ⟨hp, g, d, tk, os⟩) = hp from rfl, hn] at e; cases e) (k b o e)⟩
  cases z : hp.get? dx with
  | none => rfl
  | some o => have := k _ _ z; rw [show (Shared.heap _) = _ from rfl] at a3; rw [this] at a3; cases a3
theorem es_raise {np cpos : Pos} {e1 : Expr} {r : List Expr} (ok : Γ.Ok) (h : EVs Γ (e1 :: r) m H (fun vs H1 => ∃ n tv, vs = [.int n, tv] ∧ R n H1) R) (hk : Γ.env.kindOf "SnobolError" = some .globalImplicit := by rfl)
    (he : ∀ env, eval (.Call (.Name "SnobolError" np) (e1 :: r) [] cpos) env = (do callWith cpos (← eval (.Name "SnobolError" np) env) [] (backTo cpos (starEach (e1 :: r) env)) (backToKw cpos (keywordEach [] env))) := by intro _; rfl)
    (hs : ∀ env, starEach (e1 :: r) env = (false, eval e1 env) :: starEach r env := by intro _; rfl)
    (hp : ∀ env, (backTo cpos (starEach r env)).any (·.1) = false := by intro _; rfl) : ES Γ (.Raise (some (.Call (.Name "SnobolError" np) (e1 :: r) [] cpos)) none pos) m H Q R := by
  intro s t
  rw [arm_exec_Raise]
  refine wpAny_bind (wpAny_standAt ?_)
  show wpAny _ _ (raiseStmt Γ.env (some (do let v ← eval (.Call (.Name "SnobolError" np) (e1 :: r) [] cpos) Γ.env; standAt pos; pure v)) none) _ _ _
  refine raise34 (P := Γ.w.params) ok.handled (wpAny_bind (wpAny_mono (Q := fun v s' => ∃ e dx t1 sl, v = .ref e ∧ s'.heap.get? 34 = some (ob34 Γ.w.params) ∧ s'.heap.get? e = some ⟨.ref 34, some dx, .fields #[.ref t1, .none, .none, .none, .bool false, .none], sl⟩ ∧ XPostW Γ H s R (.ref e) s') ?_ (fun v s' p => wpAny_bind (wpAny_standAt (wpAny_pure p))) fun _ _ z => z))
  · refine Call_ (wpAny_mono (ev_glob (pos := np) (Q := fun v H1 => v = .ref 34 ∧ H = H1) (R := R) ok hk g_Snob ⟨rfl, rfl⟩ (by decide) s t) (fun v s1 p => ?_) fun _ _ z => z.w t) (he _)
    obtain ⟨_, _, x1, y1, r1, rfl, rfl⟩ := p
    refine r1.rE ?_
    have t1 := t.ext x1 y1
    refine callWith_K (frag_at ok y1) (keep34 _) (wpAny_mono (h s1 cpos t1) (fun vs s2 h2 => ?_) fun _ _ z => (z.after x1).w t) (hs _) (hp _)
    obtain ⟨xs, H2, x2, y2, r2, n, tv, rfl, q⟩ := h2
    refine ⟨frag_at ok y2, ?_⟩
    refine r2.wE fun _ _ ra rb => ?_
    have t2 := t1.ext x2 y2
    show wpAny _ _ (call (.ref 34) [_, _]) _ _ _
    refine wp_snob ok t2 ra fun e h' tk dx es k tt t1 a1 a2 a3 a4 a5 a6 => ?_
    have eg := Ext.grow (F := Γ.F) (H := H2) a6
    have y3 := y2.grow (tk := tk) a6
    have t3 : St Γ m H2 { s2 with heap := h', toks := tk } := t2.ext (s' := { s2 with heap := h', toks := tk }) eg y3
    have x12 := x1.trans x2
    refine ⟨e, dx, t1, #[], rfl, (frag_at ok y3) _ _ (k34 _), a1, n, H2, e, rfl, (x12.trans eg).w, y3, t3.frames, t3.off, ?_, q⟩
    exact ⟨x12.fresh a3, y2.fresh a3, dx, _, #[], es, k, tt, a1, a2, y2.fresh a4, x12.fresh a4, a5, by show 1 < 6; decide, .inl rfl⟩
end

section
variable {Γ : Cx} {m : Locs} {H : AH} {Q : Fl → Locs → AH → Prop} {R : Int → AH → Prop} {pos : Pos} {t : Expr} {b o rest : List Stmt}
/-- what follows a statement -/
abbrev Then (Γ : Cx) (rest : List Stmt) (Q : Fl → Locs → AH → Prop) (R : Int → AH → Prop) : Fl → Locs → AH → Prop := fun fl m1 H1 => match fl with | .next => EX Γ rest m1 H1 Q R | f => Q f m1 H1
theorem TV.mono {B B' : Bool → AH → Prop} (h : TV Γ t m H B R) (hb : ∀ b H, B b H → B' b H) : TV Γ t m H B' R := fun s st => wpAny_mono (h s st) (fun _ _ p => by obtain ⟨H2, x2, y2, q⟩ := p; exact ⟨H2, x2, y2, hb _ _ q⟩) fun _ _ z => z
theorem ex_ifT (h : TV Γ t m H (fun c H1 => c = true ∧ EX Γ b m H1 (Then Γ rest Q R) R) R) : EX Γ (.If t b o pos :: rest) m H Q R :=
  ex_cons (es_if (h.mono fun c H1 ⟨e, x⟩ => by subst e; exact x))
theorem ex_ifF (h : TV Γ t m H (fun c H1 => c = false ∧ EX Γ rest m H1 Q R) R) : EX Γ (.If t b [] pos :: rest) m H Q R :=
  ex_cons (es_if (h.mono fun c H1 ⟨e, x⟩ => by subst e; exact ex_nil x))
theorem ex_ifE (h : TV Γ t m H (fun c H1 => c = false ∧ EX Γ o m H1 (Then Γ rest Q R) R) R) : EX Γ (.If t b o pos :: rest) m H Q R :=
  ex_cons (es_if (h.mono fun c H1 ⟨e, x⟩ => by subst e; exact x))
theorem ex_if (h : TV Γ t m H (fun c H1 => (c = true → EX Γ b m H1 (Then Γ rest Q R) R) ∧ (c = false → EX Γ rest m H1 Q R)) R) : EX Γ (.If t b [] pos :: rest) m H Q R :=
  ex_cons (es_if (h.mono fun c H1 ⟨e, x⟩ => by cases c; exact ex_nil (x rfl); exact e rfl))
theorem ex_ret {e : Expr} (h : EV Γ e m H (fun v H1 => Q (.ret v) m H1) R) : EX Γ (.Return (some e) pos :: rest) m H Q R := ex_cons (es_ret h)
theorem ev_ifT {Q : V → AH → Prop} {x y : Expr} (h : TV Γ t m H (fun c H1 => c = true ∧ EV Γ x m H1 Q R) R) : EV Γ (.IfExp t x y pos) m H Q R := ev_if (h.mono fun c H1 ⟨e, x⟩ => by subst e; exact x)
theorem ev_ifF {Q : V → AH → Prop} {x y : Expr} (h : TV Γ t m H (fun c H1 => c = false ∧ EV Γ y m H1 Q R) R) : EV Γ (.IfExp t x y pos) m H Q R := ev_if (h.mono fun c H1 ⟨e, x⟩ => by subst e; exact x)
theorem ev_ifB {Q : V → AH → Prop} {x y : Expr} (h : TV Γ t m H (fun c H1 => (c = true → EV Γ x m H1 Q R) ∧ (c = false → EV Γ y m H1 Q R)) R) : EV Γ (.IfExp t x y pos) m H Q R := ev_if (h.mono fun c H1 ⟨e, x⟩ => by cases c; exact x rfl; exact e rfl)
theorem ev_andT {Q : V → AH → Prop} {x y : Expr} (h : EV Γ x m H (fun v H1 => v = .bool true ∧ EV Γ y m H1 Q R) R) : EV Γ (.BoolOp .And [x, y] pos) m H Q R := ev_and (h.mono fun v H1 ⟨e, z⟩ => ⟨true, e, z⟩)
theorem ev_andF {Q : V → AH → Prop} {x y : Expr} (h : EV Γ x m H (fun v H1 => v = .bool false ∧ Q (.bool false) H1) R) : EV Γ (.BoolOp .And [x, y] pos) m H Q R := ev_and (h.mono fun v H1 ⟨e, z⟩ => ⟨false, e, z⟩)
/-- a call as a test -/
theorem tv_call {B : Bool → AH → Prop} {f : Expr} {args : List Expr} {bb : Bool} (h : EV Γ (.Call f args [] pos) m H (fun v H1 => v = .bool bb ∧ B bb H1) R) : TV Γ (.Call f args [] pos) m H B R :=
  tv_plain (h.mono fun v H1 ⟨e, x⟩ => ⟨bb, e, x⟩)
theorem ex_asg {x : Str} {xp : Pos} {value : Expr} (K : V → AH → Prop) (ok : Γ.Ok) (ow : Owns Γ) (h : EV Γ value m H K R) (n : ∀ v H1, K v H1 → EX Γ rest ((x, v) :: m) H1 Q R)
    (hk : Γ.env.kindOf x = some .local ∨ Γ.env.kindOf x = some .cell ∧ (Γ.env.cells.lookup x).isSome = true := by first | exact .inl (by rfl) | exact .inr ⟨by rfl, by rfl⟩)
    (hs : swapsWith value (some (.Name x xp)) pos.line Γ.env = pure false := by rfl) : EX Γ (.Assign [.Name x xp] value pos :: rest) m H Q R :=
  ex_cons (es_assign ok ow (h.mono n) hk hs)
theorem ex_for {target iter : Expr} {body : List Stmt} (ok : Γ.Ok) (tp : Top1 Γ)
    (h : IV Γ target iter m H (fun xs wr lk H1 => ∃ J : Nat → Locs → AH → Prop, J 0 m (lockH H1 wr lk) ∧
      (∀ i x mi Hi, xs[i]? = some x → J i mi Hi → Lk H1 wr lk Hi →
        AS Γ target x mi Hi (fun m1 H2 => EX Γ body m1 H2 (fun fl m3 H3 => match fl with
          | .next => J (i + 1) m3 H3 | .cont => J (i + 1) m3 H3 | .brk => EX Γ rest m3 (unl H1 wr lk H3) Q R | .ret v => Q (.ret v) m3 (unl H1 wr lk H3)) R)) ∧
      (∀ mn Hn, J xs.length mn Hn → Lk H1 wr lk Hn → EX Γ rest mn (unl H1 wr lk Hn) Q R)) R)
    (hs : ∀ env x, foldedSetIterable iter env x = pure x := by intro _ _; rfl) : EX Γ (.For target iter body [] pos :: rest) m H Q R :=
  ex_cons (es_for ok tp h hs)
theorem ex_expr {e : Expr} (h : EV Γ e m H (fun _ H1 => EX Γ rest m H1 Q R) R) (hi : interactive Γ.env = false := by rfl) (hs : swapsWith e none pos.line Γ.env = pure false := by rfl) : EX Γ (.Expr e pos :: rest) m H Q R := ex_cons (es_expr h hi hs)
/-- a chain of tests -/
def AT (Γ : Cx) (op : BoolOp) (xs : List Expr) (m : Locs) (H : AH) (B : Bool → AH → Prop) (R : Int → AH → Prop) : Prop := ∀ s, St Γ m H s → wpAny (Mw Γ.w) Γ.A (allTrue op xs Γ.env) (BPost Γ H s B) (XPost Γ H s R) s
theorem tv_bool {B : Bool → AH → Prop} {op : BoolOp} {xs : List Expr} (h : AT Γ op xs m H B R) : TV Γ (.BoolOp op xs pos) m H B R := fun s st => h s st
theorem at_nil {B : Bool → AH → Prop} {op : BoolOp} (q : B (op == .And) H) : AT Γ op [] m H B R := fun s st => wpAny_pure ⟨H, .refl, st.sim, q⟩
theorem at_or {B : Bool → AH → Prop} {x : Expr} {xs : List Expr} (h : TV Γ x m H (fun c H1 => (c = true → B true H1) ∧ (c = false → AT Γ .Or xs m H1 B R)) R) : AT Γ .Or (x :: xs) m H B R := by
  intro s st
  show wpAny _ _ (do match BoolOp.Or, ← PySem.isTrue x Γ.env (eval x Γ.env) with
    | .And, false => pure false
    | .Or, true => pure true
    | _, _ => allTrue .Or xs Γ.env) _ _ _
  refine wpAny_bind (wpAny_mono (h s st) (fun c s1 p => ?_) fun _ _ z => z)
  obtain ⟨H1, x1, y1, q1, q2⟩ := p
  cases c
  · exact wpAny_mono (q2 rfl s1 (st.ext x1 y1)) (fun _ _ z => z.after x1) fun _ _ z => z.after x1
  · exact wpAny_pure ⟨H1, x1, y1, q1 rfl⟩
theorem at_and {B : Bool → AH → Prop} {x : Expr} {xs : List Expr} (h : TV Γ x m H (fun c H1 => (c = false → B false H1) ∧ (c = true → AT Γ .And xs m H1 B R)) R) : AT Γ .And (x :: xs) m H B R := by
  intro s st
  show wpAny _ _ (do match BoolOp.And, ← PySem.isTrue x Γ.env (eval x Γ.env) with
    | .And, false => pure false
    | .Or, true => pure true
    | _, _ => allTrue .And xs Γ.env) _ _ _
  refine wpAny_bind (wpAny_mono (h s st) (fun c s1 p => ?_) fun _ _ z => z)
  obtain ⟨H1, x1, y1, q1, q2⟩ := p
  cases c
  · exact wpAny_pure ⟨H1, x1, y1, q1 rfl⟩
  · exact wpAny_mono (q2 rfl s1 (st.ext x1 y1)) (fun _ _ z => z.after x1) fun _ _ z => z.after x1
/-- the last of a chain of ors -/
theorem at_or1 {B : Bool → AH → Prop} {x : Expr} (h : TV Γ x m H B R) : AT Γ .Or [x] m H B R := at_or (h.mono fun c H1 q => ⟨fun e => e ▸ q, fun e => at_nil (by subst e; exact q)⟩)
theorem at_and1 {B : Bool → AH → Prop} {x : Expr} (h : TV Γ x m H B R) : AT Γ .And [x] m H B R := at_and (h.mono fun c H1 q => ⟨fun e => e ▸ q, fun e => at_nil (by subst e; exact q)⟩)
/-- a comparison in a chain as a test -/
theorem tv_chain2 {B : Bool → AH → Prop} {l r1 r2 : Expr} {o1 o2 : CmpOp} (h : EV Γ l m H (fun a H1 => EV Γ r1 m H1 (fun b H2 => CmpV Γ o1 a b H2 (fun c H3 => if c then EV Γ r2 m H3 (fun d H4 => CmpV Γ o2 b d H4 (fun e H5 => B e H5) R) R else B false H3) R) R) R)
    (hm : lastMarks [o1, o2] [r1, r2] = false := by rfl) : TV Γ (.Compare l [o1, o2] [r1, r2] pos) m H B R := by
  intro s t
  refine isTrue_chain (wpAny_mono (h s t) (fun va s1 h1 => ?_) fun _ _ z => z) hm
  obtain ⟨a, H1, x1, y1, ra, q1⟩ := h1
  refine test_link (wpAny_mono (q1 s1 (t.ext x1 y1)) (fun vb s2 h2 => ?_) fun _ _ z => z.after x1)
  obtain ⟨b, H2, x2, y2, rb, q2⟩ := h2
  refine wpAny_mono (q2 s2 va vb y2 (ra.ext x2) rb) (fun vc s3 h3 => ?_) fun _ _ z => z.after (x1.trans x2)
  obtain ⟨c, rfl, H3, x3, y3, q3⟩ := h3
  have x13 := (x1.trans x2).trans x3
  refine wpAny_truthy_bool ?_
  cases c
  · exact ⟨H3, x13, y3, q3⟩
  · refine test_last (wpAny_mono (q3 s3 (t.ext x13 y3)) (fun vd s4 h4 => ?_) fun _ _ z => z.after x13)
    obtain ⟨d, H4, x4, y4, rd, q4⟩ := h4
    refine wpAny_mono (q4 s4 vb vd y4 ((rb.ext x3).ext x4) rd) (fun ve s5 h5 => ?_) fun _ _ z => z.after (x13.trans x4)
    obtain ⟨e, rfl, p⟩ := h5
    exact wpAny_truthy_bool (p.after (x13.trans x4))
end

theorem noKit {T : String} : ∀ D, Value.type T = .ref D → KitC D := fun D h => by cases h
theorem kitR {C : Addr} (k : KitC C) : ∀ D, Value.ref C = .ref D → KitC D := fun D h => by cases h; exact k
section
variable {C : Con} {lv : Nat} {H : AH} {Q : V → AH → Prop} {R : Int → AH → Prop}

/-- isinstance(x, T) in an expression -/
theorem ev_isT {Γ : Cx} {m : Locs} {x : Str} {v : V} {t : Value} {T : String} {b : Bool} {p1 p2 p3 pos : Pos} {nT : Str} (ok : Γ.Ok) (hv : m.lookup x = some v) (k : TK H v t) (kc : ∀ D, t = .ref D → KitC D) (e : ∀ P, kitOne (frag P) t (.type T) = some b)
    (nn : ∀ P, nsIn (frag P) mainGlobals nT = some none) (bb : bootBuiltins nT = some (.type T)) (q : Q (.bool b) H)
    (h1 : Γ.env.kindOf "isinstance" = some .globalImplicit := by rfl) (h2 : Γ.env.kindOf nT = some .globalImplicit := by rfl) (hn : nT ≠ "__name__" := by decide) (hd : (nT == ("__debug__" : Str)) = false := by decide)
    (hx : (x == ("__debug__" : Str)) = false := by decide) (hc : (x == ("__classdict__" : Str)) = false := by decide) : EV Γ (.Call (.Name "isinstance" p1) [.Name x p2, .Name nT p3] [] pos) m H Q R :=
  ev_bcall (ev_blt ok h1 n_isinstance b_isinstance (fun _ _ => .bi _) ⟨rfl, evs_cons (ev_local ok hv (evs_cons (ev_blt ok h2 nn bb (fun _ _ => .ty _) (evs_nil (bv_isiT ok k kc e q)) hn hd)) hx hc)⟩)
theorem ev_isC {Γ : Cx} {m : Locs} {x : Str} {v : V} {t : Value} {D : Addr} {b : Bool} {p1 p2 p3 pos : Pos} {nC : Str} (ok : Γ.Ok) (hv : m.lookup x = some v) (k : TK H v t) (kc : ∀ D, t = .ref D → KitC D) (e : ∀ P, kitOne (frag P) t (.ref D) = some b)
    (gg : ∀ P, nsIn (frag P) mainGlobals nC = some (some (.ref D))) (q : Q (.bool b) H)
    (h1 : Γ.env.kindOf "isinstance" = some .globalImplicit := by rfl) (h2 : Γ.env.kindOf nC = some .globalImplicit := by rfl) (hd : (nC == ("__debug__" : Str)) = false := by decide)
    (hx : (x == ("__debug__" : Str)) = false := by decide) (hc : (x == ("__classdict__" : Str)) = false := by decide) : EV Γ (.Call (.Name "isinstance" p1) [.Name x p2, .Name nC p3] [] pos) m H Q R :=
  ev_bcall (ev_blt ok h1 n_isinstance b_isinstance (fun _ _ => .bi _) ⟨rfl, evs_cons (ev_local ok hv (evs_cons (ev_glob ok h2 gg (evs_nil (bv_isi ok k kc e q)) hd)) hx hc)⟩)

theorem c_is_null_str (hB : Base C.w C.base) {x : Str} (q : Q (.bool (x == "")) H) : CW C (lv + 1) (.ref 156) [.str x] H Q R := by
  refine cw_def ok156 hB (body := bod st156) rfl rfl (fun A stk L own ok ow => ?_)
  refine ex_ret (ev_andT (ev_isT ok rfl (.str x) noKit is_str_str n_str b_str ⟨rfl, ?_⟩))
  exact ev_cmp (ev_local ok rfl (ev_str (cmp_eqS q)))
theorem c_is_null_int (hB : Base C.w C.base) {i : Int} (q : Q (.bool false) H) : CW C (lv + 1) (.ref 156) [.int i] H Q R := by
  refine cw_def ok156 hB (body := bod st156) rfl rfl (fun A stk L own ok ow => ?_)
  exact ex_ret (ev_andF (ev_isT ok rfl (.int i) noKit is_int_str n_str b_str ⟨rfl, q⟩))

theorem c_kind_str (hB : Base C.w C.base) {x : Str} (q : Q (.str "STRING") H) : CW C (lv + 1) (.ref 149) [.str x] H Q R := by
  refine cw_def ok149 hB (body := bod st149) rfl rfl (fun A stk L own ok ow => ?_)
  refine ex_ifT (tv_call (ev_isT ok rfl (.str x) noKit is_str_str n_str b_str ⟨rfl, rfl, ?_⟩))
  exact ex_ret (ev_str q)
theorem c_kind_int (hB : Base C.w C.base) {i : Int} (q : Q (.str "INTEGER") H) : CW C (lv + 1) (.ref 149) [.int i] H Q R := by
  refine cw_def ok149 hB (body := bod st149) rfl rfl (fun A stk L own ok ow => ?_)
  refine ex_ifF (tv_call (ev_isT ok rfl (.int i) noKit is_int_str n_str b_str ⟨rfl, rfl, ?_⟩))
  refine ex_ifT (tv_call (ev_isT ok rfl (.int i) noKit is_int_int n_int b_int ⟨rfl, rfl, ?_⟩))
  exact ex_ret (ev_str q)
theorem c_kind_arr (hB : Base C.w C.base) {a : Addr} {fs : List (Str × V)} {w : Str} (ha : H a = some (.inst 236 fs)) (hw : fs.lookup ("word" : Str) = some (.str w)) (q : Q (.str w) H) : CW C (lv + 1) (.ref 149) [.ref a] H Q R := by
  refine cw_def ok149 hB (body := bod st149) rfl rfl (fun A stk L own ok ow => ?_)
  refine ex_ifF (tv_call (ev_isT ok rfl (.inst ha) (kitR kit236) is_r236_str n_str b_str ⟨rfl, rfl, ?_⟩))
  refine ex_ifF (tv_call (ev_isT ok rfl (.inst ha) (kitR kit236) is_r236_int n_int b_int ⟨rfl, rfl, ?_⟩))
  refine ex_ifF (tv_call (ev_isC ok rfl (.inst ha) (kitR kit236) is_r236_54 g_Pattern ⟨rfl, rfl, ?_⟩))
  refine ex_ifT (tv_call (ev_isC ok rfl (.inst ha) (kitR kit236) is_r236_138 g_Holder ⟨rfl, rfl, ?_⟩))
  exact ex_ret (ev_attr (ev_local ok rfl (ga_field ok ha get236_word hw q)))
theorem c_kind_tab (hB : Base C.w C.base) {a : Addr} {fs : List (Str × V)} {w : Str} (ha : H a = some (.inst 255 fs)) (hw : fs.lookup ("word" : Str) = some (.str w)) (q : Q (.str w) H) : CW C (lv + 1) (.ref 149) [.ref a] H Q R := by
  refine cw_def ok149 hB (body := bod st149) rfl rfl (fun A stk L own ok ow => ?_)
  refine ex_ifF (tv_call (ev_isT ok rfl (.inst ha) (kitR kit255) is_r255_str n_str b_str ⟨rfl, rfl, ?_⟩))
  refine ex_ifF (tv_call (ev_isT ok rfl (.inst ha) (kitR kit255) is_r255_int n_int b_int ⟨rfl, rfl, ?_⟩))
  refine ex_ifF (tv_call (ev_isC ok rfl (.inst ha) (kitR kit255) is_r255_54 g_Pattern ⟨rfl, rfl, ?_⟩))
  refine ex_ifT (tv_call (ev_isC ok rfl (.inst ha) (kitR kit255) is_r255_138 g_Holder ⟨rfl, rfl, ?_⟩))
  exact ex_ret (ev_attr (ev_local ok rfl (ga_field ok ha get255_word hw q)))
end

section
variable {C : Con} {lv : Nat} {H : AH} {Q : V → AH → Prop} {R : Int → AH → Prop}

theorem ev_isPlain {Γ : Cx} {m : Locs} {x : Str} {v : V} {t : Value} {b : Bool} {k : Nat} {p1 p2 p3 p4 p5 pos : Pos} (ok : Γ.Ok) (hv : m.lookup x = some v) (kk : TK H v t) (kc : ∀ D, t = .ref D → KitC D) (e : ∀ P, kitAny (frag P) t [.type "str", .type "int"] = some b) (q : Q (.bool b) H)
    (h1 : Γ.env.kindOf "isinstance" = some .globalImplicit := by rfl) (h2 : Γ.env.kindOf "str" = some .globalImplicit := by rfl) (h3 : Γ.env.kindOf "int" = some .globalImplicit := by rfl)
    (hx : (x == ("__debug__" : Str)) = false := by decide) (hc : (x == ("__classdict__" : Str)) = false := by decide) : EV Γ (.Call (.Name "isinstance" p1) [.Name x p2, .Tuple [.Name "str" p3, .Name "int" p4] k p5] [] pos) m H Q R :=
  ev_bcall (ev_blt ok h1 n_isinstance b_isinstance (fun _ _ => .bi _) ⟨rfl, evs_cons (ev_local ok hv (evs_cons (ev_tuple (evs_cons (ev_blt ok h2 n_str b_str (fun _ _ => .ty _) (evs_cons (ev_blt ok h3 n_int b_int (fun _ _ => .ty _) (evs_nil ⟨by decide, evs_nil (bv_isiTT ok kk kc e q)⟩))))))) hx hc)⟩)

theorem c_is_plain (hB : Base C.w C.base) {v : V} {t : Value} {b : Bool} (kk : TK H v t) (kc : ∀ D, t = .ref D → KitC D) (e : ∀ P, kitAny (frag P) t [.type "str", .type "int"] = some b) (q : Q (.bool b) H) : CW C (lv + 1) (.ref 163) [v] H Q R := by
  refine cw_def ok163 hB (body := bod st163) rfl rfl (fun A stk L own ok ow => ?_)
  exact ex_ret (ev_isPlain ok rfl kk kc e q)

noncomputable def fits32 (n : Int) : Bool := decide (-2147483648 ≤ n) && decide (n < 2147483648)
theorem c_fits (hB : Base C.w C.base) {n : Int} (q : Q (.bool (fits32 n)) H) : CW C (lv + 1) (.ref 170) [.int n, .int 32] H Q R := by
  refine cw_def ok170 hB (body := bod st170) rfl rfl (fun A stk L own ok ow => ?_)
  refine ex_ret (ev_chain2 (ev_neg (ev_bin (ev_int (ev_bin (ev_local ok rfl (ev_int (op_sub (op_shl (by decide) (by decide) (by decide) ⟨_, rfl, ?_⟩)))))))))
  refine ev_local ok rfl (cmp_le ?_)
  unfold fits32 at q
  by_cases h : (-2147483648 : Int) ≤ n
  · rw [decide_eq_true h, Bool.true_and] at q
    have e : decide (-(1 * 2 ^ (Int.toNat (32 - 1))) ≤ n) = true := decide_eq_true h
    rw [e]
    exact ev_bin (ev_int (ev_bin (ev_local ok rfl (ev_int (op_sub (op_shl (by decide) (by decide) (by decide) (cmp_lt q)))))))
  · rw [decide_eq_false h, Bool.false_and] at q
    have e : decide (-(1 * 2 ^ (Int.toNat (32 - 1))) ≤ n) = false := decide_eq_false h
    rw [e]
    exact q
end

noncomputable def valFold : List Nat → Int → Option Int
  | [], n => some n
  | c :: r, n => if 48 ≤ c ∧ c ≤ 57 then valFold r (10 * n + (c : Int) - 48) else none
theorem valFold_cons {c : Nat} {r : List Nat} {n : Int} : valFold (c :: r) n = if 48 ≤ c ∧ c ≤ 57 then valFold r (10 * n + (c : Int) - 48) else none := rfl
noncomputable def inSign (c : Nat) : Bool := !(Builtin.Str.occurrences ("+-" : Str) ⟨#[c]⟩ 0 ("+-" : Str).length 1).isEmpty
noncomputable def optV : Option Int → V
  | none => .none
  | some i => .int i
noncomputable def digsOf (x : Str) : Str := if inSign (x.cps.getD 0 0) then Txt.slice x (some 1) none else x
noncomputable def wholeText (x : Str) : Option Int :=
  if x == "" then some 0 else
  if (digsOf x == "") || decide ((digsOf x).length > 32) then none else
  match valFold (digsOf x).cps.toList 0 with
  | none => none
  | some n => if fits32 (if (⟨#[x.cps.getD 0 0]⟩ : Str) == "-" then -n else n) then some (if (⟨#[x.cps.getD 0 0]⟩ : Str) == "-" then -n else n) else none

theorem lt1 {a b : Nat} : decide (([a] : List Nat) < [b]) = decide (a < b) := by
  have h : (([a] : List Nat) < [b]) ↔ a < b := by
    constructor
    · intro h; cases h with
      | rel h => exact h
      | cons h => cases h
    · exact fun h => .rel h
  exact decide_eq_decide.mpr h
theorem Str.ne_empty {x : Str} (h : (x == ("" : Str)) = false) : x.cps[0]? = some (x.cps.getD 0 0) ∧ 0 < x.length := by
  have hp : 0 < x.cps.size := by
    rcases Nat.eq_zero_or_pos x.cps.size with z | z
    · exfalso
      obtain ⟨l⟩ := x
      have : l = #[] := Array.eq_empty_of_size_eq_zero z
      subst this
      exact absurd h (by decide)
    · exact z
  refine ⟨?_, hp⟩
  rw [Array.getElem?_eq_getElem hp]
  congr 1
  simp [Array.getD, hp]

section
variable {C : Con} {lv : Nat} {H : AH} {Q : V → AH → Prop} {R : Int → AH → Prop}
theorem gi_first {Γ : Cx} {x : Str} {H : AH} {Q : V → AH → Prop} {R : Int → AH → Prop} (h : (x == ("" : Str)) = false) (q : Q (.str ⟨#[x.cps.getD 0 0]⟩) H) : GI Γ (.str x) (.int 0) H Q R := by
  obtain ⟨h1, h2⟩ := Str.ne_empty h
  refine gi_str (by decide) ?_ q
  have : seqIndex? 0 x.length = some 0 := by
    show (if (decide ((0 : Int) ≤ 0) && decide ((0 : Int) < (x.length : Int))) = true then some (Int.toNat 0) else none) = some 0
    have h0 : (0 : Int) < (x.length : Int) := by omega
    rw [if_pos (by rw [decide_eq_true h0]; rfl)]; rfl
  rw [this]; exact h1

theorem c_whole_of_text (hB : Base C.w C.base) {x : Str} (hz : x.length ≤ 1000) (q : Q (optV (wholeText x)) H) : CW C (lv + 2) (.ref 177) [.str x, .int 32] H Q R := by
  refine cw_def ok177 hB (body := bod st177) rfl rfl (fun A stk L own ok ow => ?_)
  refine ex_if (tv_cmp (ev_local ok rfl (ev_str (cmp_eqS ⟨fun h => ?_, fun h => ?_⟩))))
  · refine ex_ret (ev_int ?_)
    unfold wholeText at q; rw [if_pos h] at q; exact q
  have first : ∀ {m : Locs} {H : AH} {Q : V → AH → Prop} {R : Int → AH → Prop} {p1 p2 p3 : Pos} {k : Nat}, m.lookup ("text" : Str) = some (.str x) → Q (.str ⟨#[x.cps.getD 0 0]⟩) H → EV (Cx.fn C (lv + 1) A (callEnv fd177 L 177) stk own) (.Subscript (.Name "text" p1) (.Constant (.int 0) k p2) p3) m H Q R := fun hm q =>
    ev_sub (ev_local ok hm (ev_int (gi_first h q)))
  have hds : (digsOf x).length ≤ 1000 := by unfold digsOf; split; exact Nat.le_trans (Txt.slice_le _ _ _) hz; exact hz
  refine ex_asg (fun v H1 => v = .str (digsOf x) ∧ H = H1) ok ow (ev_ifB (tv_cmp (first rfl (ev_str (cmp_in_str ⟨fun hc => ?_, fun hc => ?_⟩))))) ?_
  · refine ev_slice (ev_local ok rfl ?_)
    refine ev_int ⟨1, rfl, ?_⟩
    refine .inr (.inr ⟨x, 1, rfl, rfl, rfl, rfl, Nat.le_trans hz (by decide), ?_, rfl⟩)
    unfold digsOf inSign; rw [if_pos hc]
  · refine ev_local ok rfl ⟨?_, rfl⟩
    unfold digsOf inSign; rw [if_neg (by rw [hc]; decide)]
  rintro _ _ ⟨rfl, rfl⟩
  unfold wholeText at q
  rw [if_neg (by rw [h]; decide)] at q
  generalize hd : digsOf x = d at *
  have q0 : ((d == "") || decide (d.length > 32)) = true → Q .none H := fun e => by rw [if_pos e] at q; exact q
  refine ex_if (tv_bool (at_or (tv_cmp (ev_local ok rfl (ev_str (cmp_eqS ⟨fun e1 => ⟨fun _ => ex_ret (ev_none (q0 (by rw [e1]; rfl))), fun z => by cases z⟩, fun e1 => ?_⟩))))))
  refine at_or1 (tv_cmp (ev_bcall (ev_blt ok rfl n_len b_len (fun _ _ => .bi _) ⟨rfl, evs_cons (ev_local ok rfl (evs_nil (bv_len_str (Nat.le_trans hds (by decide)) (ev_local ok rfl (cmp_gt ⟨fun e2 => ex_ret (ev_none (q0 ?_)), fun e2 => ?_⟩)))))⟩)))
  · rw [e1, Bool.false_or]; exact decide_eq_true (by have := of_decide_eq_true e2; omega)
  have hd2 : ¬ ((d == "") || decide (d.length > 32)) = true := by
    rw [e1, Bool.false_or]; have := of_decide_eq_false e2
    intro z; have := of_decide_eq_true z; omega
  rw [if_neg hd2] at q
  refine ex_asg (fun v H1 => v = .int 0 ∧ H = H1) ok ow (ev_int ⟨rfl, rfl⟩) ?_
  rintro _ _ ⟨rfl, rfl⟩
  generalize hw : valFold d.cps.toList 0 = w at q
  refine ex_for ok Top1.fn (iv_of (ev_local ok rfl (it_str ok fun I hI => ⟨fun i mi Hi => Hi = lockH H [I] [] ∧ mi.lookup ("text" : Str) = some (.str x) ∧ mi.lookup ("width" : Str) = some (.int 32) ∧ ∃ n, mi.lookup ("number" : Str) = some (.int n) ∧ valFold (d.cps.toList.drop i) n = w, ?_, ?_, ?_⟩)))
  · exact ⟨rfl, rfl, rfl, 0, rfl, hw⟩
  · rintro i xv mi Hi hx ⟨rfl, h1, h2, n, h3, h4⟩ hl
    rw [List.getElem?_map] at hx
    cases hc : d.cps.toList[i]? with
    | none => rw [hc] at hx; cases hx
    | some c =>
      rw [hc] at hx; cases hx
      obtain ⟨hi, hci⟩ := List.getElem?_eq_some_iff.mp hc
      rw [List.drop_eq_getElem_cons hi, hci] at h4
      rw [valFold_cons] at h4
      have hu : unl H [I] [] (lockH H [I] []) = H := unl_lockH fun b hb => by rw [List.mem_singleton.mp hb]; exact hI
      refine as_name ok ow (.inl rfl) ?_
      refine ex_if (tv_not (tv_chain2 (ev_str (ev_local ok rfl (cmp_le_str ?_)))))
      rw [show (("0" : Str).cps.toList) = [48] from by decide, lt1]
      have qb : ¬ (48 ≤ c ∧ c ≤ 57) → Q .none H := fun hb => by rw [if_neg hb] at h4; rw [← h4] at q; exact q
      by_cases c1 : c < 48
      · rw [decide_eq_true c1]
        exact ⟨fun _ => ex_ret (ev_none (by show Q .none (unl _ _ _ _); rw [hu]; exact qb (by omega))), fun z => by cases z⟩
      · rw [decide_eq_false c1]
        show EV _ _ _ _ _ _
        refine ev_str (cmp_le_str ?_)
        rw [show (("9" : Str).cps.toList) = [57] from by decide, lt1]
        by_cases c2 : 57 < c
        · rw [decide_eq_true c2]
          exact ⟨fun _ => ex_ret (ev_none (by show Q .none (unl _ _ _ _); rw [hu]; exact qb (by omega))), fun z => by cases z⟩
        · rw [decide_eq_false c2]
          refine ⟨(fun z => by cases z), fun _ => ?_⟩
          rw [if_pos (by omega)] at h4
          refine ex_asg (fun v H1 => v = .int (10 * n + (c : Int) - 48) ∧ lockH H [I] [] = H1) ok ow (ev_bin (ev_bin (ev_bin (ev_int (ev_local ok h3 (op_mul (IntMulOk.of_left (by decide)) (ev_bcall (ev_blt ok rfl n_ord b_ord (fun _ _ => .bi _) ⟨rfl, evs_cons (ev_local ok rfl (evs_nil (bv_ord (op_add (ev_int (op_sub ⟨rfl, rfl⟩))))))⟩)))))))) ?_
          rintro _ _ ⟨rfl, rfl⟩
          exact ex_nil ⟨rfl, h1, h2, _, rfl, h4⟩
  · rintro mn Hn ⟨rfl, h1, h2, n, h3, h4⟩ hl
    rw [unl_lockH (fun b hb => by rw [List.mem_singleton.mp hb]; exact hI)]
    rw [List.length_map, List.drop_length] at h4
    have h4 : w = some n := h4.symm
    rw [h4] at q; dsimp only at q
    refine ex_asg (fun v H1 => v = .int (if (⟨#[x.cps.getD 0 0]⟩ : Str) == "-" then -n else n) ∧ H = H1) ok ow (ev_ifB (tv_cmp (first h1 (ev_str (cmp_eqS ⟨fun e => ?_, fun e => ?_⟩))))) ?_
    · rw [if_pos e]; exact ev_neg (ev_local ok h3 ⟨n, rfl, rfl, rfl⟩)
    · rw [if_neg (by rw [e]; decide)]; exact ev_local ok h3 ⟨rfl, rfl⟩
    rintro _ _ ⟨rfl, rfl⟩
    refine ex_ret (ev_ifB (tv_call (bb := fits32 (if (⟨#[x.cps.getD 0 0]⟩ : Str) == "-" then -n else n)) (ev_call ok ok170.keep (lv := lv + 1) (ev_glob ok rfl g_fits ⟨rfl, evs_cons (ev_local ok rfl (evs_cons (ev_local ok h2 (evs_nil (c_fits (C := C) hB ⟨rfl, fun e => ?_, fun e => ?_⟩)))))⟩) (Nat.le_refl _))))
    · rw [if_pos e] at q; exact ev_local ok rfl q
    · rw [if_neg (by rw [e]; decide)] at q; exact ev_none q
end

section
variable {C : Con} {lv : Nat} {H : AH} {Q : V → AH → Prop} {R : Int → AH → Prop}
theorem c_to_whole_int (hB : Base C.w C.base) {i : Int} (q : Q (.int i) H) : CW C (lv + 1) (.ref 191) [.int i, .int 32] H Q R := by
  refine cw_def ok191 hB (body := bod st191) rfl rfl (fun A stk L own ok ow => ?_)
  refine ex_ifT (tv_call (ev_isT ok rfl (.int i) noKit is_int_int n_int b_int ⟨rfl, rfl, ?_⟩))
  exact ex_ret (ev_local ok rfl q)
theorem c_to_whole_str (hB : Base C.w C.base) {x : Str} (hz : x.length ≤ 1000) (q : Q (optV (wholeText x)) H) : CW C (lv + 3) (.ref 191) [.str x, .int 32] H Q R := by
  refine cw_def ok191 hB (body := bod st191) rfl rfl (fun A stk L own ok ow => ?_)
  refine ex_ifF (tv_call (ev_isT ok rfl (.str x) noKit is_str_int n_int b_int ⟨rfl, rfl, ?_⟩))
  refine ex_ret (ev_ifT (tv_call (ev_isT ok rfl (.str x) noKit is_str_str n_str b_str ⟨rfl, rfl, ?_⟩)))
  exact ev_call ok ok177.keep (lv := lv + 2) (ev_glob ok rfl g_whole_of_text ⟨rfl, evs_cons (ev_local ok rfl (evs_cons (ev_local ok rfl (evs_nil (c_whole_of_text (C := C) hB hz q)))))⟩) (Nat.le_refl _)
theorem c_need_int (hB : Base C.w C.base) {i : Int} (q : Q (.int i) H) : CW C (lv + 2) (.ref 198) [.int i, .int 32] H Q R := by
  refine cw_def ok198 hB (body := bod st198) rfl rfl (fun A stk L own ok ow => ?_)
  refine ex_asg (fun v H1 => v = .int i ∧ H = H1) ok ow (ev_call ok ok191.keep (lv := lv + 1) (ev_glob ok rfl g_to_whole ⟨rfl, evs_cons (ev_local ok rfl (evs_cons (ev_local ok rfl (evs_nil (c_to_whole_int (C := C) hB ⟨rfl, rfl⟩)))))⟩) (Nat.le_refl _)) ?_
  rintro _ _ ⟨rfl, rfl⟩
  exact ex_ifF (tv_cmp (ev_local ok rfl (ev_none (cmp_is ⟨rfl, ex_ret (ev_local ok rfl q)⟩))))
theorem c_need_str (hB : Base C.w C.base) {x : Str} {i : Int} (hz : x.length ≤ 1000) (hi : wholeText x = some i) (q : Q (.int i) H) : CW C (lv + 4) (.ref 198) [.str x, .int 32] H Q R := by
  refine cw_def ok198 hB (body := bod st198) rfl rfl (fun A stk L own ok ow => ?_)
  refine ex_asg (fun v H1 => v = .int i ∧ H = H1) ok ow (ev_call ok ok191.keep (lv := lv + 3) (ev_glob ok rfl g_to_whole ⟨rfl, evs_cons (ev_local ok rfl (evs_cons (ev_local ok rfl (evs_nil (c_to_whole_str (C := C) hB hz ⟨by rw [hi]; rfl, rfl⟩)))))⟩) (Nat.le_refl _)) ?_
  rintro _ _ ⟨rfl, rfl⟩
  exact ex_ifF (tv_cmp (ev_local ok rfl (ev_none (cmp_is ⟨rfl, ex_ret (ev_local ok rfl q)⟩))))

noncomputable def wholeIn (x : Str) : Option Int := if x == "" then none else wholeText x
theorem c_whole_in (hB : Base C.w C.base) {x : Str} (hz : x.length ≤ 1000) (q : ∀ i, wholeIn x = some i → Q (.int i) H) (qr : wholeIn x = none → R 6 H) : CW C (lv + 3) (.ref 264) [.str x, .int 32] H Q R := by
  refine cw_def ok264 hB (body := bod st264) rfl rfl (fun A stk L own ok ow => ?_)
  refine ex_asg (fun v H1 => v = optV (wholeIn x) ∧ H = H1) ok ow (ev_ifB (tv_cmp (ev_local ok rfl (ev_str (cmp_eqS ⟨fun h => ?_, fun h => ?_⟩))))) ?_
  · exact ev_none ⟨by unfold wholeIn; rw [if_pos h]; rfl, rfl⟩
  · exact ev_call ok ok177.keep (lv := lv + 2) (ev_glob ok rfl g_whole_of_text ⟨rfl, evs_cons (ev_local ok rfl (evs_cons (ev_local ok rfl (evs_nil (c_whole_of_text (C := C) hB hz ⟨by unfold wholeIn; rw [if_neg (by rw [h]; decide)], rfl⟩)))))⟩) (Nat.le_refl _)
  rintro _ _ ⟨rfl, rfl⟩
  cases hw : wholeIn x with
  | none =>
    refine ex_ifT (tv_cmp (ev_local ok rfl (ev_none (cmp_is ⟨rfl, ?_⟩))))
    exact ex_cons (es_raise ok (evs_cons (ev_int (evs_cons (ev_local ok rfl (evs_nil ⟨6, _, rfl, qr hw⟩))))))
  | some i =>
    exact ex_ifF (tv_cmp (ev_local ok rfl (ev_none (cmp_is ⟨rfl, ex_ret (ev_local ok rfl (q i hw))⟩))))

/-- a bounds list as values -/
noncomputable def boundsV (bs : List (Int × Int)) : List V := bs.map fun p => .tup [.int p.1, .int p.2]
noncomputable def sizeB (bs : List (Int × Int)) : Int := bs.foldl (fun n p => n * (p.2 - p.1 + 1)) 1
theorem c_size_of_bounds (hB : Base C.w C.base) {a : Addr} {bs : List (Int × Int)} (ha : H a = some (.list (boundsV bs))) (hm : ∀ p ∈ bs, Builtin.Int.intBits (p.2 - p.1 + 1) ≤ 64) (q : Q (.int (sizeB bs)) H) : CW C (lv + 1) (.ref 278) [.ref a] H Q R := by
  refine cw_def ok278 hB (body := bod st278) rfl rfl (fun A stk L own ok ow => ?_)
  refine ex_asg (fun v H1 => v = .int 1 ∧ H = H1) ok ow (ev_int ⟨rfl, rfl⟩) ?_
  rintro _ _ ⟨rfl, rfl⟩
  refine ex_for ok Top1.fn (iv_of (ev_local ok rfl (it_list ok ha fun I hI => ⟨fun i mi Hi => Hi = lockH H [I] [a] ∧ ∃ n, mi.lookup ("found" : Str) = some (.int n) ∧ (bs.drop i).foldl (fun n p => n * (p.2 - p.1 + 1)) n = sizeB bs, ?_, ?_, ?_⟩)))
  · exact ⟨rfl, 1, rfl, rfl⟩
  · rintro i xv mi Hi hx ⟨rfl, n, h3, h4⟩ hl
    unfold boundsV at hx
    rw [List.getElem?_map] at hx
    cases hc : bs[i]? with
    | none => rw [hc] at hx; cases hx
    | some p =>
      rw [hc] at hx; cases hx
      obtain ⟨hi, hci⟩ := List.getElem?_eq_some_iff.mp hc
      rw [List.drop_eq_getElem_cons hi, hci] at h4
      refine as_pair ok (as_name ok ow (.inl rfl) (as_name ok ow (.inl rfl) ?_))
      refine ex_asg (fun v H1 => v = .int (n * (p.2 - p.1 + 1)) ∧ lockH H [I] [a] = H1) ok ow (ev_bin (ev_local ok h3 (ev_bin (ev_bin (ev_local ok rfl (ev_local ok rfl (op_sub (ev_int (op_add (op_mul (IntMulOk.of_right (hm p (hci ▸ List.getElem_mem hi))) ⟨rfl, rfl⟩)))))))))) ?_
      rintro _ _ ⟨rfl, rfl⟩
      exact ex_nil ⟨rfl, _, rfl, h4⟩
  · rintro mn Hn ⟨rfl, n, h3, h4⟩ hl
    rw [unl_lockH (fun b hb => by rw [List.mem_singleton.mp hb]; exact hI)]
    unfold boundsV at h4
    rw [List.length_map, List.drop_length] at h4
    exact ex_ret (ev_local ok h3 (by rw [← h4] at q; exact q))
end

theorem AH.set_set (H : AH) (a : Addr) (o o' : AO) : (H.set a o).set a o' = H.set a o' := by
  funext b
  by_cases q : b = a
  · subst q; rw [AH.set_self, AH.set_self]
  · rw [AH.set_ne _ _ q, AH.set_ne _ _ q, AH.set_ne _ _ q]
/-- what may be a key of a table: whole numbers, strings, arrays, tables -/
inductive IsKey (H : AH) : V → List V → List KV → Prop
  | int (i : Int) : IsKey H (.int i) [.str "INTEGER", .int i] [.inl "INTEGER", .inr i]
  | str (x : Str) : IsKey H (.str x) [.str "STRING", .str x] [.inl "STRING", .inl x]
  | arr {a fs n w} : H a = some (.inst 236 fs) → fs.lookup ("word" : Str) = some (.str w) → fs.lookup ("number" : Str) = some (.int n) → IsKey H (.ref a) [.str "HOLDER", .int n] [.inl "HOLDER", .inr n]
  | tab {a fs n w} : H a = some (.inst 255 fs) → fs.lookup ("word" : Str) = some (.str w) → fs.lookup ("number" : Str) = some (.int n) → IsKey H (.ref a) [.str "HOLDER", .int n] [.inl "HOLDER", .inr n]
theorem IsKey.kv {H v vs ks} (k : IsKey H v vs ks) : AreKV H vs ks := by
  cases k with
  | int i => exact .cons (.str _) (.cons (.int _) .nil)
  | str x => exact .cons (.str _) (.cons (.str _) .nil)
  | arr => exact .cons (.str _) (.cons (.int _) .nil)
  | tab => exact .cons (.str _) (.cons (.int _) .nil)
section
variable {C : Con} {lv : Nat} {H : AH} {Q : V → AH → Prop} {R : Int → AH → Prop}
theorem c_table_key (hB : Base C.w C.base) {v : V} {vs : List V} {ks : List KV} (k : IsKey H v vs ks) (q : Q (.tup vs) H) : CW C (lv + 2) (.ref 219) [v] H Q R := by
  refine cw_def ok219 hB (body := bod st219) rfl rfl (fun A stk L own ok ow => ?_)
  cases k with
  | int i =>
    refine ex_asg (fun v H1 => v = .str "INTEGER" ∧ H = H1) ok ow (ev_call ok ok149.keep (lv := lv + 1) (ev_glob ok rfl g_kind_of ⟨rfl, evs_cons (ev_local ok rfl (evs_nil (c_kind_int (C := C) hB ⟨rfl, rfl⟩)))⟩) (Nat.le_refl _)) ?_
    rintro _ _ ⟨rfl, rfl⟩
    refine ex_ifT (tv_call (ev_call ok ok163.keep (lv := lv + 1) (ev_glob ok rfl g_is_plain ⟨rfl, evs_cons (ev_local ok rfl (evs_nil (c_is_plain (C := C) hB (.int i) noKit is_int_plain ⟨rfl, rfl, ?_⟩)))⟩) (Nat.le_refl _)))
    exact ex_ret (ev_tuple (evs_cons (ev_local ok rfl (evs_cons (ev_local ok rfl (evs_nil ⟨by show 2 ≤ 1000; decide, q⟩))))))
  | str x =>
    refine ex_asg (fun v H1 => v = .str "STRING" ∧ H = H1) ok ow (ev_call ok ok149.keep (lv := lv + 1) (ev_glob ok rfl g_kind_of ⟨rfl, evs_cons (ev_local ok rfl (evs_nil (c_kind_str (C := C) hB ⟨rfl, rfl⟩)))⟩) (Nat.le_refl _)) ?_
    rintro _ _ ⟨rfl, rfl⟩
    refine ex_ifT (tv_call (ev_call ok ok163.keep (lv := lv + 1) (ev_glob ok rfl g_is_plain ⟨rfl, evs_cons (ev_local ok rfl (evs_nil (c_is_plain (C := C) hB (.str x) noKit is_str_plain ⟨rfl, rfl, ?_⟩)))⟩) (Nat.le_refl _)))
    exact ex_ret (ev_tuple (evs_cons (ev_local ok rfl (evs_cons (ev_local ok rfl (evs_nil ⟨by show 2 ≤ 1000; decide, q⟩))))))
  | @arr a fs n w ha hw hn =>
    refine ex_asg (fun v H1 => v = .str w ∧ H = H1) ok ow (ev_call ok ok149.keep (lv := lv + 1) (ev_glob ok rfl g_kind_of ⟨rfl, evs_cons (ev_local ok rfl (evs_nil (c_kind_arr (C := C) hB ha hw ⟨rfl, rfl⟩)))⟩) (Nat.le_refl _)) ?_
    rintro _ _ ⟨rfl, rfl⟩
    refine ex_ifF (tv_call (ev_call ok ok163.keep (lv := lv + 1) (ev_glob ok rfl g_is_plain ⟨rfl, evs_cons (ev_local ok rfl (evs_nil (c_is_plain (C := C) hB (.inst ha) (kitR kit236) is_r236_plain ⟨rfl, rfl, ?_⟩)))⟩) (Nat.le_refl _)))
    refine ex_ifT (tv_call (ev_isC ok rfl (.inst ha) (kitR kit236) is_r236_138 g_Holder ⟨rfl, rfl, ?_⟩))
    exact ex_ret (ev_tuple (evs_cons (ev_str (evs_cons (ev_attr (ev_local ok rfl (ga_field ok ha get236_number hn (evs_nil ⟨by show 2 ≤ 1000; decide, q⟩))))))))
  | @tab a fs n w ha hw hn =>
    refine ex_asg (fun v H1 => v = .str w ∧ H = H1) ok ow (ev_call ok ok149.keep (lv := lv + 1) (ev_glob ok rfl g_kind_of ⟨rfl, evs_cons (ev_local ok rfl (evs_nil (c_kind_tab (C := C) hB ha hw ⟨rfl, rfl⟩)))⟩) (Nat.le_refl _)) ?_
    rintro _ _ ⟨rfl, rfl⟩
    refine ex_ifF (tv_call (ev_call ok ok163.keep (lv := lv + 1) (ev_glob ok rfl g_is_plain ⟨rfl, evs_cons (ev_local ok rfl (evs_nil (c_is_plain (C := C) hB (.inst ha) (kitR kit255) is_r255_plain ⟨rfl, rfl, ?_⟩)))⟩) (Nat.le_refl _)))
    refine ex_ifT (tv_call (ev_isC ok rfl (.inst ha) (kitR kit255) is_r255_138 g_Holder ⟨rfl, rfl, ?_⟩))
    exact ex_ret (ev_tuple (evs_cons (ev_str (evs_cons (ev_attr (ev_local ok rfl (ga_field ok ha get255_number hn (evs_nil ⟨by show 2 ≤ 1000; decide, q⟩))))))))

theorem c_Holder (hB : Base C.w C.base) {a K : Addr} {fs : List (Str × V)} {w n : V} (hw : ClsSet K "word") (hn : ClsSet K "number") (hm : ClsSet K "mark") (ha : H a = some (.inst K fs)) (hz : fs.length ≤ 100) (q : Q .none (H.set a (.inst K (putF "mark" (.int 0) (putF "number" n (putF "word" w fs)))))) : CW C (lv + 1) (.ref 135) [.ref a, w, n] H Q R := by
  refine cw_def ok135 hB (body := bod st135) rfl rfl (fun A stk L own ok ow => ?_)
  have hl : ∀ (k : Str) (v : V) (fs : List (Str × V)), (putF k v fs).length ≤ fs.length + 1 := by
    intro k v fs
    induction fs with
    | nil => exact Nat.le_refl _
    | cons p fs ih =>
      obtain ⟨k', v'⟩ := p
      rw [putF_cons]
      split
      · exact Nat.le_succ _
      · exact Nat.succ_le_succ ih
  have l1 := hl "word" w fs
  have l2 := hl "number" n (putF "word" w fs)
  refine ex_cons (es_setattr (ev_local ok rfl (ev_local ok rfl (sa_field ok ha hw (by omega) ?_))))
  refine ex_cons (es_setattr (ev_local ok rfl (ev_local ok rfl (sa_field ok (AH.set_self _ _ _) hn (by omega) ?_))))
  refine ex_cons (es_setattr (ev_int (ev_local ok rfl (sa_field ok (AH.set_self _ _ _) hm (by omega) ?_))))
  rw [AH.set_set, AH.set_set]
  exact ex_nil q
end

section
variable {C : Con} {lv : Nat} {H : AH} {Q : V → AH → Prop} {R : Int → AH → Prop}
theorem c_NameRef (hB : Base C.w C.base) {kd ow_ ky : V} (q : ∀ x d H', H x = none → H d = none → d ≠ x → H' x = some (.inst 117 [("kind", kd), ("owner", ow_), ("key", ky)]) → (∀ b, b ≠ x → b ≠ d → H' b = H b) → Q (.ref x) H') : CW C (lv + 2) (.ref 117) [kd, ow_, ky] H Q R := by
  refine cw_new hB mk117 fun x d hx hd hdx => ?_
  refine cw_def ok114 hB (body := bod st114) rfl rfl (fun A stk L own ok ow => ?_)
  refine ex_cons (es_setattr (ev_local ok rfl (ev_local ok rfl (sa_field ok (AH.set_self _ _ _) set117_kind (by decide) ?_))))
  refine ex_cons (es_setattr (ev_local ok rfl (ev_local ok rfl (sa_field ok (AH.set_self _ _ _) set117_owner (by show 1 ≤ 900; decide) ?_))))
  refine ex_cons (es_setattr (ev_local ok rfl (ev_local ok rfl (sa_field ok (AH.set_self _ _ _) set117_key (by show 2 ≤ 900; decide) ?_))))
  rw [AH.set_set, AH.set_set, AH.set_set]
  exact ex_nil ⟨rfl, q x d _ hx hd hdx (AH.set_self _ _ _) fun b n1 n2 => by rw [AH.set_ne _ _ n1, AH.set_ne _ _ n2]⟩

theorem c_Table (hB : Base C.w C.base) {n : V} (q : ∀ x d D H', H x = none → H D = none → H d = none → x ≠ D → d ≠ x → H' x = some (.inst 255 [("word", .str "TABLE"), ("number", n), ("mark", .int 0), ("entries", .ref D)]) → H' D = some (.dict []) → (∀ b, b ≠ x → b ≠ D → b ≠ d → H' b = H b) → Q (.ref x) H') : CW C (lv + 3) (.ref 255) [n] H Q R := by
  refine cw_new hB mk255 fun x d hx hd hdx => ?_
  refine cw_def ok252 hB (body := bod st252) rfl rfl (fun A stk L own ok ow => ?_)
  refine ex_expr (ev_cmeth (lv := lv + 1) ok cmHolder (ev_glob ok rfl g_Holder ⟨rfl, evs_cons (ev_local ok rfl (evs_cons (ev_str (evs_cons (ev_local ok rfl (evs_nil (c_Holder (C := C) hB set255_word set255_number set255_mark (AH.set_self _ _ _) (by decide) ?_)))))))⟩) (Nat.le_refl _))
  rw [AH.set_set]
  refine ex_cons (es_setattr (ev_dict0 ok fun D hD => ev_local ok rfl ?_))
  have hxD : x ≠ D := (nz (AH.set_self _ _ _) hD)
  have hdD : D ≠ d ∨ D = d := by by_cases z : D = d; exact .inr z; exact .inl z
  have hDd : D ≠ d := fun q => by rw [AH.set_ne _ _ hxD.symm, q, AH.set_self] at hD; cases hD
  have hHD : H D = none := by rw [AH.set_ne _ _ hxD.symm, AH.set_ne _ _ hDd] at hD; exact hD
  refine sa_field ok (by rw [AH.set_ne _ _ hxD]; exact AH.set_self _ _ _) set255_entries (by show 3 ≤ 900; decide) ?_
  refine ex_nil ⟨rfl, q x d D _ hx hHD hd hxD hdx (AH.set_self _ _ _) (by rw [AH.set_ne _ _ hxD.symm, AH.set_self]) fun b n1 n2 n3 => by rw [AH.set_ne _ _ n1, AH.set_ne _ _ n2, AH.set_ne _ _ n1, AH.set_ne _ _ n3]⟩
end

theorem foldl_rep {v : Value} : ∀ (n : Nat) (a : Array Value), (List.foldl (fun x1 x2 => x1 ++ x2) a (List.replicate n #[v])).toList = a.toList ++ List.replicate n v
  | 0, a => by simp
  | n + 1, a => by
    rw [List.replicate_succ, List.foldl_cons, foldl_rep n, Array.toList_append, List.replicate_succ]
    simp
theorem RelAll.rep {H h} {v : Value} {x : V} (r : Rel H h v x) : ∀ n, RelAll H h (List.replicate n v) (List.replicate n x)
  | 0 => .nil
  | n + 1 => .cons r (RelAll.rep r n)
section
variable {Γ : Cx} {H : AH} {Q : V → AH → Prop} {R : Int → AH → Prop}
theorem op_mulL {a : Addr} {v : V} {n : Int} (ha : H a = some (.list [v])) (h0 : 0 ≤ n) (h1 : n ≤ 1000000) (q : ∀ D, H D = none → Q (.ref D) (H.set D (.list (List.replicate n.toNat v)))) : OpV Γ .Mult (.ref a) (.int n) H Q R := by
  intro s va vb y ra rb
  refine ra.rE ?_; refine rb.iE fun _ => ?_
  rename_i u
  obtain ⟨items, k, e, rr⟩ := y.view _ _ ha
  obtain ⟨val, hv, rv⟩ : ∃ val, items = #[val] ∧ Rel H s.heap val v := by
    obtain ⟨x, hq, r1⟩ := rr.one
    exact ⟨x, by rw [← Array.toArray_toList (xs := items), hq], r1⟩
  subst hv
  refine wpAny_binaryOp_repeat_ref (T := "list") (U := "int") (by decide) ⟨_, e, rfl⟩ (fun s' => typeIs_int s' n u) noFill_list_mul F.fills_int_mul F.slot_int_rmul repeat_list F.slot_int_index.lookup
    (call_meets F.slot_int_rmul (typeIs_int s n u) F.entry_int_rmul (F.args_int_rmul_2 _ _) (int___rmul___int_list n u a #[val] k)
      ⟨e, rfl, ⟨_, e, rfl⟩, call_meets F.slot_list_mul ⟨_, e, rfl⟩ F.entry_list_mul (F.args_list_mul_2 _ _)
        (AutoListH.list___mul___list_int_3 a #[val] k n u (by simp [Builtin.List.listFitsIndex]; omega) (by show ¬ (1 * n.toNat > (2 ^ 63 - 1) / 8); omega) (by simp [Builtin.List.listTooLong, sizeLine]; omega))
        ⟨e, VPost.newList y ?_ q⟩⟩)
  rw [if_neg (by simp), foldl_rep]
  exact RelAll.rep rv _
end
section
variable {C : Con} {lv : Nat} {H : AH} {Q : V → AH → Prop} {R : Int → AH → Prop}
theorem c_Array (hB : Base C.w C.base) {n told v : V} {ba : Addr} {bs : List (Int × Int)} (hb : H ba = some (.list (boundsV bs))) (hm : ∀ p ∈ bs, Builtin.Int.intBits (p.2 - p.1 + 1) ≤ 64) (h0 : 0 ≤ sizeB bs) (h1 : sizeB bs ≤ 1000000)
    (q : ∀ x d D H', H x = none → H D = none → H d = none → x ≠ D → d ≠ x → H' x = some (.inst 236 [("word", .str "ARRAY"), ("number", n), ("mark", .int 0), ("told", told), ("bounds", .ref ba), ("items", .ref D)]) → H' D = some (.list (List.replicate (sizeB bs).toNat v)) → (∀ b o, H b = some o → H' b = some o) → Q (.ref x) H') : CW C (lv + 3) (.ref 236) [n, told, .ref ba, v] H Q R := by
  refine cw_new hB mk236 fun x d hx hd hdx => ?_
  refine cw_def ok233 hB (body := bod st233) rfl rfl (fun A stk L own ok ow => ?_)
  refine ex_expr (ev_cmeth (lv := lv + 1) ok cmHolder (ev_glob ok rfl g_Holder ⟨rfl, evs_cons (ev_local ok rfl (evs_cons (ev_str (evs_cons (ev_local ok rfl (evs_nil (c_Holder (C := C) hB set236_word set236_number set236_mark (AH.set_self _ _ _) (by decide) ?_)))))))⟩) (Nat.le_refl _))
  rw [AH.set_set]
  refine ex_cons (es_setattr (ev_local ok rfl (ev_local ok rfl (sa_field ok (AH.set_self _ _ _) set236_told (by show 3 ≤ 900; decide) ?_))))
  refine ex_cons (es_setattr (ev_local ok rfl (ev_local ok rfl (sa_field ok (AH.set_self _ _ _) set236_bounds (by show 4 ≤ 900; decide) ?_))))
  rw [AH.set_set, AH.set_set]
  have hbx : ba ≠ x := (nz hb hx)
  have hbd : ba ≠ d := (nz hb hd)
  refine ex_cons (es_setattr (ev_bin (ev_list (evs_cons (ev_local ok rfl (evs_nil ⟨by show 1 ≤ 1000; decide, fun D0 hD0 => ?_⟩))))))
  have hD0b : ba ≠ D0 := fun q => by rw [← q, AH.set_ne _ _ hbx, AH.set_ne _ _ hbd, hb] at hD0; cases hD0
  have hxD0 : x ≠ D0 := (nz (AH.set_self _ _ _) hD0)
  have hdD0 : D0 ≠ d := fun q => by rw [AH.set_ne _ _ hxD0.symm, q, AH.set_self] at hD0; cases hD0
  refine ev_call (lv := lv + 1) ok ok278.keep (ev_glob ok rfl g_size_of_bounds ⟨rfl, evs_cons (ev_local ok rfl (evs_nil (c_size_of_bounds (C := C) hB (by rw [AH.set_ne _ _ hD0b, AH.set_ne _ _ hbx, AH.set_ne _ _ hbd]; exact hb) hm ?_)))⟩) (Nat.le_refl _)
  refine op_mulL (AH.set_self _ _ _) h0 h1 fun D hD => ?_
  have hDD0 : D ≠ D0 := ((nz (AH.set_self _ _ _) hD).symm)
  rw [AH.set_ne _ _ hDD0] at hD
  have hxD : x ≠ D := (nz (AH.set_self _ _ _) hD)
  have hDd : D ≠ d := fun q => by rw [AH.set_ne _ _ hxD.symm, q, AH.set_self] at hD; cases hD
  have hHD : H D = none := by rw [AH.set_ne _ _ hxD.symm, AH.set_ne _ _ hDd] at hD; exact hD
  have hHD0 : H D0 = none := by rw [AH.set_ne _ _ hxD0.symm, AH.set_ne _ _ hdD0] at hD0; exact hD0
  refine ev_local ok rfl (sa_field ok (by rw [AH.set_ne _ _ hxD, AH.set_ne _ _ hxD0]; exact AH.set_self _ _ _) set236_items (by show 5 ≤ 900; decide) ?_)
  refine ex_nil ⟨rfl, q x d D _ hx hHD hd hxD hdx (AH.set_self _ _ _) (by rw [AH.set_ne _ _ hxD.symm, AH.set_self]) fun b o hbo => ?_⟩
  have n1 : b ≠ x := (nz hbo hx)
  have n2 : b ≠ d := (nz hbo hd)
  have n3 : b ≠ D := (nz hbo hHD)
  have n4 : b ≠ D0 := (nz hbo hHD0)
  rw [AH.set_ne _ _ n1, AH.set_ne _ _ n3, AH.set_ne _ _ n4, AH.set_ne _ _ n1, AH.set_ne _ _ n2]; exact hbo
end

noncomputable def intsV (ps : List Int) : List V := ps.map .int
noncomputable def placeOf : List (Int × Int) → List Int → Int → Option Int
  | (l, h) :: bs, p :: ps, n => if l ≤ p ∧ p ≤ h then placeOf bs ps (n * (h - l + 1) + p - l) else none
  | _, _, n => some n
theorem placeOf_cons {l h p n : Int} {bs : List (Int × Int)} {ps : List Int} : placeOf ((l, h) :: bs) (p :: ps) n = if l ≤ p ∧ p ≤ h then placeOf bs ps (n * (h - l + 1) + p - l) else none := rfl
theorem bits_small {n : Int} (h : n.natAbs < 2 ^ 60) : Builtin.Int.intBits n ≤ 64 := by
  unfold Builtin.Int.intBits
  split
  · decide
  · have h2 : n.natAbs.log2 < 60 := by
      rcases Nat.eq_zero_or_pos n.natAbs with z | z
      · rw [z]; decide
      · exact (Nat.log2_lt (by omega)).mpr h
    omega
section
variable {C : Con} {lv : Nat} {H : AH} {Q : V → AH → Prop} {R : Int → AH → Prop}
theorem c_array_place (hB : Base C.w C.base) {a ba pa : Addr} {fs : List (Str × V)} {bs : List (Int × Int)} {ps : List Int} (ha : H a = some (.inst 236 fs)) (hf : fs.lookup ("bounds" : Str) = some (.ref ba)) (hb : H ba = some (.list (boundsV bs))) (hp : H pa = some (.list (intsV ps)))
    (hm : ∀ p ∈ bs, Builtin.Int.intBits (p.2 - p.1 + 1) ≤ 64) (hz : bs.length ≤ 1000) (hz2 : ps.length ≤ 1000)
    (q : bs.length = ps.length → Q (optV (placeOf bs ps 0)) H) (qr : bs.length ≠ ps.length → R 3 H) : CW C (lv + 1) (.ref 285) [.ref a, .ref pa] H Q R := by
  refine cw_def ok285 hB (body := bod st285) rfl rfl (fun A stk L own ok ow => ?_)
  have lb : (boundsV bs).length = bs.length := List.length_map ..
  have lp : (intsV ps).length = ps.length := List.length_map ..
  refine ex_if (tv_cmp (ev_bcall (ev_blt ok rfl n_len b_len (fun _ _ => .bi _) ⟨rfl, evs_cons (ev_local ok rfl (evs_nil (bv_len (.inl hp) (by rw [lp]; omega) (ev_bcall (ev_blt ok rfl n_len b_len (fun _ _ => .bi _) ⟨rfl, evs_cons (ev_attr (ev_local ok rfl (ga_field ok ha get236_bounds hf (evs_nil (bv_len (.inl hb) (by rw [lb]; omega) (cmp_ne ⟨fun e => ?_, fun e => ?_⟩))))))⟩)))))⟩)))
  · refine ex_cons (es_raise ok (evs_cons (ev_int (evs_cons (ev_str (evs_nil ⟨3, _, rfl, qr ?_⟩))))))
    rw [lp, lb] at e
    intro z; rw [z] at e; simp at e
  have hl : bs.length = ps.length := by
    rw [lp, lb] at e
    have : (ps.length : Int) = bs.length := by simpa using e
    omega
  have q := q hl
  refine ex_asg (fun v H1 => v = .int 0 ∧ H = H1) ok ow (ev_int ⟨rfl, rfl⟩) ?_
  rintro _ _ ⟨rfl, rfl⟩
  generalize hw : placeOf bs ps 0 = w at q
  refine ex_for ok Top1.fn (iv_tcall (ev_blt ok rfl n_zip b_zip (fun _ _ => .ty _) ⟨rfl, evs_cons (ev_attr (ev_local ok rfl (ga_field ok ha get236_bounds hf (evs_cons (ev_local ok rfl (evs_nil (bi_zip ok rfl hb hp fun wr hwr => ⟨fun i mi Hi => Hi = lockH H wr [ba, pa] ∧ ∃ n, mi.lookup ("found" : Str) = some (.int n) ∧ placeOf (bs.drop i) (ps.drop i) n = w, ?_, ?_, ?_⟩)))))))⟩))
  · exact ⟨rfl, 0, rfl, hw⟩
  · rintro i xv mi Hi hx ⟨rfl, n, h3, h4⟩ hl
    obtain ⟨u, v, hu, hv, rfl⟩ := zipL_get hx
    unfold boundsV at hu
    unfold intsV at hv
    rw [List.getElem?_map] at hu hv
    cases hc : bs[i]? with
    | none => rw [hc] at hu; cases hu
    | some b =>
      cases hd : ps[i]? with
      | none => rw [hd] at hv; cases hv
      | some p =>
        rw [hc] at hu; cases hu
        rw [hd] at hv; cases hv
        obtain ⟨hi, hci⟩ := List.getElem?_eq_some_iff.mp hc
        obtain ⟨hj, hdi⟩ := List.getElem?_eq_some_iff.mp hd
        rw [List.drop_eq_getElem_cons hi, hci, List.drop_eq_getElem_cons hj, hdi] at h4
        obtain ⟨l, h⟩ := b
        rw [placeOf_cons] at h4
        have hun : unl H wr [ba, pa] (lockH H wr [ba, pa]) = H := unl_lockH hwr
        refine as_pair ok (as_pair ok (as_name ok ow (.inl rfl) (as_name ok ow (.inl rfl) (as_name ok ow (.inl rfl) ?_))))
        refine ex_if (tv_not (tv_chain2 (ev_local ok rfl (ev_local ok rfl (cmp_le ?_)))))
        by_cases c1 : l ≤ p
        · rw [decide_eq_true c1]
          show EV _ _ _ _ _ _
          refine ev_local ok rfl (cmp_le ?_)
          by_cases c2 : p ≤ h
          · rw [decide_eq_true c2]
            refine ⟨(fun z => by cases z), fun _ => ?_⟩
            rw [if_pos ⟨c1, c2⟩] at h4
            refine ex_asg (fun v H1 => v = .int (n * (h - l + 1) + p - l) ∧ lockH H wr [ba, pa] = H1) ok ow (ev_bin (ev_bin (ev_bin (ev_local ok h3 (ev_bin (ev_bin (ev_local ok rfl (ev_local ok rfl (op_sub (ev_int (op_add (op_mul (IntMulOk.of_right (hm (l, h) (hci ▸ List.getElem_mem hi))) (ev_local ok rfl (op_add (ev_local ok rfl (op_sub ⟨rfl, rfl⟩)))))))))))))))) ?_
            rintro _ _ ⟨rfl, rfl⟩
            exact ex_nil ⟨rfl, _, rfl, h4⟩
          · rw [decide_eq_false c2]
            rw [if_neg (fun z => c2 z.2)] at h4
            exact ⟨fun _ => ex_ret (ev_none (by show Q .none (unl _ _ _ _); rw [hun]; rw [← h4] at q; exact q)), fun z => by cases z⟩
        · rw [decide_eq_false c1]
          rw [if_neg (fun z => c1 z.1)] at h4
          exact ⟨fun _ => ex_ret (ev_none (by show Q .none (unl _ _ _ _); rw [hun]; rw [← h4] at q; exact q)), fun z => by cases z⟩
  · rintro mn Hn ⟨rfl, n, h3, h4⟩ hl2
    rw [unl_lockH hwr]
    rw [zipL_length, lb, lp, hl, Nat.min_self, List.drop_length, ← hl, List.drop_length] at h4
    have h4 : some n = w := h4
    rw [← h4] at q
    exact ex_ret (ev_local ok h3 q)
end

section
variable {C : Con} {lv : Nat} {H : AH} {Q : V → AH → Prop} {R : Int → AH → Prop}
theorem ev_isE {Γ : Cx} {m : Locs} {e : Expr} {t : Value} {D : Addr} {b : Bool} {p1 p3 pos : Pos} {nC : Str} (ok : Γ.Ok) (gg : ∀ P, nsIn (frag P) mainGlobals nC = some (some (.ref D))) (kc : ∀ D, t = .ref D → KitC D) (ee : ∀ P, kitOne (frag P) t (.ref D) = some b)
    (h : EV Γ e m H (fun v H1 => TK H1 v t ∧ Q (.bool b) H1) R) (h1 : Γ.env.kindOf "isinstance" = some .globalImplicit := by rfl) (h2 : Γ.env.kindOf nC = some .globalImplicit := by rfl) (hd : (nC == ("__debug__" : Str)) = false := by decide)
    (hs : ∀ env, starEach [e, .Name nC p3] env = (false, eval e env) :: starEach [.Name nC p3] env := by intro _; rfl) : EV Γ (.Call (.Name "isinstance" p1) [e, .Name nC p3] [] pos) m H Q R :=
  ev_bcall (ev_blt ok h1 n_isinstance b_isinstance (fun _ _ => .bi _) ⟨rfl, evs_cons (h.mono fun v H1 ⟨k, q⟩ => evs_cons (ev_glob ok h2 gg (evs_nil (bv_isi ok k kc ee q)) hd)) hs⟩) (hs := hs)

theorem c_slot_get_arr (hB : Base C.w C.base) {r a D : Addr} {f0 fs : List (Str × V)} {xs : List V} {i : Int} {v : V} (hr : H r = some (.inst 117 f0)) (ho : f0.lookup ("owner" : Str) = some (.ref a)) (hk : f0.lookup ("key" : Str) = some (.int i))
    (ha : H a = some (.inst 236 fs)) (hf : fs.lookup ("items" : Str) = some (.ref D)) (hD : H D = some (.list xs)) (h0 : 0 ≤ i) (hz : xs.length ≤ 1000000) (hv : xs[i.toNat]? = some v) (q : Q v H) : CW C (lv + 1) (.ref 311) [.ref r] H Q R := by
  refine cw_def ok311 hB (body := bod st311) rfl rfl (fun A stk L own ok ow => ?_)
  refine ex_ifT (tv_call (ev_isE ok g_Array (kitR kit236) is_r236_236 (ev_attr (ev_local ok rfl (ga_field ok hr get117_owner ho ⟨.inst ha, rfl, rfl, ?_⟩)))))
  exact ex_ret (ev_sub (ev_attr (ev_attr (ev_local ok rfl (ga_field ok hr get117_owner ho (ga_field ok ha get236_items hf (ev_attr (ev_local ok rfl (ga_field ok hr get117_key hk (gi_list (.inl hD) h0 hz hv q))))))))))
theorem c_slot_get_tab (hB : Base C.w C.base) {r a D p : Addr} {f0 fs : List (Str × V)} {kvs : List (List KV × V)} {vs : List V} {ks : List KV} {kv v : V} (hr : H r = some (.inst 117 f0)) (ho : f0.lookup ("owner" : Str) = some (.ref a)) (hk : f0.lookup ("key" : Str) = some (.tup vs))
    (ha : H a = some (.inst 255 fs)) (hf : fs.lookup ("entries" : Str) = some (.ref D)) (hD : H D = some (.dict kvs)) (kk : AreKV H vs ks) (hg : kvGet kvs ks = some (.ref p)) (hp : H p = some (.list [kv, v])) (q : Q v H) : CW C (lv + 1) (.ref 311) [.ref r] H Q R := by
  refine cw_def ok311 hB (body := bod st311) rfl rfl (fun A stk L own ok ow => ?_)
  refine ex_ifF (tv_call (ev_isE ok g_Array (kitR kit255) is_r255_236 (ev_attr (ev_local ok rfl (ga_field ok hr get117_owner ho ⟨.inst ha, rfl, rfl, ?_⟩)))))
  refine ex_ifT (tv_call (ev_isE ok g_Table (kitR kit255) is_r255_255 (ev_attr (ev_local ok rfl (ga_field ok hr get117_owner ho ⟨.inst ha, rfl, rfl, ?_⟩)))))
  exact ex_ret (ev_sub (ev_sub (ev_attr (ev_attr (ev_local ok rfl (ga_field ok hr get117_owner ho (ga_field ok ha get255_entries hf (ev_attr (ev_local ok rfl (ga_field ok hr get117_key hk (gi_dict ok hD kk hg (ev_int (gi_list (.inl hp) (by decide) (by show 2 ≤ 1000000; decide) rfl q)))))))))))))
theorem c_slot_set_arr (hB : Base C.w C.base) {r a D : Addr} {f0 fs : List (Str × V)} {xs : List V} {i : Int} {v : V} (hr : H r = some (.inst 117 f0)) (ho : f0.lookup ("owner" : Str) = some (.ref a)) (hk : f0.lookup ("key" : Str) = some (.int i))
    (ha : H a = some (.inst 236 fs)) (hf : fs.lookup ("items" : Str) = some (.ref D)) (hD : H D = some (.list xs)) (h0 : 0 ≤ i) (hz : xs.length ≤ 1000000) (hi : i < xs.length) (q : Q .none (H.set D (.list (xs.set i.toNat v)))) : CW C (lv + 1) (.ref 318) [.ref r, v] H Q R := by
  refine cw_def ok318 hB (body := bod st318) rfl rfl (fun A stk L own ok ow => ?_)
  refine ex_ifT (tv_call (ev_isE ok g_Array (kitR kit236) is_r236_236 (ev_attr (ev_local ok rfl (ga_field ok hr get117_owner ho ⟨.inst ha, rfl, rfl, ?_⟩)))))
  exact ex_cons (es_setitem (ev_local ok rfl (ev_attr (ev_attr (ev_local ok rfl (ga_field ok hr get117_owner ho (ga_field ok ha get236_items hf (ev_attr (ev_local ok rfl (ga_field ok hr get117_key hk (si_list hD h0 hz hi (ex_nil (ex_nil q)))))))))))))
theorem c_slot_set_tab (hB : Base C.w C.base) {r a D p : Addr} {f0 fs : List (Str × V)} {kvs : List (List KV × V)} {vs : List V} {ks : List KV} {kv w v : V} (hr : H r = some (.inst 117 f0)) (ho : f0.lookup ("owner" : Str) = some (.ref a)) (hk : f0.lookup ("key" : Str) = some (.tup vs))
    (ha : H a = some (.inst 255 fs)) (hf : fs.lookup ("entries" : Str) = some (.ref D)) (hD : H D = some (.dict kvs)) (kk : AreKV H vs ks) (hg : kvGet kvs ks = some (.ref p)) (hp : H p = some (.list [kv, w])) (q : Q .none (H.set p (.list [kv, v]))) : CW C (lv + 1) (.ref 318) [.ref r, v] H Q R := by
  refine cw_def ok318 hB (body := bod st318) rfl rfl (fun A stk L own ok ow => ?_)
  refine ex_ifE (tv_call (ev_isE ok g_Array (kitR kit255) is_r255_236 (ev_attr (ev_local ok rfl (ga_field ok hr get117_owner ho ⟨.inst ha, rfl, rfl, ?_⟩)))))
  refine ex_ifT (tv_call (ev_isE ok g_Table (kitR kit255) is_r255_255 (ev_attr (ev_local ok rfl (ga_field ok hr get117_owner ho ⟨.inst ha, rfl, rfl, ?_⟩)))))
  exact ex_cons (es_setitem (ev_local ok rfl (ev_sub (ev_attr (ev_attr (ev_local ok rfl (ga_field ok hr get117_owner ho (ga_field ok ha get255_entries hf (ev_attr (ev_local ok rfl (ga_field ok hr get117_key hk (gi_dict ok hD kk hg (ev_int (si_list hp (by decide) (by show 2 ≤ 1000000; decide) (by show (1 : Int) < 2; decide) (ex_nil (ex_nil (ex_nil q)))))))))))))))))
end

theorem kvGet_put (kvs : List (List KV × V)) (k : List KV) (v : V) : kvGet (kvPut kvs k v) k = some v := by
  unfold kvPut
  cases h : kvGet kvs k with
  | none =>
    rw [if_neg (by decide)]
    unfold kvGet at h ⊢
    rw [List.find?_append]
    cases h2 : kvs.find? (fun x => decide (x.1 = k)) with
    | none => simp
    | some p => rw [h2] at h; cases h
  | some w =>
    rw [if_pos (by rfl)]
    unfold kvGet at h ⊢
    induction kvs with
    | nil => cases h
    | cons p r ih =>
      obtain ⟨a, b⟩ := p
      rw [List.map_cons, List.find?_cons]
      rw [List.find?_cons] at h
      by_cases q : a = k
      · subst q; simp
      · simp only [q, decide_false, if_false] at h ⊢
        exact ih h
section
variable {C : Con} {lv : Nat} {H : AH} {Q : V → AH → Prop} {R : Int → AH → Prop}
theorem IsKey.set {H : AH} {v vs ks} (k : IsKey H v vs ks) {p : Addr} {o : AO} (hp : H p = none) : IsKey (H.set p o) v vs ks := by
  cases k with
  | int i => exact .int i
  | str x => exact .str x
  | @arr a _ _ _ h1 h2 h3 => exact .arr (by rw [AH.set_ne _ _ (nz h1 hp)]; exact h1) h2 h3
  | @tab a _ _ _ h1 h2 h3 => exact .tab (by rw [AH.set_ne _ _ (nz h1 hp)]; exact h1) h2 h3
theorem IsKey.kvAll {H H' : AH} {v vs ks} (k : IsKey H v vs ks) : AreKV H' vs ks := by
  cases k with
  | int i => exact .cons (.str _) (.cons (.int _) .nil)
  | str x => exact .cons (.str _) (.cons (.str _) .nil)
  | arr => exact .cons (.str _) (.cons (.int _) .nil)
  | tab => exact .cons (.str _) (.cons (.int _) .nil)
theorem c_table_entry (hB : Base C.w C.base) {a D : Addr} {fs : List (Str × V)} {kvs : List (List KV × V)} {v : V} {vs : List V} {ks : List KV} (ha : H a = some (.inst 255 fs)) (hf : fs.lookup ("entries" : Str) = some (.ref D)) (hD : H D = some (.dict kvs)) (k : IsKey H v vs ks) (hz : kvs.length ≤ 1000000)
    (q1 : ∀ w, kvGet kvs ks = some w → Q w H) (q2 : kvGet kvs ks = none → ∀ p, H p = none → Q (.ref p) ((H.set p (.list [v, .str ""])).set D (.dict (kvPut kvs ks (.ref p))))) : CW C (lv + 3) (.ref 299) [.ref a, v] H Q R := by
  refine cw_def ok299 hB (body := bod st299) rfl rfl (fun A stk L own ok ow => ?_)
  refine ex_asg (fun v H1 => v = .tup vs ∧ H = H1) ok ow (ev_call ok ok219.keep (lv := lv + 2) (ev_glob ok rfl g_table_key ⟨rfl, evs_cons (ev_local ok rfl (evs_nil (c_table_key (C := C) hB k ⟨rfl, rfl⟩)))⟩) (Nat.le_refl _)) ?_
  rintro _ _ ⟨rfl, rfl⟩
  cases hg : kvGet kvs ks with
  | some w =>
    refine ex_ifF (tv_cmp (ev_local ok rfl (ev_attr (ev_local ok rfl (ga_field ok ha get255_entries hf (cmp_notIn ok hD k.kv ⟨by rw [hg]; rfl, ?_⟩))))))
    exact ex_ret (ev_sub (ev_attr (ev_local ok rfl (ga_field ok ha get255_entries hf (ev_local ok rfl (gi_dict ok hD k.kv hg (q1 w hg)))))))
  | none =>
    refine ex_ifT (tv_cmp (ev_local ok rfl (ev_attr (ev_local ok rfl (ga_field ok ha get255_entries hf (cmp_notIn ok hD k.kv ⟨by rw [hg]; rfl, ?_⟩))))))
    refine ex_cons (es_setitem (ev_list (evs_cons (ev_local ok rfl (evs_cons (ev_str (evs_nil ⟨by show 2 ≤ 1000; decide, fun p hp => ?_⟩)))))))
    have hap : a ≠ p := (nz ha hp)
    have hDp : D ≠ p := (nz hD hp)
    have haD : a ≠ D := fun q => by rw [q, hD] at ha; cases ha
    have ha' : (H.set p (.list [v, .str ""])) a = some (.inst 255 fs) := by rw [AH.set_ne _ _ hap]; exact ha
    have hD' : (H.set p (.list [v, .str ""])) D = some (.dict kvs) := by rw [AH.set_ne _ _ hDp]; exact hD
    refine ev_attr (ev_local ok rfl (ga_field ok ha' get255_entries hf (ev_local ok rfl (si_dict ok hD' (k.set hp).kv hz (ex_nil ?_)))))
    refine ex_ret (ev_sub (ev_attr (ev_local ok rfl (ga_field ok (by rw [AH.set_ne _ _ haD]; exact ha') get255_entries hf (ev_local ok rfl (gi_dict ok (AH.set_self _ _ _) ?_ (kvGet_put kvs ks _) (q2 hg p hp)))))))
    exact k.kvAll
end

section
variable {C : Con} {lv : Nat} {H : AH} {Q : V → AH → Prop} {R : Int → AH → Prop}
theorem c_prototype_of (hB : Base C.w C.base) {a : Addr} {fs : List (Str × V)} {v : Str} (ha : H a = some (.inst 236 fs)) (hf : fs.lookup ("told" : Str) = some (.str v)) (q : Q (.str v) H) : CW C (lv + 1) (.ref 325) [.ref a] H Q R := by
  refine cw_def ok325 hB (body := bod st325) rfl rfl (fun A stk L own ok ow => ?_)
  refine ex_ifF (tv_not (tv_call (ev_isC ok rfl (.inst ha) (kitR kit236) is_r236_236 g_Array ⟨rfl, rfl, ?_⟩)))
  exact ex_ret (ev_attr (ev_local ok rfl (ga_field ok ha get236_told hf q)))
end
theorem Cx.Ok.comp {Γ : Cx} (ok : Γ.Ok) {scope : Scope} {cl : List (Str × Addr)} {C : Addr} (hk : scope.kind = .function) : (Γ.comp scope cl C).Ok := ⟨ok.base, ok.frames, hk, ok.globals, ok.builtins, ok.depth, ok.units, ok.handled⟩
section
variable {Γ : Cx} {cap : Locs} {H1 : AH} {elt : Expr} {scope : Scope} {cl : List (Str × Addr)} {Q : V → AH → Prop} {x : Str} {px : Pos}
/-- a comprehension that maps its list, and changes nothing -/
theorem comp_map {xs : List V} {wr lk : List Addr} (f : V → V) (ok : Γ.Ok) (hw : ∀ b ∈ wr, H1 b = none) (hl : xs.length ≤ 1000000) (hk : scope.kind = .function)
    (hx : ∀ C, (Γ.comp scope cl C).env.kindOf x = some .local)
    (step : ∀ C D i a m, xs[i]? = some a → (Γ.comp scope cl C).Ok → H1 D = none → D ∉ wr → D ∉ lk → (∀ y, y ≠ x → m.lookup y = cap.lookup y) → m.lookup x = some a → ∀ K, K (f a) (lockH (H1.set D (.list ((xs.take i).map f))) wr lk) → EV (Γ.comp scope cl C) elt m (lockH (H1.set D (.list ((xs.take i).map f))) wr lk) K NoR)
    (q : ∀ D, H1 D = none → Q (.ref D) (H1.set D (.list (xs.map f)))) : CompLoopOb Γ scope cl (.Name x px) cap (fun C D => BDs (Γ.comp scope cl C) D [] elt) Q xs wr lk H1 := by
  intro C D ow hD hw1 hl1
  have ok' := ok.comp (cl := cl) (C := C) hk
  refine ⟨fun i mi Hi => (∀ y, y ≠ x → mi.lookup y = cap.lookup y) ∧ Hi = lockH (H1.set D (.list ((xs.take i).map f))) wr lk, ⟨fun _ _ => rfl, rfl⟩, ?_, ?_⟩
  · rintro i a mi Hi ha ⟨hm, rfl⟩ _
    refine as_nameL ok' ow ?_ (hx C)
    have hi : i < xs.length := (List.getElem?_eq_some_iff.mp ha).1
    have hm' : ∀ y, y ≠ x → ((x, a) :: mi : Locs).lookup y = cap.lookup y := fun y hy => by
      rw [List.lookup_cons, beq_eq_false_iff_ne.mpr hy]; exact hm y hy
    have eD : lockH (H1.set D (.list ((xs.take i).map f))) wr lk D = some (.list ((xs.take i).map f)) := by rw [lockH_ne hw1 hl1, AH.set_self]
    refine step C D i a _ ha ok' hD hw1 hl1 hm' (by rw [List.lookup_cons, beq_self_eq_true]) _ ⟨_, eD, ?_, hm', ?_⟩
    · rw [List.length_map, List.length_take]; omega
    · rw [lockH_set hw1 hl1, lockH_set hw1 hl1, AH.set_set, List.take_add_one, ha, List.map_append]; rfl
  · rintro mn Hn ⟨_, rfl⟩ _
    rw [List.take_length]
    have e : unl (H1.set D (.list [])) wr lk (lockH (H1.set D (.list (xs.map f))) wr lk) = H1.set D (.list (xs.map f)) := by
      funext b
      unfold unl lockH
      by_cases q1 : b ∈ wr
      · rw [if_pos q1, AH.set_ne _ _ (fun (z : b = D) => hw1 (z ▸ q1)), hw b q1]
      · rw [if_neg q1, if_neg q1]
        by_cases q2 : b ∈ lk
        · rw [if_pos q2, AH.set_ne _ _ (fun (z : b = D) => hl1 (z ▸ q2)), AH.set_ne _ _ (fun (z : b = D) => hl1 (z ▸ q2))]
        · rw [if_neg q2, if_neg q2]
    rw [e]
    exact q D hD
end

inductive IsWhole : V → Int → Prop
  | int (i : Int) : IsWhole (.int i) i
  | str {x : Str} {i : Int} : x.length ≤ 1000 → wholeText x = some i → IsWhole (.str x) i
noncomputable def wholeF : V → V
  | .int i => .int i
  | .str x => optV (wholeText x)
  | _ => .none
theorem IsWhole.f {v : V} {i : Int} (h : IsWhole v i) : wholeF v = .int i := by
  cases h with
  | int => rfl
  | @str x i _ e => show optV (wholeText x) = _; rw [e]; rfl
section
variable {C : Con} {lv : Nat} {H : AH} {Q : V → AH → Prop} {R : Int → AH → Prop}
theorem c_need (hB : Base C.w C.base) {v : V} {i : Int} (k : IsWhole v i) (q : Q (.int i) H) : CW C (lv + 4) (.ref 198) [v, .int 32] H Q R := by
  cases k with
  | int => exact c_need_int (lv := lv + 2) hB q
  | str hz hi => exact c_need_str hB hz hi q
theorem c_item_arr (hB : Base C.w C.base) {a ba ka : Addr} {fs : List (Str × V)} {bs : List (Int × Int)} {ks : List V} {ps : List Int} (ha : H a = some (.inst 236 fs)) (hf : fs.lookup ("bounds" : Str) = some (.ref ba)) (hb : H ba = some (.list (boundsV bs))) (hk : H ka = some (.list ks))
    (hm : ∀ p ∈ bs, Builtin.Int.intBits (p.2 - p.1 + 1) ≤ 64) (hz : bs.length ≤ 1000) (hz2 : ks.length ≤ 1000) (hks : ∀ v ∈ ks, ∃ i, IsWhole v i) (hps : ks.map wholeF = intsV ps)
    (q0 : bs.length = ps.length → placeOf bs ps 0 = none → ∀ D, H D = none → Q .none (H.set D (.list (intsV ps))))
    (q1 : bs.length = ps.length → ∀ n, placeOf bs ps 0 = some n → ∀ x D d H', H x = none → H D = none → H d = none → H' x = some (.inst 117 [("kind", .str "item"), ("owner", .ref a), ("key", .int n)]) → (∀ b, b ≠ x → b ≠ D → b ≠ d → H' b = H b) → Q (.ref x) H')
    (qr : bs.length ≠ ps.length → ∀ D, H D = none → R 3 (H.set D (.list (intsV ps)))) : CW C (lv + 6) (.ref 304) [.ref a, .ref ka, .int 32] H Q R := by
  refine cw_defc (lv := lv + 5) ok304 hB (body := bod st304) rfl rfl (fun A stk L own ok ow => ?_)
  refine ex_ifT (tv_call (ev_isC ok rfl (.inst ha) (kitR kit236) is_r236_236 g_Array ⟨rfl, rfl, ?_⟩))
  refine ex_asg (fun v H1 => bs.length = ps.length ∧ v = optV (placeOf bs ps 0) ∧ ∃ D, H D = none ∧ H1 = H.set D (.list (intsV ps))) ok ow (ev_call ok ok285.keep (lv := lv + 5) (ev_glob ok rfl g_array_place ⟨rfl, evs_cons (ev_local ok rfl (evs_cons (ev_comp ok (cap := [("width", .int 32)]) (iv_of (ev_local ok rfl (it_list ok hk fun I hI => comp_map wholeF ok (fun b hb => by rw [List.mem_singleton.mp hb]; exact hI) (by omega) rfl (fun _ => rfl) (fun C' D i v m hv ok' hD _ _ hm' hx K hK => ?_) (fun D hD => evs_nil ?_)))) ?_ rfl)))⟩) (Nat.le_refl _)) ?_
  · obtain ⟨i', k⟩ := hks v (List.mem_of_getElem? hv)
    rw [k.f] at hK
    exact ev_call ok' ok198.keep (lv := lv + 4) (ev_glob ok' rfl g_need_whole ⟨rfl, evs_cons (ev_local ok' hx (evs_cons (ev_local ok' ((hm' _ (by decide)).trans rfl) (evs_nil (c_need (C := C) hB k hK)))))⟩) (by show lv + 4 ≤ lv + 5; omega)
  · rw [hps]
    have e1 : (H.set D (.list (intsV ps))) a = some (.inst 236 fs) := by rw [AH.set_ne _ _ (nz ha hD)]; exact ha
    have e2 : (H.set D (.list (intsV ps))) ba = some (.list (boundsV bs)) := by rw [AH.set_ne _ _ (nz hb hD)]; exact hb
    have e3 : ps.length ≤ 1000 := by have := congrArg List.length hps; unfold intsV at this; rw [List.length_map, List.length_map] at this; omega
    exact c_array_place (C := C) (lv := lv + 4) hB e1 hf e2 (AH.set_self _ _ _) hm hz e3 (fun l => ⟨l, rfl, D, hD, rfl⟩) fun l => qr l D hD
  · refine ⟨fun y u hy => ?_, fun y c h1 h2 => ?_⟩
    · rw [List.lookup_cons] at hy
      by_cases q : y = "width"
      · subst q; cases hy
        exact ⟨rfl, by show some NameKind.cell ≠ _; decide, .inl rfl, rfl⟩
      · rw [beq_eq_false_iff_ne.mpr q] at hy; cases hy
    · rw [List.lookup_cons] at h2
      by_cases q : y = "width"
      · subst q; exact ⟨rfl, h2⟩
      · rw [beq_eq_false_iff_ne.mpr q] at h2; cases h2
  rintro _ _ ⟨hl, rfl, D, hD, rfl⟩
  have haD : a ≠ D := (nz ha hD)
  cases hw : placeOf bs ps 0 with
  | none => exact ex_ret (ev_ifT (tv_cmp (ev_local ok rfl (ev_none (cmp_is ⟨rfl, ev_none (q0 hl hw D hD)⟩)))))
  | some n =>
    refine ex_ret (ev_ifF (tv_cmp (ev_local ok rfl (ev_none (cmp_is ⟨rfl, ?_⟩)))))
    refine ev_call ok keep117 (lv := lv + 5) (ev_glob ok rfl g_NameRef ⟨rfl, evs_cons (ev_str (evs_cons (ev_local ok rfl (evs_cons (ev_local ok rfl (evs_nil (c_NameRef (C := C) (lv := lv + 3) hB fun x d H' hx hd hdx e1 e2 => ?_)))))))⟩) (Nat.le_refl _)
    have hxD : x ≠ D := ((nz (AH.set_self _ _ _) hx).symm)
    have hdD : d ≠ D := ((nz (AH.set_self _ _ _) hd).symm)
    rw [AH.set_ne _ _ hxD] at hx
    rw [AH.set_ne _ _ hdD] at hd
    exact q1 hl n hw x D d H' hx hD hd e1 fun b n1 n2 n3 => by rw [e2 b n1 n3, AH.set_ne _ _ n2]
end

section
variable {C : Con} {lv : Nat} {H : AH} {Q : V → AH → Prop} {R : Int → AH → Prop}
theorem IsKey.of {H H' : AH} {v vs ks} (k : IsKey H v vs ks) (h : ∀ a K fs, H a = some (.inst K fs) → H' a = some (.inst K fs)) : IsKey H' v vs ks := by
  cases k with
  | int i => exact .int i
  | str x => exact .str x
  | arr h1 h2 h3 => exact .arr (h _ _ _ h1) h2 h3
  | tab h1 h2 h3 => exact .tab (h _ _ _ h1) h2 h3
theorem c_item_tab (hB : Base C.w C.base) {a D ka : Addr} {fs : List (Str × V)} {kvs : List (List KV × V)} {v : V} {vs : List V} {ks : List KV} (ha : H a = some (.inst 255 fs)) (hf : fs.lookup ("entries" : Str) = some (.ref D)) (hD : H D = some (.dict kvs)) (hk : H ka = some (.list [v])) (k : IsKey H v vs ks) (hz : kvs.length ≤ 1000000)
    (q1 : ∀ w, kvGet kvs ks = some w → ∀ x d H', H x = none → H d = none → H' x = some (.inst 117 [("kind", .str "item"), ("owner", .ref a), ("key", .tup vs)]) → (∀ b, b ≠ x → b ≠ d → H' b = H b) → Q (.ref x) H')
    (q2 : kvGet kvs ks = none → ∀ p x d H', H p = none → H x = none → H d = none → (x ≠ p ∧ d ≠ p) → H' x = some (.inst 117 [("kind", .str "item"), ("owner", .ref a), ("key", .tup vs)]) → (∀ b, b ≠ x → b ≠ d → H' b = ((H.set p (.list [v, .str ""])).set D (.dict (kvPut kvs ks (.ref p)))) b) → Q (.ref x) H') : CW C (lv + 4) (.ref 304) [.ref a, .ref ka, .int 32] H Q R := by
  refine cw_defc (lv := lv + 3) ok304 hB (body := bod st304) rfl rfl (fun A stk L own ok ow => ?_)
  refine ex_ifF (tv_call (ev_isC ok rfl (.inst ha) (kitR kit255) is_r255_236 g_Array ⟨rfl, rfl, ?_⟩))
  refine ex_ifF (tv_bool (at_or (tv_not (tv_call (ev_isC ok rfl (.inst ha) (kitR kit255) is_r255_255 g_Table ⟨rfl, (fun z => by cases z), fun _ => ?_⟩)))))
  refine at_or1 (tv_cmp (ev_bcall (ev_blt ok rfl n_len b_len (fun _ _ => .bi _) ⟨rfl, evs_cons (ev_local ok rfl (evs_nil (bv_len (.inl hk) (by show 1 ≤ 1000000; decide) (ev_int (cmp_ne ⟨rfl, ?_⟩)))))⟩)))
  have fin : ∀ H2 : AH, H2 ka = some (.list [v]) → IsKey H2 v vs ks → (∀ x d H', H2 x = none → H2 d = none → H' x = some (.inst 117 [("kind", .str "item"), ("owner", .ref a), ("key", .tup vs)]) → (∀ b, b ≠ x → b ≠ d → H' b = H2 b) → Q (.ref x) H') →
      EX (Cx.fn C (lv + 3) A (callEnvC fd304 L 304) stk own) [(bod st304)[3]!] ([("owner", .ref a), ("keys", .ref ka), ("width", .int 32)] : Locs) H2 (fun fl _ H' => Q (flVal fl) H') R := by
    intro H2 hk2 k2 q
    refine ex_ret (ev_call ok keep117 (lv := lv + 3) (ev_glob ok rfl g_NameRef ⟨rfl, evs_cons (ev_str (evs_cons (ev_local ok rfl (evs_cons (ev_call ok ok219.keep (lv := lv + 3) (ev_glob ok rfl g_table_key ⟨rfl, evs_cons (ev_sub (ev_local ok rfl (ev_int (gi_list (.inl hk2) (by decide) (by show 1 ≤ 1000000; decide) rfl (evs_nil (c_table_key (C := C) (lv := lv + 1) hB k2 (evs_nil (c_NameRef (C := C) (lv := lv + 1) hB fun x d H' hx hd hdx e1 e2 => q x d H' hx hd e1 e2))))))))⟩) (Nat.le_refl _))))))⟩) (Nat.le_refl _))
  refine ex_expr (ev_call ok ok299.keep (lv := lv + 3) (ev_glob ok rfl g_table_entry ⟨rfl, evs_cons (ev_local ok rfl (evs_cons (ev_sub (ev_local ok rfl (ev_int (gi_list (.inl hk) (by decide) (by show 1 ≤ 1000000; decide) rfl (evs_nil (c_table_entry (C := C) (lv := lv) hB ha hf hD k hz (fun w hg => ?_) (fun hg p hp => ?_)))))))))⟩) (Nat.le_refl _))
  · exact fin H hk k fun x d H' => q1 w hg x d H'
  · have ne : ∀ b o, H b = some o → b ≠ p := fun b o e q => by rw [q, hp] at e; cases e
    have neD : ∀ b, H b ≠ some (.dict kvs) → b ≠ D := fun b e q => e (q ▸ hD)
    refine fin _ ?_ ?_ fun x d H' hx hd e1 e2 => ?_
    · rw [AH.set_ne _ _ (neD ka (by rw [hk]; intro z; cases z)), AH.set_ne _ _ (ne _ _ hk)]; exact hk
    · exact k.of fun b K f e => by rw [AH.set_ne _ _ (neD b (by rw [e]; intro z; cases z)), AH.set_ne _ _ (ne _ _ e)]; exact e
    · have off : ∀ z, ((H.set p (.list [v, .str ""])).set D (.dict (kvPut kvs ks (.ref p)))) z = none → z ≠ p ∧ H z = none := fun z hz => by
        have n1 : z ≠ D := ((nz (AH.set_self _ _ _) hz).symm)
        rw [AH.set_ne _ _ n1] at hz
        have n2 : z ≠ p := ((nz (AH.set_self _ _ _) hz).symm)
        rw [AH.set_ne _ _ n2] at hz
        exact ⟨n2, hz⟩
      exact q2 hg p x d H' hp (off x hx).2 (off d hd).2 ⟨(off x hx).1, (off d hd).1⟩ e1 e2
end

section
variable {C : Con} {lv : Nat} {H : AH} {Q : V → AH → Prop} {R : Int → AH → Prop}
theorem c_item_str (hB : Base C.w C.base) {ka : Addr} {t : Str} (q : R 3 H) : CW C (lv + 3) (.ref 304) [.str t, .ref ka, .int 32] H Q R := by
  refine cw_defc (lv := lv + 2) ok304 hB (body := bod st304) rfl rfl (fun A stk L own ok ow => ?_)
  refine ex_ifF (tv_call (ev_isC ok rfl (.str t) noKit is_str_236 g_Array ⟨rfl, rfl, ?_⟩))
  refine ex_ifT (tv_bool (at_or (tv_not (tv_call (ev_isC ok rfl (.str t) noKit is_str_255 g_Table ⟨rfl, fun _ => ⟨rfl, ?_⟩, fun z => by cases z⟩)))))
  exact ex_cons (es_raise ok (evs_cons (ev_int (evs_cons (ev_call ok ok149.keep (lv := lv + 1) (ev_glob ok rfl g_kind_of ⟨rfl, evs_cons (ev_local ok rfl (evs_nil (c_kind_str (C := C) hB (evs_nil ⟨3, _, rfl, q⟩))))⟩) (Nat.le_succ _))))))
theorem c_item_tab2 (hB : Base C.w C.base) {a ka : Addr} {fs : List (Str × V)} {xs : List V} {w : Str} (ha : H a = some (.inst 255 fs)) (hw : fs.lookup ("word" : Str) = some (.str w)) (hk : H ka = some (.list xs)) (hx : xs.length ≤ 1000) (h1 : xs.length ≠ 1) (q : R 3 H) : CW C (lv + 3) (.ref 304) [.ref a, .ref ka, .int 32] H Q R := by
  refine cw_defc (lv := lv + 2) ok304 hB (body := bod st304) rfl rfl (fun A stk L own ok ow => ?_)
  refine ex_ifF (tv_call (ev_isC ok rfl (.inst ha) (kitR kit255) is_r255_236 g_Array ⟨rfl, rfl, ?_⟩))
  refine ex_ifT (tv_bool (at_or (tv_not (tv_call (ev_isC ok rfl (.inst ha) (kitR kit255) is_r255_255 g_Table ⟨rfl, (fun z => by cases z), fun _ => ?_⟩)))))
  refine at_or1 (tv_cmp (ev_bcall (ev_blt ok rfl n_len b_len (fun _ _ => .bi _) ⟨rfl, evs_cons (ev_local ok rfl (evs_nil (bv_len (.inl hk) (by omega) (ev_int (cmp_ne ⟨?_, ?_⟩)))))⟩)))
  · have : (xs.length : Int) ≠ 1 := by omega
    simp [this]
  exact ex_cons (es_raise ok (evs_cons (ev_int (evs_cons (ev_call ok ok149.keep (lv := lv + 1) (ev_glob ok rfl g_kind_of ⟨rfl, evs_cons (ev_local ok rfl (evs_nil (c_kind_tab (C := C) hB ha hw (evs_nil ⟨3, _, rfl, q⟩))))⟩) (Nat.le_succ _))))))
end

/-- the places by which an item is asked for, the last dimension first -/
noncomputable def placesR : List (Int × Int) → Int → List Int
  | [], _ => []
  | (l, h) :: bs, n => (l + n.fmod (h - l + 1)) :: placesR bs (n.fdiv (h - l + 1))
noncomputable def placesB (bs : List (Int × Int)) (n : Int) : List Int := (placesR bs.reverse n).reverse
theorem boundsV_rev (bs : List (Int × Int)) : (boundsV bs).reverse = boundsV bs.reverse := by unfold boundsV; rw [List.map_reverse]
theorem pylong_small {i j : Int} (h : j.natAbs < 2 ^ 60) : Builtin.divisionGoesByPylong i j = false := by
  unfold Builtin.divisionGoesByPylong
  have h2 : j.natAbs.log2 < 60 := by
    rcases Nat.eq_zero_or_pos j.natAbs with z | z
    · rw [z]; decide
    · exact (Nat.log2_lt (by omega)).mpr h
  have : decide ((if j == 0 then 0 else j.natAbs.log2 / 30 + 1) > 300) = false := by
    apply decide_eq_false
    split <;> omega
  dsimp only
  rw [this]; rfl
theorem unl_lockH2 {H1 H2 : AH} {wr lk : List Addr} (hw : ∀ b ∈ wr, H2 b = none) (hl : ∀ b ∈ lk, H1 b = H2 b) : unl H1 wr lk (lockH H2 wr lk) = H2 := by
  funext b
  unfold lockH unl
  by_cases q1 : b ∈ wr
  · rw [if_pos q1, hw b q1]
  · rw [if_neg q1]
    by_cases q2 : b ∈ lk
    · rw [if_pos q2, hl b q2]
    · rw [if_neg q2]; show (if b ∈ wr then _ else if b ∈ lk then _ else _) = _; rw [if_neg q1, if_neg q2]
theorem pick_all (xs : List V) : (List.range xs.length).filterMap (xs[·]?) = xs := by
  have h := krv_all xs.toArray
  simpa using h
theorem slice_rev (xs : List V) : sliceV xs Option.none Option.none (some (-1)) = xs.reverse := by
  unfold sliceV
  rw [krv_bounds]
  show (sliceRange ((xs.length : Int) - 1) (-1) (-1)).filterMap (xs[·]?) = _
  rw [krv_sliceRange, krv_range, List.filterMap_reverse, pick_all]
theorem pick_runV (xs : List V) (a k : Nat) : ((List.range k).map (a + ·)).filterMap (xs[·]?) = (xs.drop a).take k := by
  have h := pick_run xs.toArray a k
  simpa using h
theorem slice_plain (xs : List V) (lo hi : Option Int) : sliceV xs lo hi Option.none = (xs.drop (kms_lo lo xs.length)).take (kms_hi hi xs.length - kms_lo lo xs.length) := by
  unfold sliceV
  rw [kms_bounds]
  show (sliceRange _ _ 1).filterMap (xs[·]?) = _
  rw [sliceRange_one, pick_runV]
section
variable {C : Con} {lv : Nat} {H : AH} {Q : V → AH → Prop} {R : Int → AH → Prop}
theorem c_places_of (hB : Base C.w C.base) {a ba : Addr} {fs : List (Str × V)} {bs : List (Int × Int)} {n : Int} (ha : H a = some (.inst 236 fs)) (hf : fs.lookup ("bounds" : Str) = some (.ref ba)) (hb : H ba = some (.list (boundsV bs)))
    (hm : ∀ p ∈ bs, 0 < p.2 - p.1 + 1 ∧ p.2 - p.1 + 1 < 2 ^ 60) (hz : bs.length ≤ 1000)
    (q : ∀ D0 D, H D0 = none → H D = none → D ≠ D0 → ∀ xs, Q (.ref D) ((H.set D0 (.list xs)).set D (.list (intsV (placesB bs n))))) : CW C (lv + 1) (.ref 292) [.ref a, .int n] H Q R := by
  refine cw_def ok292 hB (body := bod st292) rfl rfl (fun A stk L own ok ow => ?_)
  refine ex_asg (fun v H1 => ∃ D, v = .ref D ∧ H D = none ∧ H1 = H.set D (.list [])) ok ow (ev_list (evs_nil ⟨by decide, fun D hD => ⟨D, rfl, hD, rfl⟩⟩)) ?_
  rintro _ _ ⟨D, rfl, hD, rfl⟩
  have haD : a ≠ D := (nz ha hD)
  have hbD : ba ≠ D := (nz hb hD)
  have ha1 : (H.set D (.list [])) a = some (.inst 236 fs) := by rw [AH.set_ne _ _ haD]; exact ha
  have hb1 : (H.set D (.list [])) ba = some (.list (boundsV bs)) := by rw [AH.set_ne _ _ hbD]; exact hb
  refine ex_for ok Top1.fn (iv_tcall (ev_blt ok rfl n_reversed b_reversed (fun _ _ => .ty _) ⟨rfl, evs_cons (ev_attr (ev_local ok rfl (ga_field ok ha1 get236_bounds hf (evs_nil (bi_reversed ok hb1 fun I hI => ⟨fun i mi Hi => ∃ acc k, Hi = lockH (H.set D (.list (intsV acc))) [I] [ba] ∧ acc.length = i ∧ mi.lookup ("found" : Str) = some (.ref D) ∧ mi.lookup ("place" : Str) = some (.int k) ∧ acc ++ placesR (bs.reverse.drop i) k = placesR bs.reverse n, ?_, ?_, ?_⟩)))))⟩))
  · exact ⟨[], n, rfl, rfl, rfl, rfl, rfl⟩
  · rintro i xv mi Hi hx ⟨acc, k, rfl, hlen, h1, h2, h3⟩ _
    rw [boundsV_rev] at hx
    unfold boundsV at hx
    rw [List.getElem?_map] at hx
    cases hc : bs.reverse[i]? with
    | none => rw [hc] at hx; cases hx
    | some p =>
      rw [hc] at hx; cases hx
      obtain ⟨l, h⟩ := p
      obtain ⟨hi, hci⟩ := List.getElem?_eq_some_iff.mp hc
      rw [List.drop_eq_getElem_cons hi, hci] at h3
      have hmem : (l, h) ∈ bs := List.mem_reverse.mp (hci ▸ List.getElem_mem hi)
      obtain ⟨m0, m1⟩ := hm _ hmem
      have m0 : 0 < h - l + 1 := m0
      have m1 : h - l + 1 < 2 ^ 60 := m1
      have hwr : D ∉ [I] := fun q => by rw [List.mem_singleton.mp q, AH.set_self] at hI; cases hI
      have hlk : D ∉ [ba] := fun q => hbD (List.mem_singleton.mp q).symm
      have eD : lockH (H.set D (.list (intsV acc))) [I] [ba] D = some (.list (intsV acc)) := by rw [lockH_ne hwr hlk, AH.set_self]
      have hacc : acc.length < 1000000 := by rw [List.length_reverse] at hi; omega
      refine as_pair ok (as_name ok ow (.inl rfl) (as_name ok ow (.inl rfl) ?_))
      refine ex_expr (ev_meth F.plainAttrs_list F.slot_list_append rfl (ev_local ok h1 ⟨ty_list (.inl eD), evs_cons (ev_bin (ev_local ok rfl (ev_bin (ev_local ok h2 (ev_bin (ev_bin (ev_local ok rfl (ev_local ok rfl (op_sub (ev_int (op_add (op_mod (by omega) (op_add (evs_nil (bv_append eD (by unfold intsV; rw [List.length_map]; exact hacc) ?_)))))))))))))))⟩))
      refine ex_asg (fun v H1 => v = .int (k.fdiv (h - l + 1)) ∧ H1 = lockH (H.set D (.list (intsV (acc ++ [l + k.fmod (h - l + 1)])))) [I] [ba]) ok ow (ev_bin (ev_local ok h2 (ev_bin (ev_bin (ev_local ok rfl (ev_local ok rfl (op_sub (ev_int (op_add (op_div (by omega) (pylong_small (by omega)) ⟨rfl, ?_⟩)))))))))) ?_
      · rw [lockH_set hwr hlk, lockH_set hwr hlk, AH.set_set]; unfold intsV; rw [List.map_append]; rfl
      rintro _ _ ⟨rfl, rfl⟩
      refine ex_nil ⟨acc ++ [l + k.fmod (h - l + 1)], k.fdiv (h - l + 1), rfl, by rw [List.length_append, hlen]; rfl, h1, rfl, ?_⟩
      rw [List.append_assoc]; exact h3
  · rintro mn Hn ⟨acc, k, rfl, hlen, h1, h2, h3⟩ _
    have hIw : ∀ b ∈ [I], (H.set D (.list (intsV acc))) b = none := fun b hb => by
      rw [List.mem_singleton.mp hb]
      have n1 : I ≠ D := ((nz (AH.set_self _ _ _) hI).symm)
      rw [AH.set_ne _ _ n1] at hI ⊢; exact hI
    have e : unl (H.set D (.list [])) [I] [ba] (lockH (H.set D (.list (intsV acc))) [I] [ba]) = H.set D (.list (intsV acc)) := by
      refine unl_lockH2 hIw fun b hb => ?_
      have n1 : b ≠ D := fun q => hbD (by rw [← List.mem_singleton.mp hb]; exact q)
      rw [AH.set_ne _ _ n1, AH.set_ne _ _ n1]
    rw [e]
    have h4 : acc = placesR bs.reverse n := by
      have e2 : List.drop (boundsV bs).reverse.length bs.reverse = [] := by
        rw [List.length_reverse]; unfold boundsV; rw [List.length_map, ← List.length_reverse, List.drop_length]
      rw [← h3, e2]
      show acc = acc ++ []
      rw [List.append_nil]
    have hal : acc.length = bs.length := by rw [hlen, List.length_reverse]; unfold boundsV; exact List.length_map ..
    refine ex_ret (ev_slice (ev_local ok h1 (show PartV _ _ _ _ _ _ from (show PartV _ _ _ _ _ _ from ev_neg (ev_int ⟨1, rfl, -1, rfl, .inl ⟨D, _, rfl, .inl (AH.set_self _ _ _), by decide, by unfold intsV; rw [List.length_map]; omega, fun D2 hD2 => ?_⟩⟩)))))
    have n2 : D2 ≠ D := ((nz (AH.set_self _ _ _) hD2).symm)
    rw [AH.set_ne _ _ n2] at hD2
    rw [slice_rev]
    have := q D D2 hD hD2 n2 (intsV acc)
    unfold placesB at this
    rw [← h4] at this
    unfold intsV at this ⊢
    rw [← List.map_reverse]; exact this
end

section
variable {Γ : Cx} {m : Locs} {H : AH} {x y : Str} {pos : Pos}
theorem AS.mono {target : Expr} {v : V} {Q Q' : Locs → AH → Prop} (h : AS Γ target v m H Q) (hq : ∀ m H, Q m H → Q' m H) : AS Γ target v m H Q' := fun s val E t r =>
  wpAny_mono (h s val E t r) (fun _ _ p => by obtain ⟨m', H', x, t', q⟩ := p; exact ⟨m', H', x, t', hq _ _ q⟩) fun _ _ z => z
theorem TVs.mono {ifs : List Expr} {B B' : Bool → AH → Prop} (h : TVs Γ ifs m H B) (hb : ∀ b H, B b H → B' b H) : TVs Γ ifs m H B' := by
  cases ifs with
  | nil => exact hb _ _ h
  | cons c r => cases r with
    | nil => exact TV.mono (show TV Γ c m H B NoR from h) hb
    | cons d r => exact h
/-- two items of a list are handed to two targets -/
theorem as_pairL {t1 t2 : Expr} {ad : Addr} {a b : V} {k : Nat} {Q : Locs → AH → Prop} (ok : Γ.Ok) (ha : LA H ad [a, b]) (h : AS Γ t1 a m H (fun m1 H1 => AS Γ t2 b m1 H1 Q)) (he : ∀ env, assignEach [t1, t2] env = [(false, assign t1 env), (false, assign t2 env)] := by intro _; rfl) :
    AS Γ (.Tuple [t1, t2] k pos) (.ref ad) m H Q := by
  intro s val E t r
  refine r.rE ?_
  obtain ⟨items, n, e, rr⟩ := ha.at t.sim
  obtain ⟨x, y, hi, r1, r2⟩ := rr.two
  have hsz : items.size = 2 := by rw [← Array.length_toList, hi]; rfl
  rw [assign_Tuple]
  refine wpAny_bind (wpAny_standAt ?_)
  unfold unpack
  rw [he]
  show wpAny _ _ (holding [_] (unpackItems (.ref ad) 2 none) >>= fun items => assignInOrder [assign t1 Γ.env, assign t2 Γ.env] items) _ _ _
  refine wpAny_bind (wpAny_holding ?_)
  rw [← hsz]
  refine kun_itemsOf ok.handled ⟨_, e, rfl, n, rfl⟩ fun h' hx => ?_
  have k : ∀ b o, s.heap.get? b = some o → h'.get? b = some o := fun b o q => hx b o (Nat.ne_of_lt (Heap.lt_size q)) q
  have eg := Ext.grow (F := Γ.F) (H := H) k
  have t1' : St Γ m H { s with heap := h' } := t.ext (s' := { s with heap := h' }) eg (t.sim.grow (tk := s.toks) k)
  rw [hi]
  show wpAny _ _ (do holding [y] (assign t1 Γ.env x); assignInOrder [assign t2 Γ.env] [y]) _ _ _
  refine wpAny_bind (wpAny_holding (wpAny_mono (h { s with heap := h' } x E t1' (r1.ext eg)) (fun _ s1 p => ?_) fun _ _ z => z))
  obtain ⟨m1, H1, x1, t1, q1⟩ := p
  show wpAny _ _ (do holding [] (assign t2 Γ.env y); assignInOrder [] []) _ _ _
  refine wpAny_bind (wpAny_holding (wpAny_mono (q1 s1 y E t1 ((r2.ext eg).seqK x1.seqK)) (fun _ s2 p => ?_) fun _ _ z => z))
  exact wpAny_pure (p.after (ExtW.trans eg.w x1))

/-- a, b = value, in order -/
theorem ex_asgT {elts : List Expr} {k : Nat} {tpos : Pos} {value : Expr} {rest : List Stmt} {Q : Fl → Locs → AH → Prop} {R : Int → AH → Prop} (h : EV Γ value m H (fun v H1 => AS Γ (.Tuple elts k tpos) v m H1 (fun m1 H2 => EX Γ rest m1 H2 Q R)) R)
    (hs : swapsWithSole [.Tuple elts k tpos] value pos.line Γ.env = pure false := by rfl) (hw : swappedStores [.Tuple elts k tpos] value Γ.env = pure none := by rfl) : EX Γ (.Assign [.Tuple elts k tpos] value pos :: rest) m H Q R := by
  refine ex_cons ?_
  intro s t
  refine Assign_Tuple (wpAny_mono (h s t) (fun v s1 p => ?_) fun _ _ z => z.w t) hs hw
  obtain ⟨mv, H1, x1, y1, r1, q1⟩ := p
  refine wpAny_mono (q1 s1 v _ (t.ext x1 y1) r1) (fun _ s2 p2 => ?_) fun _ _ z => z
  obtain ⟨m2, H2, x2, t2, q2⟩ := p2
  exact ⟨_, m2, H2, x1.w.trans x2, t2, .next, q2⟩
/-- x, y = a, b : both evaluated, y stored first -/
theorem ex_swap {e1 e2 : Expr} {k kv : Nat} {p1 p2 tpos vpos : Pos} {rest : List Stmt} {Q : Fl → Locs → AH → Prop} {R : Int → AH → Prop} (K : V → V → AH → Prop) (ok : Γ.Ok) (ow : Owns Γ)
    (h : EV Γ e1 m H (fun a H1 => EV Γ e2 m H1 (fun b H2 => K a b H2) R) R) (nx : ∀ a b H1, K a b H1 → EX Γ rest ((x, a) :: (y, b) :: m) H1 Q R)
    (hx : Γ.env.kindOf x = some .local := by rfl) (hy : Γ.env.kindOf y = some .local := by rfl)
    (hse : ∀ env, starEach [e1, e2] env = (false, eval e1 env) :: starEach [e2] env := by intro _; rfl) (hse2 : ∀ env, starEach [e2] env = (false, eval e2 env) :: starEach [] env := by intro _; rfl)
    (hs : swapsWithSole [.Tuple [.Name x p1, .Name y p2] k tpos] (.Tuple [e1, e2] kv vpos) pos.line Γ.env = pure false := by rfl) (hw : swappedStores [.Tuple [.Name x p1, .Name y p2] k tpos] (.Tuple [e1, e2] kv vpos) Γ.env = pure (some [x, y]) := by rfl) :
    EX Γ (.Assign [.Tuple [.Name x p1, .Name y p2] k tpos] (.Tuple [e1, e2] kv vpos) pos :: rest) m H Q R := by
  refine ex_cons ?_
  intro s t
  have hh : EV Γ (.Tuple [e1, e2] kv vpos) m H (fun v H1 => ∃ a b, v = .tup [a, b] ∧ K a b H1) R :=
    ev_tuple (evs_cons (h.mono fun a H1 q => evs_cons (q.mono fun b H2 q2 => evs_nil ⟨by show 2 ≤ 1000; decide, a, b, rfl, q2⟩) hse2) hse)
  refine Assign_Tuple_swapped (wpAny_mono (hh s t) (fun v s1 p => ?_) fun _ _ z => z.w t) hs hw
  obtain ⟨mv, H1, x1, y1, r1, a, b, rfl, q1⟩ := p
  have t1 := t.ext x1 y1
  refine r1.tE fun ad o items n e c d z rr => ?_
  ·
    obtain ⟨u, w, hi, r1, r2⟩ := rr.two
    have hsz : items.size = 2 := by rw [← Array.length_toList, hi]; rfl
    show wpAny _ _ (unpackItems (.ref ad) 2 none) _ _ _
    rw [← hsz]
    refine wpAny_unpackItems_tuple ok.handled ⟨o, e, c, n, d⟩ fun h' hx' => ?_
    have k : ∀ b o, s1.heap.get? b = some o → h'.get? b = some o := fun b o q => hx' b o (Nat.ne_of_lt (Heap.lt_size q)) q
    have eg := Ext.grow (F := Γ.F) (H := H1) k
    have t1' : St Γ m H1 { s1 with heap := h' } := t1.ext (s' := { s1 with heap := h' }) eg (t1.sim.grow (tk := s1.toks) k)
    rw [hi]
    show wpAny _ _ (do holding [u] (bindName Γ.env y w); assignInOrder [bindName Γ.env x] [u]) _ _ _
    refine wpAny_bind (wpAny_holding (bindName_ (wp_store ok ow t1' (r2.ext eg) (.inl hy) fun h2 tk2 e2 t2 => ?_)))
    show wpAny _ _ (do holding [] (bindName Γ.env x u); assignInOrder [] []) _ _ _
    refine wpAny_bind (wpAny_holding (bindName_ (wp_store ok ow t2 ((r1.ext eg).seqK e2.seqK) (.inl hx) fun h3 tk3 e3 t3 => ?_)))
    exact wpAny_pure ⟨_, _, H1, ((x1.w.trans eg.w).trans e2).trans e3, t3, .next, nx a b H1 q1⟩

theorem relAll_strs {H h} : ∀ l : List (Str × Tok), RelAll H h (strValues l) ((l.map (·.1)).map .str)
  | [] => .nil
  | p :: r => .cons (.str p.1 p.2) (relAll_strs r)
theorem strsAre_rel {H h} : ∀ {vs : List Value} {ys : List Str}, RelAll H h vs (ys.map .str) → StrsAre vs ys
  | _, [], r => by refine r.zE ?_; exact .nil
  | _, y :: ys, r => by
    refine r.kE fun _ _ r1 r2 => ?_
    · refine r1.sE fun _ => ?_; exact .cons _ _ (strsAre_rel r2)
theorem bv_split {x y : Str} {Q : V → AH → Prop} {R : Int → AH → Prop} (hy : (y.length == 0) = false) (hx : x.length ≤ 1000) (q : ∀ D, H D = none → Q (.ref D) (H.set D (.list ((Txt.split x y).map .str)))) : BV Γ (.builtin "str.split") [.str x, .str y] H Q R := by
  intro s vals y0 r
  refine r.wE fun _ _ r0 r1 => ?_
  refine r0.sE fun _ => ?_; refine r1.sE fun _ => ?_
  rename_i t u
  have hz : x.length + 2 ≤ sizeLine := Nat.le_trans (Nat.add_le_add_right hx 2) (by decide)
  have hn : (Builtin.Str.partsBetween x (Builtin.Str.occurrences x y 0 x.length (x.length + 1)) y.length).length ≤ sizeLine := by
    have e1 := StrLaws.occ_length_le x y 0 x.length (x.length + 1)
    rw [length_partsBetween]; omega
  have new : ∀ (l : List (Str × Tok)) (tk : Nat), l.map (·.1) = Txt.split x y → VPost Γ H s Q (.ref s.heap.objs.size) { s with heap := s.heap.push { cls := .type "list", data := .seq (strValues l).toArray }, toks := tk } := fun l tk e => by
    have k : ∀ b ob, s.heap.get? b = some ob → (s.heap.push { cls := .type "list", data := .seq (strValues l).toArray }).get? b = some ob := fun b ob e => Heap.get?_push_of_some _ e
    refine VPost.new (o := .list ((Txt.split x y).map .str)) (tk := tk) y0 k (get_none (k := 0)) ⟨_, _, Heap.get?_push_size _ rfl, ?_⟩ (q _)
    rw [← e]; exact relAll_strs l
  cases h1 : (decide (x.length < y.length) || decide (Builtin.Str.strKind x < Builtin.Str.strKind y))
  · cases hf : (Builtin.Str.occurrences x y 0 x.length (x.length + 1)).isEmpty
    · refine call_meets F.slot_str_split (typeIs_str _ _ _) F.entry_str_split (F.args_str_split_2 _ _) (meets_str_split_sep x y t u h1 hy hf (by omega) hn) ?_
      show wants _ _ _ { s with toks := _, heap := s.heap.push { cls := .type "list", data := .seq (strsFrom s.toks (Builtin.Str.partsBetween x (Builtin.Str.occurrences x y 0 x.length (x.length + 1)) y.length)).toArray } }
      rw [strsFrom_eq]
      exact new (numbered s.toks _) _ ((numbered_texts _ _).trans ((if_neg (ne_true_of_eq_false h1)).trans (if_neg (ne_true_of_eq_false hf))).symm)
    · exact call_meets F.slot_str_split (typeIs_str _ _ _) F.entry_str_split (F.args_str_split_2 _ _) (meets_str_split_not_found x y t u h1 hy hf)
        (new [(x, t)] s.toks ((if_neg (ne_true_of_eq_false h1)).trans (if_pos hf)).symm)
  · exact call_meets F.slot_str_split (typeIs_str _ _ _) F.entry_str_split (F.args_str_split_2 _ _) (meets_str_split_cannot_occur x y t u h1)
      (new [(x, t)] s.toks (if_pos h1).symm)
theorem bv_join {x : Str} {D : Addr} {ys : List Str} {Q : V → AH → Prop} {R : Int → AH → Prop} (hD : LA H D (ys.map .str)) (hz : (ys.map (·.length)).sum + ys.length * x.length ≤ 16777216) (q : Q (.str (Txt.join x ys)) H) : BV Γ (.builtin "str.join") [.str x, .ref D] H Q R := by
  intro s vals y0 r
  refine r.wE fun _ _ r0 r1 => ?_
  refine r0.sE fun _ => ?_; refine r1.rE ?_
  obtain ⟨items, n, e, rr⟩ := hD.at y0
  exact join_list ⟨_, e, rfl, n, rfl⟩ (strsAre_rel rr) hz fun t' k => VPost.tok y0 (.str _ _) q
end
section
variable {Γ : Cx} {cap : Locs} {H1 : AH} {target elt : Expr} {ifs : List Expr} {scope : Scope} {cl : List (Str × Addr)} {Q : V → AH → Prop}
/-- a comprehension that changes nothing: the items it makes are told ahead -/
theorem comp_gen {xs : List V} {wr lk : List Addr} (ys : List (Option V)) (tvs : List Str) (ok : Γ.Ok) (hw : ∀ b ∈ wr, H1 b = none) (hlen : ys.length = xs.length) (hl : xs.length ≤ 1000000) (hk : scope.kind = .function)
    (step : ∀ (C : Addr) (i : Nat) (a : V) (y : Option V) (mi : Locs) (Hi : AH), xs[i]? = some a → ys[i]? = some y → (Γ.comp scope cl C).Ok → OwnL (Γ.comp scope cl C) → (∀ b o, H1 b = some o → b ∉ lk → Hi b = some o) → (∀ b o, H1 b = some o → b ∈ lk → Hi b = some (.lock o)) → (∀ z, z ∉ tvs → mi.lookup z = cap.lookup z) →
      AS (Γ.comp scope cl C) target a mi Hi (fun m1 H2 => H2 = Hi ∧ (∀ z, z ∉ tvs → m1.lookup z = cap.lookup z) ∧ TVs (Γ.comp scope cl C) ifs m1 Hi (fun b H3 => H3 = Hi ∧ b = y.isSome ∧ ∀ v, y = some v → EV (Γ.comp scope cl C) elt m1 Hi (fun v' H4 => v' = v ∧ H4 = Hi) NoR)))
    (q : ∀ D, H1 D = none → Q (.ref D) (H1.set D (.list (ys.filterMap id)))) : CompLoopOb Γ scope cl target cap (fun C D => BDs (Γ.comp scope cl C) D ifs elt) Q xs wr lk H1 := by
  intro C D ow hD hw1 hl1
  have ok' := ok.comp (cl := cl) (C := C) hk
  refine ⟨fun i mi Hi => (∀ z, z ∉ tvs → mi.lookup z = cap.lookup z) ∧ Hi = lockH (H1.set D (.list ((ys.take i).filterMap id))) wr lk, ⟨fun _ _ => rfl, rfl⟩, ?_, ?_⟩
  · rintro i a mi Hi ha ⟨hm, hHi⟩ _
    have hi : i < xs.length := (List.getElem?_eq_some_iff.mp ha).1
    have hy : ys[i]? = some (ys[i]'(by omega)) := List.getElem?_eq_getElem (by omega)
    generalize ys[i]'(by omega) = y at hy
    have nw : ∀ b o, H1 b = some o → b ∉ wr := fun b o e q => by rw [hw b q] at e; cases e
    have nD : ∀ b o, H1 b = some o → b ≠ D := fun b o e q => by rw [q, hD] at e; cases e
    have eD : Hi D = some (.list ((ys.take i).filterMap id)) := by rw [hHi, lockH_ne hw1 hl1, AH.set_self]
    refine (step C i a y mi Hi ha hy ok' ow (fun b o e n => ?_) (fun b o e n => ?_) hm).mono fun m1 H2 p => ?_
    · rw [hHi, lockH_ne (nw b o e) n, AH.set_ne _ _ (nD b o e)]; exact e
    · rw [hHi]; exact lockH_lk (nw b o e) n (by rw [AH.set_ne _ _ (nD b o e)]; exact e)
    · obtain ⟨rfl, hm1, tv⟩ := p
      refine tv.mono fun b H3 p3 => ?_
      obtain ⟨rfl, rfl, ev⟩ := p3
      cases y with
      | none =>
        refine ⟨hm1, ?_⟩
        rw [hHi, List.take_add_one, hy, List.filterMap_append]
        show _ = lockH (H1.set D (.list (_ ++ []))) wr lk
        rw [List.append_nil]
      | some v =>
        refine (ev v rfl).mono fun v' H4 p4 => ?_
        obtain ⟨rfl, rfl⟩ := p4
        refine ⟨_, eD, ?_, hm1, ?_⟩
        · have l1 := List.length_filterMap_le id (ys.take i)
          rw [List.length_take] at l1; omega
        · rw [hHi, lockH_set hw1 hl1, lockH_set hw1 hl1, AH.set_set, List.take_add_one, hy, List.filterMap_append]; rfl
  · rintro mn Hn ⟨_, rfl⟩ _
    rw [← hlen, List.take_length]
    have e : unl (H1.set D (.list [])) wr lk (lockH (H1.set D (.list (ys.filterMap id))) wr lk) = H1.set D (.list (ys.filterMap id)) := by
      refine unl_lockH2 (fun b hb => ?_) fun b hb => ?_
      · rw [AH.set_ne _ _ (fun (z : b = D) => hw1 (z ▸ hb))]; exact hw b hb
      · rw [AH.set_ne _ _ (fun (z : b = D) => hl1 (z ▸ hb)), AH.set_ne _ _ (fun (z : b = D) => hl1 (z ▸ hb))]
    rw [e]
    exact q D hD
end

def AH.le (H H' : AH) : Prop := ∀ b o, H b = some o → H' b = some o
theorem AH.le.refl (H : AH) : AH.le H H := fun _ _ e => e
theorem AH.le.trans {H H' H'' : AH} (x : AH.le H H') (y : AH.le H' H'') : AH.le H H'' := fun b o e => y b o (x b o e)
theorem AH.le_set {H : AH} {a : Addr} (h : H a = none) (o : AO) : AH.le H (H.set a o) := fun b o' e => by
  rw [AH.set_ne _ _ (nz e h)]; exact e
/-- what the law puts: whole numbers and strings -/
inductive IsVal : V → Prop
  | int (i : Int) : IsVal (.int i)
  | str (x : Str) : IsVal (.str x)
noncomputable def nullV : V → Bool
  | .str x => x == ""
  | _ => false
/-- the entries of a table: lists of a key and a value -/
inductive EntsAre (H : AH) : List (List KV × V) → List (V × V) → Prop
  | nil : EntsAre H [] []
  | cons {ks p k v kvs es} : H p = some (.list [k, v]) → IsVal v → EntsAre H kvs es → EntsAre H ((ks, .ref p) :: kvs) ((k, v) :: es)
theorem EntsAre.length {H kvs es} (h : EntsAre H kvs es) : kvs.length = es.length := by
  induction h with
  | nil => rfl
  | cons _ _ _ ih => rw [List.length_cons, List.length_cons, ih]
theorem EntsAre.get {H kvs es} (h : EntsAre H kvs es) : ∀ {i : Nat} {w : V}, (kvs.map (·.2))[i]? = some w → ∃ p k v, w = .ref p ∧ es[i]? = some (k, v) ∧ H p = some (.list [k, v]) ∧ IsVal v := by
  induction h with
  | nil => intro i w e; cases e
  | @cons ks p k v kvs es hp hv _ ih =>
    intro i w e
    cases i with
    | zero => cases e; exact ⟨p, k, v, rfl, rfl, hp, hv⟩
    | succ i => exact ih e
theorem EntsAre.le {H H' kvs es} (h : EntsAre H kvs es) (l : AH.le H H') : EntsAre H' kvs es := by
  induction h with
  | nil => exact .nil
  | cons hp hv _ ih => exact .cons (l _ _ hp) hv ih
noncomputable def fullF (e : V × V) : Option V := if nullV e.2 then none else some (.tup [e.1, e.2])
noncomputable def fullL (es : List (V × V)) : List V := es.filterMap fullF
section
variable {C : Con} {lv : Nat} {H : AH} {Q : V → AH → Prop} {R : Int → AH → Prop}
theorem c_is_null (hB : Base C.w C.base) {v : V} (hv : IsVal v) (q : Q (.bool (nullV v)) H) : CW C (lv + 1) (.ref 156) [v] H Q R := by
  cases hv with
  | int i => exact c_is_null_int hB q
  | str x => exact c_is_null_str hB q
theorem c_entries_of (hB : Base C.w C.base) {a D : Addr} {fs : List (Str × V)} {kvs : List (List KV × V)} {es : List (V × V)} (ha : H a = some (.inst 255 fs)) (hf : fs.lookup ("entries" : Str) = some (.ref D)) (hD : H D = some (.dict kvs)) (hz : kvs.length ≤ 1000000) (hes : EntsAre H kvs es)
    (q : ∀ D', H D' = none → Q (.ref D') (H.set D' (.list (fullL es)))) : CW C (lv + 2) (.ref 330) [.ref a] H Q R := by
  refine cw_def ok330 hB (body := bod st330) rfl rfl (fun A stk L own ok ow => ?_)
  refine ex_ret (ev_comp ok (cap := []) (iv_values ok (ev_attr (ev_local ok rfl (ga_field ok ha get255_entries hf ⟨D, kvs, rfl, hD, fun J hJ =>
    comp_gen (es.map fullF) ["pair"] ok (fun b hb => by rw [List.mem_singleton.mp hb]; exact hJ) (by rw [List.length_map, List.length_map, hes.length]) (by rw [List.length_map]; exact hz) rfl (fun C' i a y mi Hi hx hy ok' ow' rd rl hm => ?_) (fun D' hD' => ?_)⟩)))) Caps.nil rfl)
  · obtain ⟨p, k, v, rfl, he, hp, hv⟩ := hes.get hx
    rw [List.getElem?_map, he] at hy
    have hy : fullF (k, v) = y := Option.some.inj hy
    have hp' : Hi p = some (.list [k, v]) := rd p _ hp fun z => by rw [List.mem_singleton.mp z, hD] at hp; cases hp
    refine as_nameL ok' ow' ⟨rfl, fun z hz => ?_, ?_⟩
    · rw [List.lookup_cons, beq_eq_false_iff_ne.mpr fun w => hz (by rw [w]; exact List.mem_singleton.mpr rfl)]; exact hm z hz
    refine tv_not (tv_call (bb := nullV v) (ev_call ok' ok156.keep (lv := lv + 1) (ev_glob ok' rfl g_is_null ⟨rfl, evs_cons (ev_sub (ev_local ok' rfl (ev_int (gi_list (.inl hp') (by decide) (by show 2 ≤ 1000000; decide) rfl (evs_nil (c_is_null (C := C) hB hv ⟨rfl, rfl, ?_, fun u hu => ?_⟩))))))⟩) (Nat.le_refl _)))
    · rw [← hy]; unfold fullF; cases nullV v <;> rfl
    · have : u = .tup [k, v] := by
        rw [← hy] at hu; unfold fullF at hu
        cases hn : nullV v
        · dsimp only at hu; rw [hn] at hu; exact (Option.some.inj hu).symm
        · dsimp only at hu; rw [hn] at hu; cases hu
      subst this
      exact ev_tuple (evs_cons (ev_sub (ev_local ok' rfl (ev_int (gi_list (.inl hp') (by decide) (by show 2 ≤ 1000000; decide) rfl (evs_cons (ev_sub (ev_local ok' rfl (ev_int (gi_list (.inl hp') (by decide) (by show 2 ≤ 1000000; decide) rfl (evs_nil ⟨by show 2 ≤ 1000; decide, rfl, rfl⟩)))))))))))
  · have e : (es.map fullF).filterMap id = fullL es := by unfold fullL; rw [List.filterMap_map]; rfl
    rw [e]; exact q D' hD'
end

theorem both {P G : Prop} (f : P → G) (p : P) : G := f p
section
variable {C : Con} {lv : Nat} {H : AH} {Q : V → AH → Prop} {R : Int → AH → Prop}
theorem c_text_of_whole (hB : Base C.w C.base) {n : Nat} (hn : n < 10) (q : Q (.str ⟨#[48 + n]⟩) H) : CW C (lv + 1) (.ref 184) [.int n] H Q R := by
  refine cw_def ok184 hB (body := bod st184) rfl rfl (fun A stk L own ok ow => ?_)
  refine ex_swap (fun a b H1 => a = .int n ∧ b = .str "" ∧ H = H1) ok ow (ev_bcall (ev_blt ok rfl n_abs b_abs (fun _ _ => .bi _) ⟨rfl, evs_cons (ev_local ok rfl (evs_nil (bv_abs (ev_str ⟨?_, rfl, rfl⟩))))⟩)) ?_
  · rw [if_neg (by omega)]
  rintro _ _ _ ⟨rfl, rfl, rfl⟩
  refine ex_cons (es_while ok Top1.fn (fun k mi Hi => H = Hi ∧ mi.lookup ("number" : Str) = some (.int n) ∧ ((k = 1 ∧ mi.lookup ("left" : Str) = some (.int n) ∧ mi.lookup ("found" : Str) = some (.str "")) ∨ (k = 0 ∧ mi.lookup ("left" : Str) = some (.int 0) ∧ mi.lookup ("found" : Str) = some (.str ⟨#[48 + n]⟩)))) 1 ⟨rfl, rfl, .inl ⟨rfl, rfl, rfl⟩⟩ ?_)
  rintro k mi Hi ⟨rfl, h1, ⟨rfl, h2, h3⟩ | ⟨rfl, h2, h3⟩⟩
  · refine both (fun body => tv_bool (at_or (tv_cmp (ev_local ok h2 (ev_int (cmp_gt ⟨fun _ => body, fun _ => at_or1 (tv_cmp (ev_local ok h3 (ev_str (cmp_eqS body))))⟩)))))) ?_
    refine ex_asg (fun v H1 => v = .str ⟨#[48 + n]⟩ ∧ H = H1) ok ow (ev_bin (ev_bcall (ev_blt ok rfl n_chr b_chr (fun _ _ => .bi _) ⟨rfl, evs_cons (ev_bin (ev_int (ev_bin (ev_local ok h2 (ev_int (op_mod (by decide) (op_add (evs_nil (bv_chr ?_ (ev_local ok h3 (op_cat (by show 1 + 0 ≤ sizeLine; decide) ⟨?_, rfl⟩)))))))))))⟩))) ?_
    · have : ((n : Int).fmod 10) = n := by rw [Int.fmod_eq_emod_of_nonneg _ (by decide)]; omega
      rw [this]
      simp only [Bool.or_eq_false_iff, decide_eq_false_iff_not]
      omega
    · have : ((n : Int).fmod 10) = n := by rw [Int.fmod_eq_emod_of_nonneg _ (by decide)]; omega
      rw [this]
      have e : (48 + (n : Int)).toNat = 48 + n := by omega
      rw [e]
      rfl
    rintro _ _ ⟨rfl, rfl⟩
    refine ex_cons (es_aug (a := .int n) ok ow h2 rfl (ev_int (iop_div (by decide) (pylong_small (by decide)) ?_)))
    refine ex_nil ⟨0, by decide, rfl, h1, .inr ⟨rfl, ?_, rfl⟩⟩
    have : ((n : Int).fdiv 10) = 0 := by rw [Int.fdiv_eq_ediv_of_nonneg _ (by decide)]; omega
    rw [this]; rfl
  · refine tv_bool (at_or (tv_cmp (ev_local ok h2 (ev_int (cmp_gt ⟨(fun z => by cases z), fun _ => at_or1 (tv_cmp (ev_local ok h3 (ev_str (cmp_eqS ?_))))⟩)))))
    have e : ((⟨#[48 + n]⟩ : Str) == "") = false := rfl
    rw [e]
    refine ex_ret (ev_ifF (tv_cmp (ev_local ok h1 (ev_int (cmp_lt ⟨?_, ev_local ok h3 q⟩)))))
    exact decide_eq_false (by omega)
end

noncomputable def flatL : List (V × V) → List V
  | [] => []
  | (k, v) :: es => k :: v :: flatL es
theorem flatL_append : ∀ (a b : List (V × V)), flatL (a ++ b) = flatL a ++ flatL b
  | [], b => rfl
  | (k, v) :: a, b => by show k :: v :: flatL (a ++ b) = _; rw [flatL_append a b]; rfl
theorem flatL_len : ∀ es : List (V × V), (flatL es).length = 2 * es.length
  | [] => rfl
  | (k, v) :: es => by show (flatL es).length + 1 + 1 = 2 * (es.length + 1); rw [flatL_len es]; omega
/-- rows: lists of two -/
def RowsAre (H : AH) (rs : List Addr) (es : List (V × V)) : Prop := rs.length = es.length ∧ ∀ (i : Nat) (r : Addr), rs[i]? = some r → ∃ k v, es[i]? = some (k, v) ∧ IsVal v ∧ H r = some (.list [k, v])
theorem RowsAre.le {H H' rs es} (h : RowsAre H rs es) (l : AH.le H H') : RowsAre H' rs es := ⟨h.1, fun i r e => by obtain ⟨k, v, e1, e2, e3⟩ := h.2 i r e; exact ⟨k, v, e1, e2, l _ _ e3⟩⟩
theorem refs_ne {rs : List Addr} {k v : V} (hv : IsVal v) (e : rs.map V.ref = [k, v]) : False := by
  have : v ∈ rs.map V.ref := e ▸ .tail _ (.head _)
  obtain ⟨a, _, rfl⟩ := List.mem_map.mp this
  cases hv
theorem RowsAre.ne {H rs es ra} (h : RowsAre H rs es) (hr : H ra = some (.list (rs.map .ref))) : ∀ r ∈ rs, r ≠ ra := fun r hm q => by
  obtain ⟨i, hi⟩ := List.getElem?_of_mem hm
  obtain ⟨k, v, _, hv, e⟩ := h.2 i r hi
  rw [q, hr] at e
  exact refs_ne hv (AO.list.inj (Option.some.inj e))
noncomputable def toldN (n : Nat) : Str := (⟨#[48 + n]⟩ ++ (",": Str)) ++ ⟨#[50]⟩
noncomputable abbrev arrF (nm : Int) (told : Str) (ba D : Addr) : List (Str × V) := [("word", .str "ARRAY"), ("number", .int nm), ("mark", .int 0), ("told", .str told), ("bounds", .ref ba), ("items", .ref D)]
section
variable {Γ : Cx} {m cap : Locs} {H : AH} {scope : Scope} {cl : List (Str × Addr)} {Q : V → AH → Prop} {x y : Str} {px py pi pe : Pos} {target t1 i1 elt : Expr}
/-- [y for x in rows for y in x] -/
theorem comp_flat {rs : List Addr} {es : List (V × V)} {I ra : Addr} (ok : Γ.Ok) (hI : H I = none) (hr : H ra = some (.list (rs.map .ref))) (hrow : RowsAre H rs es) (hz : rs.length ≤ 1000) (hk : scope.kind = .function)
    (hx : ∀ C, (Γ.comp scope cl C).env.kindOf x = some .local) (hy : ∀ C, (Γ.comp scope cl C).env.kindOf y = some .local) (hd1 : (x == ("__debug__" : Str)) = false) (hc1 : (x == ("__classdict__" : Str)) = false) (hd2 : (y == ("__debug__" : Str)) = false) (hc2 : (y == ("__classdict__" : Str)) = false)
    (ht : target = .Name x px) (ht1 : t1 = .Name y py) (hi1 : i1 = .Name x pi) (he : elt = .Name y pe) (q : ∀ D, H D = none → Q (.ref D) (H.set D (.list (flatL es)))) : CompLoopOb Γ scope cl target cap (fun C D => BD2 (Γ.comp scope cl C) D t1 i1 elt) Q (rs.map .ref) [I] [ra] H := by
  subst ht ht1 hi1 he
  intro C D ow hD hw1 hl1
  have ok' := ok.comp (cl := cl) (C := C) hk
  have nI : ∀ b o, H b = some o → b ≠ I := fun b o e q => by rw [q, hI] at e; cases e
  have nD : ∀ b o, H b = some o → b ≠ D := fun b o e q => by rw [q, hD] at e; cases e
  have hDI : D ≠ I := fun q => hw1 (List.mem_singleton.mpr q)
  refine ⟨fun i mi Hi => Hi = lockH (H.set D (.list (flatL (es.take i)))) [I] [ra], ?_, ?_, ?_⟩
  · rfl
  · rintro i a mi Hi ha hHi _
    subst hHi
    rw [List.getElem?_map] at ha
    cases hc : rs[i]? with
    | none => rw [hc] at ha; cases ha
    | some r =>
      rw [hc] at ha; cases ha
      have hrm := List.mem_of_getElem? hc
      have hrra := hrow.ne hr r hrm
      obtain ⟨k, v, he, hv, hrl⟩ := hrow.2 i r hc
      have hri := nI _ _ hrl
      have hrD := nD _ _ hrl
      refine as_nameL ok' ow ?_ (hx C)
      have e1 : lockH (H.set D (.list (flatL (es.take i)))) [I] [ra] r = some (.list [k, v]) := by
        rw [lockH_ne (fun z => hri (List.mem_singleton.mp z)) (fun z => hrra (List.mem_singleton.mp z)), AH.set_ne _ _ hrD]; exact hrl
      refine iv_of (ev_local ok' (by rw [List.lookup_cons, beq_self_eq_true]) (it_list ok' e1 fun I2 hI2 => ?_) hd1 hc1)
      have hI2' := lockH_none hI2
      have hDI2 : D ≠ I2 := fun q => by rw [← q, AH.set_self] at hI2'; cases hI2'.2
      have hrI2 : r ≠ I2 := (nz e1 hI2)
      have hDr : D ∉ [r] := fun z => hrD (List.mem_singleton.mp z).symm
      have hDI2m : D ∉ [I2] := fun z => hDI2 (List.mem_singleton.mp z)
      refine ⟨fun j mj Hj => Hj = lockH (lockH (H.set D (.list (flatL (es.take i) ++ [k, v].take j))) [I] [ra]) [I2] [r], ?_, ?_, ?_⟩
      · show _ = lockH (lockH (H.set D (.list (flatL (es.take i) ++ []))) [I] [ra]) [I2] [r]
        rw [List.append_nil]
      · rintro j b mj Hj hb hHj _
        subst hHj
        refine as_nameL ok' ow ?_ (hy C)
        refine ev_local ok' (by rw [List.lookup_cons, beq_self_eq_true]) ⟨flatL (es.take i) ++ [k, v].take j, ?_, ?_, ?_⟩ hd2 hc2
        · rw [lockH_ne hDI2m hDr, lockH_ne hw1 hl1, AH.set_self]
        · have l1 := hrow.1
          rw [List.length_append, flatL_len, List.length_take, List.length_take]
          have : [k, v].length = 2 := rfl
          omega
        · have hb' : [k, v].take (j + 1) = [k, v].take j ++ [b] := by rw [List.take_add_one, hb]; rfl
          show _ = lockH (lockH (H.set D (.list (flatL (es.take i) ++ [k, v].take (j + 1)))) [I] [ra]) [I2] [r]
          rw [← lockH_set hDI2m hDr, ← lockH_set hw1 hl1, AH.set_set, hb', ← List.append_assoc]
      · rintro mn Hn hHn _
        subst hHn
        have e2 : flatL (es.take (i + 1)) = flatL (es.take i) ++ [k, v] := by rw [List.take_add_one, he, flatL_append]; rfl
        show unl _ _ _ _ = _
        rw [e2]
        refine unl_lockH2 (fun b hb => ?_) fun b hb => ?_
        · rw [List.mem_singleton.mp hb]
          refine lockH_none' hI2'.1 ?_
          have := hI2'.2
          rw [AH.set_ne _ _ (Ne.symm hDI2)] at this ⊢; exact this
        · rw [List.mem_singleton.mp hb, lockH_ne (fun z => hri (List.mem_singleton.mp z)) (fun z => hrra (List.mem_singleton.mp z)), lockH_ne (fun z => hri (List.mem_singleton.mp z)) (fun z => hrra (List.mem_singleton.mp z)), AH.set_ne _ _ hrD, AH.set_ne _ _ hrD]
  · rintro mn Hn hHn _
    subst hHn
    rw [List.length_map, hrow.1, List.take_length]
    have e : unl (H.set D (.list [])) [I] [ra] (lockH (H.set D (.list (flatL es))) [I] [ra]) = H.set D (.list (flatL es)) := by
      refine unl_lockH2 (fun b hb => ?_) fun b hb => ?_
      · rw [List.mem_singleton.mp hb, AH.set_ne _ _ hDI.symm]; exact hI
      · have := nD _ _ hr
        rw [List.mem_singleton.mp hb, AH.set_ne _ _ this, AH.set_ne _ _ this]
    rw [e]
    exact q D hD
end
section
variable {C : Con} {lv : Nat} {H : AH} {Q : V → AH → Prop} {R : Int → AH → Prop}
set_option maxHeartbeats 400000 in
theorem c_rows_array (hB : Base C.w C.base) {ra : Addr} {rs : List Addr} {es : List (V × V)} {nm : Int} (hr : H ra = some (.list (rs.map .ref))) (hrow : RowsAre H rs es) (h1 : 1 ≤ rs.length) (h2 : rs.length < 10)
    (q : ∀ x ba D H', AH.le H H' → H' x = some (.inst 236 (arrF nm (toldN rs.length) ba D)) → H' ba = some (.list (boundsV [(1, rs.length), (1, 2)])) → H' D = some (.list (flatL es)) → Q (.ref x) H') : CW C (lv + 4) (.ref 340) [.ref ra, .int nm] H Q R := by
  refine cw_def ok340 hB (body := bod st340) rfl rfl (fun A stk L own ok ow => ?_)
  obtain ⟨r0, hr0⟩ : ∃ r0, rs[0]? = some r0 := ⟨rs[0], List.getElem?_eq_getElem (by omega)⟩
  obtain ⟨k0, v0, _, _, hl0⟩ := hrow.2 0 r0 hr0
  have lm : (rs.map V.ref).length = rs.length := List.length_map ..
  refine ex_swap (fun a b H1 => a = .int rs.length ∧ b = .int (2 : Nat) ∧ H = H1) ok ow (ev_bcall (ev_blt ok rfl n_len b_len (fun _ _ => .bi _) ⟨rfl, evs_cons (ev_local ok rfl (evs_nil (bv_len (.inl hr) (by rw [lm]; omega) ?_)))⟩)) ?_
  · rw [lm]
    exact ev_bcall (ev_blt ok rfl n_len b_len (fun _ _ => .bi _) ⟨rfl, evs_cons (ev_sub (ev_local ok rfl (ev_int (gi_list (.inl hr) (by decide) (by rw [lm]; omega) (by rw [List.getElem?_map]; show Option.map _ rs[0]? = _; rw [hr0]; rfl) (evs_nil (bv_len (.inl hl0) (by show 2 ≤ 1000000; decide) ⟨rfl, rfl, rfl⟩))))))⟩)
  rintro _ _ _ ⟨rfl, rfl, rfl⟩
  refine ex_asg (fun v H1 => v = .str (toldN rs.length) ∧ H = H1) ok ow (ev_bin (ev_bin (ev_call ok ok184.keep (lv := lv + 1) (ev_glob ok rfl g_text_of_whole ⟨rfl, evs_cons (ev_local ok rfl (evs_nil (c_text_of_whole (C := C) (lv := lv) hB h2 (ev_str (op_cat ?_ (ev_call ok ok184.keep (lv := lv + 1) (ev_glob ok rfl g_text_of_whole ⟨rfl, evs_cons (ev_local ok rfl (evs_nil (c_text_of_whole (C := C) (lv := lv) hB (by decide) (op_cat ?_ ⟨rfl, rfl⟩))))⟩) (by show lv + 1 ≤ lv + 3; omega)))))))⟩) (by show lv + 1 ≤ lv + 3; omega)))) ?_
  · show 1 + 1 ≤ sizeLine; decide
  · show 2 + 1 ≤ sizeLine; decide
  rintro _ _ ⟨rfl, rfl⟩
  refine ex_asg (fun v H1 => ∃ x ba D, v = .ref x ∧ H x = none ∧ AH.le H H1 ∧ x ≠ D ∧ H1 x = some (.inst 236 (arrF nm (toldN rs.length) ba D)) ∧ H1 ba = some (.list (boundsV [(1, rs.length), (1, 2)]))) ok ow
    (ev_call ok keep236 (lv := lv + 3) (ev_glob ok rfl g_Array ⟨rfl, evs_cons (ev_local ok rfl (evs_cons (ev_local ok rfl (evs_cons (ev_list (evs_cons (ev_tuple (evs_cons (ev_int (evs_cons (ev_local ok rfl (evs_nil ⟨by show 2 ≤ 1000; decide, evs_cons (ev_tuple (evs_cons (ev_int (evs_cons (ev_local ok rfl (evs_nil ⟨by show 2 ≤ 1000; decide, evs_nil ⟨by show 2 ≤ 1000; decide, fun ba hba => evs_cons (ev_str (evs_nil ?_))⟩⟩))))))⟩))))))))))))⟩) (Nat.le_refl _)) ?_
  · refine c_Array (C := C) (lv := lv) (bs := [(1, rs.length), (1, 2)]) hB (AH.set_self _ _ _) (fun p hp => bits_small ?_) ?_ ?_ fun x d D H' hx hD hd hxD hdx e1 e2 e3 => ?_
    · rcases List.mem_cons.mp hp with rfl | hp
      · show ((rs.length : Int) - 1 + 1).natAbs < _; omega
      · rw [List.mem_singleton.mp hp]; decide
    · show (0 : Int) ≤ 1 * ((rs.length : Int) - 1 + 1) * (2 - 1 + 1); omega
    · show (1 : Int) * ((rs.length : Int) - 1 + 1) * (2 - 1 + 1) ≤ 1000000; omega
    · have hxb : x ≠ ba := ((nz (AH.set_self _ _ _) hx).symm)
      rw [AH.set_ne _ _ hxb] at hx
      exact ⟨x, ba, D, rfl, hx, (AH.le_set hba _).trans e3, hxD, e1, e3 _ _ (AH.set_self _ _ _)⟩
  rintro _ H1 ⟨x, ba, D, rfl, hx, le1, hxD, e1, e2⟩
  have hr1 := le1 _ _ hr
  refine ex_cons (es_setattr (ev_comp2 ok (cap := []) (iv_of (ev_local ok rfl (it_list ok hr1 fun I hI => comp_flat (x := "row") (y := "value") ok hI hr1 (hrow.le le1) (by omega) rfl (fun _ => rfl) (fun _ => rfl) (by decide) (by decide) (by decide) (by decide) rfl rfl rfl rfl fun D2 hD2 => ?_))) Caps.nil rfl))
  have hxD2 : x ≠ D2 := (nz e1 hD2)
  refine ev_local ok rfl (sa_field ok (by rw [AH.set_ne _ _ hxD2]; exact e1) set236_items (by show 6 ≤ 900; decide) ?_)
  refine ex_ret (ev_local ok rfl (q x ba D2 _ ?_ (AH.set_self _ _ _) ?_ ?_))
  · intro b o hb
    rw [AH.set_ne _ _ (nz hb hx)]
    exact (le1.trans (AH.le_set hD2 _)) b o hb
  · rw [AH.set_ne _ _ (fun q => by rw [q, e1] at e2; cases e2)]; exact AH.le_set hD2 _ _ _ e2
  · rw [AH.set_ne _ _ hxD2.symm, AH.set_self]
end

theorem Caps.of {Γ : Cx} {scope : Scope} {cl : List (Str × Addr)} {m cap : Locs} (h : ∀ p ∈ cap, m.lookup p.1 = some p.2 ∧ Γ.env.kindOf p.1 ≠ some .local ∧ ((relabel scope Γ.env).names.lookup p.1 = some .cell ∨ (relabel scope Γ.env).names.lookup p.1 = some .free) ∧ cl.lookup p.1 = Γ.env.cells.lookup p.1)
    (hc : ∀ p ∈ cl, (relabel scope Γ.env).names.lookup p.1 = some .cell → cl.lookup p.1 = some p.2 → Γ.env.kindOf p.1 = some .cell ∧ Γ.env.cells.lookup p.1 = some p.2) : Caps Γ scope cl m cap :=
  ⟨fun x v hx => h (x, v) (mem_of_lookup hx), fun x c h1 h2 => hc (x, c) (mem_of_lookup h2) h1 h2⟩
theorem okComp {Γ : Cx} {scope : Scope} {cl : List (Str × Addr)} {C : Addr} (ok : Γ.Ok) (ow : OwnL (Γ.comp scope cl C)) (hk : scope.kind = .function) : (Γ.comp scope cl C).Ok := ok.comp hk
theorem Lk.unl_get {K0 : AH} {wr lk : List Addr} {H : AH} (l : Lk K0 wr lk H) {b : Addr} {o : AO} (e : H b = some o) (n : ∀ l, o ≠ .lock l) : unl K0 wr lk H b = some o := by
  unfold unl
  by_cases q1 : b ∈ wr
  · rw [l.1 b q1] at e; cases e; exact absurd rfl (n _)
  · rw [if_neg q1]
    by_cases q2 : b ∈ lk
    · rw [l.2 b q2 q1] at e
      cases h : K0 b with
      | none => rw [h] at e; cases e
      | some o2 => rw [h] at e; cases e; exact absurd rfl (n _)
    · rw [if_neg q2]; exact e
theorem unl_le {H K0 Hn : AH} {wr lk : List Addr} (hw : ∀ b ∈ wr, H b = none) (h0 : AH.le H K0) (hn : ∀ b o, H b = some o → b ∉ lk → Hn b = some o) : AH.le H (unl K0 wr lk Hn) := fun b o e => by
  unfold unl
  rw [if_neg (fun q => by rw [hw b q] at e; cases e)]
  by_cases q2 : b ∈ lk
  · rw [if_pos q2]; exact h0 b o e
  · rw [if_neg q2]; exact hn b o e q2
noncomputable def fullP (es : List (V × V)) : List (V × V) := es.filter fun e => !nullV e.2
theorem fullL_eq : ∀ es, fullL es = (fullP es).map fun e => .tup [e.1, e.2]
  | [] => rfl
  | (k, v) :: es => by
    have ih := fullL_eq es
    unfold fullL fullP at ih ⊢
    rw [List.filterMap_cons, List.filter_cons]
    unfold fullF
    cases h : nullV v
    · simp only [h, Bool.not_false, if_true, Bool.false_eq_true, if_false, List.map_cons]; rw [← ih]; rfl
    · simp only [h, Bool.not_true, if_true, Bool.false_eq_true, if_false]; rw [← ih]; rfl
section
variable {C : Con} {lv : Nat} {H : AH} {Q : V → AH → Prop} {R : Int → AH → Prop}
theorem c_table_to_array (hB : Base C.w C.base) {a D : Addr} {fs : List (Str × V)} {kvs : List (List KV × V)} {es : List (V × V)} {nm : Int} (ha : H a = some (.inst 255 fs)) (hf : fs.lookup ("entries" : Str) = some (.ref D)) (hD : H D = some (.dict kvs)) (hes : EntsAre H kvs es) (hz : es.length < 10)
    (q0 : fullP es = [] → ∀ H', AH.le H H' → Q .none H')
    (q1 : fullP es ≠ [] → ∀ x ba D H', AH.le H H' → H' x = some (.inst 236 (arrF nm (toldN (fullP es).length) ba D)) → H' ba = some (.list (boundsV [(1, (fullP es).length), (1, 2)])) → H' D = some (.list (flatL (fullP es))) → Q (.ref x) H') : CW C (lv + 5) (.ref 335) [.ref a, .int nm] H Q R := by
  refine cw_def ok335 hB (body := bod st335) rfl rfl (fun A stk L own ok ow => ?_)
  have hvs : ∀ e ∈ fullP es, IsVal e.2 := fun e he => by
    have hm : e ∈ es := (List.mem_filter.mp he).1
    clear hf hD q0 q1 hz he
    induction hes with
    | nil => cases hm
    | cons _ hv _ ih => rcases List.mem_cons.mp hm with rfl | hm; exact hv; exact ih hm
  have hlen : (fullP es).length ≤ es.length := List.length_filter_le ..
  refine ex_asg (fun v H1 => ∃ P, v = .ref P ∧ H P = none ∧ H1 = H.set P (.list (fullL es))) ok ow (ev_call ok ok330.keep (lv := lv + 4) (ev_glob ok rfl g_entries_of ⟨rfl, evs_cons (ev_local ok rfl (evs_nil (c_entries_of (C := C) (lv := lv + 2) hB ha hf hD (by rw [hes.length]; omega) hes fun P hP => ⟨P, rfl, hP, rfl⟩)))⟩) (Nat.le_refl _)) ?_
  rintro _ _ ⟨P, rfl, hP, rfl⟩
  rw [fullL_eq]
  generalize hfe : fullP es = fe at *
  have hl : ((fe.map fun e => V.tup [e.1, e.2]).length : Int) = fe.length := by rw [List.length_map]
  have e0 : (H.set P (.list (fe.map fun e => .tup [e.1, e.2]))) P = some (.list (fe.map fun e => .tup [e.1, e.2])) := AH.set_self _ _ _
  have le0 : AH.le H (H.set P (.list (fe.map fun e => .tup [e.1, e.2]))) := AH.le_set hP _
  refine ex_if (tv_cmp (ev_bcall (ev_blt ok rfl n_len b_len (fun _ _ => .bi _) ⟨rfl, evs_cons (ev_local ok rfl (evs_nil (bv_len (.inl e0) (by rw [List.length_map]; omega) (ev_int (cmp_eq ⟨fun h => ?_, fun h => ?_⟩)))))⟩)))
  · rw [hl] at h
    have : fe = [] := List.eq_nil_of_length_eq_zero (by have := beq_iff_eq.mp h; omega)
    exact ex_ret (ev_none (q0 this _ le0))
  rw [hl] at h
  have hne : fe.length ≠ 0 := fun z => by rw [z] at h; cases h
  have hne' : fe ≠ [] := fun z => hne (by rw [z]; rfl)
  refine ex_ret (ev_call ok ok340.keep (lv := lv + 4) (ev_glob ok rfl g_rows_array ⟨rfl, evs_cons (ev_comp ok (cap := []) (iv_of (ev_local ok rfl (it_list ok e0 fun I hI => ?_))) Caps.nil rfl)⟩) (Nat.le_refl _))
  generalize hH1 : H.set P (.list (fe.map fun e => .tup [e.1, e.2])) = H1 at *
  intro C' D' ow' hD' hw1 hl1
  have ok' := okComp ok ow' rfl
  refine ⟨fun i mi Hi => ∃ rs : List Addr, Hi D' = some (.list (rs.map .ref)) ∧ rs.length = i ∧ (∀ (j : Nat) (r : Addr), rs[j]? = some r → ∃ k v, fe[j]? = some (k, v) ∧ Hi r = some (.list [k, v])) ∧ ∀ b o, H1 b = some o → b ∉ [P] → Hi b = some o, ?_, ?_, ?_⟩
  · refine ⟨[], ?_, rfl, (fun j r e => by cases e), fun b o e n => ?_⟩
    · rw [lockH_ne hw1 hl1, AH.set_self]; rfl
    · rw [lockH_ne (fun z => by rw [List.mem_singleton.mp z, hI] at e; cases e) n, AH.set_ne _ _ (nz e hD')]; exact e
  · rintro i x mi Hi hx ⟨rs, g1, g2, g3, g4⟩ _
    rw [List.getElem?_map] at hx
    cases hc : fe[i]? with
    | none => rw [hc] at hx; cases hx
    | some e =>
      rw [hc] at hx; cases hx
      obtain ⟨k, v⟩ := e
      have hi : i < fe.length := (List.getElem?_eq_some_iff.mp hc).1
      refine as_nameL ok' ow' ?_
      refine ev_tcall (ev_blt ok' rfl n_list b_list (fun _ _ => .ty _) ⟨rfl, evs_cons (ev_local ok' rfl (evs_nil (bv_listOfTup (by show 2 ≤ 1000000; decide) fun D3 hD3 => ?_)))⟩)
      have n3 : D' ≠ D3 := (nz g1 hD3)
      have old : ∀ b o, Hi b = some o → b ≠ D3 := fun b o e z => by rw [z, hD3] at e; cases e
      have oldL : ∀ b k v, Hi b = some (.list [k, v]) → IsVal v → b ≠ D' := fun b k v e hv z => by
        rw [z, g1] at e
        exact refs_ne hv (AO.list.inj (Option.some.inj e))
      refine ⟨rs.map .ref, by rw [AH.set_ne _ _ n3]; exact g1, by rw [List.length_map]; omega, rs ++ [D3], ?_, ?_, ?_, ?_⟩
      · rw [AH.set_self, List.map_append]; rfl
      · rw [List.length_append, g2]; rfl
      · intro j r hj
        by_cases hjl : j < rs.length
        · rw [List.getElem?_append_left hjl] at hj
          obtain ⟨k2, v2, f1, f2⟩ := g3 j r hj
          refine ⟨k2, v2, f1, ?_⟩
          rw [AH.set_ne _ _ (oldL _ _ _ f2 (hvs _ (List.mem_of_getElem? f1))), AH.set_ne _ _ (old _ _ f2)]; exact f2
        · rw [List.getElem?_append_right (by omega)] at hj
          have hj0 : j - rs.length = 0 := by
            have := (List.getElem?_eq_some_iff.mp hj).1
            have : j - rs.length < 1 := this
            omega
          rw [hj0] at hj; cases hj
          refine ⟨k, v, by rw [show j = i by omega]; exact hc, ?_⟩
          rw [AH.set_ne _ _ n3.symm, AH.set_self]
      · intro b o e n
        have e' := g4 b o e n
        rw [AH.set_ne _ _ (nz e hD'), AH.set_ne _ _ (old _ _ e')]; exact e'
  · rintro mn Hn ⟨rs, g1, g2, g3, g4⟩ lk
    have hle : AH.le H1 (unl (H1.set D' (.list [])) [I] [P] Hn) := unl_le (fun b hb => by rw [List.mem_singleton.mp hb]; exact hI) (AH.le_set hD' _) g4
    rw [List.length_map] at g2
    have hrows : RowsAre (unl (H1.set D' (.list [])) [I] [P] Hn) rs fe := ⟨g2, fun j r hj => by
      obtain ⟨k, v, f1, f2⟩ := g3 j r hj
      exact ⟨k, v, f1, hvs _ (List.mem_of_getElem? f1), lk.unl_get f2 fun _ z => by cases z⟩⟩
    refine evs_cons (ev_local ok rfl (evs_nil (c_rows_array (C := C) (lv := lv) hB (lk.unl_get g1 fun _ z => by cases z) hrows (by omega) (by omega) fun x ba D2 H' l1 e1 e2 e3 => ?_)))
    rw [g2] at e1 e2
    exact q1 hne' x ba D2 H' ((le0.trans hle).trans l1) e1 e2 e3
end

theorem flatL_rows : ∀ (es : List (V × V)) (j : Nat) (k v : V), es[j]? = some (k, v) → ((flatL es).drop (2 * j)).take 2 = [k, v]
  | (k0, v0) :: es, 0, k, v, h => by cases h; rfl
  | (k0, v0) :: es, j + 1, k, v, h => by
    have h : es[j]? = some (k, v) := h
    have e : 2 * (j + 1) = 2 * j + 2 := by omega
    rw [e]
    show ((flatL es).drop (2 * j)).take 2 = _
    exact flatL_rows es j k v h
section
variable {C : Con} {lv : Nat} {H : AH} {Q : V → AH → Prop} {R : Int → AH → Prop}
theorem c_rows_of (hB : Base C.w C.base) {a ba I0 : Addr} {fs : List (Str × V)} {bs : List (Int × Int)} {xs : List V} {w r : Nat} (ha : H a = some (.inst 236 fs)) (hfb : fs.lookup ("bounds" : Str) = some (.ref ba)) (hfi : fs.lookup ("items" : Str) = some (.ref I0)) (hb : H ba = some (.list (boundsV bs))) (hI0 : H I0 = some (.list xs))
    (hbs : (∃ n, bs = [(1, n), (1, 2)] ∧ w = 2) ∨ (∃ p, bs = [p] ∧ w = 1)) (hlen : xs.length = w * r) (hz : xs.length ≤ 1000) (hsm : Builtin.Range.small 0 (w * r : Nat) w = true) (hrs : Builtin.Range.rangeSize 0 (w * r : Nat) w = (r : Int))
    (q : ∀ (D : Addr) (rs : List Addr) (H' : AH), AH.le H H' → H' D = some (.list (rs.map .ref)) → rs.length = r → (∀ (j : Nat) (x : Addr), rs[j]? = some x → H' x = some (.list ((xs.drop (w * j)).take w))) → Q (.ref D) H') : CW C (lv + 1) (.ref 345) [.ref a] H Q R := by
  refine cw_defc ok345 hB (body := bod st345) rfl rfl (fun A stk L own ok ow => ?_)
  have lb : (boundsV bs).length = bs.length := List.length_map ..
  have hw0 : 1 ≤ w ∧ w ≤ 2 := by rcases hbs with ⟨n, _, rfl⟩ | ⟨p, _, rfl⟩ <;> decide
  have hbl : bs.length ≤ 2 := by rcases hbs with ⟨n, rfl, _⟩ | ⟨p, rfl, _⟩; exact Nat.le_refl 2; exact Nat.le_succ 1
  refine ex_ifF (tv_cmp (ev_bcall (ev_blt ok rfl n_len b_len (fun _ _ => .bi _) ⟨rfl, evs_cons (ev_attr (ev_local ok rfl (ga_field ok ha get236_bounds hfb (evs_nil (bv_len (.inl hb) (by rw [lb]; omega) (ev_int (cmp_gt ⟨?_, ?_⟩)))))))⟩)))
  · rw [lb]; exact decide_eq_false (by omega)
  refine ex_asg (fun v H1 => v = .int w ∧ H = H1) ok ow ?_ ?_
  · rcases hbs with ⟨n, rfl, rfl⟩ | ⟨p, rfl, rfl⟩
    · refine ev_ifF (tv_cmp (ev_bcall (ev_blt ok rfl n_len b_len (fun _ _ => .bi _) ⟨rfl, evs_cons (ev_attr (ev_local ok rfl (ga_field ok ha get236_bounds hfb (evs_nil (bv_len (.inl hb) (by show 2 ≤ 1000000; decide) (ev_int (cmp_eq ⟨rfl, ?_⟩)))))))⟩)))
      have two : ∀ {K : V → AH → Prop} {R : Int → AH → Prop} {m : Locs} {p1 p2 p3 p4 : Pos} {k : Nat}, m.lookup ("array" : Str) = some (.ref a) → K (.tup [.int 1, .int 2]) H → EV (Cx.fn C lv A (callEnvC fd345 L 345) stk own) (.Subscript (.Attribute (.Name "array" p1) "bounds" p2) (.Constant (.int 1) k p3) p4) m H K R := fun hm hK =>
        ev_sub (ev_attr (ev_local ok hm (ga_field ok ha get236_bounds hfb (ev_int (gi_list (.inl hb) (by decide) (by show 2 ≤ 1000000; decide) rfl hK)))))
      exact ev_bin (ev_bin (ev_sub (two rfl (ev_int (gi_tup (by decide) (by show 2 ≤ 1000000; decide) rfl (ev_sub (two rfl (ev_int (gi_tup (by decide) (by show 2 ≤ 1000000; decide) rfl (op_sub (ev_int (op_add ⟨rfl, rfl⟩))))))))))))
    · refine ev_ifT (tv_cmp (ev_bcall (ev_blt ok rfl n_len b_len (fun _ _ => .bi _) ⟨rfl, evs_cons (ev_attr (ev_local ok rfl (ga_field ok ha get236_bounds hfb (evs_nil (bv_len (.inl hb) (by show 1 ≤ 1000000; decide) (ev_int (cmp_eq ⟨rfl, ?_⟩)))))))⟩)))
      exact ev_int ⟨rfl, rfl⟩
  rintro _ _ ⟨rfl, rfl⟩
  have hr : r ≤ xs.length := by rw [hlen]; exact Nat.le_mul_of_pos_left _ (by omega)
  refine ex_ret (ev_comp ok (cap := [("array", .ref a), ("wide", .int w)]) (iv_tcall (ev_blt ok rfl n_range b_range (fun _ _ => .ty _) ⟨rfl, evs_cons (ev_int (evs_cons (ev_bcall (ev_blt ok rfl n_len b_len (fun _ _ => .bi _) ⟨rfl, evs_cons (ev_attr (ev_local ok rfl (ga_field ok ha get236_items hfi (evs_nil (bv_len (.inl hI0) (by omega) (evs_cons (ev_local ok rfl (evs_nil ?_))))))))⟩))))⟩)) ?_ rfl)
  · rw [hlen]
    refine bi_range3 (n := r) ok (by omega) (pylong_small (by omega)) hsm hrs fun I hI => ?_
    intro C' D' ow' hD' hw1 hl1
    have ok' := okComp ok ow' rfl
    refine ⟨fun i mi Hi => (∀ y : Str, y ≠ "at" → mi.lookup y = ([("array", .ref a), ("wide", .int w)] : Locs).lookup y) ∧ ∃ rs : List Addr, Hi D' = some (.list (rs.map .ref)) ∧ rs.length = i ∧ (∀ (j : Nat) (x : Addr), rs[j]? = some x → x ≠ D' ∧ Hi x = some (.list ((xs.drop (w * j)).take w))) ∧ AH.le H Hi, ?_, ?_, ?_⟩
    · refine ⟨fun _ _ => rfl, [], ?_, rfl, (fun j r e => by cases e), fun b o e => ?_⟩
      · rw [lockH_ne hw1 hl1, AH.set_self]; rfl
      · rw [lockH_ne (nm e hI) List.not_mem_nil, AH.set_ne _ _ (nz e hD')]; exact e
    · rintro i x mi Hi hx ⟨hm, rs, g1, g2, g3, g4⟩ _
      unfold rangeL at hx
      rw [List.getElem?_map] at hx
      cases hc : (List.range r)[i]? with
      | none => rw [hc] at hx; cases hx
      | some k =>
        rw [hc] at hx
        obtain ⟨hi, hk⟩ := List.getElem?_eq_some_iff.mp hc
        rw [List.getElem_range] at hk
        rw [List.length_range] at hi
        subst hk
        have hx : V.int (0 + (i : Int) * w) = x := Option.some.inj hx
        have e0 : (0 + (i : Int) * w) = ((w * i : Nat) : Int) := by rw [Int.zero_add, Int.natCast_mul, Int.mul_comm]
        rw [e0] at hx
        subst hx
        have hm' : ∀ y : Str, y ≠ "at" → ((("at" : Str), V.int ((w * i : Nat) : Int)) :: mi : Locs).lookup y = ([("array", .ref a), ("wide", .int w)] : Locs).lookup y := fun y hy => by
          rw [List.lookup_cons, beq_eq_false_iff_ne.mpr hy]; exact hm y hy
        refine as_nameL ok' ow' ?_
        have hwi : w * i + w ≤ xs.length := by
          rw [hlen]
          calc w * i + w = w * (i + 1) := by rw [Nat.mul_add, Nat.mul_one]
            _ ≤ w * r := Nat.mul_le_mul_left _ hi
        refine ev_slice (ev_attr (ev_local ok' ((hm' "array" (by decide)).trans rfl) (ga_field ok' (g4 _ _ ha) get236_items hfi (show PartV _ _ _ _ _ _ from (ev_local ok' rfl ⟨_, rfl, (show PartV _ _ _ _ _ _ from ev_bin (ev_local ok' rfl (ev_local ok' ((hm' "wide" (by decide)).trans rfl) (op_add ⟨_, rfl, (show PartV _ _ _ _ _ _ from .inl ⟨I0, xs, rfl, .inl (g4 _ _ hI0), by decide, by omega, fun D3 hD3 => ?_⟩)⟩))))⟩)))))
        have n3 : D' ≠ D3 := (nz g1 hD3)
        have old : ∀ b o, Hi b = some o → b ≠ D3 := fun b o e z => by rw [z, hD3] at e; cases e
        have esl : sliceV xs (some ((w * i : Nat) : Int)) (some (((w * i : Nat) : Int) + w)) none = (xs.drop (w * i)).take w := by
          rw [slice_plain]
          unfold kms_lo kms_hi
          dsimp only
          rw [if_neg (by omega), if_neg (by omega)]
          have a1 : min (Int.toNat ((w * i : Nat) : Int)) xs.length = w * i := by omega
          have a2 : min (Int.toNat (((w * i : Nat) : Int) + w)) xs.length = w * i + w := by omega
          rw [a1, a2, Nat.add_sub_cancel_left]
        rw [esl]
        refine ⟨rs.map .ref, by rw [AH.set_ne _ _ n3]; exact g1, by rw [List.length_map]; omega, hm', rs ++ [D3], ?_, ?_, ?_, ?_⟩
        · rw [AH.set_self, List.map_append]; rfl
        · rw [List.length_append, g2]; rfl
        · intro j x hj
          by_cases hjl : j < rs.length
          · rw [List.getElem?_append_left hjl] at hj
            obtain ⟨f1, f2⟩ := g3 j x hj
            refine ⟨f1, ?_⟩
            rw [AH.set_ne _ _ f1, AH.set_ne _ _ (old _ _ f2)]; exact f2
          · rw [List.getElem?_append_right (by omega)] at hj
            have hj0 : j - rs.length = 0 := by
              have := (List.getElem?_eq_some_iff.mp hj).1
              have : j - rs.length < 1 := this
              omega
            rw [hj0] at hj; cases hj
            refine ⟨n3.symm, ?_⟩
            rw [AH.set_ne _ _ n3.symm, AH.set_self, show j = i by omega]
        · intro b o e
          have e' := g4 b o e
          rw [AH.set_ne _ _ (nz e hD'), AH.set_ne _ _ (old _ _ e')]; exact e'
    · rintro mn Hn ⟨_, rs, g1, g2, g3, g4⟩ lk
      have hle : AH.le H (unl (H.set D' (.list [])) [I] [] Hn) := unl_le (fun b hb => by rw [List.mem_singleton.mp hb]; exact hI) (AH.le_set hD' _) fun b o e _ => g4 b o e
      have g2 : rs.length = r := by rw [g2]; unfold rangeL; rw [List.length_map, List.length_range]
      exact q D' rs _ hle (lk.unl_get g1 fun _ z => by cases z) g2 fun j x hj => lk.unl_get (g3 j x hj).2 fun _ z => by cases z
  · refine Caps.of (fun p hp => ?_) fun p hp h1 h2 => ?_
    · simp only [List.mem_cons, List.not_mem_nil, or_false] at hp
      rcases hp with rfl | rfl
      · exact ⟨rfl, by show some NameKind.cell ≠ _; decide, .inl rfl, rfl⟩
      · exact ⟨rfl, by show some NameKind.cell ≠ _; decide, .inl rfl, rfl⟩
    · simp only [List.mem_cons, List.not_mem_nil, or_false] at hp
      rcases hp with rfl | rfl
      · exact ⟨rfl, rfl⟩
      · exact ⟨rfl, rfl⟩
end

noncomputable abbrev tabF (nm : Int) (D : Addr) : List (Str × V) := [("word", .str "TABLE"), ("number", .int nm), ("mark", .int 0), ("entries", .ref D)]
theorem kvGet_none {kvs : List (List KV × V)} {k : List KV} (h : k ∉ kvs.map (·.1)) : kvGet kvs k = none := by
  unfold kvGet
  have : kvs.find? (fun x => decide (x.1 = k)) = none := by
    rw [List.find?_eq_none]
    intro x hx
    have : x.1 ≠ k := fun q => h (q ▸ List.mem_map.mpr ⟨x, hx, rfl⟩)
    simp [this]
  rw [this]; rfl
theorem kvPut_new {kvs : List (List KV × V)} {k : List KV} {v : V} (h : kvGet kvs k = none) : kvPut kvs k v = kvs ++ [(k, v)] := by
  unfold kvPut
  rw [h, if_neg (by decide)]
theorem EntsAre.append {H : AH} {kvs es kvs' es'} (h : EntsAre H kvs es) (h' : EntsAre H kvs' es') : EntsAre H (kvs ++ kvs') (es ++ es') := by
  induction h with
  | nil => exact h'
  | cons hp hv _ ih => exact .cons hp hv ih
theorem EntsAre.of {H H' : AH} {kvs es} (h : EntsAre H kvs es) (l : ∀ b k v, IsVal v → H b = some (.list [k, v]) → H' b = some (.list [k, v])) : EntsAre H' kvs es := by
  induction h with
  | nil => exact .nil
  | cons hp hv _ ih => exact .cons (l _ _ _ hv hp) hv ih
/-- the keys of the entries -/
def KeysAre (H : AH) (es : List (V × V)) (kss : List (List KV)) : Prop := kss.length = es.length ∧ ∀ (i : Nat) (e : V × V), es[i]? = some e → ∃ vs ks, kss[i]? = some ks ∧ IsKey H e.1 vs ks
theorem not_mem_take {kss : List (List KV)} (h : kss.Nodup) {i : Nat} {k : List KV} (hk : kss[i]? = some k) : k ∉ kss.take i := fun hm => by
  obtain ⟨j, hj⟩ := List.getElem?_of_mem hm
  obtain ⟨hi, hie⟩ := List.getElem?_eq_some_iff.mp hk
  obtain ⟨hjl, hje⟩ := List.getElem?_eq_some_iff.mp hj
  rw [List.length_take] at hjl
  rw [List.getElem_take] at hje
  exact (List.pairwise_iff_getElem.mp h) j i (by omega) hi (by omega) (hje.trans hie.symm)
theorem ref_list_ne {H : AH} {R b : Addr} {rs : List Addr} {k v : V} (hR : H R = some (.list (rs.map .ref))) (hb : H b = some (.list [k, v])) (hv : IsVal v) : b ≠ R := fun q => by
  rw [q, hR] at hb
  exact refs_ne hv (AO.list.inj (Option.some.inj hb))
section
variable {C : Con} {lv : Nat} {H : AH} {Q : V → AH → Prop} {R : Int → AH → Prop}
theorem c_array_to_table (hB : Base C.w C.base) {a ba I0 : Addr} {fs : List (Str × V)} {es : List (V × V)} {kss : List (List KV)} {nm : Int} (ha : H a = some (.inst 236 fs)) (hfb : fs.lookup ("bounds" : Str) = some (.ref ba)) (hfi : fs.lookup ("items" : Str) = some (.ref I0))
    (hb : H ba = some (.list (boundsV [(1, es.length), (1, 2)]))) (hI0 : H I0 = some (.list (flatL es))) (h1 : 1 ≤ es.length) (h2 : es.length < 10) (hk : KeysAre H es kss) (hnd : kss.Nodup) (hvs : ∀ e ∈ es, IsVal e.2)
    (q : ∀ x D kvs H', AH.le H H' → H' x = some (.inst 255 (tabF nm D)) → H' D = some (.dict kvs) → EntsAre H' kvs es → Q (.ref x) H') : CW C (lv + 4) (.ref 352) [.ref a, .int nm] H Q R := by
  refine cw_def ok352 hB (body := bod st352) rfl rfl (fun A stk L own ok ow => ?_)
  have hsm : ∀ n : Nat, n < 10 → Builtin.Range.small 0 (2 * n : Nat) (2 : Nat) = true ∧ (1 ≤ n → Builtin.Range.rangeSize 0 (2 * n : Nat) (2 : Nat) = (n : Int)) := by decide
  refine ex_asg (fun v H1 => ∃ (P : Addr) (rs : List Addr), v = .ref P ∧ AH.le H H1 ∧ H1 P = some (.list (rs.map .ref)) ∧ rs.length = es.length ∧ ∀ (j : Nat) (x : Addr), rs[j]? = some x → H1 x = some (.list (((flatL es).drop (2 * j)).take 2))) ok ow
    (ev_call ok ok345.keep (lv := lv + 3) (ev_glob ok rfl g_rows_of ⟨rfl, evs_cons (ev_local ok rfl (evs_nil (c_rows_of (C := C) (lv := lv + 2) (w := 2) (r := es.length) hB ha hfb hfi hb hI0 (.inl ⟨_, rfl, rfl⟩) (flatL_len es) (by rw [flatL_len]; omega) (hsm _ h2).1 ((hsm _ h2).2 h1) fun D rs H' l1 e1 e2 e3 => ⟨D, rs, rfl, l1, e1, e2, e3⟩)))⟩) (Nat.le_refl _)) ?_
  rintro _ H1 ⟨P, rs, rfl, l1, hP, hrl, hrows⟩
  have hb1 := l1 _ _ hb
  have row : ∀ (j : Nat) (x : Addr), rs[j]? = some x → ∃ k v, es[j]? = some (k, v) ∧ IsVal v ∧ H1 x = some (.list [k, v]) := fun j x hj => by
    have hjl : j < es.length := by have := (List.getElem?_eq_some_iff.mp hj).1; omega
    have he : es[j]? = some es[j] := List.getElem?_eq_getElem hjl
    generalize hee : es[j] = e at he
    obtain ⟨k, v⟩ := e
    refine ⟨k, v, he, hvs _ (List.mem_of_getElem? he), ?_⟩
    rw [hrows j x hj, flatL_rows es j k v he]
  obtain ⟨r0, hr0⟩ : ∃ r0, rs[0]? = some r0 := ⟨rs[0], List.getElem?_eq_getElem (by omega)⟩
  obtain ⟨k0, v0, _, _, hl0⟩ := row 0 r0 hr0
  refine ex_ifF (tv_bool (at_or (tv_cmp (ev_local ok rfl (ev_none (cmp_is ⟨(fun z => by cases z), fun _ => ?_⟩))))))
  refine at_or (tv_cmp (ev_bcall (ev_blt ok rfl n_len b_len (fun _ _ => .bi _) ⟨rfl, evs_cons (ev_attr (ev_local ok rfl (ga_field ok (l1 _ _ ha) get236_bounds hfb (evs_nil (bv_len (.inl hb1) (by show 2 ≤ 1000000; decide) (ev_int (cmp_ne ⟨(fun z => by cases z), fun _ => ?_⟩)))))))⟩)))
  refine at_or1 (tv_cmp (ev_bcall (ev_blt ok rfl n_len b_len (fun _ _ => .bi _) ⟨rfl, evs_cons (ev_sub (ev_local ok rfl (ev_int (gi_list (.inl hP) (by decide) (by rw [List.length_map]; omega) (by rw [List.getElem?_map]; show Option.map _ rs[0]? = _; rw [hr0]; rfl) (evs_nil (bv_len (.inl hl0) (by show 2 ≤ 1000000; decide) (ev_int (cmp_ne ⟨rfl, ?_⟩))))))))⟩)))
  refine ex_asg (fun v H2 => ∃ x D, v = .ref x ∧ AH.le H1 H2 ∧ H2 x = some (.inst 255 (tabF nm D)) ∧ H2 D = some (.dict []) ∧ H1 x = none ∧ H1 D = none) ok ow
    (ev_call ok keep255 (lv := lv + 3) (ev_glob ok rfl g_Table ⟨rfl, evs_cons (ev_local ok rfl (evs_nil (c_Table (C := C) (lv := lv) hB fun x d D H' hx hD hd hxD hdx e1 e2 e3 => ⟨x, D, rfl, fun b o e => by rw [e3 b (nz e hx) (nz e hD) (nz e hd)]; exact e, e1, e2, hx, hD⟩)))⟩) (Nat.le_refl _)) ?_
  rintro _ H2 ⟨x, D, rfl, l2, hx, hD, hx1, hD1⟩
  have hP2 := l2 _ _ hP
  refine ex_for ok Top1.fn (iv_of (ev_local ok rfl (it_list ok hP2 fun I hI => ⟨fun i mi Hi => mi.lookup ("found" : Str) = some (.ref x) ∧ ∃ kvs, Hi x = some (.inst 255 (tabF nm D)) ∧ Hi D = some (.dict kvs) ∧ EntsAre Hi kvs (es.take i) ∧ kvs.map (·.1) = kss.take i ∧ ∀ b o, H1 b = some o → b ∉ [P] → Hi b = some o, ?_, ?_, ?_⟩)))
  · have rd : ∀ b o, H2 b = some o → b ∉ [P] → lockH H2 [I] [P] b = some o := fun b o e n => by rw [lockH_ne (fun z => by rw [List.mem_singleton.mp z, hI] at e; cases e) n]; exact e
    refine ⟨rfl, [], rd _ _ hx fun z => ?_, rd _ _ hD fun z => ?_, .nil, rfl, fun b o e n => rd _ _ (l2 b o e) n⟩
    · rw [List.mem_singleton.mp z, hP2] at hx; cases hx
    · rw [List.mem_singleton.mp z, hP2] at hD; cases hD
  · rintro i xv mi Hi hxv ⟨hm, kvs, g1, g2, g3, g4, g5⟩ _
    rw [List.getElem?_map] at hxv
    cases hc : rs[i]? with
    | none => rw [hc] at hxv; cases hxv
    | some r =>
      rw [hc] at hxv; cases hxv
      obtain ⟨k, v, he, hv, hr⟩ := row i r hc
      have hri : Hi r = some (.list [k, v]) := g5 _ _ hr fun z => ref_list_ne hP hr hv (List.mem_singleton.mp z)
      obtain ⟨vs, ks, hks, key⟩ := hk.2 i _ he
      have key' : IsKey Hi k vs ks := key.of fun b K f e => g5 _ _ (l1 _ _ e) fun z => by have := l1 _ _ e; rw [List.mem_singleton.mp z, hP] at this; cases this
      have hil : i < es.length := (List.getElem?_eq_some_iff.mp he).1
      have hkl : kvs.length = i := by have := congrArg List.length g4; rw [List.length_map, List.length_take, hk.1] at this; omega
      have hg0 : kvGet kvs ks = none := kvGet_none (by rw [g4]; exact not_mem_take hnd hks)
      refine as_pairL ok (.inl hri) (as_name ok ow (.inl rfl) (as_name ok ow (.inl rfl) ?_))
      refine ex_cons (es_setitem (ev_local ok rfl (ev_call ok ok299.keep (lv := lv + 3) (ev_glob ok rfl g_table_entry ⟨rfl, evs_cons (ev_local ok hm (evs_cons (ev_local ok rfl (evs_nil (c_table_entry (C := C) (lv := lv) hB g1 rfl g2 key' (by omega) (fun w hw => by rw [hg0] at hw; cases hw) fun _ p hp => ?_)))))⟩) (Nat.le_refl _))))
      have hpD : p ≠ D := ((nz g2 hp).symm)
      refine ev_int (si_list (by rw [AH.set_ne _ _ hpD]; exact AH.set_self _ _ _) (by decide) (by show 2 ≤ 1000000; decide) (by show (1 : Int) < 2; decide) (ex_nil ?_))
      have old : ∀ b o, Hi b = some o → b ≠ D → (((Hi.set p (.list [k, .str ""])).set D (.dict (kvPut kvs ks (.ref p)))).set p (.list ([k, .str ""].set (Int.toNat 1) v))) b = some o := fun b o e n => by
        have n1 : b ≠ p := (nz e hp)
        rw [AH.set_ne _ _ n1, AH.set_ne _ _ n, AH.set_ne _ _ n1]; exact e
      refine ⟨hm, kvs ++ [(ks, .ref p)], old _ _ g1 fun z => ?_, ?_, ?_, ?_, fun b o e n => old _ _ (g5 b o e n) fun z => ?_⟩
      · rw [z, g2] at g1; cases g1
      · rw [AH.set_ne _ _ hpD.symm, AH.set_self, kvPut_new hg0]
      · rw [List.take_add_one, he]
        refine EntsAre.append (g3.of fun b k v hv e => old _ _ e fun z => by rw [z, g2] at e; cases e) ?_
        exact .cons (AH.set_self _ _ _) hv .nil
      · rw [List.map_append, g4, List.take_add_one, hks]; rfl
      · rw [z, hD1] at e; cases e
  · rintro mn Hn ⟨hm, kvs, g1, g2, g3, g4, g5⟩ lk
    rw [List.length_map, hrl, List.take_length] at g3
    refine ex_ret (ev_local ok hm (q x D kvs _ ?_ (lk.unl_get g1 fun _ z => by cases z) (lk.unl_get g2 fun _ z => by cases z) (g3.of fun b k v _ e => lk.unl_get e fun _ z => by cases z)))
    exact l1.trans (unl_le (fun b hb => by
      rw [List.mem_singleton.mp hb]
      cases z : H1 I with
      | none => rfl
      | some o => rw [l2 _ _ z] at hI; cases hI) l2 g5)
theorem c_array_to_none (hB : Base C.w C.base) {a ba I0 : Addr} {fs : List (Str × V)} {nm : V} (ha : H a = some (.inst 236 fs)) (hfb : fs.lookup ("bounds" : Str) = some (.ref ba)) (hfi : fs.lookup ("items" : Str) = some (.ref I0))
    (hb : H ba = some (.list (boundsV [(1, 3)]))) {v : V} (hI0 : H I0 = some (.list [v, v, v])) (q : ∀ H', AH.le H H' → Q .none H') : CW C (lv + 2) (.ref 352) [.ref a, nm] H Q R := by
  refine cw_def ok352 hB (body := bod st352) rfl rfl (fun A stk L own ok ow => ?_)
  refine ex_asg (fun v H1 => ∃ (P : Addr), v = .ref P ∧ AH.le H H1) ok ow
    (ev_call ok ok345.keep (lv := lv + 1) (ev_glob ok rfl g_rows_of ⟨rfl, evs_cons (ev_local ok rfl (evs_nil (c_rows_of (C := C) (lv := lv) (w := 1) (r := 3) hB ha hfb hfi hb hI0 (.inr ⟨_, rfl, rfl⟩) rfl (by show 3 ≤ 1000; decide) (by decide) (by decide) fun D rs H' l1 e1 e2 e3 => ⟨D, rfl, l1⟩)))⟩) (Nat.le_refl _)) ?_
  rintro _ H1 ⟨P, rfl, l1⟩
  refine ex_ifT (tv_bool (at_or (tv_cmp (ev_local ok rfl (ev_none (cmp_is ⟨(fun z => by cases z), fun _ => ?_⟩))))))
  refine at_or (tv_cmp (ev_bcall (ev_blt ok rfl n_len b_len (fun _ _ => .bi _) ⟨rfl, evs_cons (ev_attr (ev_local ok rfl (ga_field ok (l1 _ _ ha) get236_bounds hfb (evs_nil (bv_len (.inl (l1 _ _ hb)) (by show 1 ≤ 1000000; decide) (ev_int (cmp_ne ⟨(fun _ => ⟨rfl, ex_ret (ev_none (q H1 l1))⟩), fun z => by cases z⟩)))))))⟩)))
end

/-- a key as same_value sees it -/
inductive SK (H : AH) : V → Str → KV → Prop
  | int (i : Int) : SK H (.int i) "INTEGER" (.inr i)
  | str (x : Str) : SK H (.str x) "STRING" (.inl x)
  | arr {a fs n} : H a = some (.inst 236 fs) → fs.lookup ("word" : Str) = some (.str "ARRAY") → fs.lookup ("number" : Str) = some (.int n) → SK H (.ref a) "ARRAY" (.inr n)
  | tab {a fs n} : H a = some (.inst 255 fs) → fs.lookup ("word" : Str) = some (.str "TABLE") → fs.lookup ("number" : Str) = some (.int n) → SK H (.ref a) "TABLE" (.inr n)
section
variable {C : Con} {lv : Nat} {H : AH} {Q : V → AH → Prop} {R : Int → AH → Prop}
theorem c_kind (hB : Base C.w C.base) {v : V} {w : Str} {n : KV} (k : SK H v w n) (q : Q (.str w) H) : CW C (lv + 1) (.ref 149) [v] H Q R := by
  cases k with
  | int i => exact c_kind_int hB q
  | str x => exact c_kind_str hB q
  | arr h1 h2 h3 => exact c_kind_arr hB h1 h2 q
  | tab h1 h2 h3 => exact c_kind_tab hB h1 h2 q
theorem c_same (hB : Base C.w C.base) {v1 v2 : V} {w1 w2 : Str} {n1 n2 : KV} (k1 : SK H v1 w1 n1) (k2 : SK H v2 w2 n2) (q : Q (.bool (decide (w1 = w2 ∧ n1 = n2))) H) : CW C (lv + 2) (.ref 212) [v1, v2] H Q R := by
  refine cw_def ok212 hB (body := bod st212) rfl rfl (fun A stk L own ok ow => ?_)
  refine ex_if (tv_cmp (ev_call ok ok149.keep (lv := lv + 1) (ev_glob ok rfl g_kind_of ⟨rfl, evs_cons (ev_local ok rfl (evs_nil (c_kind (C := C) hB k1 (ev_call ok ok149.keep (lv := lv + 1) (ev_glob ok rfl g_kind_of ⟨rfl, evs_cons (ev_local ok rfl (evs_nil (c_kind (C := C) hB k2 (cmp_neS ⟨fun e => ?_, fun e => ?_⟩))))⟩) (Nat.le_refl _)))))⟩) (Nat.le_refl _)))
  · have : ¬ (w1 = w2 ∧ n1 = n2) := fun z => by rw [z.1] at e; simp at e
    rw [decide_eq_false this] at q
    exact ex_ret (ev_bool q)
  have hw : w1 = w2 := by simpa using e
  have hq : Q (.bool (decide (n1 = n2))) H := by
    have e : decide (w1 = w2 ∧ n1 = n2) = decide (n1 = n2) := decide_eq_decide.mpr ⟨fun z => z.2, fun z => ⟨hw, z⟩⟩
    rw [e] at q; exact q
  cases k1 with
  | int i =>
    cases k2 with
    | int j =>
      refine ex_ifT (tv_call (ev_call ok ok163.keep (lv := lv + 1) (ev_glob ok rfl g_is_plain ⟨rfl, evs_cons (ev_local ok rfl (evs_nil (c_is_plain (C := C) hB (.int i) noKit is_int_plain ⟨rfl, rfl, ?_⟩)))⟩) (Nat.le_refl _)))
      refine ex_ret (ev_cmp (ev_local ok rfl (ev_local ok rfl (cmp_eq ?_))))
      have e : (i == j) = decide ((Sum.inr i : KV) = .inr j) := by by_cases z : i = j <;> simp [z]
      rw [e]; exact hq
    | str y => exact absurd hw (by decide)
    | arr => exact absurd hw (by decide)
    | tab => exact absurd hw (by decide)
  | str x =>
    cases k2 with
    | str y =>
      refine ex_ifT (tv_call (ev_call ok ok163.keep (lv := lv + 1) (ev_glob ok rfl g_is_plain ⟨rfl, evs_cons (ev_local ok rfl (evs_nil (c_is_plain (C := C) hB (.str x) noKit is_str_plain ⟨rfl, rfl, ?_⟩)))⟩) (Nat.le_refl _)))
      refine ex_ret (ev_cmp (ev_local ok rfl (ev_local ok rfl (cmp_eqS ?_))))
      have e : (x == y) = decide ((Sum.inl x : KV) = .inl y) := by by_cases z : x = y <;> simp [z]
      rw [e]; exact hq
    | int j => exact absurd hw (by decide)
    | arr => exact absurd hw (by decide)
    | tab => exact absurd hw (by decide)
  | @arr a fs i h1 h2 h3 =>
    cases k2 with
    | @arr b gs j f1 f2 f3 =>
      refine ex_ifF (tv_call (ev_call ok ok163.keep (lv := lv + 1) (ev_glob ok rfl g_is_plain ⟨rfl, evs_cons (ev_local ok rfl (evs_nil (c_is_plain (C := C) hB (.inst h1) (kitR kit236) is_r236_plain ⟨rfl, rfl, ?_⟩)))⟩) (Nat.le_refl _)))
      refine ex_ifT (tv_call (ev_isC ok rfl (.inst h1) (kitR kit236) is_r236_138 g_Holder ⟨rfl, rfl, ?_⟩))
      refine ex_ret (ev_cmp (ev_attr (ev_local ok rfl (ga_field ok h1 get236_number h3 (ev_attr (ev_local ok rfl (ga_field ok f1 get236_number f3 (cmp_eq ?_))))))))
      have e : (i == j) = decide ((Sum.inr i : KV) = .inr j) := by by_cases z : i = j <;> simp [z]
      rw [e]; exact hq
    | int j => exact absurd hw (by decide)
    | str y => exact absurd hw (by decide)
    | tab => exact absurd hw (by decide)
  | @tab a fs i h1 h2 h3 =>
    cases k2 with
    | @tab b gs j f1 f2 f3 =>
      refine ex_ifF (tv_call (ev_call ok ok163.keep (lv := lv + 1) (ev_glob ok rfl g_is_plain ⟨rfl, evs_cons (ev_local ok rfl (evs_nil (c_is_plain (C := C) hB (.inst h1) (kitR kit255) is_r255_plain ⟨rfl, rfl, ?_⟩)))⟩) (Nat.le_refl _)))
      refine ex_ifT (tv_call (ev_isC ok rfl (.inst h1) (kitR kit255) is_r255_138 g_Holder ⟨rfl, rfl, ?_⟩))
      refine ex_ret (ev_cmp (ev_attr (ev_local ok rfl (ga_field ok h1 get255_number h3 (ev_attr (ev_local ok rfl (ga_field ok f1 get255_number f3 (cmp_eq ?_))))))))
      have e : (i == j) = decide ((Sum.inr i : KV) = .inr j) := by by_cases z : i = j <;> simp [z]
      rw [e]; exact hq
    | int j => exact absurd hw (by decide)
    | str y => exact absurd hw (by decide)
    | arr => exact absurd hw (by decide)
end

def BoxIs (H : AH) (a L : Addr) : Prop := a ≠ L ∧ ∃ (ns : List Int) (b : Int), H a = some (.list [.ref L, .int b]) ∧ H L = some (.list (intsV ns)) ∧ ns.length ≤ 1000
theorem BoxIs.of {H H' : AH} {a L : Addr} (h : BoxIs H a L) (ha : H' a = H a) (hL : H' L = H L) : BoxIs H' a L := by
  obtain ⟨n, ns, b, e1, e2, l⟩ := h
  exact ⟨n, ns, b, ha.trans e1, hL.trans e2, l⟩
theorem fmod_nat (i : Int) {m : Nat} (hm : 0 < m) : ∃ r : Nat, i.fmod m = (r : Int) ∧ r < m := by
  have h0 : 0 ≤ i.fmod m := Int.fmod_nonneg_of_pos _ (by omega)
  have h1 : i.fmod m < m := Int.fmod_lt_of_pos _ (by omega)
  exact ⟨(i.fmod m).toNat, by omega, by omega⟩
section
variable {C : Con} {lv : Nat} {H : AH} {Q : V → AH → Prop} {R : Int → AH → Prop}
theorem c_take (hB : Base C.w C.base) {a L : Addr} {m : Nat} (hb : BoxIs H a L) (hm : 0 < m) (q : ∀ (r : Nat) (H' : AH), r < m → BoxIs H' a L → (∀ b, b ≠ a → b ≠ L → H' b = H b) → Q (.int r) H') : CW C (lv + 1) (.ref 359) [.ref a, .int m] H Q R := by
  refine cw_def ok359 hB (body := bod st359) rfl rfl (fun A stk L' own ok ow => ?_)
  obtain ⟨hne, ns, b, ha, hL, hz⟩ := hb
  have lm : (intsV ns).length = ns.length := List.length_map ..
  refine ex_if (tv_cmp (ev_bcall (ev_blt ok rfl n_len b_len (fun _ _ => .bi _) ⟨rfl, evs_cons (ev_sub (ev_local ok rfl (ev_int (gi_list (.inl ha) (by decide) (by show 2 ≤ 1000000; decide) rfl (evs_nil (bv_len (.inl hL) (by rw [lm]; omega) (ev_int (cmp_gt ⟨fun h => ?_, fun h => ?_⟩))))))))⟩)))
  · rw [lm] at h
    have h := of_decide_eq_true h
    cases ns with
    | nil => exact absurd h (by decide)
    | cons i ns =>
      have hz' : ns.length + 1 ≤ 1000 := hz
      refine ex_ret (ev_bin (ev_meth F.plainAttrs_list F.slot_list_pop rfl (ev_sub (ev_local ok rfl (ev_int (gi_list (.inl ha) (by decide) (by show 2 ≤ 1000000; decide) rfl ⟨ty_list (.inl hL), evs_cons (ev_int (evs_nil (bv_pop0 (v := .int i) (acc := intsV ns) hL (by unfold intsV; rw [List.length_map]; omega) (ev_local ok rfl (op_mod (by omega) ?_)))))⟩))))))
      obtain ⟨r, e, hr⟩ := fmod_nat i hm
      rw [e]
      refine q r _ hr ⟨hne, ns, b, by rw [AH.set_ne _ _ hne]; exact ha, AH.set_self _ _ _, by omega⟩ fun c n1 n2 => AH.set_ne _ _ n2
  · refine ex_cons (es_setitem (ev_bin (ev_bin (ev_bin (ev_sub (ev_local ok rfl (ev_int (gi_list (.inl ha) (by decide) (by show 2 ≤ 1000000; decide) rfl (ev_int (op_mul (IntMulOk.of_right (by decide)) (ev_int (op_add (ev_int (op_mod (by decide) (ev_local ok rfl (ev_int (si_list ha (by decide) (by show 2 ≤ 1000000; decide) (by show (1 : Int) < 2; decide) ?_)))))))))))))))))
    have e1 : (H.set a (.list ([V.ref L, .int b].set (Int.toNat 1) (.int ((b * 4099 + 12301).fmod 1000003))))) a = some (.list [.ref L, .int ((b * 4099 + 12301).fmod 1000003)]) := AH.set_self _ _ _
    refine ex_ret (ev_bin (ev_bin (ev_sub (ev_local ok rfl (ev_int (gi_list (.inl e1) (by decide) (by show 2 ≤ 1000000; decide) rfl (ev_int (op_div (by decide) (pylong_small (by decide)) (ev_local ok rfl (op_mod (by omega) ?_))))))))))
    obtain ⟨r, e, hr⟩ := fmod_nat (((b * 4099 + 12301).fmod 1000003).fdiv 16) hm
    rw [e]
    exact q r _ hr ⟨hne, ns, _, e1, by rw [AH.set_ne _ _ hne.symm]; exact hL, hz⟩ fun c n1 n2 => AH.set_ne _ _ n1
theorem c_box (hB : Base C.w C.base) {ns : List Int} (hz : ns.length ≤ 1000) (q : ∀ (a L : Addr) (H' : AH), AH.le H H' → H a = none → H L = none → BoxIs H' a L → Q (.ref a) H') : CW C (lv + 1) (.ref 364) [.lst (intsV ns)] H Q R := by
  refine cw_def ok364 hB (body := bod st364) rfl rfl (fun A stk L' own ok ow => ?_)
  have esl : sliceV (intsV ns) none (some 40) none = intsV (ns.take 40) := by
    rw [slice_plain]
    unfold kms_lo kms_hi
    dsimp only
    rw [if_neg (by decide)]
    show ((intsV ns).drop 0).take (min 40 (intsV ns).length - 0) = _
    rw [List.drop_zero, Nat.sub_zero]
    unfold intsV
    rw [List.map_take]
    exact kmk_take_min _ _
  have l40 : (ns.take 40).length ≤ 40 := List.length_take_le ..
  generalize hts : ns.take 40 = ts at esl l40
  have lm : (intsV ts).length = ts.length := List.length_map ..
  have sl : ∀ {Γ : Cx} {m : Locs} {H : AH} {K : V → AH → Prop} {R : Int → AH → Prop} {p1 p2 p3 p4 : Pos} {k : Nat} (ok : Γ.Ok), m.lookup ("script" : Str) = some (.lst (intsV ns)) → (∀ D, H D = none → K (.ref D) (H.set D (.list (intsV ts)))) → EV Γ (.Subscript (.Name "script" p1) (.Slice none (some (.Constant (.int 40) k p2)) none p3) p4) m H K R := fun ok hm hK =>
    ev_slice (ev_local ok hm (show PartV _ _ _ _ _ _ from (show PartV _ _ _ _ _ _ from (ev_int ⟨40, rfl, .inr (.inl ⟨_, rfl, by decide, by unfold intsV; rw [List.length_map]; omega, fun D hD => by rw [esl]; exact hK D hD⟩)⟩))))
  refine ex_asg (fun v H1 => ∃ (a L : Addr) (b : Int) (zs : List Int), v = .ref a ∧ H a = none ∧ H L = none ∧ AH.le H H1 ∧ a ≠ L ∧ H1 a = some (.list [.ref L, .int b]) ∧ H1 L = some (.list (intsV zs)) ∧ zs.length = ts.length) ok ow
    (ev_list (evs_cons (ev_comp ok (cap := []) (iv_of (sl ok rfl fun D hD => it_list ok (AH.set_self _ _ _) fun I hI => ?_)) Caps.nil rfl))) ?_
  · refine comp_gen (ts.map fun i => some (.int (if i < 0 then -i else i))) ["number"] ok (fun b hb => by rw [List.mem_singleton.mp hb]; exact hI) (by rw [List.length_map, lm]) (by rw [lm]; omega) rfl (fun C' i x y mi Hi hx hy ok' ow' rd rl hm => ?_) (fun L hL => ?_)
    · unfold intsV at hx
      rw [List.getElem?_map] at hx hy
      cases hc : ts[i]? with
      | none => rw [hc] at hx; cases hx
      | some z =>
        rw [hc] at hx hy; cases hx; cases hy
        refine as_nameL ok' ow' ⟨rfl, fun z hz => ?_, rfl, rfl, fun v hv => ?_⟩
        · rw [List.lookup_cons, beq_eq_false_iff_ne.mpr fun w => hz (by rw [w]; exact List.mem_singleton.mpr rfl)]; exact hm z hz
        · cases hv
          exact ev_bcall (ev_blt ok' rfl n_abs b_abs (fun _ _ => .bi _) ⟨rfl, evs_cons (ev_local ok' rfl (evs_nil (bv_abs ⟨rfl, rfl⟩)))⟩)
    · have e : (ts.map fun i => some (V.int (if i < 0 then -i else i))).filterMap id = intsV (ts.map fun i => if i < 0 then -i else i) := by
        unfold intsV; rw [List.filterMap_map, List.map_map]
        show ts.filterMap (fun i => some (V.int (if i < 0 then -i else i))) = _
        rw [List.filterMap_eq_map']
        rfl
      rw [e]
      refine evs_cons (ev_int (evs_nil ⟨by show 2 ≤ 1000; decide, fun a ha => ?_⟩))
      have naL : a ≠ L := ((nz (AH.set_self _ _ _) ha).symm)
      rw [AH.set_ne _ _ naL] at ha
      have naD : a ≠ D := ((nz (AH.set_self _ _ _) ha).symm)
      have nLD : L ≠ D := ((nz (AH.set_self _ _ _) hL).symm)
      rw [AH.set_ne _ _ naD] at ha
      rw [AH.set_ne _ _ nLD] at hL
      refine ⟨a, L, 23, ts.map fun i => if i < 0 then -i else i, rfl, ha, hL, fun b o e => ?_, naL, AH.set_self _ _ _, by rw [AH.set_ne _ _ naL.symm, AH.set_self], List.length_map ..⟩
      rw [AH.set_ne _ _ (nz e ha), AH.set_ne _ _ (nz e hL), AH.set_ne _ _ (nz e hD)]; exact e
  rintro _ H1 ⟨a, L, b, zs, rfl, ha, hL, l1, naL, e1, e2, hzl⟩
  refine ex_for ok Top1.fn (iv_of (sl ok rfl fun D hD => it_list ok (AH.set_self _ _ _) fun I hI => ⟨fun i mi Hi => mi.lookup ("box" : Str) = some (.ref a) ∧ (∃ b, Hi a = some (.list [.ref L, .int b])) ∧ ∀ c o, H1 c = some o → c ≠ a → Hi c = some o, ?_, ?_, ?_⟩))
  · have rd : ∀ c o, H1 c = some o → lockH (H1.set D (.list (intsV ts))) [I] [D] c = some o := fun c o e => by
      have ncD : c ≠ D := (nz e hD)
      have e' : (H1.set D (.list (intsV ts))) c = some o := by rw [AH.set_ne _ _ ncD]; exact e
      rw [lockH_ne (nm e' hI) (fun z => ncD (List.mem_singleton.mp z))]; exact e'
    exact ⟨rfl, ⟨b, rd _ _ e1⟩, fun c o e _ => rd c o e⟩
  · rintro i x mi Hi hx ⟨hm, ⟨b, g1⟩, g2⟩ _
    unfold intsV at hx
    rw [List.getElem?_map] at hx
    cases hc : ts[i]? with
    | none => rw [hc] at hx; cases hx
    | some z =>
      rw [hc] at hx; cases hx
      refine as_name ok ow (.inl rfl) ?_
      refine ex_cons (es_setitem (ev_bin (ev_bin (ev_bin (ev_sub (ev_local ok hm (ev_int (gi_list (.inl g1) (by decide) (by show 2 ≤ 1000000; decide) rfl (ev_int (op_mul (IntMulOk.of_right (by decide)) (ev_bcall (ev_blt ok rfl n_abs b_abs (fun _ _ => .bi _) ⟨rfl, evs_cons (ev_local ok rfl (evs_nil (bv_abs (op_add (ev_int (op_mod (by decide) (ev_local ok hm (ev_int (si_list g1 (by decide) (by show 2 ≤ 1000000; decide) (by show (1 : Int) < 2; decide) (ex_nil ?_))))))))))⟩))))))))))))
      exact ⟨hm, ⟨_, AH.set_self _ _ _⟩, fun c o e n => by rw [AH.set_ne _ _ n]; exact g2 c o e n⟩
  · rintro mn Hn ⟨hm, ⟨b, g1⟩, g2⟩ lk
    refine ex_ret (ev_local ok hm (q a L _ (fun c o e => ?_) ha hL ⟨naL, zs, b, lk.unl_get g1 (fun _ z => by cases z), lk.unl_get (g2 _ _ e2 naL.symm) (fun _ z => by cases z), by omega⟩))
    have hD' := hD
    have ncD : c ≠ D := fun z => by rw [z] at e; rw [l1 _ _ e] at hD; cases hD
    have ncI : c ≠ I := fun z => by rw [z] at e; rw [AH.set_ne _ _ (z ▸ ncD), l1 _ _ e] at hI; cases hI
    unfold unl
    rw [if_neg (fun z => ncI (List.mem_singleton.mp z)), if_neg (fun z => ncD (List.mem_singleton.mp z))]
    exact g2 c o (l1 _ _ e) (nz e ha)
end

theorem split_len (x y : Str) : 1 ≤ (Txt.split x y).length ∧ (Txt.split x y).length ≤ x.length + 2 := by
  unfold Txt.split
  split
  · exact ⟨Nat.le_refl _, by show 1 ≤ _; omega⟩
  · split
    · exact ⟨Nat.le_refl _, by show 1 ≤ _; omega⟩
    · rw [length_partsBetween]
      have e1 := StrLaws.occ_length_le x y 0 x.length (x.length + 1)
      omega
/-- what one part of a prototype says -/
noncomputable def readPart (p : Str) : Option (Int × Int) :=
  let ends := Txt.split p ":"
  if ends.length > 2 then none else
  match (if ends.length = 2 then wholeIn (ends.getD 0 "") else some 1), wholeIn (ends.getD (ends.length - 1) "") with
  | some low, some high => if high < low then none else some (low, high)
  | _, _ => none
noncomputable def readParts : List Str → Option (List (Int × Int))
  | [] => some []
  | p :: ps => match readPart p with
    | none => none
    | some b => match readParts ps with
      | none => none
      | some bs => some (b :: bs)
theorem readParts_cons (p : Str) (ps : List Str) : readParts (p :: ps) = (match readPart p with | none => none | some b => match readParts ps with | none => none | some bs => some (b :: bs)) := rfl
noncomputable def readB (x : Str) : Option (List (Int × Int)) := readParts (Txt.split x ",")
theorem readParts_inv {s : Str} {ts : List Str} {bs : List (Int × Int)} (h : readParts (s :: ts) = some bs) : ∃ b r, readPart s = some b ∧ readParts ts = some r ∧ bs = b :: r := by
  rw [readParts_cons] at h
  cases h1 : readPart s with
  | none => rw [h1] at h; cases h
  | some b =>
    rw [h1] at h
    cases h2 : readParts ts with
    | none => rw [h2] at h; cases h
    | some r => rw [h2] at h; exact ⟨b, r, rfl, rfl, (Option.some.inj h).symm⟩
theorem readParts_len {ps : List Str} {bs : List (Int × Int)} (h : readParts ps = some bs) : bs.length = ps.length := by
  induction ps generalizing bs with
  | nil => cases h; rfl
  | cons p ps ih => obtain ⟨b, r, _, h2, rfl⟩ := readParts_inv h; exact congrArg (· + 1) (ih h2)
section
variable {C : Con} {lv : Nat} {H : AH} {Q : V → AH → Prop} {R : Int → AH → Prop}
theorem c_read_bounds (hB : Base C.w C.base) {x : Str} (hz : x.length ≤ 900) (q : ∀ bs, readB x = some bs → ∀ D H', H D = none → AH.le H H' → H' D = some (.list (boundsV bs)) → Q (.ref D) H') (qr : readB x = none → ∀ H', AH.le H H' → R 6 H') : CW C (lv + 4) (.ref 271) [.str x, .int 32] H Q R := by
  refine cw_def ok271 hB (body := bod st271) rfl rfl (fun A stk L' own ok ow => ?_)
  refine ex_asg (fun v H1 => ∃ D, v = .ref D ∧ H D = none ∧ H1 = H.set D (.list [])) ok ow (ev_list (evs_nil ⟨by decide, fun D hD => ⟨D, rfl, hD, rfl⟩⟩)) ?_
  rintro _ _ ⟨D, rfl, hD, rfl⟩
  have hlen := split_len x ","
  generalize hps : Txt.split x "," = ps at hlen
  have hpz : ∀ p ∈ ps, p.length ≤ 900 := fun p hp => Nat.le_trans (part_short (hps.symm ▸ hp)) hz
  unfold readB at q qr
  rw [hps] at q qr
  generalize hrp : readParts ps = rp at q qr
  refine ex_for ok Top1.fn (iv_of (ev_meth F.plainAttrs_str F.slot_str_split rfl (ev_local ok rfl ⟨ty_str, evs_cons (ev_str (evs_nil (bv_split (by decide) (by omega) fun P hP => ?_)))⟩)))
  rw [hps]
  refine it_list ok (AH.set_self _ _ _) fun I hI => ⟨fun i mi Hi => mi.lookup ("found" : Str) = some (.ref D) ∧ mi.lookup ("text" : Str) = some (.str x) ∧ mi.lookup ("width" : Str) = some (.int 32) ∧ ∃ bs, Hi D = some (.list (boundsV bs)) ∧ bs.length = i ∧ (rp = (readParts (ps.drop i)).map (bs ++ ·)) ∧ ∀ c o, H c = some o → Hi c = some o, ?_, ?_, ?_⟩
  · have nDP : D ≠ P := (nz (AH.set_self _ _ _) hP)
    have nPc : ∀ c o, H c = some o → c ≠ P := fun c o e z => by rw [← z, AH.set_ne _ _ (nz e hD), e] at hP; cases hP
    have nDc : ∀ c o, H c = some o → c ≠ D := fun c o e z => by rw [z, hD] at e; cases e
    have nDI : D ≠ I := fun z => by rw [← z, AH.set_ne _ _ nDP, AH.set_self] at hI; cases hI
    refine ⟨rfl, rfl, rfl, [], ?_, rfl, ?_, fun c o e => ?_⟩
    · rw [lockH_ne (fun z => nDI (List.mem_singleton.mp z)) (fun z => nDP (List.mem_singleton.mp z)), AH.set_ne _ _ nDP, AH.set_self]; rfl
    · rw [List.drop_zero, hrp]; cases rp <;> rfl
    · have ncI : c ≠ I := fun z => by rw [← z, AH.set_ne _ _ (nPc c o e), AH.set_ne _ _ (nDc c o e), e] at hI; cases hI
      rw [lockH_ne (fun z => ncI (List.mem_singleton.mp z)) (fun z => nPc c o e (List.mem_singleton.mp z)), AH.set_ne _ _ (nPc c o e), AH.set_ne _ _ (nDc c o e)]; exact e
  · rintro i xv mi Hi hx ⟨h1, h2, h3, bs, g1, g2, g3, g4⟩ _
    rw [List.getElem?_map] at hx
    cases hc : ps[i]? with
    | none => rw [hc] at hx; cases hx
    | some p =>
      rw [hc] at hx; cases hx
      obtain ⟨hi, hci⟩ := List.getElem?_eq_some_iff.mp hc
      rw [List.drop_eq_getElem_cons hi, hci] at g3
      have hp9 := hpz p (List.mem_of_getElem? hc)
      rw [readParts_cons] at g3
      have bad : readPart p = none → R 6 Hi := fun e => qr (by rw [g3, e]; rfl) Hi g4
      refine as_name ok ow (.inl rfl) ?_
      have hel := split_len p ":"
      refine ex_asg (fun v H1 => ∃ E, v = .ref E ∧ Hi E = none ∧ H1 = Hi.set E (.list ((Txt.split p ":").map .str))) ok ow (ev_meth F.plainAttrs_str F.slot_str_split rfl (ev_local ok rfl ⟨ty_str, evs_cons (ev_str (evs_nil (bv_split (by decide) (by omega) fun E hE => ⟨E, rfl, hE, rfl⟩)))⟩)) ?_
      rintro _ _ ⟨E, rfl, hE, rfl⟩
      have gE : (Hi.set E (.list ((Txt.split p ":").map .str))) E = some (.list ((Txt.split p ":").map .str)) := AH.set_self _ _ _
      have leE : AH.le Hi (Hi.set E (.list ((Txt.split p ":").map .str))) := AH.le_set hE _
      have bad' : readPart p = none → R 6 (Hi.set E (.list ((Txt.split p ":").map .str))) := fun e => qr (by rw [g3, e]; rfl) _ fun c o e => leE _ _ (g4 _ _ e)
      clear bad
      have hez : ∀ e ∈ Txt.split p ":", e.length ≤ 900 := fun e he => Nat.le_trans (part_short he) hp9
      unfold readPart at g3 bad'
      generalize hes : Txt.split p ":" = es at *
      generalize hH1 : Hi.set E (.list (es.map .str)) = H1 at *
      have lm : (es.map V.str).length = es.length := List.length_map ..
      refine ex_if (tv_cmp (ev_bcall (ev_blt ok rfl n_len b_len (fun _ _ => .bi _) ⟨rfl, evs_cons (ev_local ok rfl (evs_nil (bv_len (.inl gE) (by rw [lm]; omega) (ev_int (cmp_gt ⟨fun h => ?_, fun h => ?_⟩)))))⟩)))
      · rw [lm] at h
        have h := of_decide_eq_true h
        exact ex_cons (es_raise ok (evs_cons (ev_int (evs_cons (ev_local ok h2 (evs_nil ⟨6, _, rfl, bad' (by dsimp only; rw [if_pos (by omega)])⟩))))))
      rw [lm] at h
      have h := of_decide_eq_false h
      have hl2 : ¬ es.length > 2 := by omega
      rw [if_neg hl2] at bad' g3
      generalize hlow : (if es.length = 2 then wholeIn (es.getD 0 "") else some 1) = low at bad' g3
      generalize hhigh : wholeIn (es.getD (es.length - 1) "") = high at bad' g3
      have e0 : es[0]? = some (es.getD 0 "") := by rw [List.getD_eq_getElem?_getD, List.getElem?_eq_getElem (by omega)]; rfl
      have e1 : es[es.length - 1]? = some (es.getD (es.length - 1) "") := by rw [List.getD_eq_getElem?_getD, List.getElem?_eq_getElem (by omega)]; rfl
      refine ex_asg (fun v H2 => H1 = H2 ∧ ∃ l, low = some l ∧ v = .int l) ok ow (ev_ifB (tv_cmp (ev_bcall (ev_blt ok rfl n_len b_len (fun _ _ => .bi _) ⟨rfl, evs_cons (ev_local ok rfl (evs_nil (bv_len (.inl gE) (by rw [lm]; omega) (ev_int (cmp_eq ⟨fun h => ?_, fun h => ?_⟩)))))⟩)))) ?_
      · rw [lm] at h
        have h : es.length = 2 := by have := beq_iff_eq.mp h; omega
        rw [if_pos h] at hlow
        refine ev_call ok ok264.keep (lv := lv + 3) (ev_glob ok rfl g_whole_in ⟨rfl, evs_cons (ev_sub (ev_local ok rfl (ev_int (gi_list (.inl gE) (by decide) (by rw [lm]; omega) (by rw [List.getElem?_map]; show Option.map _ es[0]? = _; rw [e0]; rfl) (evs_cons (ev_local ok h3 (evs_nil (c_whole_in (C := C) (lv := lv) hB (Nat.le_trans (hez _ (List.mem_of_getElem? e0)) (by decide)) (fun l hl => ⟨rfl, l, hlow.symm.trans hl, rfl⟩) fun hn => bad' ?_))))))))⟩) (Nat.le_refl _)
        rw [← hlow, hn]
      · rw [lm] at h
        have h : ¬ es.length = 2 := fun z => by rw [z] at h; cases h
        rw [if_neg h] at hlow
        exact ev_int ⟨rfl, 1, hlow.symm, rfl⟩
      rintro _ _ ⟨rfl, l, hl, rfl⟩
      rw [hl] at bad' g3
      refine ex_asg (fun v H2 => H1 = H2 ∧ ∃ h, high = some h ∧ v = .int h) ok ow (ev_call ok ok264.keep (lv := lv + 3) (ev_glob ok rfl g_whole_in ⟨rfl, evs_cons (ev_sub (ev_local ok rfl (ev_neg (ev_int ⟨1, rfl, gi_list_neg (v := .str (es.getD (es.length - 1) "")) (.inl gE) (by decide) (by rw [lm]; omega) (by rw [lm]; omega) ?_ (evs_cons (ev_local ok h3 (evs_nil (c_whole_in (C := C) (lv := lv) hB (Nat.le_trans (hez _ (List.mem_of_getElem? e1)) (by decide)) (fun l hl => ⟨rfl, l, hhigh.symm.trans hl, rfl⟩) fun hn => bad' ?_))))⟩))))⟩) (Nat.le_refl _)) ?_
      · rw [lm, List.getElem?_map]
        have : ((-1 : Int) + es.length).toNat = es.length - 1 := by omega
        rw [this, e1]; rfl
      · rw [← hhigh, hn]
      rintro _ _ ⟨rfl, hh, hhe, rfl⟩
      rw [hhe] at bad' g3
      dsimp only at bad' g3
      refine ex_if (tv_cmp (ev_local ok rfl (ev_local ok rfl (cmp_lt ⟨fun h => ?_, fun h => ?_⟩))))
      · have h := of_decide_eq_true h
        exact ex_cons (es_raise ok (evs_cons (ev_int (evs_cons (ev_local ok h2 (evs_nil ⟨6, _, rfl, bad' (if_pos h)⟩))))))
      have h := of_decide_eq_false h
      rw [if_neg h] at g3
      dsimp only at g3
      have nDE : D ≠ E := (nz g1 hE)
      have g1' : H1 D = some (.list (boundsV bs)) := leE _ _ g1
      refine ex_expr (ev_meth F.plainAttrs_list F.slot_list_append rfl (ev_local ok h1 ⟨ty_list (.inl g1'), evs_cons (ev_tuple (evs_cons (ev_local ok rfl (evs_cons (ev_local ok rfl (evs_nil ⟨by show 2 ≤ 1000; decide, evs_nil (bv_append g1' (by unfold boundsV; rw [List.length_map]; omega) (ex_nil ?_))⟩))))))⟩))
      refine ⟨h1, h2, h3, bs ++ [(l, hh)], ?_, by rw [List.length_append, g2]; rfl, ?_, fun c o e => ?_⟩
      · rw [AH.set_self]; unfold boundsV; rw [List.map_append]; rfl
      · rw [g3]
        cases readParts (ps.drop (i + 1)) with
        | none => rfl
        | some r => show some (bs ++ (l, hh) :: r) = some ((bs ++ [(l, hh)]) ++ r); rw [List.append_assoc]; rfl
      · rw [AH.set_ne _ _ (nz e hD)]; exact leE _ _ (g4 _ _ e)
  · rintro mn Hn ⟨h1, h2, h3, bs, g1, g2, g3, g4⟩ lk
    rw [List.length_map, List.drop_length] at g3
    have g3 : rp = some bs := by rw [g3]; show some (bs ++ []) = _; rw [List.append_nil]
    refine ex_ret (ev_local ok h1 (q bs g3 D _ hD (fun c o e => ?_) (lk.unl_get g1 fun _ z => by cases z)))
    have ncD : c ≠ D := (nz e hD)
    have ncP : c ≠ P := fun z => by rw [← z, AH.set_ne _ _ ncD, e] at hP; cases hP
    have ncI : c ≠ I := fun z => by rw [← z, AH.set_ne _ _ ncP, AH.set_ne _ _ ncD, e] at hI; cases hI
    unfold unl
    rw [if_neg (fun z => ncI (List.mem_singleton.mp z)), if_neg (fun z => ncP (List.mem_singleton.mp z))]
    exact g4 c o e
end

theorem uniq_list {c : Nat} {a b A B : List Nat} (ha : c ∉ a) (hb : c ∉ b) (h : a ++ c :: A = b ++ c :: B) : a = b ∧ A = B := by
  induction a generalizing b with
  | nil =>
    cases b with
    | nil => exact ⟨rfl, (List.cons.inj h).2⟩
    | cons y b => exact absurd ((List.cons.inj h).1 ▸ .head _) hb
  | cons x a ih =>
    cases b with
    | nil => exact absurd ((List.cons.inj h).1 ▸ .head _) ha
    | cons y b =>
      obtain ⟨h1, h2⟩ := List.cons.inj h
      exact (ih (b := b) (fun q => ha (.tail _ q)) (fun q => hb (.tail _ q)) h2).imp (fun (e : a = b) => by rw [h1, e]) id
theorem cat_toList (a b : Str) : (a ++ b).cps.toList = a.cps.toList ++ b.cps.toList := by
  show (a.cps ++ b.cps).toList = _
  simp
theorem Str.ofL {a b : Str} (h : a.cps.toList = b.cps.toList) : a = b := Str.ext' (Array.toList_inj.mp h)
theorem join_one {c : Nat} {x y z : Str} {r : List Str} (hs : c ∉ x.cps.toList) (h : x.cps.toList = (Str.join ⟨#[c]⟩ (y :: z :: r)).cps.toList) : False := by
  have h : x.cps.toList = (y ++ ⟨#[c]⟩ ++ Str.join ⟨#[c]⟩ (z :: r)).cps.toList := h
  rw [cat_toList, cat_toList] at h
  exact hs (h ▸ List.mem_append_left _ (List.mem_append_right _ (.head _)))
theorem join_uniq {c : Nat} (ss ts : List Str) (n1 : ss ≠ []) (n2 : ts ≠ []) (hs : ∀ s ∈ ss, c ∉ s.cps.toList) (ht : ∀ t ∈ ts, c ∉ t.cps.toList) (h : (Str.join ⟨#[c]⟩ ss).cps.toList = (Str.join ⟨#[c]⟩ ts).cps.toList) : ss = ts := by
  induction ss generalizing ts with
  | nil => exact absurd rfl n1
  | cons x r ih =>
    cases ts with
    | nil => exact absurd rfl n2
    | cons y r' =>
      cases r with
      | nil =>
        cases r' with
        | nil => rw [Str.ofL (show x.cps.toList = y.cps.toList from h)]
        | cons z r' => exact (join_one (hs x (.head _)) h).elim
      | cons x2 r =>
        cases r' with
        | nil => exact (join_one (ht y (.head _)) h.symm).elim
        | cons y2 r' =>
          have h : (x ++ ⟨#[c]⟩ ++ Str.join ⟨#[c]⟩ (x2 :: r)).cps.toList = (y ++ ⟨#[c]⟩ ++ Str.join ⟨#[c]⟩ (y2 :: r')).cps.toList := h
          rw [cat_toList, cat_toList, cat_toList, cat_toList, List.append_assoc, List.append_assoc] at h
          obtain ⟨h1, h2⟩ := uniq_list (hs x (.head _)) (ht y (.head _)) h
          rw [ih (y2 :: r') (List.cons_ne_nil _ _) (List.cons_ne_nil _ _) (fun s q => hs s (.tail _ q)) (fun s q => ht s (.tail _ q)) h2, Str.ofL h1]
theorem split_join (ts : List Str) (h0 : ts ≠ []) (hf : ∀ t ∈ ts, 44 ∉ t.cps.toList) : Txt.split (Txt.join "," ts) "," = ts := by
  have e1 := StrLaws.join_split (Txt.join "," ts) ","
  have e2 : Txt.join "," ts = Str.join "," ts := StrLaws.glued_eq_join _ _
  have hc : (("," : Str)) = ⟨#[44]⟩ := by decide
  rw [hc] at e1 e2 ⊢
  refine join_uniq (c := 44) _ _ ?_ h0 (StrLaws.split_free _ 44) hf (by rw [e1, e2])
  intro z
  have := (split_len (Txt.join ⟨#[44]⟩ ts) ⟨#[44]⟩).1
  rw [z] at this
  exact absurd this (by decide)
theorem readParts_snoc {t : Str} {p : Int × Int} (ht : readPart t = some p) {ts : List Str} {bs : List (Int × Int)} (h : readParts ts = some bs) : readParts (ts ++ [t]) = some (bs ++ [p]) := by
  induction ts generalizing bs with
  | nil => cases h; show readParts [t] = _; rw [readParts_cons, ht]; rfl
  | cons s ts ih =>
    obtain ⟨b, r, h1, h2, rfl⟩ := readParts_inv h
    rw [List.cons_append, readParts_cons, h1, ih h2]; rfl
noncomputable def lowAt (k : Nat) : Int := [1, 1, 0, -1, 5].getD k 1
noncomputable def highAt (k r : Nat) : Int := lowAt k + (1 + (r : Int)) - 1
noncomputable def partL (k r : Nat) : Str := Str.ofString (toString (lowAt k)) ++ (":" : Str) ++ Str.ofString (toString (highAt k r))
noncomputable def partS (r : Nat) : Str := Str.ofString (toString (1 + (r : Int)))
theorem part_long : ∀ k < 5, ∀ r < 3, readPart (partL k r) = some (lowAt k, highAt k r) ∧ 44 ∉ (partL k r).cps.toList ∧ (partL k r).length ≤ 10 := by decide +kernel
theorem part_shorty : ∀ r < 3, readPart (partS r) = some (1, 1 + (1 + (r : Int)) - 1) ∧ 44 ∉ (partS r).cps.toList ∧ (partS r).length ≤ 10 := by decide +kernel
/-- bounds as the law draws them -/
def GoodB (bs : List (Int × Int)) : Prop := 1 ≤ bs.length ∧ bs.length ≤ 3 ∧ ∀ p ∈ bs, -1 ≤ p.1 ∧ p.1 ≤ 5 ∧ p.1 ≤ p.2 ∧ p.2 ≤ p.1 + 2
theorem low_range : ∀ k < 5, ∀ r < 3, -1 ≤ lowAt k ∧ lowAt k ≤ 5 ∧ lowAt k ≤ highAt k r ∧ highAt k r ≤ lowAt k + 2 := by decide
theorem lt0E {P : Nat → Prop} : ∀ i < 0, P i := fun _ h => absurd h (Nat.not_lt_zero _)
theorem ltE {P : Nat → Prop} {n : Nat} (a : ∀ i < n, P i) (b : P n) : ∀ i < n + 1, P i := fun i h => (Nat.lt_succ_iff_lt_or_eq.mp h).elim (a i) fun e => e ▸ b
theorem low_list : ∀ k < 5, ([V.int 1, .int 1, .int 0, .int (0 - 1), .int 5])[k]? = some (.int (lowAt k)) := ltE (ltE (ltE (ltE (ltE lt0E rfl) rfl) rfl) rfl) rfl
theorem sumLen_le {k : Nat} (ts : List Str) (h : ∀ t ∈ ts, t.length ≤ k) : (ts.map (·.length)).sum ≤ ts.length * k := by
  induction ts with
  | nil => exact Nat.zero_le _
  | cons t ts ih => rw [List.map_cons, List.sum_cons, List.length_cons, Nat.succ_mul, Nat.add_comm]; exact Nat.add_le_add (ih fun u hu => h u (.tail _ hu)) (h t (.head _))
section
variable {C : Con} {lv : Nat} {H : AH} {Q : V → AH → Prop} {R : Int → AH → Prop}
set_option maxHeartbeats 4000000 in
theorem c_bounds (hB : Base C.w C.base) {a L : Addr} (hb : BoxIs H a L) (q : ∀ (Fd : Addr) (told : Str) (bs : List (Int × Int)) (H' : AH), BoxIs H' a L → H Fd = none → (∀ c o, H c = some o → c ≠ a → c ≠ L → H' c = some o) → H' Fd = some (.list (boundsV bs)) → Fd ≠ a → Fd ≠ L → GoodB bs → readB told = some bs → told.length ≤ 100 → Q (.tup [.ref Fd, .str told]) H') : CW C (lv + 2) (.ref 378) [.ref a] H Q R := by
  refine cw_def ok378 hB (body := bod st378) rfl rfl (fun A stk L' own ok ow => ?_)
  have take : ∀ {m : Locs} {H : AH} {K : V → AH → Prop} {R : Int → AH → Prop} {p1 p2 p3 p4 : Pos} {k n : Nat}, m.lookup ("box" : Str) = some (.ref a) → BoxIs H a L → 0 < n → (∀ (r : Nat) (H' : AH), r < n → BoxIs H' a L → (∀ b, b ≠ a → b ≠ L → H' b = H b) → K (.int r) H') →
      EV (Cx.fn C (lv + 1) A (callEnv fd378 L' 378) stk own) (.Call (.Name "_law_take" p1) [.Name "box" p2, .Constant (.int n) k p3] [] p4) m H K R := fun hm hbx hn hK =>
    ev_call ok ok359.keep (lv := lv + 1) (ev_glob ok rfl g__law_take ⟨rfl, evs_cons (ev_local ok hm (evs_cons (ev_int (evs_nil (c_take (C := C) (lv := lv) hB hbx hn hK)))))⟩) (Nat.le_refl _)
  have neA : ∀ {H : AH} {D : Addr}, BoxIs H a L → H D = none → a ≠ D ∧ L ≠ D := fun hb hD => by
    obtain ⟨_, ns, b, e1, e2, _⟩ := hb
    exact ⟨(nz e1 hD), (nz e2 hD)⟩
  refine ex_swap (fun u v H1 => ∃ Fd T, u = .ref Fd ∧ v = .ref T ∧ H Fd = none ∧ H T = none ∧ T ≠ Fd ∧ H1 = (H.set Fd (.list [])).set T (.list [])) ok ow
    (ev_list (evs_nil ⟨by decide, fun Fd hF => ev_list (evs_nil ⟨by decide, fun T hT => ⟨Fd, T, rfl, rfl, hF, ?_, ?_, rfl⟩⟩)⟩)) ?_
  · have : T ≠ Fd := ((nz (AH.set_self _ _ _) hT).symm)
    rw [AH.set_ne _ _ this] at hT; exact hT
  · exact ((nz (AH.set_self _ _ _) hT).symm)
  rintro _ _ _ ⟨Fd, T, rfl, rfl, hF, hT, hTF, rfl⟩
  obtain ⟨naF, nLF⟩ := neA hb hF
  obtain ⟨naT, nLT⟩ := neA hb hT
  have hb1 : BoxIs ((H.set Fd (.list [])).set T (.list [])) a L := hb.of (by rw [AH.set_ne _ _ naT, AH.set_ne _ _ naF]) (by rw [AH.set_ne _ _ nLT, AH.set_ne _ _ nLF])
  have nFc : ∀ c o, H c = some o → c ≠ Fd := fun c o e z => by rw [z, hF] at e; cases e
  have nTc : ∀ c o, H c = some o → c ≠ T := fun c o e z => by rw [z, hT] at e; cases e
  refine ex_for ok Top1.fn (iv_tcall (ev_blt ok rfl n_range b_range (fun _ _ => .ty _) ⟨rfl, evs_cons (ev_bin (ev_int (take rfl hb1 (by decide) fun r H1 hr hbx fr => op_add (evs_nil ?_))))⟩))
  have hr : r < 3 := hr
  have hsm : ∀ r : Nat, r < 3 → Builtin.Range.small 0 (1 + (r : Int)) 1 = true ∧ Builtin.Range.rangeSize 0 (1 + (r : Int)) 1 = ((r + 1 : Nat) : Int) := by decide
  refine bi_range1 (n := r + 1) ok (hsm r hr).1 (hsm r hr).2 fun I hI => ⟨fun i mi Hi => mi.lookup ("box" : Str) = some (.ref a) ∧ mi.lookup ("found" : Str) = some (.ref Fd) ∧ mi.lookup ("told" : Str) = some (.ref T) ∧ BoxIs Hi a L ∧ (∃ bs ts, Hi Fd = some (.list (boundsV bs)) ∧ Hi T = some (.list (ts.map .str)) ∧ bs.length = i ∧ ts.length = i ∧ readParts ts = some bs ∧ (∀ t ∈ ts, 44 ∉ t.cps.toList ∧ t.length ≤ 10) ∧ (∀ p ∈ bs, -1 ≤ p.1 ∧ p.1 ≤ 5 ∧ p.1 ≤ p.2 ∧ p.2 ≤ p.1 + 2)) ∧ (∀ c o, H c = some o → c ≠ a → c ≠ L → Hi c = some o), ?_, ?_, ?_⟩
  · obtain ⟨naI, nLI⟩ := neA hbx hI
    have rd : ∀ c, c ≠ I → lockH H1 [I] [] c = H1 c := fun c n => lockH_ne (fun z => n (List.mem_singleton.mp z)) List.not_mem_nil
    have fF : H1 Fd = some (.list []) := by rw [fr Fd naF.symm nLF.symm, AH.set_ne _ _ hTF.symm, AH.set_self]
    have fT : H1 T = some (.list []) := by rw [fr T naT.symm nLT.symm, AH.set_self]
    refine ⟨rfl, rfl, rfl, hbx.of (rd _ naI) (rd _ nLI), ⟨[], [], ?_, ?_, rfl, rfl, rfl, (fun _ h => (nomatch h)), fun _ h => (nomatch h)⟩, fun c o e n1 n2 => ?_⟩
    · rw [rd _ (nz fF hI)]; exact fF
    · rw [rd _ (nz fT hI)]; exact fT
    · have e1 : H1 c = some o := by rw [fr c n1 n2, AH.set_ne _ _ (nTc c o e), AH.set_ne _ _ (nFc c o e)]; exact e
      rw [rd _ (nz e1 hI)]; exact e1
  · rintro i xv mi Hi hx ⟨h1, h2, h3, hbi, ⟨bs, ts, gF, gT, lb, lt, hrp, hts, hbs⟩, hfr⟩ _
    have hi : i < 3 := by
      have := (List.getElem?_eq_some_iff.mp hx).1
      unfold rangeL at this
      rw [List.length_map, List.length_range] at this; omega
    refine as_name ok ow (.inl rfl) ?_
    refine ex_swap (fun u v H2 => ∃ k r, k < 5 ∧ r < 3 ∧ u = .int (lowAt k) ∧ v = .int (1 + (r : Nat)) ∧ BoxIs H2 a L ∧ ∀ c o, Hi c = some o → c ≠ a → c ≠ L → H2 c = some o) ok ow
      (ev_sub (ev_list (evs_cons (ev_int (evs_cons (ev_int (evs_cons (ev_int (evs_cons (ev_bin (ev_int (ev_int (op_sub (evs_cons (ev_int (evs_nil ⟨by show 5 ≤ 1000; decide, fun D hD => ?_⟩)))))))))))))))) ?_
    · obtain ⟨naD, nLD⟩ := neA hbi hD
      refine take h1 (hbi.of (AH.set_ne _ _ naD) (AH.set_ne _ _ nLD)) (by decide) fun k H2 hk hb2 fr2 => ?_
      refine gi_list (.inl (by rw [fr2 D naD.symm nLD.symm]; exact AH.set_self _ _ _)) (by omega) (by show 5 ≤ 1000000; decide) (by rw [Int.toNat_natCast]; exact low_list k hk) ?_
      refine ev_bin (ev_int (take h1 hb2 (by decide) fun r H3 hr hb3 fr3 => op_add ⟨k, r, hk, hr, rfl, rfl, hb3, fun c o e n1 n2 => ?_⟩))
      rw [fr3 c n1 n2, fr2 c n1 n2, AH.set_ne _ _ (nz e hD)]; exact e
    rintro _ _ H2 ⟨k, r, hk, hr, rfl, rfl, hb2, fr2⟩
    have gF2 := fr2 _ _ gF naF.symm nLF.symm
    have gT2 := fr2 _ _ gT naT.symm nLT.symm
    refine ex_expr (ev_meth F.plainAttrs_list F.slot_list_append rfl (ev_local ok h2 ⟨ty_list (.inl gF2), evs_cons (ev_tuple (evs_cons (ev_local ok rfl (evs_cons (ev_bin (ev_bin (ev_local ok rfl (ev_local ok rfl (op_add (ev_int (op_sub (evs_nil ⟨by show 2 ≤ 1000; decide, evs_nil (bv_append gF2 (by unfold boundsV; rw [List.length_map]; omega) ?_)⟩))))))))))))⟩))
    have eF : boundsV bs ++ [V.tup [.int (lowAt k), .int (highAt k r)]] = boundsV (bs ++ [(lowAt k, highAt k r)]) := by unfold boundsV; rw [List.map_append]; rfl
    have e2 : (H2.set Fd (.list (boundsV bs ++ [V.tup [.int (lowAt k), .int (lowAt k + (1 + (r : Int)) - 1)]]))) = H2.set Fd (.list (boundsV (bs ++ [(lowAt k, highAt k r)]))) := by rw [← eF]; rfl
    show EX _ _ _ (H2.set Fd (.list (boundsV bs ++ [V.tup [.int (lowAt k), .int (lowAt k + (1 + (r : Int)) - 1)]]))) _ _
    rw [e2]
    have hb3 : BoxIs (H2.set Fd (.list (boundsV (bs ++ [(lowAt k, highAt k r)])))) a L := hb2.of (AH.set_ne _ _ naF) (AH.set_ne _ _ nLF)
    have gT3 : (H2.set Fd (.list (boundsV (bs ++ [(lowAt k, highAt k r)])))) T = some (.list (ts.map .str)) := by rw [AH.set_ne _ _ hTF]; exact gT2
    have fr3 : ∀ c o, H c = some o → c ≠ a → c ≠ L → (H2.set Fd (.list (boundsV (bs ++ [(lowAt k, highAt k r)])))) c = some o := fun c o e n1 n2 => by rw [AH.set_ne _ _ (nFc c o e)]; exact fr2 _ _ (hfr c o e n1 n2) n1 n2
    have gF3 : (H2.set Fd (.list (boundsV (bs ++ [(lowAt k, highAt k r)])))) Fd = some (.list (boundsV (bs ++ [(lowAt k, highAt k r)]))) := AH.set_self _ _ _
    generalize H2.set Fd (.list (boundsV (bs ++ [(lowAt k, highAt k r)]))) = H3 at hb3 gT3 fr3 gF3
    have hbs' : ∀ p ∈ bs ++ [(lowAt k, highAt k r)], -1 ≤ p.1 ∧ p.1 ≤ 5 ∧ p.1 ≤ p.2 ∧ p.2 ≤ p.1 + 2 := fun p hp => by
      rcases List.mem_append.mp hp with hp | hp
      · exact hbs p hp
      · rw [List.mem_singleton.mp hp]; exact low_range k hk r hr
    have fin : ∀ (t : Str) (H4 : AH), readPart t = some (lowAt k, highAt k r) → 44 ∉ t.cps.toList ∧ t.length ≤ 10 → BoxIs H4 a L → (∀ c o, H3 c = some o → c ≠ a → c ≠ L → H4 c = some o) → ∃ acc, H4 T = some (.list acc) ∧ acc.length < 1000000 ∧
        BoxIs (H4.set T (.list (acc ++ [.str t]))) a L ∧ (∃ bs ts, (H4.set T (.list (acc ++ [.str t]))) Fd = some (.list (boundsV bs)) ∧ (H4.set T (.list (acc ++ [.str t]))) T = some (.list (ts.map .str)) ∧ bs.length = i + 1 ∧ ts.length = i + 1 ∧ readParts ts = some bs ∧ (∀ t ∈ ts, 44 ∉ t.cps.toList ∧ t.length ≤ 10) ∧ (∀ p ∈ bs, -1 ≤ p.1 ∧ p.1 ≤ 5 ∧ p.1 ≤ p.2 ∧ p.2 ≤ p.1 + 2)) ∧ (∀ c o, H c = some o → c ≠ a → c ≠ L → (H4.set T (.list (acc ++ [.str t]))) c = some o) := by
      intro t H4 ht htt hb4 fr4
      refine ⟨ts.map .str, fr4 _ _ gT3 naT.symm nLT.symm, by rw [List.length_map]; omega, hb4.of (AH.set_ne _ _ naT) (AH.set_ne _ _ nLT), ⟨bs ++ [(lowAt k, highAt k r)], ts ++ [t], ?_, ?_, by rw [List.length_append, lb]; rfl, by rw [List.length_append, lt]; rfl, readParts_snoc ht hrp, fun u hu => ?_, hbs'⟩, fun c o e n1 n2 => ?_⟩
      · rw [AH.set_ne _ _ hTF.symm]; exact fr4 _ _ gF3 naF.symm nLF.symm
      · rw [AH.set_self, List.map_append]; rfl
      · rcases List.mem_append.mp hu with hu | hu
        · exact hts u hu
        · rw [List.mem_singleton.mp hu]; exact htt
      · rw [AH.set_ne _ _ (nTc c o e)]; exact fr4 _ _ (fr3 c o e n1 n2) n1 n2
    have small : ∀ k < 5, ∀ r < 3, (lowAt k).natAbs.log2 < 1920 ∧ (highAt k r).natAbs.log2 < 1920 ∧ (1 + (r : Int)).natAbs.log2 < 1920 ∧ (Str.ofString (toString (lowAt k))).length ≤ 2 ∧ (Str.ofString (toString (highAt k r))).length ≤ 2 := by decide +kernel
    obtain ⟨s1, s2, s3, s4, s5⟩ := small k hk r hr
    refine ex_expr (ev_meth F.plainAttrs_list F.slot_list_append rfl (ev_local ok h3 ⟨ty_list (.inl gT3), evs_cons ((EV.mono (Q := fun v H4 => ∃ t, v = .str t ∧ readPart t = some (lowAt k, highAt k r) ∧ (44 ∉ t.cps.toList ∧ t.length ≤ 10) ∧ BoxIs H4 a L ∧ (∀ c o, H3 c = some o → c ≠ a → c ≠ L → H4 c = some o)) ?_ (fun v H4 p => ?_)))⟩))
    · have long : ∀ {p1 p2 p3 p4 p5 p6 p7 p8 p9 p10 p11 p12 p13 : Pos} {k1 k2 : Nat} (m : Locs) (H4 : AH), m.lookup ("low" : Str) = some (.int (lowAt k)) → m.lookup ("size" : Str) = some (.int (1 + (r : Nat))) → BoxIs H4 a L → (∀ c o, H3 c = some o → c ≠ a → c ≠ L → H4 c = some o) →
          EV (Cx.fn C (lv + 1) A (callEnv fd378 L' 378) stk own) (.BinOp (.BinOp (.Call (.Name "str" p1) [.Name "low" p2] [] p3) .Add (.Constant (.str ":") k1 p4) p5) .Add (.Call (.Name "str" p6) [.BinOp (.BinOp (.Name "low" p7) .Add (.Name "size" p8) p9) .Sub (.Constant (.int 1) k2 p10) p11] [] p12) p13) m H4 (fun v H4 => ∃ t, v = .str t ∧ readPart t = some (lowAt k, highAt k r) ∧ (44 ∉ t.cps.toList ∧ t.length ≤ 10) ∧ BoxIs H4 a L ∧ (∀ c o, H3 c = some o → c ≠ a → c ≠ L → H4 c = some o)) R := fun m H4 l1 l2 hb4 fr4 => by
        refine ev_bin (ev_bin (ev_tcall (ev_blt ok rfl n_str b_str (fun _ _ => .ty _) ⟨rfl, evs_cons (ev_local ok l1 (evs_nil (bv_str s1 (ev_str (op_cat ?_ (ev_tcall (ev_blt ok rfl n_str b_str (fun _ _ => .ty _) ⟨rfl, evs_cons (ev_bin (ev_bin (ev_local ok l1 (ev_local ok l2 (op_add (ev_int (op_sub (evs_nil (bv_str s2 (op_cat ?_ ⟨_, rfl, (part_long k hk r hr).1, (part_long k hk r hr).2, hb4, fr4⟩))))))))))⟩)))))))⟩)))
        · have : ((":" : Str)).length = 1 := rfl
          exact Nat.le_trans (show _ ≤ 2 + 1 by omega) (by decide)
        · have e1 : ((":" : Str)).length = 1 := rfl
          have e2 : (Str.ofString (toString (lowAt k)) ++ (":" : Str)).length = (Str.ofString (toString (lowAt k))).length + 1 := by
            show ((Str.ofString (toString (lowAt k))).cps ++ (":" : Str).cps).size = _
            rw [Array.size_append]; rfl
          have s5' : (Str.ofString (toString (lowAt k + (1 + (r : Int)) - 1))).length ≤ 2 := s5
          refine Nat.le_trans (m := 10) ?_ (by decide)
          have : (Str.ofString (toString (lowAt k)) ++ (":" : Str)).length + (Str.ofString (toString (lowAt k + (1 + (r : Int)) - 1))).length ≤ 10 := by omega
          exact this
      refine ev_ifB (tv_bool (at_and (tv_cmp (ev_local ok rfl (ev_int (cmp_eq ⟨fun e => ⟨(fun z => by cases z), fun _ => ?_⟩, fun e => ?_⟩))))))
      · exact long _ _ rfl rfl hb3 fun c o e _ _ => e
      · have el : lowAt k = 1 := by simpa using e
        refine at_and1 (tv_cmp (take h1 hb3 (by decide) fun z H4 hz hb4 fr4 => ev_int (cmp_eq ⟨fun _ => ?_, fun _ => ?_⟩)))
        · exact ev_tcall (ev_blt ok rfl n_str b_str (fun _ _ => .ty _) ⟨rfl, evs_cons (ev_local ok rfl (evs_nil (bv_str s3 ⟨_, rfl, by unfold highAt; rw [el]; exact (part_shorty r hr).1, (part_shorty r hr).2, hb4, fun c o e n1 n2 => by rw [fr4 c n1 n2]; exact e⟩)))⟩)
        · exact long _ _ rfl rfl hb4 fun c o e n1 n2 => by rw [fr4 c n1 n2]; exact e
    · obtain ⟨t, rfl, ht, htt, hb4, fr4⟩ := p
      obtain ⟨acc, e1, e2, e3⟩ := fin t H4 ht htt hb4 fr4
      exact evs_nil (bv_append e1 e2 (ex_nil ⟨h1, h2, h3, e3⟩))
  · rintro mn Hn ⟨h1, h2, h3, hbi, ⟨bs, ts, gF, gT, lb, lt, hrp, hts, hbs⟩, hfr⟩ lk
    have hl : (rangeL 0 (r + 1) 1).length = r + 1 := by unfold rangeL; rw [List.length_map, List.length_range]
    rw [hl] at lb lt
    have hsum : (ts.map (·.length)).sum ≤ ts.length * 10 := sumLen_le ts fun t ht => (hts t ht).2
    have hc1 : ((",": Str)).length = 1 := rfl
    refine ex_ret (ev_tuple (evs_cons (ev_local ok h2 (evs_cons (ev_meth F.plainAttrs_str F.slot_str_join rfl (ev_str ⟨ty_str, evs_cons (ev_local ok h3 (evs_nil (bv_join (ys := ts) (.inl (lk.unl_get gT fun _ z => by cases z)) (by rw [hc1]; omega) (evs_nil ⟨by show 2 ≤ 1000; decide, ?_⟩))))⟩))))))
    have ht0 : ts ≠ [] := fun z => by rw [z] at lt; cases lt
    have hun : ∀ c o, Hn c = some o → (∀ l, o ≠ .lock l) → unl H1 [I] [] Hn c = Hn c := fun c o e n => (lk.unl_get e n).trans e.symm
    obtain ⟨n0, ns, b, ea, eL, hz⟩ := id hbi
    refine q Fd (Txt.join "," ts) bs _ (hbi.of (hun _ _ ea fun _ z => by cases z) (hun _ _ eL fun _ z => by cases z)) hF (fun c o e n1 n2 => ?_) (lk.unl_get gF fun _ z => by cases z) naF.symm nLF.symm ⟨by omega, by omega, hbs⟩ ?_ ?_
    · have e1 : H1 c = some o := by rw [fr c n1 n2, AH.set_ne _ _ (nTc c o e), AH.set_ne _ _ (nFc c o e)]; exact e
      unfold unl
      rw [if_neg (nm e1 hI), if_neg List.not_mem_nil]
      exact hfr c o e n1 n2
    · unfold readB
      rw [split_join ts ht0 fun t ht => (hts t ht).1]; exact hrp
    · have := StrLaws.join_length_le "," ts
      have e : Txt.join "," ts = Str.join "," ts := StrLaws.glued_eq_join _ _
      rw [e]
      have : (Str.join "," ts).length ≤ (ts.map (·.length)).sum + ts.length * (",": Str).length := this
      rw [hc1] at this
      omega
end

theorem snob_ga : ∀ P, findIn (frag P) (.ref 34) "__getattribute__" = some (some (.builtin "BaseException.__getattribute__")) := fun P => by kernel_rfl
theorem snob_gat : ∀ P, findIn (frag P) (.ref 34) "__getattr__" = some none := fun P => by kernel_rfl
theorem snob_no : ∀ P, findIn (frag P) (.ref 34) "number" = some none := fun P => by kernel_rfl
theorem snob_be : ∀ P, mroIn (frag P) 34 (.type "BaseException") = some true := fun P => by kernel_rfl
theorem get_exc {w : World} {A : Around} {E : Value → Shared → Prop} {s : Shared} {x : Addr} {ox : Obj} {od : Option Obj} {name : Str} {v : Value} {expr : Bool} {Q : Value → Shared → Prop} (X : (frag w.params).In s.heap) (I : InstAt s.heap x ox 34 od)
    (hf : findObj (frag w.params) 34 od name = some (.value v)) (hh : handedIn v = true) (h : Q v { s with toks := s.toks + 1 }) : wpAny (Mw w) A (getAttr (.ref x) name expr) Q E s := by
  obtain ⟨hp, g, d, t, os⟩ := s
  have L0 := I.type (M := Mw w)
  have L1 := looks_findIn (M := Mw w) X (snob_ga w.params)
  have L2 := looks_findIn (M := Mw w) X (snob_gat w.params)
  have L3 := looks_find (M := Mw w) X I hf
  have sub : Looks (Mw w) hp (isInstance (.ref x) (.type "BaseException")) true := I.type.andThen (looks_mroIn X (snob_be w.params))
  have hk : builtinKind "BaseException.__getattribute__" = some .slot := by decide +kernel
  have hsplit : splitId "BaseException.__getattribute__" = some ("BaseException", "__getattribute__") := by decide +kernel
  have G := PySem.F.attrBase_Exception.ga
  have hx0 : (expr && onTheHeap (Value.builtin "BaseException.__getattribute__")) = false := by cases expr <;> rfl
  have hx2 : (Value.builtin "BaseException.__getattribute__" == Value.builtin "object.__getattribute__") = false := by decide +kernel
  have hx1 : (onTheHeap (Value.ref 34) && Value.builtin "BaseException.__getattribute__" == Value.builtin "object.__getattribute__") = false := by rw [hx2]; rfl
  unfold getAttr getAttrBy
  refine wpAny_bind (wpAny_mkText (wpAny_holding (wpAny_bind (L0.at (wpAny_bind (L1.at ?_))))))
  dsimp only
  rw [if_neg (by rw [hx1]; exact Bool.false_ne_true)]
  unfold getAttrByItsOwn
  refine wpAny_bind (show wpAny _ _ (hookBefore (.ref 34)) _ _ _ from L2.at ?_)
  refine wpAny_bind (wpAny_attempt (wpAny_holding ?_))
  unfold callGetattribute
  rw [if_neg (by rw [hx0]; exact Bool.false_ne_true)]
  unfold boundAndCalled
  rw [G.bind]
  refine wpAny_bind (wpAny_pure ?_)
  show wpAny _ _ (call (.builtin "BaseException.__getattribute__") [.ref x, .str name t]) _ _ _
  refine wpAny_call ?_
  refine codeAny_call_builtin G.plain F.entry_bexc_ga (@check_slot (Mw w) _ _ _ "BaseException.__getattribute__" "BaseException" "__getattribute__" (.ref x) [.str name t] [] _ hk hsplit sub (F.args_bexc_ga (.ref x) (.str name t)) ?_)
  unfold Builtin.«object.__getattribute__»
  refine wpAny_bind (wpAny_of_eq (a := (Value.ref x, [Value.str name t])) rfl ?_)
  dsimp only
  refine wpAny_bind (wpAny_of_eq (a := name) rfl ?_)
  refine wpAny_bind (L0.at (wpAny_bind (L3.at ?_)))
  refine wpAny_pure ?_
  show wpAny _ _ (handedOut v) _ _ _
  rw [handedOut_of hh]; exact wpAny_pure h
theorem exm34 : ∀ P, exmOne (frag P) (.ref 34) (.ref 34) = some true := fun P => by kernel_rfl
/-- the locals become unknown -/
theorem local_any {Γ : Cx} {m : Locs} {H : AH} {s : Shared} (t : St Γ m H s) (ow : OwnL Γ) {h' : Heap} {m' : Str → Option Value}
    (hn' : h'.Ns Γ.env.locals m') (hs : Heap.SameBut Γ.env.locals s.heap h') (tk : Nat) :
    ExtW Γ.F Γ.own H s.heap H h' ∧ St Γ [] H { s with heap := h', toks := tk } := by
  obtain ⟨mm, hn, hL, _⟩ := t.loc
  obtain ⟨oL, es, ep, eL, dL, rL⟩ := id hn
  obtain ⟨oL', es', ep', eL', dL', rL'⟩ := id hn'
  have ne_seq : ∀ a o items n, s.heap.get? a = some o → o.data = .seq items n → a ≠ Γ.env.locals := fun a o items n e d q => by
    rw [q, eL] at e; cases e; rw [dL] at d; cases d
  have ext : ExtW Γ.F Γ.own H s.heap H h' := by
    refine ⟨fun a o e z hw => ?_, fun _ _ _ z => z, fun a o e => ?_, fun a l o z e => ⟨(hs.2 a (nz z hL)).trans e, z⟩⟩
    · have hne : a ≠ Γ.env.locals := fun q => by
        obtain ⟨items, n, d⟩ := hw (q ▸ ow.L)
        exact ne_seq a o items n e d q
      exact ⟨o.slots, (hs.2 a hne).trans e, fun _ => rfl⟩
    · by_cases q : a = Γ.env.locals
      · exact ⟨oL', q ▸ eL'⟩
      · exact ⟨o, (hs.2 a q).trans e⟩
  have sim : Sim Γ.w Γ.base Γ.os H { s with heap := h', toks := tk } := by
    refine t.sim.step (H' := H) ext.seqK (fun b o e => ?_) [] (fun b ob o hb _ e => ?_) fun a o e => .inl ⟨e, (fun h => (nomatch h)), fun _ _ h => (nomatch h)⟩
    · have : b ≠ Γ.env.locals := fun q => by have := ow.off _ ow.L; rw [← q, e] at this; cases this
      exact (hs.2 b this).trans (t.sim.stays b o e)
    · have : b ≠ Γ.env.locals := (nz hb hL)
      exact ⟨(hs.2 b this).trans e, hb⟩
  refine ⟨ext, sim, ⟨_, hn', hL, fun y u hy => by cases hy⟩, ?_, ?_, t.off⟩
  · intro y c k1 k2
    obtain ⟨⟨vl, oc, hc, hd⟩, hn0⟩ := t.cells y c k1 k2
    have hne : c ≠ Γ.env.locals := fun z => by rw [z, eL] at hc; cases hc; rw [dL] at hd; cases hd
    exact ⟨⟨vl, oc, (hs.2 c hne).trans hc, hd⟩, hn0⟩
  · refine frames_by (fun b o e hnf => ?_) t.frames
    by_cases q : b = Γ.env.locals
    · subst q; exact ⟨oL', eL', _, _, dL'⟩
    · exact ⟨o, (hs.2 b q).trans e, hnf⟩

section
variable {Γ : Cx} {m : Locs} {H : AH} {Q : Fl → Locs → AH → Prop} {R : Int → AH → Prop} {pos : Pos}
/-- the text's own exception is caught, its number handed on -/
theorem es_try {call : Expr} {cpos p1 p2 p3 p4 p5 : Pos} (ok : Γ.Ok) (ow : Owns Γ) (tp : Top1 Γ) (he : Γ.env.kindOf ("e" : Str) = some .local) (hg : Γ.env.kindOf ("SnobolError" : Str) = some .globalImplicit)
    (h : EV Γ call m H (fun _ H1 => Q .next m H1) (fun n H1 => ∀ m', Q (.ret (.int n)) m' H1)) (hi : interactive Γ.env = false := by rfl) (hs : swapsWith call none cpos.line Γ.env = pure false := by rfl) :
    ES Γ (.Try [.Expr call cpos] [.ExceptHandler (some (.Name "SnobolError" p1)) (some "e") [.Return (some (.Attribute (.Name "e" p2) "number" p3)) p4] p5] [] [] pos) m H Q R := by
  intro s t
  refine wpAny_Try_except ?_
  refine wpAny_execs_cons (wpAny_Expr_any (wpAny_mono (h s t) (fun v s1 p => ?_) fun x s1 p => ?_) hi hs)
  · obtain ⟨mv, H1, x1, y1, r1, q1⟩ := p
    exact wpAny_execs_nil (wpAny_execs_nil ⟨_, m, H1, x1.w, t.ext x1 y1, .next, q1⟩)
  obtain ⟨n, H1, e, rfl, x1, y1, sn, r1⟩ := p
  have t1 := t.ext x1 y1
  obtain ⟨outer, L, hstk, hfr⟩ := tp
  have hF : Γ.F = (Γ.env :: outer).filterMap (·.frame) := by show Γ.stk.filterMap _ = _; rw [hstk]
  rw [hfr] at sn
  have ff : ∀ {h : Heap}, FF h Γ.base Γ.stk → ∀ a ∈ (Γ.env :: outer).filterMap (·.frame), ∀ o, h.get? a = some o → ∀ vs, o.data ≠ .fields vs := fun f a ha o e vs d => by
    rw [← hF] at ha
    obtain ⟨o', es, ep, e', d'⟩ := f.memD ha
    rw [e] at e'; cases e'; rw [d] at d'; cases d'
  have live0 : ∀ a ∈ (Γ.env :: outer).filterMap (·.frame), s.heap.get? a ≠ none := fun a ha z => by
    rw [← hF] at ha
    obtain ⟨_, o, e', _⟩ := t.frames.mem ha
    rw [z] at e'; cases e'
  refine wp_noteFrame (base := Γ.base) (h0 := s.heap) (H := H1) (n := n) (outer := outer) (ok.frames.trans (by rw [hstk])) hfr (hstk ▸ t1.frames.fun) (by rw [← hF]; exact t1.off) x1.alive sn (fun a z => ?_) live0 fun h1 nt1 sn1 _ => ?_
  · cases q : H1 a with
    | none => exact absurd q z
    | some o => exact (y1.view a o q).live
  have hfF : ∀ a ∈ Γ.F, Γ.base.get? a = none ∧ H1 a = none := fun a ha => ⟨(t1.frames.mem ha).1, t1.off a ha⟩
  have step : ∀ h', Noted ((Γ.env :: outer).filterMap (·.frame)) H1 s.heap s1.heap h' → Ext Γ.F H s.heap H1 h' ∧ St Γ m H1 { s1 with heap := h' } := fun h' nt => by
    rw [← hF] at nt
    have x2 := x1.noted nt (fun a m n => absurd m n) (by rw [hF]; exact ff t.frames) t.off
    exact ⟨x2, t.ext (s' := { s1 with heap := h' }) x2 (y1.noted (tk := s1.toks) nt t.sim.stays hfF (by rw [hF]; exact ff t1.frames))⟩
  refine wp_setFlight (env := Γ.env) (outer := outer) (L := L) none (by intro _ h; cases h) sn1 (ff (step h1 nt1).2.frames) fun h2 nt2 sn2 => ?_
  obtain ⟨x2, t2⟩ := step h2 (nt1.trans nt2)
  have X2 := ok.base.K.keeps t2.sim.stays
  obtain ⟨f0, of0, dx, vs, sl, es, k, tn, i1, i2, i3, i4, i5, i6, i7⟩ := id sn2
  have I : InstAt h2 e ⟨.ref 34, some dx, .fields vs, sl⟩ 34 (some (dictOf es k)) := ⟨i1, rfl, rfl, i2⟩
  refine wpAny_handleBy_cons (codeAny_handlers_test ?_) (by intro q; cases q)
  obtain ⟨mg, mb, T⟩ := ok.base.T
  refine Name_function_global ok.kind hg (loadGlobal_global (mg := mg) ?_ (mg_of ok.base.K T.g (g_SnobolError _)) ?_) (by decide)
  · rw [ok.globals]; exact T.g.keeps t2.sim.stays
  refine (exm_one X2 I.type (exm34 _)).here ?_
  show codeAny _ _ _ _ _
  refine codeAny_handlers_suite_as ?_
  refine wp_setFlight (env := Γ.env) (outer := outer) (L := L) none (by intro _ h; cases h) (sn2.frames (fun _ h => (nomatch h))) (ff t2.frames) fun h3 nt3 sn3 => ?_
  obtain ⟨x3, t3⟩ := step h3 ((nt1.trans nt2).trans nt3)
  obtain ⟨mm, hn, hL, hf⟩ := id t3.loc
  refine wpAny_storeName_local he hn (fun h4 hn4 hs4 => ?_) (by rw [ok.kind]; rfl)
  obtain ⟨a4, t4⟩ := store_local (v := .ref e) t3 ow.l he (.ref e) hn hf hL hn4 hs4 (s1.toks + 1)
  obtain ⟨_, _, dx, vs, sl, es, k, tn, j1, j2, j3, j4, j5, j6, j7⟩ := id sn3
  obtain ⟨oL, _, _, eL, dL, _⟩ := id hn
  have hLb : ∀ a o, s.heap.get? a = none → h3.get? a = some o → (∀ es ep, o.data = .dict es ep → False) → h4.get? a = some o := fun a o _ e d => (hs4.2 a fun q => by rw [q, eL] at e; cases e; exact d _ _ dL).trans e
  have hLo : ∃ o, s.heap.get? Γ.env.locals = some o := by
    obtain ⟨_, n0, _⟩ := t.loc
    obtain ⟨o, _, _, e, _⟩ := n0; exact ⟨o, e⟩
  have k1 : h4.get? e = some ⟨.ref 34, some dx, .fields vs, sl⟩ := (hs4.2 e fun q => by rw [q, eL] at j1; cases j1; cases dL).trans j1
  have k2 : h4.get? dx = some (dictOf es k) := (hs4.2 dx fun q => by obtain ⟨o, e0⟩ := hLo; rw [q, e0] at j4; cases j4).trans j2
  have I4 : InstAt h4 e ⟨.ref 34, some dx, .fields vs, sl⟩ 34 (some (dictOf es k)) := ⟨k1, rfl, rfl, k2⟩
  refine wpAny_execs_cons (wpAny_Return_some ?_)
  rw [arm_eval_Attribute]
  refine wpAny_bind (wpAny_Name (wpAny_loadName_local ok.kind he hn4 (if_pos rfl) ?_) (by decide))
  refine wpAny_bind (wpAny_standAt (wpAny_bind (wpAny_holding ?_)))
  refine get_exc (ok.base.K.keeps t4.sim.stays) I4 (findObj_own (snob_dict _) (snob_no _) rfl j5) rfl ?_
  refine wpAny_bind (wpAny_letTemporaryGo (wpAny_pure ?_))
  refine wpAny_nameGoes he hn4 (by rw [ok.kind]; rfl) fun h5 m5 hn5 hs5 => ?_
  obtain ⟨a5, t5⟩ := local_any t4 ow.l hn5 hs5 (s1.toks + 1 + 1 + 1)
  exact ⟨_, _, H1, (x3.w.trans a4).trans a5, t5, .ret (.int n tn), r1 _⟩
end

/-- what a lambda's cells hold -/
def LamCaps (base : Heap) (scope : Scope) (cl : List (Str × Addr)) (cap : Locs) : Prop :=
  ∀ x v, cap.lookup x = some v → scope.names.lookup x = some .free ∧ ∃ c val, cl.lookup x = some c ∧ base.IsCell c (some val) ∧ ∀ H h, Rel H h val v

theorem cw_lam {C : Con} {lv : Nat} {fa : Addr} {cap : Locs} {H : AH} {Q : V → AH → Prop} {R : Int → AH → Prop} {fd : FuncData} {body : Expr} {oc : Value} {od : Option Addr} {osl : Array (Option Value)}
    (hB : Base C.w C.base) (hK : C.base.get? fa = some ⟨oc, od, .func fd, osl⟩) (hcd : ∀ s : Shared, Sim C.w C.base C.os H s → s.heap.CodeRec fd.code fd.qualname) (hbody : fd.body = .expr body)
    (hbind : bindArgs fd ⟨[], []⟩ = pure []) (hcell : ∀ x ∈ fd.scope.names, x.2 ≠ .cell) (hcaps : LamCaps C.base fd.scope fd.closure cap)
    (hglob : fd.globals = mainGlobals) (hblt : fd.builtins = builtinsNs)
    (hco : fd.scope.isCoroutine = false) (hgen : fd.scope.isGenerator = false) (hk : fd.scope.kind = .function)
    (h : ∀ A stk L own, (Cx.fn C lv A (callEnv fd L fa) stk own).Ok → EV (Cx.fn C lv A (callEnv fd L fa) stk own) body cap H Q R) : CW C (lv + 1) (.ref fa) [] H Q R := by
  intro A stk s vals a1 a2 a3 a4 a5 a6 a7 a8
  cases a8
  obtain ⟨mg, mb, T⟩ := hB.T
  refine kla_callFunE (by have : recursionLimit = 1000 := rfl; omega) (a7.stays _ _ hK) rfl hco hgen hbody (hcd s a7) ?_
  rw [hbind]
  refine wpAny_pure (wpAny_newFunctionEnv hcell (by intro y hy; cases hy) (fun h₁ hn hsb => ⟨(T.nolimit.keeps a7.stays).fresh _ hsb, ?_⟩) hk)
  have hk₁ : ∀ b o, s.heap.get? b = some o → h₁.get? b = some o := fun b o e => hsb.extBut b o (Nat.ne_of_lt (Heap.lt_size e)) (Heap.get?_push_of_some _ e)
  let L := s.heap.objs.size
  let env := callEnv fd L fa
  let Γ : Cx := { w := C.w, base := C.base, os := C.os, A := A.deeper env, env := env, stk := env :: stk, lv := lv, own := [L] }
  have hLn : s.heap.get? L = none := Heap.get?_none_of_le (Nat.le_refl _)
  have hbL : C.base.get? L = none := by
    cases q : C.base.get? L with
    | none => rfl
    | some o => have := a7.stays _ _ q; rw [hLn] at this; cases this
  have hHL : H L = none := a7.fresh hLn
  have hks : fd.scope.kind ≠ .module := by rw [hk]; decide
  have okΓ : Γ.Ok := ⟨hB, Around.frames_deeper a1, hk, hglob, hblt, by show A.depth + 1 + 10 * lv ≤ 900; omega, by show A.units + 3 + 100 * lv ≤ 9000; omega, a4⟩
  have ext0 : Ext (stk.filterMap (·.frame)) H s.heap H h₁ := Ext.grow hk₁
  have nocell : ∀ x, env.kindOf x ≠ some .cell := fun x hx => by
    have hx : fd.scope.names.lookup x = some .cell := hx
    exact hcell _ (mem_of_lookup hx) rfl
  show codeAny _ A (.expr body env) _ _
  have st1 : St Γ cap H { s with heap := h₁, toks := s.toks + 0 } := by
    refine ⟨a7.grow (tk := s.toks + 0) hk₁, ⟨_, hn, hHL, fun x v hv => ?_⟩, fun x c hx hc => absurd hx (nocell x), ?_, fun a ha => ?_⟩
    · obtain ⟨g1, c, val, g2, ⟨oc, g3, g4⟩, g5⟩ := hcaps x v hv
      refine .inr ⟨.inr g1, c, val, g2, ⟨oc, hk₁ _ _ (a7.stays _ _ g3), g4⟩, ?_, g5 _ _⟩
      cases z : H c with
      | none => rfl
      | some o => have := a7.off _ _ z; rw [g3] at this; cases this
    · exact ⟨hks, ⟨L, (ns_of_get hn).choose, rfl, hbL, (ns_of_get hn).choose_spec.choose_spec.choose_spec.1, ⟨_, _, (ns_of_get hn).choose_spec.choose_spec.choose_spec.2⟩⟩, frames_ext ext0 a5 a6⟩
    · rw [show Γ.F = L :: stk.filterMap (·.frame) from rfl] at ha
      rcases List.mem_cons.mp ha with rfl | ha
      · exact hHL
      · exact a6 a ha
  have ne : ∀ a o, s.heap.get? a = some o → a ≠ L := fun a o e q => by rw [q, hLn] at e; cases e
  have back : ∀ {H' h'}, ExtW Γ.F Γ.own H h₁ H' h' → Ext (stk.filterMap (·.frame)) H s.heap H' h' := fun x =>
    ⟨fun a o e z => by
      obtain ⟨sl, e1, f1⟩ := x.keep a o (hk₁ a o e) z (fun q => absurd (List.mem_singleton.mp q) (ne a o e))
      exact ⟨sl, e1, fun q => f1 fun z => by rcases List.mem_cons.mp z with z | z; exact ne a o e z; exact q z⟩,
     fun a o e z => x.none a o (hk₁ a o e) z, fun a o e => x.alive a o (hk₁ a o e), fun a l o z e => x.lock a l o z (hk₁ a o e)⟩
  refine kla_codeExpr (wpAny_mono (h (A.deeper env) stk L [L] okΓ _ st1) (fun v s' p => ?_) fun e s' p => ?_)
  · obtain ⟨mv, H', x, y', r, q⟩ := p
    exact ⟨mv, H', back x.w, y', r, q⟩
  · obtain ⟨n, H', x, rfl, xw, y', fr', off', sn, q⟩ := p.w st1
    have hFf : ∀ a ∈ Γ.F, ∀ o, s'.heap.get? a = some o → ∀ vs, o.data ≠ .fields vs := fun a ha o e => by
      obtain ⟨_, o2, e2, nf⟩ := fr'.mem ha; rw [e] at e2; cases e2; exact nf
    have hF0 : ∀ a ∈ Γ.F, h₁.get? a ≠ none := fun a ha => by
      obtain ⟨_, o2, e2, nf⟩ := st1.frames.mem ha; rw [e2]; simp
    have hbF : ∀ a ∈ Γ.F, C.base.get? a = none ∧ H' a = none := fun a ha => ⟨(fr'.mem ha).1, off' a ha⟩
    have h0s : C.base.StaysIn h₁ := fun b o e => hk₁ b o (a7.stays b o e)
    show wpAny _ (A.deeper env) (do noteFrame (.ref x) env; setFlight (.ref x) none) _ _ s'
    refine wpAny_bind (wp_noteFrame (base := C.base) (h0 := h₁) (H := H') (n := n) (L := L) (Around.frames_deeper a1) rfl fr'.fun off' (fun a o e => xw.alive a o e) sn (fun a z => ?_) hF0 fun h' nt sn' _ => ?_)
    · cases hq : H' a with
      | none => exact absurd hq z
      | some o => exact (y'.view a o hq).live
    · have y2 := Sim.noted (tk := s'.toks) nt y' h0s hbF hFf
      have hFf' : ∀ a ∈ Γ.F, ∀ o, h'.get? a = some o → ∀ vs, o.data ≠ .fields vs := fun a ha o e => by
        obtain ⟨_, o2, e2, nf⟩ := (ff_noted nt (fun _ h => h) fr').mem ha; rw [e] at e2; cases e2; exact nf
      refine wp_setFlight (s := { s' with heap := h' }) (env := env) (outer := stk) (L := L) none (fun l h => by cases h) sn' hFf' fun h'' nt' sn'' => ?_
      have y3 := Sim.noted (s := { s' with heap := h' }) (tk := s'.toks) nt' y2 h0s hbF hFf'
      have ntt := nt.trans nt'
      refine ⟨n, H', x, rfl, (back xw).noted (F' := Γ.F) ⟨fun a o e hF c => ntt.kept a o e hF (c.imp (fun z q => z (by cases w : s.heap.get? a with | none => rfl | some o2 => rw [hk₁ a o2 w] at q; cases q)) id), ntt.frames, ntt.alive⟩ (fun a ha hn => ?_) (fun a ha o e => ?_) a6, y3, ?_, q⟩
      · rcases List.mem_cons.mp ha with rfl | ha
        · exact hLn
        · exact absurd ha hn
      · obtain ⟨_, o2, e2, nf⟩ := a5.mem ha; rw [e] at e2; cases e2; exact nf
      · exact Snob.afterW (F0 := []) (W := []) (H := H) (H' := H) ⟨fun a o e _ _ => ⟨o.slots, hk₁ a o e, fun _ => rfl⟩, fun a o _ e => e, fun a o e => ⟨o, hk₁ a o e⟩, fun a l o z e => ⟨hk₁ a o e, z⟩⟩ sn''

/-- a call without arguments of a function that the base holds -/
theorem ev_call0 {Γ : Cx} {m : Locs} {H : AH} {Q : V → AH → Prop} {R : Int → AH → Prop} {pos : Pos} {fe : Expr} {fa : Addr} {lv : Nat} (ok : Γ.Ok) (hf : FnAt fa Γ.base)
    (h : EV Γ fe m H (fun v H1 => v = .ref fa ∧ CW Γ.con lv (.ref fa) [] H1 Q R) R) (hl : lv ≤ Γ.lv)
    (he : ∀ env, eval (.Call fe [] [] pos) env = (do callWith pos (← eval fe env) [] (backTo pos (starEach [] env)) (backToKw pos (keywordEach [] env))) := by intro _; rfl) : EV Γ (.Call fe [] [] pos) m H Q R := by
  intro s t
  refine Call_ (wpAny_mono (h s t) (fun v s1 h1 => ?_) fun _ _ z => z) (he _)
  obtain ⟨_, H1, x1, y1, r1, rfl, q1⟩ := h1
  refine r1.rE ?_
  have t1 := t.ext x1 y1
  obtain ⟨oc, od, fd, sl, e⟩ := hf
  refine callWith_F0 ⟨oc, od, fd, sl, y1.stays _ _ e⟩ ?_
  exact wpAny_mono (q1.at ok hl t1 .nil) (fun _ _ z => z.after x1) fun _ _ z => z.after x1

theorem c_error {C : Con} {lv : Nat} {H : AH} {Q : V → AH → Prop} {R : Int → AH → Prop} (hB : Base C.w C.base) {f : Addr} (hf : FnAt f C.base) (h : CW C lv (.ref f) [] H (fun _ H1 => Q (.int 0) H1) (fun n H1 => Q (.int n) H1)) : CW C (lv + 1) (.ref 371) [.ref f] H Q R := by
  refine cw_def ok371 hB (body := bod st371) rfl rfl (fun A stk L own ok ow => ?_)
  refine ex_cons (es_try ok ow Top1.fn rfl rfl (ev_call0 ok hf (ev_local ok rfl ⟨rfl, h.mono (fun v H1 q => ?_) fun n H1 q m' => q⟩) (Nat.le_refl _)))
  exact ex_ret (ev_int q)

theorem g_builtins : ∀ P, nsIn (frag P) mainGlobals ("__builtins__" : Str) = some (some (.ref 4)) := fun P => by kernel_rfl
/-- the module of the builtins stands -/
def BMain (base : Heap) : Prop := ∃ ob, base.get? 4 = some ob ∧ ob.cls = .type "module" ∧ ob.dict = some builtinsNs ∧ ob.data = .plain
/-- a value that the heap does not touch -/
def Simple (v : V) : Prop := ∀ val H h, Rel H h val v → ∀ H' h', Rel H' h' val v
theorem Simple.ref (a : Addr) : Simple (.ref a) := fun val H h r H' h' => by refine r.rE ?_; exact .ref a
theorem Simple.str (x : Str) : Simple (.str x) := fun val H h r H' h' => by refine r.sE fun _ => ?_; exact .str x _
/-- what a lambda sees of its frame -/
def LamSee (Γ : Cx) (m : Locs) (scope : Scope) (cl : List (Str × Addr)) (cap : Locs) : Prop :=
  ∀ x v, cap.lookup x = some v → m.lookup x = some v ∧ Γ.env.kindOf x = some .cell ∧ scope.names.lookup x = some .free ∧ cl.lookup x = Γ.env.cells.lookup x ∧ Simple v

noncomputable def growBase (H : AH) (F : List Addr) (h : Heap) : Heap := hideAll h ((List.range h.objs.size).filter fun b => (H b).isSome || F.contains b)
theorem growBase_of {H F h b o} (e : (growBase H F h).get? b = some o) : h.get? b = some o := of_hideAll _ e
theorem growBase_get {H : AH} {F h b o} (e : h.get? b = some o) (hH : H b = none) (hF : b ∉ F) : (growBase H F h).get? b = some o := by
  refine hideAll_get _ e fun q => ?_
  have := (List.mem_filter.mp q).2
  rw [hH] at this
  simp at this
  exact hF this
theorem growBase_none {H : AH} {F h b} (e : (H b).isSome = true ∨ b ∈ F) : (growBase H F h).get? b = none := by
  cases z : (growBase H F h).get? b with
  | none => rfl
  | some o =>
    have lt := Heap.lt_size (growBase_of z)
    rw [← z]
    refine hideAll_none _ (List.mem_filter.mpr ⟨List.mem_range.mpr lt, ?_⟩)
    rcases e with e | e
    · rw [e]; rfl
    · simp [e]
theorem FF.rebase {h base base' : Heap} {l : List Env} (k : ∀ a ∈ l.filterMap (·.frame), base'.get? a = none) (x : FF h base l) : FF h base' l := by
  induction l with
  | nil => trivial
  | cons env rest ih =>
    obtain ⟨hk, ⟨L, o, hf, _, hd⟩, hr⟩ := x
    rw [List.filterMap_cons, hf] at k
    exact ⟨hk, ⟨L, o, hf, k L (.head _), hd⟩, ih (fun a ha => k a (.tail _ ha)) hr⟩

noncomputable abbrev lamFd (qual : Str) (params : Arguments) (body : Expr) (scope : Scope) (cl : List (Str × Addr)) (pm c ct : Value) : FuncData := kla_fn "<lambda>" qual params body scope cl pm c ct

/-- the lambda's body, wherever it is called from -/
def LamBody (lv : Nat) (qual : Str) (params : Arguments) (body : Expr) (scope : Scope) (cl : List (Str × Addr)) (cap : Locs) (H : AH) (Q : V → AH → Prop) : Prop :=
  ∀ (C : Con) (pm c ct : Value) (fa : Addr), Base C.w C.base → ∀ A stk L own, (Cx.fn C lv A (callEnv (lamFd qual params body scope cl pm c ct) L fa) stk own).Ok →
    EV (Cx.fn C lv A (callEnv (lamFd qual params body scope cl pm c ct) L fa) stk own) body cap H (fun _ H2 => Q (.int 0) H2) (fun n H2 => Q (.int n) H2)

theorem lam_call {Γ : Cx} {m cap : Locs} {H : AH} {s : Shared} {f c' : Addr} {Q : V → AH → Prop} {R : Int → AH → Prop} {oc : Obj} {vs : Array Value} {tq : Tok} {qual : Str} {params : Arguments} {body : Expr} {scope : Scope} {cl : List (Str × Addr)} {pm ctv : Value} {lv : Nat}
    (ok : Γ.Ok) (t : St Γ m H s) (hl : lv + 2 ≤ Γ.lv) (hfo : s.heap.get? f = some { cls := .type "function", data := .func (lamFd qual params body scope cl pm (.ref c') ctv) }) (hf1 : H f = none) (hfF : f ∉ Γ.F)
    (hoc : H c' = some (.obj oc)) (hd : oc.data = .fields vs) (hv : vs[1]? = some (.str qual tq)) (hsee : LamSee Γ m scope cl cap)
    (hbind : ∀ pm c ct, bindArgs (lamFd qual params body scope cl pm c ct) ⟨[], []⟩ = pure []) (hcell : ∀ x ∈ scope.names, x.2 ≠ .cell) (hco : scope.isCoroutine = false) (hgen : scope.isGenerator = false) (hk : scope.kind = .function)
    (h : LamBody lv qual params body scope cl cap H Q) : wpAny (Mw Γ.w) Γ.A (call (.ref 371) [.ref f]) (VPost Γ H s Q) (XPost Γ H s R) s := by
  let C : Con := ⟨Γ.w, growBase H Γ.F s.heap, Γ.os⟩
  have st : Γ.base.StaysIn C.base := fun b o e => growBase_get (t.sim.stays _ _ e) (by
    cases z : H b with
    | none => rfl
    | some ob => have := t.sim.off _ _ z; rw [e] at this; cases this) (fun q => by have := (t.frames.mem q).1; rw [e] at this; cases this)
  have hB : Base C.w C.base := ⟨ok.base.K.keeps st, let ⟨mg, mb, T⟩ := ok.base.T; ⟨mg, mb, T.keeps st⟩⟩
  have sim : Sim C.w C.base C.os H s := ⟨fun b o e => growBase_of e, t.sim.view, fun a o e => growBase_none (.inl (by rw [e]; rfl)), t.sim.gens, t.sim.os⟩
  have ff : FF s.heap C.base Γ.stk := t.frames.rebase fun a ha => growBase_none (.inr ha)
  have hcaps : LamCaps C.base scope cl cap := fun x v hx => by
    obtain ⟨g1, g2, g3, g4, g5⟩ := hsee x v hx
    obtain ⟨mm, _, _, hf⟩ := t.loc
    rcases hf x v g1 with ⟨k, _⟩ | ⟨_, c, val, e1, ⟨ob, e2, d2⟩, e3, e4⟩
    · rw [g2] at k; cases k
    · refine ⟨g3, c, val, g4.trans e1, ⟨ob, growBase_get e2 e3 fun q => ?_, d2⟩, g5 _ _ _ e4⟩
      obtain ⟨o', es, ep, e', d'⟩ := t.frames.memD q
      rw [e2] at e'; cases e'; rw [d2] at d'; cases d'
  have cw : CW C (lv + 2) (.ref 371) [.ref f] H Q (fun _ _ => False) :=
    c_error hB ⟨_, _, _, _, growBase_get hfo hf1 hfF⟩ (cw_lam hB (growBase_get hfo hf1 hfF) (fun s2 y => ⟨c', oc, vs, tq, rfl, y.view _ _ hoc, hd, hv⟩) rfl (hbind _ _ _) hcell hcaps rfl rfl hco hgen hk fun A stk L own ok' => h C pm (.ref c') ctv f hB A stk L own ok')
  have weak : ∀ {H' s'}, Sim C.w C.base C.os H' s' → Sim Γ.w Γ.base Γ.os H' s' := fun {H' s'} y => ⟨fun b o e => y.stays _ _ (st b o e), y.view, (fun a o e => by
    cases z : Γ.base.get? a with
    | none => rfl
    | some ob => have := y.off a o e; rw [st a ob z] at this; cases this), y.gens, y.os⟩
  refine wpAny_mono (wpAny_call (E := CXPost C.w C.base C.os Γ.F H s (fun _ _ => False)) (Q := CPost C.w C.base C.os Γ.F H s Q) (cw Γ.A Γ.stk s [.ref f] ok.frames (by have := ok.depth; omega) (by have := ok.units; omega) ok.handled ff t.off sim (.cons (.ref f) .nil))) (fun v s' p => ?_) fun v s' p => ?_
  · obtain ⟨mv, H', x, y, r, q⟩ := p
    exact ⟨mv, H', x, weak y, r, q⟩
  · obtain ⟨n, H', e, _, _, _, _, q⟩ := p
    exact q.elim

section
variable {Γ : Cx} {m cap : Locs} {H : AH} {Q : V → AH → Prop} {R : Int → AH → Prop} {params : Arguments} {body : Expr} {scope : Scope} {cl : List (Str × Addr)} {c P : Addr} {ps : Array Value} {lp p1 pos : Pos} {lv : Nat}
theorem bmain_at {s : Shared} {mg : Str → Option Value} (ok : Γ.Ok) (hB4 : BMain Γ.base) (y : Sim Γ.w Γ.base Γ.os H s) (G : Γ.base.Ns mainGlobals mg) (hP : H P = some (.obj (tabObj ps))) : s.heap.BuiltinsAt mg P := by
  obtain ⟨ob, e, c1, c2, c3⟩ := hB4
  refine ⟨4, ob, mg_of ok.base.K G (g_builtins _), by decide, by decide, fun q => ?_, y.stays _ _ e, c1, c2, c3⟩
  have := y.off _ _ hP
  rw [← q, e] at this; cases this
/-- a lambda made on the spot and called by _law_error -/
theorem ev_lawerr (ok : Γ.Ok) (hB4 : BMain Γ.base) (hn : Γ.env.kindOf ("_law_error" : Str) = some .globalImplicit) (hcode : Γ.env.code = .ref c) (hC : CodeHd Γ.base c P) (hP : H P = some (.obj (tabObj ps))) (ht : TriplesOk ps.toList)
    (hnf : codeAmong lp ps.toList = none) (hclos : closureFor scope Γ.env = pure cl) (hdef : defaultsOf params Γ.env = ([], [])) (hsee : LamSee Γ m scope cl cap)
    (hbind : ∀ pm c ct, bindArgs (lamFd (Γ.env.qual ++ "<lambda>") params body scope cl pm c ct) ⟨[], []⟩ = pure []) (hcell : ∀ x ∈ scope.names, x.2 ≠ .cell) (hco : scope.isCoroutine = false) (hgen : scope.isGenerator = false) (hk : scope.kind = .function) (hl : lv + 2 ≤ Γ.lv)
    (h : ∀ (c' : Addr) (oc : Obj) (vs : Array Value) (tq : Tok), H c' = none → oc.data = .fields vs → vs[1]? = some (.str (Γ.env.qual ++ "<lambda>") tq) → c' ≠ P →
      LamBody lv (Γ.env.qual ++ "<lambda>") params body scope cl cap ((H.set P (.obj (tabObj (ps ++ #[rawInt lp.line, rawInt lp.col, .ref c'])))).set c' (.obj oc)) Q) :
    EV Γ (.Call (.Name "_law_error" p1) [.Lambda params body scope lp] [] pos) m H Q R := by
  intro s t
  refine Call_ (wpAny_mono ((ev_glob (Q := fun v H1 => v = .ref 371 ∧ H1 = H) (R := R) ok hn g__law_error ⟨rfl, rfl⟩) s t) (fun v s1 h1 => ?_) fun _ _ z => z) rfl
  obtain ⟨_, H1, x1, y1, r1, rfl, rfl⟩ := h1
  refine r1.rE ?_
  have t1 := t.ext x1 y1
  obtain ⟨mg, mb, T⟩ := ok.base.T
  have G1 := T.g.keeps y1.stays
  have eP : s1.heap.get? P = some (tabObj ps) := y1.view _ _ hP
  refine callWith_K (frag_at ok y1) (ok371.keep _) ?_
  show wpAny _ _ (spliced ((false, eval (.Lambda params body scope lp) Γ.env) :: backTo pos (starEach [] Γ.env))) _ _ _
  refine spliced_cons (kla_eval hdef (kla_makeFunction (mg := mg) hclos ok.globals G1 hcode (hC.keeps y1.stays) eP ht hnf (fun q => ?_) (bmain_at ok hB4 y1 T.g hP) fun c' ctv h' tk hx hge hlt hrec htb => ?_))
  · obtain ⟨o, es, ep, e, d, _⟩ := G1
    rw [q, eP] at e; cases e; cases d
  obtain ⟨c₂, oc, vs, tq, e2, hoc, hd, hv⟩ := hrec
  cases e2
  have fr : ∀ b, s1.heap.objs.size ≤ b → s1.heap.get? b = none := fun b hb => Heap.get?_none_of_le hb
  have hc'n : s1.heap.get? c' = none := fr _ hge
  have hfn : s1.heap.get? h'.objs.size = none := fr _ (Nat.le_trans hge (Nat.le_of_lt hlt))
  have hcP : c' ≠ P := ((nz eP hc'n).symm)
  have hcH : H1 c' = none := y1.fresh hc'n
  have hfc : h'.objs.size ≠ c' := Nat.ne_of_gt hlt
  have hfP : h'.objs.size ≠ P := ((nz eP hfn).symm)
  have nc : ∀ b o, s1.heap.get? b = some o → b ≠ c' := fun b o e q => by rw [q, hc'n] at e; cases e
  let fo : Obj := kla_obj "<lambda>" (Γ.env.qual ++ "<lambda>") params body scope cl ((mg "__name__").getD .none) c' ctv
  let H2 : AH := (H1.set P (.obj (tabObj (ps ++ #[rawInt lp.line, rawInt lp.col, .ref c'])))).set c' (.obj oc)
  have e2 : ∀ b, b ≠ P → b ≠ c' → H2 b = H1 b := fun b n1 n2 => by show ((H1.set P _).set c' _) b = _; rw [AH.set_ne _ _ n2, AH.set_ne _ _ n1]
  have ext : Ext Γ.F H1 s1.heap H2 (h'.push fo) := by
    refine ⟨fun a o e z => ?_, fun a o e z => ?_, fun a o e => ?_, fun a l o z e => ?_⟩
    · have nP : a ≠ P := ((nz hP z).symm)
      exact ⟨o.slots, Heap.get?_push_of_some _ (hx a o nP e), fun _ => rfl⟩
    · have nP : a ≠ P := ((nz hP z).symm)
      rw [e2 a nP (nc a o e)]; exact z
    · by_cases q : a = P
      · rw [q]; exact ⟨_, Heap.get?_push_of_some _ htb⟩
      · exact ⟨o, Heap.get?_push_of_some _ (hx a o q e)⟩
    · have nP : a ≠ P := fun q => by rw [q, hP] at z; cases z
      exact ⟨Heap.get?_push_of_some _ (hx a o nP e), by rw [e2 a nP (nc a o e)]; exact z⟩
  have sim : Sim Γ.w Γ.base Γ.os H2 { s1 with heap := h'.push fo, toks := tk } := by
    have hbP : ∀ b o, Γ.base.get? b = some o → b ≠ P := fun b o e q => by have := y1.off _ _ hP; rw [← q, e] at this; cases this
    refine y1.step ext.seqK (fun b o e => Heap.get?_push_of_some _ (hx b o (hbP b o e) (y1.stays b o e))) [P] (fun b ob o hb hn e => ?_) fun a o e => ?_
    · have nP : b ≠ P := fun q => hn (List.mem_singleton.mpr q)
      exact ⟨Heap.get?_push_of_some _ (hx b ob nP e), by rw [e2 b nP (nc b ob e)]; exact hb⟩
    · by_cases q : a = c'
      · subst q
        have e : (some (AO.obj oc)) = some o := by rw [← e]; exact (AH.set_self _ _ _).symm
        cases e
        refine .inr ⟨Heap.get?_push_of_some _ hoc, ?_⟩
        cases z : Γ.base.get? a with
        | none => rfl
        | some ob => have := y1.stays a ob z; rw [hc'n] at this; cases this
      · by_cases qP : a = P
        · subst qP
          have e : (some (AO.obj (tabObj (ps ++ #[rawInt lp.line, rawInt lp.col, .ref c'])))) = some o := by
            rw [← e]; show _ = ((H1.set a _).set c' _) a; rw [AH.set_ne _ _ q, AH.set_self]
          cases e
          exact .inr ⟨Heap.get?_push_of_some _ htb, y1.off _ _ hP⟩
        · rw [e2 a qP q] at e
          exact .inl ⟨e, fun z => qP (List.mem_singleton.mp z), fun dx hdx z => by rw [List.mem_singleton.mp z, hP] at hdx; cases hdx⟩
  have t2 := t1.ext (s' := { s1 with heap := h'.push fo, toks := tk }) ext sim
  refine wpAny_pure ⟨frag_at ok sim, ?_⟩
  have hfF : h'.objs.size ∉ Γ.F := fun q => by
    obtain ⟨_, o, e, _⟩ := t1.frames.mem q
    rw [hfn] at e; cases e
  refine wpAny_mono (lam_call (f := h'.objs.size) (c' := c') (cap := cap) (R := R) ok t2 hl (Heap.get?_push_size _ rfl) ?_ hfF (AH.set_self _ _ _) hd hv hsee hbind hcell hco hgen hk (h c' oc vs tq hcH hd hv hcP)) (fun _ _ z => z.after (x1.trans ext)) fun _ _ z => z.after (x1.trans ext)
  rw [e2 _ hfP hfc]; exact y1.fresh hfn
/-- the same lambda, made again: its code stands -/
theorem ev_lawerr2 {c' : Addr} {oc : Obj} {vs : Array Value} {tq : Tok} (ok : Γ.Ok) (hB4 : BMain Γ.base) (hn : Γ.env.kindOf ("_law_error" : Str) = some .globalImplicit) (hcode : Γ.env.code = .ref c) (hC : CodeHd Γ.base c P) (hP : H P = some (.obj (tabObj ps))) (ht : TriplesOk ps.toList)
    (hf : codeAmong lp ps.toList = some (.ref c')) (hoc : H c' = some (.obj oc)) (hd : oc.data = .fields vs) (hv : vs[1]? = some (.str (Γ.env.qual ++ "<lambda>") tq)) (hclos : closureFor scope Γ.env = pure cl) (hdef : defaultsOf params Γ.env = ([], [])) (hsee : LamSee Γ m scope cl cap)
    (hbind : ∀ pm c ct, bindArgs (lamFd (Γ.env.qual ++ "<lambda>") params body scope cl pm c ct) ⟨[], []⟩ = pure []) (hcell : ∀ x ∈ scope.names, x.2 ≠ .cell) (hco : scope.isCoroutine = false) (hgen : scope.isGenerator = false) (hk : scope.kind = .function) (hl : lv + 2 ≤ Γ.lv)
    (h : LamBody lv (Γ.env.qual ++ "<lambda>") params body scope cl cap H Q) : EV Γ (.Call (.Name "_law_error" p1) [.Lambda params body scope lp] [] pos) m H Q R := by
  intro s t
  refine Call_ (wpAny_mono ((ev_glob (Q := fun v H1 => v = .ref 371 ∧ H1 = H) (R := R) ok hn g__law_error ⟨rfl, rfl⟩) s t) (fun v s1 h1 => ?_) fun _ _ z => z) rfl
  obtain ⟨_, H1, x1, y1, r1, rfl, rfl⟩ := h1
  refine r1.rE ?_
  have t1 := t.ext x1 y1
  obtain ⟨mg, mb, T⟩ := ok.base.T
  have G1 := T.g.keeps y1.stays
  have eP : s1.heap.get? P = some (tabObj ps) := y1.view _ _ hP
  refine callWith_K (frag_at ok y1) (ok371.keep _) ?_
  show wpAny _ _ (spliced ((false, eval (.Lambda params body scope lp) Γ.env) :: backTo pos (starEach [] Γ.env))) _ _ _
  refine spliced_cons (kla_eval hdef (kla_makeFunctionHit (mg := mg) hclos ok.globals G1 hcode (hC.keeps y1.stays) eP ht hf (bmain_at ok hB4 y1 T.g hP) fun ctv h' tk hk' hsz => ?_))
  have hfn : s1.heap.get? h'.objs.size = none := Heap.get?_none_of_le hsz
  let fo : Obj := { cls := .type "function", data := .func (kla_fn "<lambda>" (Γ.env.qual ++ "<lambda>") params body scope cl ((mg "__name__").getD .none) (.ref c') ctv) }
  have k2 : ∀ b o, s1.heap.get? b = some o → (h'.push fo).get? b = some o := fun b o e => Heap.get?_push_of_some _ (hk' b o e)
  have ext : Ext Γ.F H1 s1.heap H1 (h'.push fo) := Ext.grow k2
  have sim : Sim Γ.w Γ.base Γ.os H1 { s1 with heap := h'.push fo, toks := tk } := y1.grow k2
  have t2 := t1.ext (s' := { s1 with heap := h'.push fo, toks := tk }) ext sim
  refine wpAny_pure ⟨frag_at ok sim, ?_⟩
  have hfF : h'.objs.size ∉ Γ.F := fun q => by
    obtain ⟨_, o, e, _⟩ := t1.frames.mem q
    rw [hfn] at e; cases e
  exact wpAny_mono (lam_call (f := h'.objs.size) (c' := c') (cap := cap) (R := R) ok t2 hl (Heap.get?_push_size _ rfl) (y1.fresh hfn) hfF hoc hd hv hsee hbind hcell hco hgen hk h) (fun _ _ z => z.after (x1.trans ext)) fun _ _ z => z.after (x1.trans ext)
end

theorem wpAny_nfe_comp {M : Model} {A : Around} {E : Value → Shared → Prop} {s : Shared} {scope : Scope} {globals : Addr} {qual : Str} {outer : Env} {Q : Env → Shared → Prop}
    (hQ : Q (newEnv scope s.heap.objs.size globals (cellsFrom (s.heap.objs.size + 1) scope.names []) qual none .none (some outer) builtinsNs) { s with heap := pushCells (s.heap.push { cls := .type "dict", data := .dict #[] }) scope.names }) :
    wpAny M A (newFunctionEnv scope globals [] [] qual none .none (some outer)) Q E s := by
  simp only [newFunctionEnv, Option.isSome_some, if_true]
  refine wpAny_bind (wpAny_alloc ?_)
  refine wpAny_bind (wpAny_layCells _ (fun name kind cells => by cases hkc : kind == NameKind.cell <;> simp) _ _ _ _ ?_)
  rw [List.forIn_nil]
  refine wpAny_bind (wpAny_pure (wpAny_pure ?_))
  rw [show ({ s with heap := s.heap.push { cls := .type "dict", data := .dict #[] } } : Shared).heap.objs.size = s.heap.objs.size + 1 from Heap.size_push ..]
  exact hQ

noncomputable abbrev Cx.compc (Γ : Cx) (scope : Scope) (x : Str) (C c : Addr) : Cx := { Γ with env := compEnvC scope [(x, c)] C Γ.env, own := [C, c] }
theorem Cx.Ok.compc {Γ : Cx} (ok : Γ.Ok) {scope : Scope} {x : Str} {C c : Addr} (hk : scope.kind = .function) : (Γ.compc scope x C c).Ok := ⟨ok.base, ok.frames, hk, ok.globals, ok.builtins, ok.depth, ok.units, ok.handled⟩

def CompCellOb (Γ : Cx) (scope : Scope) (x : Str) (target : Expr) (BD : Addr → Addr → Addr → Locs → AH → (Locs → AH → Prop) → Prop) (Q : V → AH → Prop) (xs : List V) (wr lk : List Addr) (H1 : AH) : Prop :=
  ∀ C c D, Owns (Γ.compc scope x C c) → H1 D = none → D ∉ wr → D ∉ lk → ∃ J : Nat → Locs → AH → Prop, J 0 [] (lockH (H1.set D (.list [])) wr lk) ∧
    (∀ i v mi Hi, xs[i]? = some v → J i mi Hi → Lk (H1.set D (.list [])) wr lk Hi → AS (Γ.compc scope x C c) target v mi Hi (fun m1 H2 => BD C c D m1 H2 (fun m3 H3 => J (i + 1) m3 H3))) ∧
    (∀ mn Hn, J xs.length mn Hn → Lk (H1.set D (.list [])) wr lk Hn → Q (.ref D) (unl (H1.set D (.list [])) wr lk Hn))

theorem comp_core_cell {Γ : Cx} {m : Locs} {H : AH} {s s2 : Shared} {target e : Expr} {scope : Scope} {x : Str} {BD : Addr → Addr → Addr → Locs → AH → (Locs → AH → Prop) → Prop} {Q : V → AH → Prop} {it : Value} {E : Value → Shared → Prop} (ok : Γ.Ok)
    (hcf : ∀ n, cellsFrom n scope.names [] = [(x, n)]) (hpush : ∀ h, pushCells h scope.names = h.push { cls := .type "cell", data := .cell none }) (hkind : scope.kind = .function)
    (lr : ∀ C c D It, LoopRule (Γ.compc scope x C c) target It (.compLoop e 0 (.ref It) (.ref D) (compEnvC scope [(x, c)] C Γ.env)) (BD C c D))
    (sr : ∀ it acc env R s, codeAny (Mw Γ.w) Γ.A (.compLoop e 0 it acc env) R s → wpAny (Mw Γ.w) Γ.A (pyIter it) (fun it' s' => codeAny (Mw Γ.w) Γ.A (.compLoop e 0 it' acc env) R s') (notedBy (Mw Γ.w) Γ.A env fun x s' => R (.error x) s') s → codeAny (Mw Γ.w) Γ.A (.compStart e 0 it acc env) R s)
    (t : St Γ m H s) (p : IPost Γ target H s (CompCellOb Γ scope x target BD Q) it s2) (RR : Value → Addr → Result → Shared → Prop)
    (hRR : ∀ C D s', CFin Γ H s Q C D s' → RR (.ref D) C (.ok .next) s') :
    wpAny (Mw Γ.w) Γ.A (newList []) (fun acc s₃ => wpAny (Mw Γ.w) Γ.A (newFunctionEnv scope Γ.env.globals [] [] Γ.env.qual none .none (some Γ.env)) (fun cenv s₄ =>
      codeAny (Mw Γ.w) Γ.A (.compStart e 0 it acc { cenv with scope := relabel scope Γ.env }) (RR acc cenv.locals) s₄) E s₃) E s2 := by
  obtain ⟨I, H1, xs, fp, wr, lk, P2, S, rfl, W, S0, x1, y1, hwr, hlk, hfp, hval, hJ⟩ := p
  refine wpAny_newObj_type (wpAny_nfe_comp ?_)
  dsimp only
  rw [hcf, hpush]
  generalize hH2 : s2.heap.push { cls := .type "list", dict := none, data := .seq ([] : List Value).toArray } = H2
  have hC : H2.objs.size = s2.heap.objs.size + 1 := by rw [← hH2, Heap.size_push]
  have hns0 := Heap.Ns.new H2 (.type "dict")
  have hsz : (H2.push { cls := .type "dict", data := .dict #[] }).objs.size = H2.objs.size + 1 := Heap.size_push ..
  have hcel : ((H2.push { cls := .type "dict", data := .dict #[] }).push { cls := .type "cell", data := .cell none }).get? (H2.push { cls := .type "dict", data := .dict #[] }).objs.size = some { cls := .type "cell", data := .cell none } := Heap.get?_push_size _ rfl
  rw [hsz] at hcel
  have hns₁ := hns0.push { cls := .type "cell", data := .cell none }
  have kk : ∀ b o, H2.get? b = some o → ((H2.push { cls := .type "dict", data := .dict #[] }).push { cls := .type "cell", data := .cell none }).get? b = some o := fun b o e => Heap.get?_push_of_some _ (Heap.get?_push_of_some _ e)
  generalize (H2.push { cls := .type "dict", data := .dict #[] }).push { cls := .type "cell", data := .cell none } = h₁ at hcel hns₁ kk ⊢
  have hDC : s2.heap.objs.size ≠ H2.objs.size := by rw [hC]; exact Nat.ne_of_lt (Nat.lt_succ_self _)
  have old : ∀ b o, s2.heap.get? b = some o → h₁.get? b = some o := fun b o e => kk b o (hH2 ▸ Heap.get?_push_of_some _ e)
  have hDo : h₁.get? s2.heap.objs.size = some { cls := .type "list", data := .seq #[] } := kk _ _ (hH2 ▸ Heap.get?_push_size _ rfl)
  have hDn : s2.heap.get? s2.heap.objs.size = none := get_none (k := 0)
  have hCn : s2.heap.get? H2.objs.size = none := by rw [hC]; exact get_none (k := 1)
  have hcn : s2.heap.get? (H2.objs.size + 1) = none := by rw [hC]; exact get_none (k := 2)
  have hDc : s2.heap.objs.size ≠ H2.objs.size + 1 := by rw [hC]; show @Ne Nat _ _; omega
  show codeAny _ _ (.compStart e 0 (.ref I) (.ref s2.heap.objs.size) (compEnvC scope [(x, H2.objs.size + 1)] H2.objs.size Γ.env)) (RR (.ref s2.heap.objs.size) H2.objs.size) { s2 with heap := h₁, toks := s2.toks }
  generalize hDe : s2.heap.objs.size = D at *
  generalize hce : H2.objs.size + 1 = c at *
  generalize hCe : H2.objs.size = C at *
  clear hns0 hsz hH2 hC kk
  have lw : ∀ b ∈ wr, ∃ o, s2.heap.get? b = some o := fun b hb => (y1.view b _ (lockH_wr hb)).live
  have nDw : D ∉ wr := fun q => by obtain ⟨o, e⟩ := lw D q; rw [hDn] at e; cases e
  have ll : ∀ b ∈ lk, ∃ o, s2.heap.get? b = some o := fun b hb => by
    by_cases q : b ∈ wr
    · exact lw b q
    · obtain ⟨o, e⟩ := (hlk b hb).1; exact (y1.view b _ (lockH_lk q hb e)).live
  have nDl : D ∉ lk := fun q => by obtain ⟨o, e⟩ := ll D q; rw [hDn] at e; cases e
  have hHD : H1 D = none := by have := y1.fresh hDn; exact (lockH_none this).2
  have eL : lockH (H1.set D (.list [])) wr lk = (lockH H1 wr lk).set D (.list []) := lockH_set nDw nDl
  have sm := y1.newAt (D := D) (o := .list []) (tk := s2.toks) old hDn ⟨_, _, hDo, .nil⟩
  rw [← eL] at sm
  obtain ⟨sim4, ext4⟩ := sm
  have ext := x1.trans (ext4 Γ.F)
  have hHC : lockH (H1.set D (.list [])) wr lk C = none := by
    rw [eL, AH.set_ne _ _ (Ne.symm hDC)]; exact y1.fresh hCn
  have hHc : lockH (H1.set D (.list [])) wr lk c = none := by
    rw [eL, AH.set_ne _ _ (Ne.symm hDc)]; exact y1.fresh hcn
  have hsc : s.heap.get? c = none := x1.fresh hcn
  have hbc : Γ.base.get? c = none := by
    cases z : Γ.base.get? c with
    | none => rfl
    | some ob => have := y1.stays c ob z; rw [hcn] at this; cases this
  have hsC : s.heap.get? C = none := x1.fresh hCn
  have hbC : Γ.base.get? C = none := by
    cases z : Γ.base.get? C with
    | none => rfl
    | some ob => have := y1.stays C ob z; rw [hCn] at this; cases this
  have one : ∀ y c', ([(x, c)] : List (Str × Addr)).lookup y = some c' → c' = c ∧ y = x := fun y c' h => by
    rw [List.lookup_cons] at h
    by_cases q : y = x
    · subst q; rw [beq_self_eq_true] at h; cases h; exact ⟨rfl, rfl⟩
    · rw [beq_eq_false_iff_ne.mpr q] at h; cases h
  have st4 : St (Γ.compc scope x C c) [] (lockH (H1.set D (.list [])) wr lk) { s2 with heap := h₁, toks := s2.toks } := by
    refine ⟨sim4, ⟨_, hns₁, hHC, fun x v hv => by cases hv⟩, fun y c' k1 k2 => ?_, frames_ext ext t.frames t.off, fun a ha => ?_⟩
    · obtain ⟨rfl, _⟩ := one y c' k2
      exact ⟨⟨none, _, hcel, rfl⟩, hHc⟩
    · obtain ⟨_, o, ho, _⟩ := t.frames.mem ha
      exact ext.none a o ho (t.off a ha)
  have wl := walk_loop (Γ := Γ.compc scope x C c) (s := s) (H := H) (Q := fun _ Hn => Q (.ref D) Hn) (lr C c D I) W (W.frame 0 _ _ S0 fun b _ o e => old b o e) ext.w st4
    (fun b hb => ⟨(hwr b hb).1, by rw [AH.set_ne _ _ (fun (q : b = D) => nDw (q ▸ hb))]; exact (hwr b hb).2⟩)
    (fun a ha => ⟨by obtain ⟨o, e⟩ := (hlk a ha).1; exact ⟨o, by rw [AH.set_ne _ _ (fun (q : a = D) => nDl (q ▸ ha))]; exact e⟩, (hlk a ha).2⟩)
    (fun b hb => by
      rcases hfp b hb with ⟨z, nf, o, e, w⟩ | ⟨l, z⟩
      · have q : b ≠ D := (nz e hDn)
        refine .inl ⟨by rw [eL, AH.set_ne _ _ q]; exact z, nf, o, old b o e, fun hb => ?_⟩
        rcases List.mem_cons.mp hb with hb | hb
        · rw [hb, hCn] at e; cases e
        · rw [List.mem_singleton.mp hb, hcn] at e; cases e
      · obtain ⟨o, e⟩ := (y1.view b _ z).live
        have q : b ≠ D := (nz e hDn)
        exact .inr ⟨l, by rw [eL, AH.set_ne _ _ q]; exact z⟩)
    (fun i v x h0 h'' Hi hx hP hl sk => hval i v x h0 h'' Hi hx hP hl ((ext4 []).seqK.trans sk)) (hJ C c D ⟨.head _, fun y c' _ h => by rw [(one y c' h).1]; exact .tail _ (.head _), fun a ha => by
      rcases List.mem_cons.mp ha with ha | ha
      · rw [ha]; exact hbC
      · rw [List.mem_singleton.mp ha]; exact hbc, fun y c1 z c2 h1 h2 _ => (one _ _ h1).2.trans (one _ _ h2).2.symm⟩ hHD nDw nDl)
  have fin : ∀ s', APost (Γ.compc scope x C c) H s (fun _ Hn => Q (.ref D) Hn) s' → CFin Γ H s Q C D s' := fun s' p => by
    obtain ⟨mn, Hn, xw, t', q⟩ := p
    obtain ⟨mm, hn, hz, _⟩ := t'.loc
    refine ⟨Hn, ⟨fun a o e z => xw.keep a o e z fun hb => ?_, xw.none, xw.alive, xw.lock⟩, t'.sim, q, ⟨mm, hn⟩, hz, hsC, hbC⟩
    rcases List.mem_cons.mp hb with hb | hb
    · rw [hb, hsC] at e; cases e
    · rw [List.mem_singleton.mp hb, hsc] at e; cases e
  refine sr _ _ _ _ _ (codeAny_mono wl ?_) (W.self 0 _ _ _ (W.frame 0 _ _ S0 fun b _ o e => old b o e) (codeAny_mono wl ?_))
  · rintro r s' ⟨rfl, p⟩; exact hRR C D s' (fin s' p)
  · rintro r s' ⟨rfl, p⟩; exact hRR C D s' (fin s' p)


section
variable {Γ : Cx} {m : Locs} {H : AH} {target iter elt : Expr} {scope : Scope} {Q : V → AH → Prop} {R : Int → AH → Prop} {pos : Pos} {x : Str}
/-- a comprehension whose name is held in a cell -/
theorem ev_comp_cell {ifs : List Expr} (ok : Γ.Ok) (h : IV Γ target iter m H (CompCellOb Γ scope x target (fun C c D => BDs (Γ.compc scope x C c) D ifs elt) Q) R)
    (hclos : closureFor scope Γ.env = pure []) (hcf : ∀ n, cellsFrom n scope.names [] = [(x, n)] := by intro _; rfl) (hpush : ∀ h, pushCells h scope.names = h.push { cls := .type "cell", data := .cell none } := by intro _; rfl) (hkind : scope.kind = .function := by rfl) (hnames : ∀ y ∈ scope.names, y.2 = .local → scope.names.lookup y.1 = some .local := by decide)
    (hs : ∀ env x, foldedSetIterable iter env x = pure x := by intro _ _; rfl) : EV Γ (.ListComp elt [⟨target, iter, ifs, 0⟩] scope pos) m H Q R := by
  intro s t
  rw [eval_ListComp]
  refine wpAny_comprehension_free (use := none) rfl (hs _) hclos hkind hnames (wpAny_mono (h s t) (fun y s1 h1 => wpAny_mono h1 (fun it s2 p => ?_) fun _ _ z => z) fun _ _ z => z)
  refine comp_core_cell ok hcf hpush hkind (fun C c D It => loop_list1) (fun it acc env R s a b => codeAny_compStart_list a b) t p (fun acc C => compPost (Mw Γ.w) Γ.A (XPost Γ H s R) none (VPost Γ H s Q) acc C) fun C D s' f => ?_
  obtain ⟨mm, hn⟩ := f.ns
  exact ⟨mm, hn, fun h' hs' => f.but hs'⟩
end

noncomputable def extP (p : List Int) (b : Int × Int) : List (List Int) := (List.range (b.2 - b.1 + 1).toNat).map fun (k : Nat) => p ++ [b.1 + (k : Int)]
noncomputable def everyL (bs : List (Int × Int)) : List (List Int) := bs.foldl (fun es b => es.flatMap (extP · b)) [[]]
noncomputable def sizeN (bs : List (Int × Int)) : Nat := bs.foldl (fun n p => n * (p.2 - p.1 + 1).toNat) 1
theorem everyL_snoc (bs : List (Int × Int)) (b : Int × Int) : everyL (bs ++ [b]) = (everyL bs).flatMap (extP · b) := by unfold everyL; rw [List.foldl_append]; rfl
theorem sizeN_snoc (bs : List (Int × Int)) (b : Int × Int) : sizeN (bs ++ [b]) = sizeN bs * (b.2 - b.1 + 1).toNat := by unfold sizeN; rw [List.foldl_append]; rfl
theorem placesB_snoc (bs : List (Int × Int)) (b : Int × Int) (n : Int) : placesB (bs ++ [b]) n = placesB bs (n.fdiv (b.2 - b.1 + 1)) ++ [b.1 + n.fmod (b.2 - b.1 + 1)] := by
  unfold placesB
  rw [List.reverse_append]
  show (placesR (b :: bs.reverse) n).reverse = _
  show ((b.1 + n.fmod (b.2 - b.1 + 1)) :: placesR bs.reverse (n.fdiv (b.2 - b.1 + 1))).reverse = _
  rw [List.reverse_cons]
theorem flat_range {α : Type} (n : Nat) (f : Nat → Nat → α) (N : Nat) : (List.range N).flatMap (fun q => (List.range n).map (f q)) = (List.range (N * n)).map fun k => f (k / n) (k % n) := by
  induction N with
  | zero => rw [Nat.zero_mul]; rfl
  | succ N ih =>
    rw [List.range_succ, List.flatMap_append, ih, Nat.succ_mul, List.range_add, List.map_append, List.map_map]
    congr 1
    show (List.range n).map (f N) ++ [] = _
    rw [List.append_nil]
    refine List.map_congr_left fun r hr => ?_
    have hr := List.mem_range.mp hr
    show f N r = f ((N * n + r) / n) ((N * n + r) % n)
    have h1 : (N * n + r) / n = N := by rw [Nat.mul_comm, Nat.mul_add_div (by omega), Nat.div_eq_of_lt hr, Nat.add_zero]
    have h2 : (N * n + r) % n = r := by rw [Nat.mul_comm, Nat.mul_add_mod, Nat.mod_eq_of_lt hr]
    rw [h1, h2]
theorem fdiv_nat (k n : Nat) : (k : Int).fdiv n = ((k / n : Nat) : Int) := by rw [Int.fdiv_eq_ediv_of_nonneg _ (Int.natCast_nonneg _)]; rfl
theorem fmod_natC (k n : Nat) : (k : Int).fmod n = ((k % n : Nat) : Int) := by rw [Int.fmod_eq_emod_of_nonneg _ (Int.natCast_nonneg _)]; rfl
theorem width_nat {b : Int × Int} (h : b.1 ≤ b.2) : b.2 - b.1 + 1 = (((b.2 - b.1 + 1).toNat : Nat) : Int) := by omega
theorem everyR (rs : List (Int × Int)) (h : ∀ p ∈ rs, p.1 ≤ p.2) : everyL rs.reverse = (List.range (sizeN rs.reverse)).map fun (k : Nat) => placesB rs.reverse (k : Int) := by
  induction rs with
  | nil => rfl
  | cons b rs ih =>
    have ih := ih fun p hp => h p (.tail _ hp)
    rw [List.reverse_cons, everyL_snoc, sizeN_snoc, ih, List.flatMap_map]
    have hb := width_nat (h b (.head _))
    show (List.range _).flatMap (fun (q : Nat) => (List.range (b.2 - b.1 + 1).toNat).map fun (k : Nat) => placesB rs.reverse (q : Int) ++ [b.1 + (k : Int)]) = _
    rw [flat_range (b.2 - b.1 + 1).toNat (fun (q k : Nat) => placesB rs.reverse (q : Int) ++ [b.1 + (k : Int)])]
    refine List.map_congr_left fun k _ => ?_
    rw [placesB_snoc, hb, fdiv_nat, fmod_natC]
    rfl
theorem everyL_eq {bs : List (Int × Int)} (h : ∀ p ∈ bs, p.1 ≤ p.2) : everyL bs = (List.range (sizeN bs)).map fun (k : Nat) => placesB bs (k : Int) := by
  have := everyR bs.reverse fun p hp => h p (List.mem_reverse.mp hp)
  rwa [List.reverse_reverse] at this
theorem placeOf_snoc (b : Int × Int) (x : Int) (bs : List (Int × Int)) (ps : List Int) (n : Int) (e : bs.length = ps.length) : placeOf (bs ++ [b]) (ps ++ [x]) n = (placeOf bs ps n).bind fun m => if b.1 ≤ x ∧ x ≤ b.2 then some (m * (b.2 - b.1 + 1) + x - b.1) else none := by
  induction bs generalizing ps n with
  | nil =>
    cases ps with
    | nil => rfl
    | cons y ps => exact nomatch e
  | cons c bs ih =>
    cases ps with
    | nil => exact nomatch e
    | cons p ps =>
      obtain ⟨l, h⟩ := c
      rw [placeOf_cons, List.cons_append, List.cons_append, placeOf_cons, ih _ _ (Nat.succ.inj e)]
      by_cases q : l ≤ p ∧ p ≤ h
      · rw [if_pos q, if_pos q]
      · rw [if_neg q, if_neg q]; rfl
theorem divmod_int (k w : Nat) : (k : Int) = ((k / w : Nat) : Int) * (w : Int) + ((k % w : Nat) : Int) := by
  rw [← Int.natCast_mul, Nat.mul_comm (k / w) w, ← Int.natCast_add]; exact congrArg _ (Nat.div_add_mod k w).symm
theorem placeR (rs : List (Int × Int)) (h : ∀ p ∈ rs, p.1 ≤ p.2) : ∀ k : Nat, k < sizeN rs.reverse → placeOf rs.reverse (placesB rs.reverse (k : Int)) 0 = some (k : Int) ∧ (placesB rs.reverse (k : Int)).length = rs.reverse.length := by
  induction rs with
  | nil => exact fun k hk => Nat.lt_one_iff.mp hk ▸ ⟨rfl, rfl⟩
  | cons b rs ih =>
    intro k hk
    have hb := width_nat (h b (.head _))
    have hbb := h b (.head _)
    rw [List.reverse_cons, sizeN_snoc] at hk
    rw [List.reverse_cons, placesB_snoc, hb, fdiv_nat, fmod_natC]
    generalize hw : (b.2 - b.1 + 1).toNat = w at *
    have w0 : 0 < w := by omega
    have hq : k / w < sizeN rs.reverse := (Nat.div_lt_iff_lt_mul w0).mpr hk
    obtain ⟨i1, i2⟩ := ih (fun p hp => h p (.tail _ hp)) (k / w) hq
    refine ⟨?_, by rw [List.length_append, List.length_append, i2]; rfl⟩
    have hm := Nat.mod_lt k w0
    rw [placeOf_snoc b _ _ _ _ i2.symm, i1]
    show (if b.1 ≤ b.1 + ((k % w : Nat) : Int) ∧ b.1 + ((k % w : Nat) : Int) ≤ b.2 then some (((k / w : Nat) : Int) * (b.2 - b.1 + 1) + (b.1 + ((k % w : Nat) : Int)) - b.1) else none) = _
    rw [if_pos ⟨by omega, by omega⟩, hb]
    congr 1
    rw [Int.add_comm b.1, ← Int.add_assoc, Int.add_sub_cancel]; exact (divmod_int k w).symm
theorem placeB_at {bs : List (Int × Int)} (h : ∀ p ∈ bs, p.1 ≤ p.2) {k : Nat} (hk : k < sizeN bs) : placeOf bs (placesB bs (k : Int)) 0 = some (k : Int) ∧ (placesB bs (k : Int)).length = bs.length := by
  have := placeR bs.reverse (fun p hp => h p (List.mem_reverse.mp hp)) k
  rw [List.reverse_reverse] at this
  exact this hk
theorem placeOf_out (bs : List (Int × Int)) (ps : List Int) (n : Int) (i : Nat) (b : Int × Int) (x : Int) (e1 : bs[i]? = some b) (e2 : ps[i]? = some x) (e3 : ¬ (b.1 ≤ x ∧ x ≤ b.2)) : placeOf bs ps n = none := by
  induction bs generalizing ps n i with
  | nil => cases e1
  | cons c bs ih =>
    cases ps with
    | nil => cases e2
    | cons p ps =>
      obtain ⟨l, h⟩ := c
      rw [placeOf_cons]
      cases i with
      | zero => rw [← Option.some.inj e1, ← Option.some.inj e2] at e3; exact if_neg e3
      | succ i => rw [ih ps _ i e1 e2]; exact ite_self _
theorem sizeB_nat (rs : List (Int × Int)) (h : ∀ p ∈ rs, p.1 ≤ p.2) : sizeB rs.reverse = (sizeN rs.reverse : Int) := by
  induction rs with
  | nil => rfl
  | cons b rs ih =>
    rw [List.reverse_cons, sizeN_snoc]
    have ih := ih fun p hp => h p (.tail _ hp)
    have : sizeB (rs.reverse ++ [b]) = sizeB rs.reverse * (b.2 - b.1 + 1) := by unfold sizeB; rw [List.foldl_append]; rfl
    rw [this, ih, width_nat (h b (.head _)), Int.natCast_mul]
    rfl
theorem sizeB_eq {bs : List (Int × Int)} (h : ∀ p ∈ bs, p.1 ≤ p.2) : sizeB bs = (sizeN bs : Int) := by
  have := sizeB_nat bs.reverse fun p hp => h p (List.mem_reverse.mp hp)
  rwa [List.reverse_reverse] at this
theorem sizeN_le (rs : List (Int × Int)) (h : ∀ p ∈ rs, p.2 ≤ p.1 + 2) : sizeN rs.reverse ≤ 3 ^ rs.length := by
  induction rs with
  | nil => exact Nat.le_refl _
  | cons b rs ih =>
    rw [List.reverse_cons, sizeN_snoc, List.length_cons, Nat.pow_succ]
    have ih := ih fun p hp => h p (.tail _ hp)
    have := h b (.head _)
    exact Nat.mul_le_mul ih (by omega)
theorem GoodB.take {bs : List (Int × Int)} (g : GoodB bs) (i : Nat) : sizeN (bs.take i) ≤ 27 := by
  have := sizeN_le (bs.take i).reverse fun p hp => (g.2.2 p (List.mem_of_mem_take (List.mem_reverse.mp hp))).2.2.2
  rw [List.reverse_reverse, List.length_reverse, List.length_take] at this
  have g2 := g.2.1
  have h3 : min i bs.length ≤ 3 := by omega
  exact Nat.le_trans this (Nat.pow_le_pow_right (by decide) h3)
theorem GoodB.len {bs : List (Int × Int)} (g : GoodB bs) (i : Nat) : (everyL (bs.take i)).length ≤ 27 := by
  rw [everyL_eq fun p hp => (g.2.2 p (List.mem_of_mem_take hp)).2.2.1, List.length_map, List.length_range]
  exact g.take i

theorem small_range : ∀ l h : Int, -1 ≤ l → l ≤ 5 → l ≤ h → h ≤ l + 2 → Builtin.Range.small l (h + 1) 1 = true ∧ Builtin.Range.rangeSize l (h + 1) 1 = ((h - l + 1).toNat : Int) := by
  intro l h h1 h2 h3 h4
  obtain ⟨a, rfl⟩ := Int.le.dest h1
  obtain ⟨b, rfl⟩ := Int.le.dest h3
  have key : ∀ a < 7, ∀ b < 3, Builtin.Range.small (-1 + (a : Nat)) (-1 + (a : Nat) + (b : Nat) + 1) 1 = true ∧ Builtin.Range.rangeSize (-1 + (a : Nat)) (-1 + (a : Nat) + (b : Nat) + 1) 1 = ((-1 + (a : Nat) + (b : Nat) - (-1 + (a : Nat)) + 1 : Int).toNat : Int) := by decide
  exact key a (by omega) b (by omega)
/-- a list of lists of numbers, all apart from it -/
def Part (H0 K : AH) (D : Addr) (es : List (List Int)) : Prop :=
  ∃ rs : List Addr, K D = some (.list (rs.map .ref)) ∧ rs.length = es.length ∧ ∀ (j : Nat) (r : Addr), rs[j]? = some r → r ≠ D ∧ H0 r = none ∧ ∃ e, es[j]? = some e ∧ K r = some (.list (intsV e))
theorem Part.mono {H0 K K' : AH} {D : Addr} {es : List (List Int)} (p : Part H0 K D es) (h : ∀ c xs, K c = some (.list xs) → K' c = some (.list xs)) : Part H0 K' D es := by
  obtain ⟨rs, h1, h2, h3⟩ := p
  exact ⟨rs, h _ _ h1, h2, fun j r hj => let ⟨a, f, e, b, c⟩ := h3 j r hj; ⟨a, f, e, b, h _ _ c⟩⟩
theorem Part.add {H0 K K' : AH} {D r : Addr} {es : List (List Int)} {e : List Int} {rs : List Addr} (h2 : rs.length = es.length) (h3 : ∀ (j : Nat) (r : Addr), rs[j]? = some r → r ≠ D ∧ H0 r = none ∧ ∃ e, es[j]? = some e ∧ K r = some (.list (intsV e)))
    (g1 : K' D = some (.list (rs.map .ref ++ [.ref r]))) (g2 : K' r = some (.list (intsV e))) (g3 : r ≠ D) (g0 : H0 r = none) (g4 : ∀ c xs, K c = some (.list xs) → c ≠ D → K' c = some (.list xs)) : Part H0 K' D (es ++ [e]) := by
  refine ⟨rs ++ [r], by rw [g1, List.map_append]; rfl, by rw [List.length_append, List.length_append, h2]; rfl, fun j x hj => ?_⟩
  by_cases hjl : j < rs.length
  · rw [List.getElem?_append_left hjl] at hj
    obtain ⟨f1, f0, e', f2, f3⟩ := h3 j x hj
    exact ⟨f1, f0, e', by rw [List.getElem?_append_left (by omega)]; exact f2, g4 _ _ f3 f1⟩
  · rw [List.getElem?_append_right (by omega)] at hj
    have hj0 : j - rs.length = 0 := by
      have := (List.getElem?_eq_some_iff.mp hj).1
      have : j - rs.length < 1 := this
      omega
    rw [hj0] at hj; cases hj
    refine ⟨g3, g0, e, ?_, g2⟩
    rw [List.getElem?_append_right (by omega), show j - es.length = 0 by omega]; rfl
theorem flatMap_len {f : List Int → List (List Int)} {n : Nat} (h : ∀ e, (f e).length ≤ n) : ∀ es : List (List Int), (es.flatMap f).length ≤ es.length * n
  | [] => Nat.zero_le _
  | e :: es => by
    rw [List.flatMap_cons, List.length_append, List.length_cons, Nat.succ_mul]
    have := h e
    have := flatMap_len h es
    omega
section
variable {C : Con} {lv : Nat} {H : AH} {Q : V → AH → Prop} {R : Int → AH → Prop}
set_option maxHeartbeats 1000000 in
theorem c_every (hB : Base C.w C.base) {ba : Addr} {bs : List (Int × Int)} (hb : H ba = some (.list (boundsV bs))) (g : GoodB bs) (q : ∀ E H', H E = none → AH.le H H' → Part H H' E (everyL bs) → Q (.ref E) H') : CW C (lv + 1) (.ref 383) [.ref ba] H Q R := by
  refine cw_defc ok383 hB (body := bod st383) rfl rfl (fun A stk L own ok ow => ?_)
  refine ex_asg (fun v H1 => ∃ T E, v = .ref E ∧ H T = none ∧ H E = none ∧ T ≠ E ∧ H1 = (H.set T (.list [])).set E (.list [.ref T])) ok ow (ev_list (evs_cons (ev_list (evs_nil ⟨by decide, fun T hT => evs_nil ⟨by show 1 ≤ 1000; decide, fun E hE => ⟨T, E, rfl, hT, ?_, ?_, rfl⟩⟩⟩)))) ?_
  · rw [AH.set_ne _ _ ((nz (AH.set_self _ _ _) hE).symm)] at hE; exact hE
  · exact (nz (AH.set_self _ _ _) hE)
  rintro _ _ ⟨T, E0, rfl, hT, hE0, hTE, rfl⟩
  have nb : ∀ {c o D}, H c = some o → H D = none → c ≠ D := fun e d z => by rw [z, d] at e; cases e
  have le0 : AH.le H ((H.set T (.list [])).set E0 (.list [.ref T])) := fun c o e => by rw [AH.set_ne _ _ (nb e hE0), AH.set_ne _ _ (nb e hT)]; exact e
  refine ex_for ok Top1.fnC (iv_of (ev_local ok rfl (it_list ok (le0 _ _ hb) fun I hI => ⟨fun i mi Hi => ∃ E, mi.lookup ("found" : Str) = some (.ref E) ∧ H E = none ∧ Part H Hi E (everyL (bs.take i)) ∧ ∀ c o, H c = some o → c ≠ ba → Hi c = some o, ?_, ?_, ?_⟩)))
  · have nI : ∀ {c o}, ((H.set T (.list [])).set E0 (.list [.ref T])) c = some o → c ∉ [I] := fun e z => by rw [List.mem_singleton.mp z, hI] at e; cases e
    have eT : ((H.set T (.list [])).set E0 (.list [.ref T])) T = some (.list []) := by rw [AH.set_ne _ _ hTE, AH.set_self]
    have eE : ((H.set T (.list [])).set E0 (.list [.ref T])) E0 = some (.list [.ref T]) := AH.set_self _ _ _
    refine ⟨E0, rfl, hE0, ⟨[T], ?_, rfl, fun j r hj => ?_⟩, fun c o e n => ?_⟩
    · rw [lockH_ne (nI eE) (fun z => nb hb hE0 (List.mem_singleton.mp z).symm)]; exact eE
    · cases j with
      | zero =>
        cases hj
        refine ⟨hTE, hT, [], rfl, ?_⟩
        rw [lockH_ne (nI eT) (fun z => nb hb hT (List.mem_singleton.mp z).symm)]; exact eT
      | succ j => simp at hj
    · rw [lockH_ne (nI (le0 _ _ e)) (fun z => n (List.mem_singleton.mp z))]; exact le0 _ _ e
  · rintro i xv mi Hi hx ⟨E, h1, hE, hp, hfr⟩ lk0
    unfold boundsV at hx
    rw [List.getElem?_map] at hx
    cases hc : bs[i]? with
    | none => rw [hc] at hx; cases hx
    | some b =>
      rw [hc] at hx; cases hx
      obtain ⟨l, h⟩ := b
      obtain ⟨g1, g2, g3, g4⟩ := g.2.2 _ (List.mem_of_getElem? hc)
      have g1 : -1 ≤ l := g1
      have g2 : l ≤ 5 := g2
      have g3 : l ≤ h := g3
      have g4 : h ≤ l + 2 := g4
      have hlen := g.len i
      have hel : ∀ e ∈ everyL (bs.take i), e.length ≤ 3 := fun e he => by
        have gt : ∀ p ∈ bs.take i, p.1 ≤ p.2 := fun p hp => (g.2.2 p (List.mem_of_mem_take hp)).2.2.1
        rw [everyL_eq gt] at he
        obtain ⟨k, hk, rfl⟩ := List.mem_map.mp he
        rw [(placeB_at gt (List.mem_range.mp hk)).2, List.length_take]
        have := g.2.1
        omega
      have htake : everyL (bs.take (i + 1)) = (everyL (bs.take i)).flatMap (extP · (l, h)) := by rw [List.take_add_one, hc]; exact everyL_snoc _ _
      generalize everyL (bs.take i) = es at hp hlen htake hel
      obtain ⟨hsm, hrs⟩ := small_range l h g1 g2 g3 g4
      generalize hn : (h - l + 1).toNat = n at hrs
      have hn3 : n ≤ 3 := by omega
      have ext : ∀ e : List Int, extP e (l, h) = (List.range n).map fun (k : Nat) => e ++ [l + (k : Int)] := fun e => by unfold extP; rw [hn]
      have extl : ∀ e : List Int, (extP e (l, h)).length = n := fun e => by rw [ext, List.length_map, List.length_range]
      obtain ⟨rs, hE1, hE2, hE3⟩ := hp
      have fr1 : ∀ c, Hi c = none → H c = none := fun D hD => by
        cases z : H D with
        | none => rfl
        | some o =>
          by_cases w : D = ba
          · have := lk0.2 ba (List.mem_singleton.mpr rfl) (fun z => by have := le0 _ _ hb; rw [List.mem_singleton.mp z, hI] at this; cases this)
            rw [← w, hD, w, le0 _ _ hb] at this; cases this
          · have := hfr D o z w; rw [hD] at this; cases this
      have fr0 : ∀ {Hj : AH} c, Hj c = none → (∀ c o, Hi c = some o → c ≠ E → Hj c = some o) → H c = none := fun {Hj} c hc hf => by
        by_cases w : c = E
        · rw [w]; exact hE
        · refine fr1 c ?_
          cases z : Hi c with
          | none => rfl
          | some o => have := hf c o z w; rw [hc] at this; cases this
      refine as_pair ok (as_name ok ow (.inr ⟨rfl, rfl⟩) (as_name ok ow (.inr ⟨rfl, rfl⟩) ?_))
      refine ex_cons (es_assign_comp2 ok ow rfl (cap := [("low", .int l), ("high", .int h)]) (iv_of (ev_local ok h1 (it_list ok hE1 fun I2 hI2 => ?_))) ?_ rfl rfl)
      · intro C' D ow' hD hw1 hl1
        have ok' := okComp ok ow' rfl
        have nH : ∀ {c o}, Hi c = some o → c ≠ D := fun e z => by rw [z, hD] at e; cases e
        have nI2 : ∀ {c o}, Hi c = some o → c ∉ [I2] := fun e z => by rw [List.mem_singleton.mp z, hI2] at e; cases e
        have i0 : ∀ c o, Hi c = some o → c ≠ E → lockH (Hi.set D (.list [])) [I2] [E] c = some o := fun c o e n => by
          rw [lockH_ne (nI2 e) (fun z => n (List.mem_singleton.mp z)), AH.set_ne _ _ (nH e)]; exact e
        refine ⟨fun k mk Hk => (∀ y : Str, y ≠ "places" → y ≠ "place" → mk.lookup y = ([("low", .int l), ("high", .int h)] : Locs).lookup y) ∧ Part H Hk D ((es.take k).flatMap (extP · (l, h))) ∧ ∀ c o, Hi c = some o → c ≠ E → Hk c = some o, ⟨fun _ _ _ => rfl, ⟨[], ?_, rfl, fun j r hj => by simp at hj⟩, i0⟩, ?_, ?_⟩
        · rw [lockH_ne hw1 hl1, AH.set_self]; rfl
        · rintro k v mk Hk hv ⟨hmk, hpk, hfk⟩ _
          rw [List.getElem?_map] at hv
          cases hr : rs[k]? with
          | none => rw [hr] at hv; cases hv
          | some r =>
            rw [hr] at hv; cases hv
            obtain ⟨hrE, _, e, he, hre⟩ := hE3 k r hr
            refine as_nameL ok' ow' ?_
            have hm1 : ∀ y : Str, y ≠ "places" → y ≠ "place" → ((("places" : Str), V.ref r) :: mk : Locs).lookup y = ([("low", .int l), ("high", .int h)] : Locs).lookup y := fun y n1 n2 => by
              rw [List.lookup_cons, beq_eq_false_iff_ne.mpr n1]; exact hmk y n1 n2
            refine iv_tcall (ev_blt ok' rfl n_range b_range (fun _ _ => .ty _) ⟨rfl, evs_cons (ev_local ok' ((hm1 "low" (by decide) (by decide)).trans rfl) (evs_cons (ev_bin (ev_local ok' ((hm1 "high" (by decide) (by decide)).trans rfl) (ev_int (op_add (evs_nil ?_)))))))⟩)
            refine bi_range2 ok' (n := n) hsm hrs fun I3 hI3 => ⟨fun j mj Hj => (∀ y : Str, y ≠ "places" → y ≠ "place" → mj.lookup y = ([("low", .int l), ("high", .int h)] : Locs).lookup y) ∧ mj.lookup ("places" : Str) = some (.ref r) ∧ Part H Hj D ((es.take k).flatMap (extP · (l, h)) ++ (extP e (l, h)).take j) ∧ ∀ c o, Hi c = some o → c ≠ E → Hj c = some o, ?_, ?_, ?_⟩
            · have nI3 : ∀ {c o}, Hk c = some o → c ∉ [I3] := fun e z => by rw [List.mem_singleton.mp z, hI3] at e; cases e
              refine ⟨hm1, rfl, ?_, fun c o e n => ?_⟩
              · rw [List.take_zero, List.append_nil]
                exact hpk.mono fun c xs e => by rw [lockH_ne (nI3 e) List.not_mem_nil]; exact e
              · rw [lockH_ne (nI3 (hfk c o e n)) List.not_mem_nil]; exact hfk c o e n
            · rintro j w mj Hj hw ⟨hmj, hpl, hpj, hfj⟩ _
              unfold rangeL at hw
              rw [List.getElem?_map] at hw
              cases hjr : (List.range n)[j]? with
              | none => rw [hjr] at hw; cases hw
              | some j' =>
                rw [hjr] at hw
                obtain ⟨hjn, hjj⟩ := List.getElem?_eq_some_iff.mp hjr
                rw [List.getElem_range] at hjj
                rw [List.length_range] at hjn
                subst hjj
                have hw : V.int (l + (j : Int) * 1) = w := Option.some.inj hw
                rw [Int.mul_one] at hw
                subst hw
                obtain ⟨rs2, p1, p2, p3⟩ := hpj
                refine as_nameL ok' ow' ?_
                have hr2 := hfj r _ hre hrE
                refine ev_bin (ev_local ok' ((List.lookup_cons ..).trans hpl) (ev_list (evs_cons (ev_local ok' rfl (evs_nil ⟨by show 1 ≤ 1000; decide, fun T hT => op_addL (xs := intsV e) ?_ (AH.set_self _ _ _) ?_ fun r2 hr2n => ⟨rs2.map .ref, ?_, ?_, ?_, ?_, ?_, ?_⟩⟩)))))
                · rw [AH.set_ne _ _ (nz hr2 hT)]; exact hr2
                · have := hel e (List.mem_of_getElem? he)
                  show (intsV e).length + 1 ≤ 10000
                  unfold intsV; rw [List.length_map]; omega
                · have n2 : D ≠ r2 := fun z => by rw [← z, AH.set_ne _ _ (nz p1 hT), p1] at hr2n; cases hr2n
                  rw [AH.set_ne _ _ n2, AH.set_ne _ _ (nz p1 hT)]; exact p1
                · have l1 := flatMap_len (f := (extP · (l, h))) (n := n) (fun e => Nat.le_of_eq (extl e)) (es.take k)
                  rw [List.length_append, List.length_take, extl] at p2
                  rw [List.length_take] at l1
                  have : min k es.length * n ≤ 27 * 3 := Nat.mul_le_mul (by omega) hn3
                  rw [List.length_map]; omega
                · exact fun y n1 n2 => by rw [List.lookup_cons, beq_eq_false_iff_ne.mpr n2]; exact hmj y n1 n2
                · exact (List.lookup_cons ..).trans hpl
                · have nT : ∀ {c o}, Hj c = some o → c ≠ T := fun e z => by rw [z, hT] at e; cases e
                  have nR : ∀ {c o}, Hj c = some o → c ≠ r2 := fun e z => by rw [← z, AH.set_ne _ _ (nT e), e] at hr2n; cases hr2n
                  have hx2 : (extP e (l, h)).take (j + 1) = (extP e (l, h)).take j ++ [e ++ [l + (j : Int)]] := by
                    rw [List.take_add_one, ext, List.getElem?_map, List.getElem?_range hjn]; rfl
                  rw [hx2, ← List.append_assoc]
                  refine Part.add (r := r2) p2 p3 (AH.set_self _ _ _) ?_ (nR p1).symm (fr0 _ (by rw [← hr2n]; exact (AH.set_ne _ _ ((nz (AH.set_self _ _ _) hr2n).symm)).symm) hfj) fun c xs ec nc => ?_
                  · rw [AH.set_ne _ _ (nR p1).symm, AH.set_self]; unfold intsV; rw [List.map_append]; rfl
                  · rw [AH.set_ne _ _ nc, AH.set_ne _ _ (nR ec), AH.set_ne _ _ (nT ec)]; exact ec
                · intro c o ec nc
                  have ej := hfj c o ec nc
                  have nT : c ≠ T := (nz ej hT)
                  rw [AH.set_ne _ _ (nH ec), AH.set_ne _ _ (fun z => by rw [← z, AH.set_ne _ _ nT, ej] at hr2n; cases hr2n), AH.set_ne _ _ nT]; exact ej
            · rintro mn Hn ⟨hmn, _, hpn, hfn⟩ lk
              have hl2 : (rangeL l n 1).length = n := by unfold rangeL; rw [List.length_map, List.length_range]
              rw [hl2] at hpn
              refine ⟨hmn, ?_, fun c o ec nc => ?_⟩
              · rw [List.take_add_one, he, List.flatMap_append]
                show Part _ _ _ (_ ++ (extP e (l, h) ++ []))
                have : (extP e (l, h)).take n = extP e (l, h) := by rw [← extl e, List.take_length]
                rw [List.append_nil, ← this]
                exact hpn.mono fun c xs e => lk.unl_get e fun _ z => by cases z
              · unfold unl
                have ek := hfk c o ec nc
                rw [if_neg (nm ek hI3), if_neg List.not_mem_nil]; exact hfn c o ec nc
        · rintro mn Hn ⟨hmn, hpn, hfn⟩ lk
          rw [List.length_map, hE2, List.take_length, ← htake] at hpn
          refine ex_nil ⟨D, rfl, ?_, (hpn.mono fun c xs e => lk.unl_get e fun _ z => by cases z), fun c o ec nc => ?_⟩
          · exact fr1 D hD
          · have ei := hfr c o ec nc
            unfold unl
            rw [if_neg (nI2 ei), if_neg (nm ec hE)]
            exact hfn c o ei (nz ec hE)
      · refine Caps.of (fun p hp => ?_) fun p hp h1 h2 => ?_
        · simp only [List.mem_cons, List.not_mem_nil, or_false] at hp
          rcases hp with rfl | rfl
          · exact ⟨rfl, by show some NameKind.cell ≠ _; decide, .inl rfl, rfl⟩
          · exact ⟨rfl, by show some NameKind.cell ≠ _; decide, .inl rfl, rfl⟩
        · simp only [List.mem_cons, List.not_mem_nil, or_false] at hp
          rcases hp with rfl | rfl
          · exact ⟨rfl, rfl⟩
          · exact ⟨rfl, rfl⟩
  · rintro mn Hn ⟨E, h1, hE, hp, hfr⟩ lk
    rw [show (boundsV bs).length = bs.length from List.length_map .., List.take_length] at hp
    refine ex_ret (ev_local ok h1 (q E _ hE ?_ (hp.mono fun c xs e => lk.unl_get e fun _ z => by cases z)))
    exact unl_le (fun b hb => by
      rw [List.mem_singleton.mp hb]
      cases z : H I with
      | none => rfl
      | some o => have := le0 _ _ z; rw [hI] at this; cases this) le0 fun b o e n => hfr b o e fun z => n (List.mem_singleton.mpr z)
end

theorem DVs_ints {H : AH} : ∀ ps : List Int, DVs H (intsV ps) (ps.map .int)
  | [] => .nil
  | p :: ps => .cons (.int p) (DVs_ints ps)
theorem DV.ints {H : AH} {a : Addr} {ps : List Int} (h : LA H a (intsV ps)) : DV H (.ref a) (.list (ps.map .int)) := by
  rcases h with h | h
  · exact .ref h (DVs_ints ps)
  · exact .lref h (DVs_ints ps)
noncomputable def bndD (bs : List (Int × Int)) : List PyData := bs.map fun p => .tuple [.int p.1, .int p.2]
theorem DVs_bounds {H : AH} : ∀ bs : List (Int × Int), DVs H (boundsV bs) (bndD bs)
  | [] => .nil
  | p :: ps => .cons (.tup (.cons (.int p.1) (.cons (.int p.2) .nil))) (DVs_bounds ps)
theorem DV.bounds {H : AH} {a : Addr} {bs : List (Int × Int)} (h : LA H a (boundsV bs)) : DV H (.ref a) (.list (bndD bs)) := by
  rcases h with h | h
  · exact .ref h (DVs_bounds bs)
  · exact .lref h (DVs_bounds bs)
theorem lay_bnd : ∀ bs, PyData.canLayAll0 (bndD bs) = true ∧ PyData.depthAll (bndD bs) ≤ 1
  | [] => ⟨rfl, Nat.zero_le _⟩
  | p :: bs => by
    obtain ⟨h1, h2⟩ := lay_bnd bs
    have e1 : bndD (p :: bs) = .tuple [.int p.1, .int p.2] :: bndD bs := rfl
    rw [e1]
    constructor
    · simp [PyData.canLayAll0, PyData.canLay0, h1]
    · show max (PyData.depth (.tuple [.int p.1, .int p.2])) (PyData.depthAll (bndD bs)) ≤ 1
      have : PyData.depth (.tuple [.int p.1, .int p.2]) = 1 := by simp [PyData.depth, PyData.depthAll]
      rw [this]; omega
theorem shaped_bnd (bs : List (Int × Int)) : SeqAt.shaped (.list (bndD bs)) = true := by
  obtain ⟨h1, h2⟩ := lay_bnd bs
  have : PyData.depth (.list (bndD bs)) ≤ 64 := by
    show PyData.depthAll (bndD bs) + 1 ≤ 64; omega
  simp [SeqAt.shaped, PyData.canLay0, h1, this]
theorem ne_self {d : PyData} (h : SeqAt.shaped d = true) : (!PyData.eqv d d) = false := by rw [SeqAt.eqv_refl d (SeqAt.canLay_of_shaped h)]; rfl
theorem eq_self {d : PyData} (h : SeqAt.shaped d = true) : PyData.eqv d d = true := SeqAt.eqv_refl d (SeqAt.canLay_of_shaped h)

abbrev CE := Int × Tok × Int × Tok × Value
def flatC (es : List CE) : List Value := es.flatMap fun e => [.int e.1 e.2.1, .int e.2.2.1 e.2.2.2.1, e.2.2.2.2]
theorem flatC_ok (es : List CE) : TriplesOk (flatC es) := by
  induction es with
  | nil => trivial
  | cons e r ih => exact ih
theorem flatC_none {pos : Pos} {es : List CE} (h : ∀ e ∈ es, e.1 ≠ (pos.line : Int)) : codeAmong pos (flatC es) = none := by
  induction es with
  | nil => rfl
  | cons e r ih =>
    show (if (e.1 == (pos.line : Int) && e.2.2.1 == pos.col) = true then some e.2.2.2.2 else codeAmong pos (flatC r)) = none
    rw [beq_eq_false_iff_ne.mpr (h e (.head _))]
    exact ih fun x hx => h x (.tail _ hx)
/-- a code object's table: which lines have their code already -/
def TabOk (H : AH) (P : Addr) (lines : List Nat) : Prop := ∃ es : List CE, H P = some (.obj (tabObj ⟨flatC es⟩)) ∧ ∀ e ∈ es, ∃ n ∈ lines, e.1 = (n : Int)
/-- a code object's table stands, grown or not -/
def TabG (H : AH) (P : Addr) : Prop := ∃ ps, H P = some (.obj (tabObj ps))
theorem TabG.le {H H' : AH} {P : Addr} (t : TabG H P) (h : ∀ c o, H c = some o → H' c = some o) : TabG H' P := t.imp fun _ e => h _ _ e
theorem TabOk.g {H : AH} {P : Addr} {ls : List Nat} (t : TabOk H P ls) : TabG H P := t.elim fun _ h => ⟨_, h.1⟩
theorem TabOk.nil {H : AH} {P : Addr} (h : H P = some (.obj (tabObj #[]))) : TabOk H P [] := ⟨[], h, fun _ h => nomatch h⟩
section
variable {Γ : Cx} {m cap : Locs} {H : AH} {Q : V → AH → Prop} {R : Int → AH → Prop} {params : Arguments} {body : Expr} {scope : Scope} {cl : List (Str × Addr)} {c P : Addr} {lines : List Nat} {lp p1 pos : Pos} {lv : Nat}
theorem ev_lawerrT (ok : Γ.Ok) (hB4 : BMain Γ.base) (hT : TabOk H P lines) (hC : ∀ base : Heap, (frag Γ.w.params).In base → CodeHd base c P) (hsee : LamSee Γ m scope cl cap) (hl : lv + 2 ≤ Γ.lv)
    (h : ∀ H1, (∀ b o, H b = some o → b ≠ P → H1 b = some o) → TabOk H1 P (lp.line :: lines) → LamBody lv (Γ.env.qual ++ "<lambda>") params body scope cl cap H1 Q)
    (hn : Γ.env.kindOf ("_law_error" : Str) = some .globalImplicit := by rfl) (hcode : Γ.env.code = .ref c := by rfl) (hnl : lp.line ∉ lines := by decide)
    (hclos : closureFor scope Γ.env = pure cl := by rfl) (hdef : defaultsOf params Γ.env = ([], []) := by rfl)
    (hbind : ∀ pm c ct, bindArgs (lamFd (Γ.env.qual ++ "<lambda>") params body scope cl pm c ct) ⟨[], []⟩ = pure [] := by intro _ _ _; rfl) (hcell : ∀ x ∈ scope.names, x.2 ≠ .cell := by decide) (hco : scope.isCoroutine = false := by rfl) (hgen : scope.isGenerator = false := by rfl) (hk : scope.kind = .function := by rfl) :
    EV Γ (.Call (.Name "_law_error" p1) [.Lambda params body scope lp] [] pos) m H Q R := by
  obtain ⟨es, e1, e3⟩ := hT
  refine ev_lawerr ok hB4 hn hcode (hC _ ok.base.K) e1 (flatC_ok es) (flatC_none fun e he z => ?_) hclos hdef hsee hbind hcell hco hgen hk hl fun c' oc vs tq hc' hd hv hcP => ?_
  · obtain ⟨n, h1, h2⟩ := e3 e he
    exact hnl (Int.natCast_inj.mp (z.symm.trans h2) ▸ h1)
  refine h _ (fun b o e n => ?_) ⟨es ++ [(((lp.line : Int), 0, (lp.col : Int), 0, Value.ref c') : CE)], ?_, fun e he => ?_⟩
  · rw [AH.set_ne _ _ (nz e hc'), AH.set_ne _ _ n]; exact e
  · rw [AH.set_ne _ _ hcP.symm, AH.set_self]
    exact congrArg (fun a => some (AO.obj (tabObj a))) (Array.ext' (by rw [Array.toList_append]; unfold flatC; rw [List.flatMap_append]; rfl))
  · rcases List.mem_append.mp he with he | he
    · obtain ⟨n, h1, h2⟩ := e3 e he
      exact ⟨n, .tail _ h1, h2⟩
    · rw [List.mem_singleton.mp he]; exact ⟨_, .head _, rfl⟩
end
theorem hd387 {w : World} : ∀ base : Heap, (frag w.params).In base → CodeHd base 387 385 := fun base X => codeHd_of_K X (by kernel_rfl)
theorem hd392 {w : World} : ∀ base : Heap, (frag w.params).In base → CodeHd base 392 390 := fun base X => codeHd_of_K X (by kernel_rfl)
theorem hd397 {w : World} : ∀ base : Heap, (frag w.params).In base → CodeHd base 397 395 := fun base X => codeHd_of_K X (by kernel_rfl)

theorem whole_ints (ps : List Int) : (intsV ps).map wholeF = intsV ps := by unfold intsV; rw [List.map_map]; rfl
theorem isW_ints {ps : List Int} : ∀ v ∈ intsV ps, ∃ i, IsWhole v i := fun v hv => by
  obtain ⟨i, _, rfl⟩ := List.mem_map.mp hv
  exact ⟨i, .int i⟩
theorem GoodB.bits {bs : List (Int × Int)} (g : GoodB bs) : ∀ p ∈ bs, Builtin.Int.intBits (p.2 - p.1 + 1) ≤ 64 := fun p hp => bits_small (by have := g.2.2 p hp; omega)
theorem intsV_len (ps : List Int) : (intsV ps).length = ps.length := List.length_map ..
theorem set2_le {H : AH} {T D : Addr} {o1 o2 : AO} (hT : H T = none) (hD : (H.set T o1) D = none) : AH.le H ((H.set T o1).set D o2) := (AH.le_set hT _).trans (AH.le_set hD _)
theorem set3_le {H : AH} {T D K : Addr} {o1 o2 o3 : AO} (hT : H T = none) (hD : (H.set T o1) D = none) (hK : ((H.set T o1).set D o2) K = none) : AH.le H (((H.set T o1).set D o2).set K o3) := (set2_le hT hD).trans (AH.le_set hK _)
theorem slice_tail (xs : List V) : sliceV xs (some 1) Option.none Option.none = xs.drop 1 := by
  rw [slice_plain]
  show (xs.drop (min 1 xs.length)).take (xs.length - min 1 xs.length) = _
  cases xs with
  | nil => rfl
  | cons x xs =>
    have : min 1 (x :: xs).length = 1 := by rw [List.length_cons]; omega
    rw [this]
    show xs.take (xs.length + 1 - 1) = xs
    rw [Nat.add_sub_cancel, List.take_length]
theorem TabOk.le {H H' : AH} {P : Addr} {ls : List Nat} (t : TabOk H P ls) (h : ∀ c o, H c = some o → H' c = some o) : TabOk H' P ls := t.imp fun _ e => ⟨h _ _ e.1, e.2⟩
theorem LamSee.of {Γ : Cx} {m cap : Locs} {scope : Scope} {cl : List (Str × Addr)} (h : ∀ p ∈ cap, m.lookup p.1 = some p.2 ∧ Γ.env.kindOf p.1 = some .cell ∧ scope.names.lookup p.1 = some .free ∧ cl.lookup p.1 = Γ.env.cells.lookup p.1 ∧ Simple p.2) : LamSee Γ m scope cl cap :=
  fun x v hx => h (x, v) (mem_of_lookup hx)
section
variable {C : Con} {lv : Nat} {A : Around} {stk : List Env} {L' : Addr} {own : List Addr} {m : Locs} {H : AH} {Q : Fl → Locs → AH → Prop} {R : Int → AH → Prop}
set_option maxHeartbeats 1000000 in
theorem a_tail (hB : Base C.w C.base) (hB4 : BMain C.base) (ok : (Cx.fn C (lv + 8) A (callEnvC fd388 L' 388) stk own).Ok) (ow : Owns (Cx.fn C (lv + 8) A (callEnvC fd388 L' 388) stk own))
    {x Fb I0 E r0 : Addr} {told : Str} {bs : List (Int × Int)} {rs : List Addr} {e0 : List Int} (h1 : m.lookup ("array" : Str) = some (.ref x)) (h2 : m.lookup ("every" : Str) = some (.ref E)) (h3 : m.lookup ("told" : Str) = some (.str told))
    (hx : H x = some (.inst 236 (arrF 4 told Fb I0))) (hF : H Fb = some (.list (boundsV bs))) (g : GoodB bs) (hE : LA H E (rs.map .ref)) (hrl : rs.length ≤ 1000) (hr0 : rs[0]? = some r0) (he0 : H r0 = some (.list (intsV e0))) (hel : e0.length = bs.length)
    (hP : H 385 = some (.obj (tabObj #[]))) (q : ∀ H' m', (∀ c o, H c = some o → c ≠ 385 → H' c = some o) → TabG H' 385 → Q (.ret (.bool true)) m' H') : EX (Cx.fn C (lv + 8) A (callEnvC fd388 L' 388) stk own) ((bod st388).drop 8) m H Q R := by
  have step : ∀ {H1 H2 : AH}, (∀ c o, H c = some o → c ≠ 385 → H1 c = some o) → (∀ c o, H1 c = some o → c ≠ 385 → H2 c = some o) → ∀ c o, H c = some o → c ≠ 385 → H2 c = some o := fun f1 f2 c o e n => f2 c o (f1 c o e n) n
  have nP : ∀ {c : Addr} {o : AO}, H c = some o → (∀ ob, o ≠ .obj ob) → c ≠ 385 := fun e d z => by rw [z, hP] at e; cases e; exact d _ rfl
  have g1 := g.1
  have g2 := g.2.1
  have arr : ∀ {H1 : AH}, (∀ c o, H c = some o → c ≠ 385 → H1 c = some o) → H1 x = some (.inst 236 (arrF 4 told Fb I0)) ∧ H1 Fb = some (.list (boundsV bs)) ∧ LA H1 E (rs.map .ref) ∧ H1 r0 = some (.list (intsV e0)) := fun f =>
    ⟨f _ _ hx (nP hx fun _ z => by cases z), f _ _ hF (nP hF fun _ z => by cases z), hE.imp (fun e => f _ _ e (nP e fun _ z => by cases z)) (fun e => f _ _ e (nP e fun _ z => by cases z)), f _ _ he0 (nP he0 fun _ z => by cases z)⟩
  have lm : (rs.map V.ref).length = rs.length := List.length_map ..
  have get0 : (rs.map V.ref)[Int.toNat 0]? = some (.ref r0) := by rw [List.getElem?_map]; show Option.map _ rs[0]? = _; rw [hr0]; rfl
  have ls : ∃ l1 l2 l3 : Nat, l1 ≠ l2 ∧ True := ⟨1, 2, 3, by decide, trivial⟩
  have lam : ∀ {H1 H2 : AH} {l : Nat} {ls : List Nat}, (∀ c o, H c = some o → c ≠ 385 → H1 c = some o) → TabOk H1 385 (l :: ls) → (∀ c o, H1 c = some o → H2 c = some o) → V.int 3 = V.int 3 ∧ (∀ c o, H c = some o → c ≠ 385 → H2 c = some o) ∧ TabOk H2 385 (l :: ls) := fun f1 t1 le =>
    ⟨rfl, fun c o e n => le c o (f1 c o e n), t1.le le⟩
  refine ex_asg (fun v H1 => ∃ W, v = .ref W ∧ H W = none ∧ H1 W = some (.list [.int 3, .int 3]) ∧ (∀ c o, H c = some o → c ≠ 385 → H1 c = some o) ∧ TabOk H1 385 [264, 263]) ok ow
    (ev_list (evs_cons ((ev_lawerrT (lv := lv + 6) (cap := [("array", .ref x), ("every", .ref E)]) (Q := fun v H1 => v = .int 3 ∧ (∀ c o, H c = some o → c ≠ 385 → H1 c = some o) ∧ TabOk H1 385 [263]) ok hB4 (.nil hP) hd387 ?_ (Nat.le_refl _) fun H1 f1 t1 C2 pm c ct fa hB2 A2 stk2 L2 own2 ok2 => ?_).mono fun v H1 p => ?_))) ?_
  · refine LamSee.of fun p hp => ?_
    simp only [List.mem_cons, List.not_mem_nil, or_false] at hp
    rcases hp with rfl | rfl
    · exact ⟨h1, rfl, rfl, rfl, .ref _⟩
    · exact ⟨h2, rfl, rfl, rfl, .ref _⟩
  · obtain ⟨ax, aF, aE, ar⟩ := arr f1
    refine ev_call ok2 ok304.keep (lv := lv + 6) (ev_glob ok2 rfl g_item_ref ⟨rfl, evs_cons (ev_local ok2 rfl (evs_cons (ev_bin (ev_sub (ev_local ok2 rfl (ev_int (gi_list aE (by decide) (by rw [lm]; omega) get0 (ev_list (evs_cons (ev_int (evs_nil ⟨by show 1 ≤ 1000; decide, fun T hT => op_addL (xs := intsV e0) ?_ (AH.set_self _ _ _) ?_ fun D hD => evs_cons (ev_int (evs_nil (c_item_arr (C := C2) (lv := lv) hB2 (bs := bs) (ps := e0 ++ [1]) (fs := arrF 4 told Fb I0) ?_ rfl ?_ (AH.set_self _ _ _) g.bits ?_ ?_ ?_ ?_ ?_ ?_ ?_)))⟩)))))))))))⟩) (Nat.le_refl _)
    · rw [AH.set_ne _ _ (nz ar hT)]; exact ar
    · rw [intsV_len]; show e0.length + 1 ≤ 10000; omega
    all_goals (try have le2 := set2_le (o2 := .list (intsV e0 ++ [V.int 1])) hT hD)
    · exact le2 _ _ ax
    · exact le2 _ _ aF
    · omega
    · rw [List.length_append, intsV_len]; show e0.length + 1 ≤ 1000; omega
    · intro v hv
      rcases List.mem_append.mp hv with hv | hv
      · exact isW_ints v hv
      · rw [List.mem_singleton.mp hv]; exact ⟨1, .int 1⟩
    · rw [List.map_append, whole_ints]; unfold intsV; rw [List.map_append]; rfl
    · intro z; rw [List.length_append] at z; exact absurd (z.trans (congrArg (· + 1) hel)) (by omega)
    · intro z; rw [List.length_append] at z; exact absurd (z.trans (congrArg (· + 1) hel)) (by omega)
    · intro _ K hK
      exact lam f1 t1 (set3_le hT hD hK)
  · obtain ⟨rfl, f1, t1⟩ := p
    refine evs_cons ((ev_lawerrT (lv := lv + 6) (cap := [("array", .ref x), ("every", .ref E)]) (Q := fun v H1 => v = .int 3 ∧ (∀ c o, H c = some o → c ≠ 385 → H1 c = some o) ∧ TabOk H1 385 [264, 263]) ok hB4 t1 hd387 ?_ (Nat.le_refl _) fun H2 f2 t2 C2 pm c ct fa hB2 A2 stk2 L2 own2 ok2 => ?_).mono fun v H2 p => ?_)
    · refine LamSee.of fun p hp => ?_
      simp only [List.mem_cons, List.not_mem_nil, or_false] at hp
      rcases hp with rfl | rfl
      · exact ⟨h1, rfl, rfl, rfl, .ref _⟩
      · exact ⟨h2, rfl, rfl, rfl, .ref _⟩
    · obtain ⟨ax, aF, aE, ar⟩ := arr (step f1 f2)
      refine ev_call ok2 ok304.keep (lv := lv + 6) (ev_glob ok2 rfl g_item_ref ⟨rfl, evs_cons (ev_local ok2 rfl (evs_cons (ev_slice (ev_sub (ev_local ok2 rfl (ev_int (gi_list aE (by decide) (by rw [lm]; omega) get0 (show PartV _ _ _ _ _ _ from (ev_int ⟨1, rfl, (show PartV _ _ _ _ _ _ from (show PartV _ _ _ _ _ _ from .inl ⟨r0, _, rfl, .inl ar, by decide, ?_, fun D hD => evs_cons (ev_int (evs_nil (c_item_arr (C := C2) (lv := lv) hB2 (bs := bs) (ps := e0.drop 1) (fs := arrF 4 told Fb I0) ?_ rfl ?_ (AH.set_self _ _ _) g.bits ?_ ?_ ?_ ?_ ?_ ?_ ?_)))⟩))⟩)))))))))⟩) (Nat.le_refl _)
      · rw [intsV_len]; omega
      all_goals (try have le2 := AH.le_set hD (.list (sliceV (intsV e0) (some 1) Option.none Option.none)))
      all_goals (try have e1 : sliceV (intsV e0) (some 1) Option.none Option.none = intsV (e0.drop 1) := by rw [slice_tail]; unfold intsV; rw [List.map_drop])
      · exact le2 _ _ ax
      · exact le2 _ _ aF
      · omega
      · rw [e1, intsV_len, List.length_drop]; omega
      · rw [e1]; exact isW_ints
      · rw [e1]; exact whole_ints _
      · intro z; rw [List.length_drop] at z; omega
      · intro z; rw [List.length_drop] at z; omega
      · intro _ K hK
        exact lam (step f1 f2) t2 (le2.trans (AH.le_set hK _))
    · obtain ⟨rfl, f2, t2⟩ := p
      refine evs_nil ⟨by show 2 ≤ 1000; decide, fun W hW => ⟨W, rfl, ?_, AH.set_self _ _ _, fun c o e n => ?_, t2.le fun c o e => ?_⟩⟩
      · cases z : H W with
        | none => rfl
        | some o =>
          have := f2 _ _ z (fun w => by obtain ⟨ps, e, _⟩ := t2; rw [← w, hW] at e; cases e)
          rw [hW] at this; cases this
      · have := f2 c o e n
        rw [AH.set_ne _ _ (nz this hW)]; exact this
      · rw [AH.set_ne _ _ (nz e hW)]; exact e
  rintro _ H1 ⟨W, rfl, hWn, eW, f1, t1⟩
  obtain ⟨ax, aF, aE, ar⟩ := arr f1
  refine ex_expr (ev_meth F.plainAttrs_list F.slot_list_append rfl (ev_local ok rfl ⟨ty_list (.inl eW), evs_cons ((ev_lawerrT (lv := lv + 6) (cap := []) (Q := fun v H2 => v = .int 3 ∧ (∀ c o, H1 c = some o → c ≠ 385 → H2 c = some o) ∧ TabOk H2 385 [266, 264, 263]) ok hB4 t1 hd387 (fun _ _ z => by cases z) (Nat.le_refl _) fun H2 f2 t2 C2 pm c ct fa hB2 A2 stk2 L2 own2 ok2 => ?_).mono fun v H2 p => ?_)⟩))
  · refine ev_call ok2 ok304.keep (lv := lv + 3) (ev_glob ok2 rfl g_item_ref ⟨rfl, evs_cons (ev_str (evs_cons (ev_list (evs_cons (ev_int (evs_nil ⟨by show 1 ≤ 1000; decide, fun T hT => evs_cons (ev_int (evs_nil (c_item_str (C := C2) (lv := lv) hB2 ⟨rfl, fun c o e n => AH.le_set hT _ _ _ (f2 c o e n), t2.le (AH.le_set hT _)⟩)))⟩))))))⟩) (by show lv + 3 ≤ lv + 6; omega)
  obtain ⟨rfl, f2, t2⟩ := p
  have nW : W ≠ 385 := fun z => by obtain ⟨ps, e, _⟩ := t1; rw [← z, eW] at e; cases e
  have eW2 := f2 _ _ eW nW
  refine evs_nil (bv_append eW2 (by show 2 < 1000000; decide) ?_)
  have eW3 : (H2.set W (.list ([V.int 3, V.int 3] ++ [V.int 3]))) W = some (.list [.int 3, .int 3, .int 3]) := AH.set_self _ _ _
  have f3 : ∀ c o, H c = some o → c ≠ 385 → (H2.set W (.list ([V.int 3, V.int 3] ++ [V.int 3]))) c = some o := fun c o e n => by
    rw [AH.set_ne _ _ (nz e hWn)]; exact step f1 f2 c o e n
  have tg3 : TabG (H2.set W (.list ([V.int 3, V.int 3] ++ [V.int 3]))) 385 := t2.g.imp fun _ e => by rw [AH.set_ne _ _ nW.symm]; exact e
  generalize H2.set W (.list ([V.int 3, V.int 3] ++ [V.int 3])) = H3 at eW3 f3 tg3
  obtain ⟨ax3, _, _, _⟩ := arr f3
  refine ex_ret (ev_andT (ev_cmp (ev_local ok rfl (ev_list (evs_cons (ev_int (evs_cons (ev_int (evs_cons (ev_int (evs_nil ⟨by show 3 ≤ 1000; decide, fun D hD => cmp_eqD ok (.ref (AH.le_set hD _ _ _ eW3) (.cons (.int 3) (.cons (.int 3) (.cons (.int 3) .nil)))) (.ref (AH.set_self _ _ _) (.cons (.int 3) (.cons (.int 3) (.cons (.int 3) .nil)))) ⟨rfl, ev_cmp (ev_call ok ok325.keep (lv := lv + 1) (ev_glob ok rfl g_prototype_of ⟨rfl, evs_cons (ev_local ok h1 (evs_nil (c_prototype_of (C := C) (lv := lv) hB (AH.le_set hD _ _ _ ax3) rfl (ev_local ok h3 (cmp_eqS ?_)))))⟩) (by show lv + 1 ≤ lv + 8; omega))⟩⟩)))))))))))
  rw [beq_self_eq_true]
  exact q _ _ (fun c o e n => AH.le_set hD _ _ _ (f3 c o e n)) (tg3.le (AH.le_set hD _))
end

section
variable {C : Con} {lv : Nat} {A : Around} {stk : List Env} {L' : Addr} {own : List Addr} {m : Locs} {H : AH} {Q : Fl → Locs → AH → Prop} {R : Int → AH → Prop}
set_option maxHeartbeats 1000000 in
theorem a_loop3 (hB : Base C.w C.base) (hB4 : BMain C.base) (ok : (Cx.fn C (lv + 8) A (callEnvC fd388 L' 388) stk own).Ok) (ow : Owns (Cx.fn C (lv + 8) A (callEnvC fd388 L' 388) stk own))
    {a L x Fb I0 E r0 : Addr} {told : Str} {bs : List (Int × Int)} {rs : List Addr} {e0 : List Int} (h0 : m.lookup ("box" : Str) = some (.ref a)) (h4 : m.lookup ("bounds" : Str) = some (.ref Fb)) (h1 : m.lookup ("array" : Str) = some (.ref x)) (h2 : m.lookup ("every" : Str) = some (.ref E)) (h3 : m.lookup ("told" : Str) = some (.str told))
    (hb : BoxIs H a L) (ap : ∀ c, c = Fb ∨ c = x ∨ c = E ∨ c = r0 ∨ c = 385 → c ≠ a ∧ c ≠ L) (hx : H x = some (.inst 236 (arrF 4 told Fb I0))) (hF : H Fb = some (.list (boundsV bs))) (g : GoodB bs) (hE : H E = some (.list (rs.map .ref))) (hrl : rs.length ≤ 1000) (hr0 : rs[0]? = some r0) (he0 : H r0 = some (.list (intsV e0))) (hel : e0.length = bs.length)
    (hP : H 385 = some (.obj (tabObj #[]))) (q : ∀ H' m', BoxIs H' a L → (∀ c o, H c = some o → c ≠ a → c ≠ L → c ≠ 385 → H' c = some o) → TabG H' 385 → Q (.ret (.bool true)) m' H') : EX (Cx.fn C (lv + 8) A (callEnvC fd388 L' 388) stk own) ((bod st388).drop 6) m H Q R := by
  have lb : (boundsV bs).length = bs.length := List.length_map ..
  have g1 := g.1
  have g2 := g.2.1
  refine ex_asg (fun v H1 => ∃ i : Nat, v = .int i ∧ i < bs.length ∧ BoxIs H1 a L ∧ ∀ b, b ≠ a → b ≠ L → H1 b = H b) ok ow (ev_call ok ok359.keep (lv := lv + 1) (ev_glob ok rfl g__law_take ⟨rfl, evs_cons (ev_local ok h0 (evs_cons (ev_bcall (ev_blt ok rfl n_len b_len (fun _ _ => .bi _) ⟨rfl, evs_cons (ev_local ok h4 (evs_nil (bv_len (.inl hF) (by rw [lb]; omega) (evs_nil ?_))))⟩))))⟩) (by show lv + 1 ≤ lv + 8; omega)) ?_
  · rw [lb]
    exact c_take (C := C) (lv := lv) hB hb (by omega) fun r H' hr hb' fr => ⟨r, rfl, hr, hb', fr⟩
  rintro _ H1 ⟨i, rfl, hi, hb1, fr1⟩
  have up : ∀ c o, H c = some o → c ≠ a → c ≠ L → H1 c = some o := fun c o e n1 n2 => by rw [fr1 c n1 n2]; exact e
  have n := fun c h => ap c h
  have hx1 := up _ _ hx (n x (by simp)).1 (n x (by simp)).2
  have hF1 := up _ _ hF (n Fb (by simp)).1 (n Fb (by simp)).2
  have hE1 := up _ _ hE (n E (by simp)).1 (n E (by simp)).2
  have he1 := up _ _ he0 (n r0 (by simp)).1 (n r0 (by simp)).2
  have hP1 := up _ _ hP (n 385 (by simp)).1 (n 385 (by simp)).2
  obtain ⟨b, hbi⟩ : ∃ b, bs[i]? = some b := ⟨bs[i], List.getElem?_eq_getElem hi⟩
  have gb := g.2.2 b (List.mem_of_getElem? hbi)
  have gv : (boundsV bs)[Int.toNat (i : Int)]? = some (.tup [.int b.1, .int b.2]) := by unfold boundsV; rw [Int.toNat_natCast, List.getElem?_map, hbi]; rfl
  have bnd : ∀ {K : V → AH → Prop} {R : Int → AH → Prop} {p1 p2 p3 : Pos}, K (.tup [.int b.1, .int b.2]) H1 → EV (Cx.fn C (lv + 8) A (callEnvC fd388 L' 388) stk own) (.Subscript (.Name "bounds" p1) (.Name "at" p2) p3) ((("at" : Str), V.int i) :: m) H1 K R := fun hK =>
    ev_sub (ev_local ok ((List.lookup_cons ..).trans h4) (ev_local ok rfl (gi_list (.inl hF1) (by omega) (by rw [lb]; omega) gv hK)))
  refine ex_for ok Top1.fnC (iv_of (ev_tuple (evs_cons (ev_bin (ev_sub (bnd (ev_int (gi_tup (by decide) (by show 2 ≤ 1000000; decide) rfl (ev_int (op_sub (evs_cons (ev_bin (ev_sub (bnd (ev_int (gi_tup (by decide) (by show 2 ≤ 1000000; decide) rfl (ev_int (op_add (evs_nil ⟨by show 2 ≤ 1000; decide, it_tup ok fun I hI => ⟨fun j mj Hj => (∀ y : Str, y ≠ "place" → y ≠ "places" → mj.lookup y = ((("at" : Str), V.int i) :: m : Locs).lookup y) ∧ ∀ c o, H1 c = some o → Hj c = some o, ?_, ?_, ?_⟩⟩)))))))))))))))))))
  · refine ⟨fun _ _ _ => rfl, fun c o e => ?_⟩
    rw [lockH_ne (nm e hI) List.not_mem_nil]; exact e
  · rintro j pv mj Hj hpv ⟨hm, hf⟩ _
    obtain ⟨pi, rfl, hout⟩ : ∃ pi : Int, pv = .int pi ∧ ¬ (b.1 ≤ pi ∧ pi ≤ b.2) := by
      match j, hpv with
      | 0, hpv => cases hpv; exact ⟨_, rfl, by omega⟩
      | 1, hpv => cases hpv; exact ⟨_, rfl, by omega⟩
      | j + 2, hpv => simp at hpv
    refine as_name ok ow (.inl rfl) ?_
    have hm1 : ∀ y : Str, y ≠ "place" → y ≠ "places" → ((("place" : Str), V.int pi) :: mj : Locs).lookup y = ((("at" : Str), V.int i) :: m : Locs).lookup y := fun y n1 n2 => by
      rw [List.lookup_cons, beq_eq_false_iff_ne.mpr n1]; exact hm y n1 n2
    refine ex_cons (es_assign_comp ok ow rfl (cap := []) (iv_of (ev_local ok (((hm1 "bounds" (by decide) (by decide)).trans (List.lookup_cons ..)).trans h4) (it_list ok (hf _ _ hF1) fun I2 hI2 => ?_))) Caps.nil rfl rfl)
    refine comp_gen (bs.map fun p => some (.int p.1)) ["low", "high"] ok (fun b hb => by rw [List.mem_singleton.mp hb]; exact hI2) (by rw [List.length_map, lb]) (by rw [lb]; omega) rfl (fun C' k v y mi Hi hv hy ok' ow' rd rl hmi => ?_) (fun D hD => ?_)
    · unfold boundsV at hv
      rw [List.getElem?_map] at hv hy
      cases hc : bs[k]? with
      | none => rw [hc] at hv; cases hv
      | some p =>
        rw [hc] at hv hy; cases hv; cases hy
        refine as_pair ok' (as_nameL ok' ow' (as_nameL ok' ow' ⟨rfl, fun z hz => ?_, rfl, rfl, fun v hv => ?_⟩))
        · rw [List.lookup_cons, beq_eq_false_iff_ne.mpr fun w => hz (by rw [w]; simp), List.lookup_cons, beq_eq_false_iff_ne.mpr fun w => hz (by rw [w]; simp)]; exact hmi z hz
        · cases hv
          exact ev_local ok' rfl ⟨rfl, rfl⟩
    · have el : (bs.map fun p => some (V.int p.1)).filterMap id = intsV (bs.map (·.1)) := by
        unfold intsV; rw [List.filterMap_map, List.map_map]
        show bs.filterMap (fun p => some (V.int p.1)) = _
        rw [List.filterMap_eq_map']
        rfl
      rw [el]
      have leD := AH.le_set hD (.list (intsV (bs.map (·.1))))
      have ll : (bs.map (·.1)).length = bs.length := List.length_map ..
      have hat : ((("places" : Str), V.ref D) :: (("place" : Str), V.int pi) :: mj : Locs).lookup ("at" : Str) = some (.int i) := by
        rw [List.lookup_cons, beq_eq_false_iff_ne.mpr (by decide)]; exact hm1 "at" (by decide) (by decide)
      have hrr : ((("places" : Str), V.ref D) :: (("place" : Str), V.int pi) :: mj : Locs).lookup ("array" : Str) = some (.ref x) := by
        rw [List.lookup_cons, beq_eq_false_iff_ne.mpr (by decide)]; exact (hm1 "array" (by decide) (by decide)).trans h1
      refine ex_cons (es_setitem (ev_local ok rfl (ev_local ok rfl (ev_local ok hat (si_list (AH.set_self _ _ _) (by omega) (by rw [intsV_len, ll]; omega) (by rw [intsV_len, ll]; omega) ?_)))))
      have es : (intsV (bs.map (·.1))).set (Int.toNat (i : Int)) (V.int pi) = intsV ((bs.map (·.1)).set i pi) := by
        unfold intsV; rw [Int.toNat_natCast, List.map_set]
      rw [es, AH.set_set]
      have leD2 := AH.le_set hD (.list (intsV ((bs.map (·.1)).set i pi)))
      have lp : ((bs.map (·.1)).set i pi).length = bs.length := by rw [List.length_set, ll]
      refine ex_ifF (tv_cmp (ev_call ok ok304.keep (lv := lv + 6) (ev_glob ok rfl g_item_ref ⟨rfl, evs_cons (ev_local ok hrr (evs_cons (ev_local ok rfl (evs_cons (ev_int (evs_nil (c_item_arr (C := C) (lv := lv) hB (bs := bs) (ps := (bs.map (·.1)).set i pi) (fs := arrF 4 told Fb I0) (leD2 _ _ (hf _ _ hx1)) rfl (leD2 _ _ (hf _ _ hF1)) (AH.set_self _ _ _) g.bits (by omega) (by rw [intsV_len, lp]; omega) isW_ints (whole_ints _) (fun _ _ K hK => ev_none (cmp_isNot ⟨rfl, ex_nil ⟨?_, ?_⟩⟩)) (fun _ k hk => ?_) (fun hne => absurd lp.symm hne))))))))⟩) (by show lv + 6 ≤ lv + 8; omega)))
      · exact fun y n1 n2 => by rw [List.lookup_cons, beq_eq_false_iff_ne.mpr n2]; exact hm1 y n1 n2
      · exact fun c o e => AH.le_set hK _ _ _ (leD2 _ _ (hf _ _ e))
      · rw [placeOf_out bs _ 0 i b pi hbi (by rw [List.getElem?_set_self (by rw [ll]; exact hi)]) hout] at hk; cases hk
  · rintro mn Hn ⟨hm, hf⟩ _
    have un : ∀ c o, H1 c = some o → unl H1 [I] [] Hn c = some o := fun c o e => by
      unfold unl
      rw [if_neg (nm e hI), if_neg List.not_mem_nil]; exact hf c o e
    have hm2 : ∀ y : Str, y ≠ "place" → y ≠ "places" → y ≠ "at" → mn.lookup y = m.lookup y := fun y n1 n2 n3 => by
      rw [hm y n1 n2, List.lookup_cons, beq_eq_false_iff_ne.mpr n3]
    obtain ⟨n0, ns, bb, ea, eL, hz⟩ := id hb1
    refine a_tail hB hB4 ok ow ((hm2 _ (by decide) (by decide) (by decide)).trans h1) ((hm2 _ (by decide) (by decide) (by decide)).trans h2) ((hm2 _ (by decide) (by decide) (by decide)).trans h3) (un _ _ hx1) (un _ _ hF1) g (.inl (un _ _ hE1)) hrl hr0 (un _ _ he1) hel (un _ _ hP1) fun H' m' f tg => ?_
    have n385 := n 385 (by simp)
    refine q H' m' (hb1.of ((f _ _ (un _ _ ea) n385.1.symm).trans ea.symm) ((f _ _ (un _ _ eL) n385.2.symm).trans eL.symm)) (fun c o e n1 n2 n3 => f _ _ (un _ _ (up c o e n1 n2)) n3) tg
end

theorem AreKV.ints {H : AH} : ∀ ps : List Int, AreKV H (intsV ps) (ps.map .inr)
  | [] => .nil
  | p :: ps => .cons (.int p) (AreKV.ints ps)
/-- a value that compares with itself -/
def ValOk (v : V) : Prop := v = .str "first" ∨ ∃ i, v = .int i
section
variable {Γ : Cx} {H : AH} {B : Bool → AH → Prop} {R : Int → AH → Prop}
theorem cmp_ne_same {a b : V} {d : PyData} (ok : Γ.Ok) (ha : DV H a d) (hb : DV H b d) (sh : SeqAt.shaped d = true) (q : B false H) : CmpV Γ .NotEq a b H B R := cmp_neD ok ha hb (by rw [ne_self sh]; exact q) sh sh
theorem cmp_eq_same {a b : V} {d : PyData} (ok : Γ.Ok) (ha : DV H a d) (hb : DV H b d) (sh : SeqAt.shaped d = true) (q : B true H) : CmpV Γ .Eq a b H B R := cmp_eqD ok ha hb (by rw [eq_self sh]; exact q) sh sh
theorem cmp_ne_val {v : V} (ok : Γ.Ok) (hv : ValOk v) (q : B false H) : CmpV Γ .NotEq v v H B R := by
  rcases hv with rfl | ⟨i, rfl⟩
  · exact cmp_ne_same ok (.str _) (.str _) (by kernel_rfl) q
  · exact cmp_ne_same ok (.int i) (.int i) rfl q
end
noncomputable def valAt (kvs : List (List KV × V)) (bs : List (Int × Int)) (j : Nat) : V := (kvGet kvs ((placesB bs (j : Int)).map .inr)).getD (.str "first")
section
variable {C : Con} {lv : Nat} {A : Around} {stk : List Env} {L' : Addr} {own : List Addr} {m : Locs} {H : AH} {Q : Fl → Locs → AH → Prop} {R : Int → AH → Prop}
set_option maxHeartbeats 1000000 in
theorem a_loop2 (hB : Base C.w C.base) (hB4 : BMain C.base) (ok : (Cx.fn C (lv + 8) A (callEnvC fd388 L' 388) stk own).Ok) (ow : Owns (Cx.fn C (lv + 8) A (callEnvC fd388 L' 388) stk own))
    {a L x Fb I0 E k r0 : Addr} {told : Str} {bs : List (Int × Int)} {rs : List Addr} {vals : List V} {kvs : List (List KV × V)} (h0 : m.lookup ("box" : Str) = some (.ref a)) (h4 : m.lookup ("bounds" : Str) = some (.ref Fb)) (h1 : m.lookup ("array" : Str) = some (.ref x)) (h2 : m.lookup ("every" : Str) = some (.ref E)) (h3 : m.lookup ("told" : Str) = some (.str told)) (h5 : m.lookup ("kept" : Str) = some (.ref k))
    (hb : BoxIs H a L) (ap : ∀ c, c = Fb ∨ c = x ∨ c = E ∨ c = r0 ∨ c = 385 → c ≠ a ∧ c ≠ L) (hx : H x = some (.inst 236 (arrF 4 told Fb I0))) (hF : H Fb = some (.list (boundsV bs))) (g : GoodB bs) (hE : H E = some (.list (rs.map .ref))) (hrl : rs.length = sizeN bs) (hr0 : rs[0]? = some r0)
    (hrs : ∀ (j : Nat) (r : Addr), rs[j]? = some r → H r = some (.list (intsV (placesB bs j)))) (hI0 : H I0 = some (.list vals)) (hvl : vals.length = sizeN bs) (hk : H k = some (.dict kvs)) (hv : ∀ j < sizeN bs, vals[j]? = some (valAt kvs bs j) ∧ ValOk (valAt kvs bs j))
    (hne : Fb ≠ E ∧ I0 ≠ E ∧ ∀ (j : Nat) (r : Addr), rs[j]? = some r → r ≠ E) (hP : H 385 = some (.obj (tabObj #[]))) (q : ∀ H' m', BoxIs H' a L → (∀ c o, H c = some o → c ≠ a → c ≠ L → c ≠ 385 → H' c = some o) → TabG H' 385 → Q (.ret (.bool true)) m' H') : EX (Cx.fn C (lv + 8) A (callEnvC fd388 L' 388) stk own) ((bod st388).drop 5) m H Q R := by
  have g1 := g.1
  have g2 := g.2.1
  have gt : ∀ p ∈ bs, p.1 ≤ p.2 := fun p hp => (g.2.2 p hp).2.2.1
  have hN : sizeN bs ≤ 27 := by have := g.take bs.length; rwa [List.take_length] at this
  have lm : (rs.map V.ref).length = rs.length := List.length_map ..
  refine ex_for ok Top1.fnC (iv_tcall (ev_blt ok rfl n_enumerate b_enumerate (fun _ _ => .ty _) ⟨rfl, evs_cons (ev_local ok h2 (evs_nil (bi_enumerate ok rfl hE fun wr hwr => ⟨fun i mi Hi => (∀ y : Str, y ≠ "at" → y ≠ "places" → y ≠ "ref" → mi.lookup y = m.lookup y) ∧ ∀ c o, H c = some o → c ≠ E → Hi c = some o, ?_, ?_, ?_⟩)))⟩))
  · refine ⟨fun _ _ _ _ => rfl, fun c o e n => ?_⟩
    rw [lockH_ne (fun z => by rw [hwr _ z] at e; cases e) (fun z => n (List.mem_singleton.mp z))]; exact e
  · rintro i xv mi Hi hxv ⟨hm, hf⟩ _
    unfold enumL at hxv
    rw [List.getElem?_mapIdx, List.getElem?_map] at hxv
    cases hr : rs[i]? with
    | none => rw [hr] at hxv; cases hxv
    | some r =>
      rw [hr] at hxv; cases hxv
      have hi : i < sizeN bs := by rw [← hrl]; exact (List.getElem?_eq_some_iff.mp hr).1
      obtain ⟨pl1, pl2⟩ := placeB_at gt hi
      have hre := hrs i r hr
      obtain ⟨hv1, hv2⟩ := hv i hi
      have nE : ∀ {c : Addr} {o : AO}, H c = some o → (∀ ts, o ≠ .list ts) → c ≠ E := fun e d z => by rw [z, hE] at e; cases e; exact d _ rfl
      have hx' := hf _ _ hx (nE hx fun _ z => by cases z)
      have hk' := hf _ _ hk (nE hk fun _ z => by cases z)
      have hF' := hf _ _ hF hne.1
      have hI' := hf _ _ hI0 hne.2.1
      have hr' := hf _ _ hre (hne.2.2 i r hr)
      have lp : (placesB bs (i : Int)).length = bs.length := pl2
      refine as_pair ok (as_name ok ow (.inl rfl) (as_name ok ow (.inl rfl) ?_))
      have hm1 : ∀ y : Str, y ≠ "at" → y ≠ "places" → y ≠ "ref" → ∀ v, m.lookup y = some v → ((("places" : Str), V.ref r) :: (("at" : Str), V.int (i : Int)) :: mi : Locs).lookup y = some v := fun y n1 n2 n3 v e => by
        rw [List.lookup_cons, beq_eq_false_iff_ne.mpr n2, List.lookup_cons, beq_eq_false_iff_ne.mpr n1]; exact (hm y n1 n2 n3).trans e
      refine ex_asg (fun v H2 => ∃ y, v = .ref y ∧ H2 y = some (.inst 117 [("kind", .str "item"), ("owner", .ref x), ("key", .int (i : Int))]) ∧ AH.le Hi H2) ok ow
        (ev_call ok ok304.keep (lv := lv + 6) (ev_glob ok rfl g_item_ref ⟨rfl, evs_cons (ev_local ok (hm1 "array" (by decide) (by decide) (by decide) _ h1) (evs_cons (ev_local ok rfl (evs_cons (ev_int (evs_nil (c_item_arr (C := C) (lv := lv) hB (bs := bs) (ps := placesB bs (i : Int)) (fs := arrF 4 told Fb I0) hx' rfl hF' hr' g.bits (by omega) (by rw [intsV_len, lp]; omega) isW_ints (whole_ints _) (fun _ z => ?_) (fun _ n hn y D d H2 hy hD hd e1 e2 => ?_) (fun hne => absurd lp.symm hne))))))))⟩) (by show lv + 6 ≤ lv + 8; omega)) ?_
      · rw [pl1] at z; cases z
      · rw [pl1] at hn; cases hn
        exact ⟨y, rfl, e1, fun c o e => by rw [e2 c (nz e hy) (nz e hD) (nz e hd)]; exact e⟩
      rintro _ H2 ⟨y, rfl, ey, le2⟩
      have hm2 : ∀ y' : Str, y' ≠ "at" → y' ≠ "places" → y' ≠ "ref" → ∀ v, m.lookup y' = some v → ((("ref" : Str), V.ref y) :: (("places" : Str), V.ref r) :: (("at" : Str), V.int (i : Int)) :: mi : Locs).lookup y' = some v := fun y' n1 n2 n3 v e => by
        rw [List.lookup_cons, beq_eq_false_iff_ne.mpr n3]; exact hm1 y' n1 n2 n3 v e
      have hr2 := le2 _ _ hr'
      have hx2 := le2 _ _ hx'
      have hF2 := le2 _ _ hF'
      refine ex_ifF (tv_bool (at_or (tv_cmp (ev_call ok ok311.keep (lv := lv + 1) (ev_glob ok rfl g_slot_get ⟨rfl, evs_cons (ev_local ok rfl (evs_nil (c_slot_get_arr (C := C) (lv := lv) hB ey rfl rfl hx2 rfl (le2 _ _ hI') (by omega) (by omega) (by rw [Int.toNat_natCast]; exact hv1) ?_)))⟩) (by show lv + 1 ≤ lv + 8; omega)))))
      refine ev_meth PySem.F.plainAttrs_dict PySem.F.slot_dict_get PySem.F.type_dict_get (ev_local ok (hm2 "kept" (by decide) (by decide) (by decide) _ h5) ⟨ty_dict (le2 _ _ hk'), evs_cons (ev_tcall (ev_blt ok rfl n_tuple b_tuple (fun _ _ => .ty _) ⟨rfl, evs_cons (ev_local ok rfl (evs_nil (bv_tuple (.inl hr2) (by rw [intsV_len, lp]; omega) (evs_cons (ev_str (evs_nil (bv_get ok (le2 _ _ hk') (AreKV.ints _) (cmp_ne_val ok hv2 ⟨(fun z => by cases z), fun _ => ?_⟩))))))))⟩))⟩)
      refine at_or (tv_cmp (ev_call ok ok285.keep (lv := lv + 1) (ev_glob ok rfl g_array_place ⟨rfl, evs_cons (ev_local ok (hm2 "array" (by decide) (by decide) (by decide) _ h1) (evs_cons (ev_local ok rfl (evs_nil (c_array_place (C := C) (lv := lv) hB (bs := bs) (ps := placesB bs (i : Int)) hx2 rfl hF2 hr2 g.bits (by omega) (by omega) (fun _ => ?_) (fun hne => absurd lp.symm hne))))))⟩) (by show lv + 1 ≤ lv + 8; omega)))
      rw [pl1]
      refine ev_local ok rfl (cmp_ne_same (d := .int (i : Int)) ok (.int _) (.int _) rfl ⟨(fun z => by cases z), fun _ => ?_⟩)
      refine at_or1 (tv_cmp (ev_call ok ok292.keep (lv := lv + 1) (ev_glob ok rfl g_places_of ⟨rfl, evs_cons (ev_local ok (hm2 "array" (by decide) (by decide) (by decide) _ h1) (evs_cons (ev_local ok rfl (evs_nil (c_places_of (C := C) (lv := lv) hB (bs := bs) (n := (i : Int)) hx2 rfl hF2 (fun p hp => by have := g.2.2 p hp; omega) (by omega) fun D0 D hD0 hD hDD xs => ?_)))))⟩) (by show lv + 1 ≤ lv + 8; omega)))
      have le3 : AH.le H2 ((H2.set D0 (.list xs)).set D (.list (intsV (placesB bs (i : Int))))) := set2_le hD0 (by rw [AH.set_ne _ _ hDD]; exact hD)
      refine ev_local ok rfl (cmp_ne_same ok (.ints (.inl (AH.set_self _ _ _))) (.ints (.inl (le3 _ _ hr2))) (ke_shaped_ints _) ⟨rfl, ex_nil ⟨fun y' n1 n2 n3 => ?_, fun c o e n => ?_⟩⟩)
      · rw [List.lookup_cons, beq_eq_false_iff_ne.mpr n3, List.lookup_cons, beq_eq_false_iff_ne.mpr n2, List.lookup_cons, beq_eq_false_iff_ne.mpr n1]; exact hm y' n1 n2 n3
      · exact le3 _ _ (le2 _ _ (hf _ _ e n))
  · rintro mn Hn ⟨hm, hf⟩ _
    have le : AH.le H (unl H wr [E] Hn) := unl_le hwr (AH.le.refl H) fun b o e n => hf b o e fun z => n (List.mem_singleton.mpr z)
    obtain ⟨n0, ns, bb, ea, eL, hz⟩ := id hb
    have h0N : 0 < sizeN bs := by rw [← hrl]; exact (List.getElem?_eq_some_iff.mp hr0).1
    have m1 : ∀ y : Str, y ≠ "at" → y ≠ "places" → y ≠ "ref" → ∀ v, m.lookup y = some v → mn.lookup y = some v := fun y n1 n2 n3 v e => (hm y n1 n2 n3).trans e
    refine a_loop3 hB hB4 ok ow (m1 _ (by decide) (by decide) (by decide) _ h0) (m1 _ (by decide) (by decide) (by decide) _ h4) (m1 _ (by decide) (by decide) (by decide) _ h1) (m1 _ (by decide) (by decide) (by decide) _ h2) (m1 _ (by decide) (by decide) (by decide) _ h3)
      (hb.of ((le _ _ ea).trans ea.symm) ((le _ _ eL).trans eL.symm)) ap (le _ _ hx) (le _ _ hF) g (le _ _ hE) (by omega) hr0 (le _ _ (hrs 0 r0 hr0)) (placeB_at gt h0N).2 (le _ _ hP) fun H' m' b' f' tg => ?_
    exact q H' m' b' (fun c o e n1 n2 n3 => f' c o (le c o e) n1 n2 n3) tg
end

theorem kvGet_put_ne {kvs : List (List KV × V)} {k k' : List KV} {v : V} (h : k' ≠ k) : kvGet (kvPut kvs k v) k' = kvGet kvs k' := by
  unfold kvPut
  by_cases q : (kvGet kvs k).isSome = true
  · rw [if_pos q]
    unfold kvGet
    clear q
    induction kvs with
    | nil => rfl
    | cons p r ih =>
      obtain ⟨a, b⟩ := p
      rw [List.map_cons, List.find?_cons, List.find?_cons]
      by_cases z : a = k
      · have z2 : a ≠ k' := fun w => h (w.symm.trans z)
        rw [if_pos z, decide_eq_false z2]; exact ih
      · rw [if_neg z]
        by_cases z2 : a = k'
        · rw [decide_eq_true z2]
        · rw [decide_eq_false z2]; exact ih
  · rw [if_neg q]
    unfold kvGet
    rw [List.find?_append]
    cases kvs.find? (fun x => decide (x.1 = k')) with
    | none => rw [List.find?_cons, decide_eq_false (show ¬ k = k' from fun w => h w.symm)]; rfl
    | some p => rfl
theorem kvPut_len {kvs : List (List KV × V)} {k : List KV} {v : V} : (kvPut kvs k v).length ≤ kvs.length + 1 := by
  unfold kvPut
  split
  · rw [List.length_map]; omega
  · rw [List.length_append]; exact Nat.le_refl _
theorem placeOf_in (bs : List (Int × Int)) (ps : List Int) (n m : Int) (e : bs.length = ps.length) (hm : placeOf bs ps n = some m) (p : Int) (hp : p ∈ ps) : ∃ b ∈ bs, b.1 ≤ p ∧ p ≤ b.2 := by
  induction bs generalizing ps n with
  | nil => cases ps with
    | nil => cases hp
    | cons y ps => exact nomatch e
  | cons c bs ih =>
    cases ps with
    | nil => cases hp
    | cons x ps =>
      obtain ⟨l, h⟩ := c
      rw [placeOf_cons] at hm
      by_cases q : l ≤ x ∧ x ≤ h
      · rw [if_pos q] at hm
        rcases List.mem_cons.mp hp with rfl | hp
        · exact ⟨_, .head _, q⟩
        · exact (ih ps _ (Nat.succ.inj e) hm hp).imp fun b z => ⟨.tail _ z.1, z.2⟩
      · rw [if_neg q] at hm; cases hm
theorem str_place : ∀ p : Int, -1 ≤ p → p ≤ 7 → wholeText (Str.ofString (toString p)) = some p ∧ (Str.ofString (toString p)).length ≤ 3 ∧ p.natAbs.log2 < 1920 := by
  intro p h1 h2
  obtain ⟨a, rfl⟩ := Int.le.dest h1
  have key : ∀ a < 9, wholeText (Str.ofString (toString (-1 + ((a : Nat) : Int)))) = some (-1 + ((a : Nat) : Int)) ∧ (Str.ofString (toString (-1 + ((a : Nat) : Int)))).length ≤ 3 ∧ (-1 + ((a : Nat) : Int)).natAbs.log2 < 1920 := by decide +kernel
  exact key a (by omega)
/-- the place, written or not -/
noncomputable def keyV (t : Int) (p : Int) : V := if t = 1 then .str (Str.ofString (toString p)) else .int p
theorem keyV_whole {t p : Int} (h1 : -1 ≤ p) (h2 : p ≤ 7) : IsWhole (keyV t p) p := by
  unfold keyV
  obtain ⟨a, b, _⟩ := str_place p h1 h2
  split
  · exact .str (Nat.le_trans b (by decide)) a
  · exact .int p
section
variable {C : Con} {lv : Nat} {A : Around} {stk : List Env} {L' : Addr} {own : List Addr} {m : Locs} {H : AH} {Q : Fl → Locs → AH → Prop} {R : Int → AH → Prop}
set_option maxHeartbeats 1000000 in
theorem a_loop1 (hB : Base C.w C.base) (hB4 : BMain C.base) (ok : (Cx.fn C (lv + 8) A (callEnvC fd388 L' 388) stk own).Ok) (ow : Owns (Cx.fn C (lv + 8) A (callEnvC fd388 L' 388) stk own))
    {a L x Fb I0 E k r0 : Addr} {told : Str} {bs : List (Int × Int)} {rs : List Addr} {vals : List V} (h0 : m.lookup ("box" : Str) = some (.ref a)) (h4 : m.lookup ("bounds" : Str) = some (.ref Fb)) (h1 : m.lookup ("array" : Str) = some (.ref x)) (h2 : m.lookup ("every" : Str) = some (.ref E)) (h3 : m.lookup ("told" : Str) = some (.str told)) (h5 : m.lookup ("kept" : Str) = some (.ref k))
    (hb : BoxIs H a L) (ap : ∀ c, c = Fb ∨ c = x ∨ c = E ∨ c ∈ rs ∨ c = 385 → c ≠ a ∧ c ≠ L ∧ c ≠ I0 ∧ c ≠ k) (ap2 : I0 ≠ a ∧ I0 ≠ L ∧ k ≠ a ∧ k ≠ L ∧ I0 ≠ k) (hx : H x = some (.inst 236 (arrF 4 told Fb I0))) (hF : H Fb = some (.list (boundsV bs))) (g : GoodB bs) (hE : H E = some (.list (rs.map .ref))) (hrl : rs.length = sizeN bs) (hr0 : rs[0]? = some r0)
    (hrs : ∀ (j : Nat) (r : Addr), rs[j]? = some r → H r = some (.list (intsV (placesB bs j)))) (hI0 : H I0 = some (.list vals)) (hvl : vals.length = sizeN bs) (hk : H k = some (.dict [])) (hv : ∀ j < sizeN bs, vals[j]? = some (.str "first"))
    (hne : Fb ≠ E ∧ I0 ≠ E ∧ ∀ (j : Nat) (r : Addr), rs[j]? = some r → r ≠ E) (hP : H 385 = some (.obj (tabObj #[]))) (q : ∀ H' m', BoxIs H' a L → (∀ c o, H c = some o → c ≠ a → c ≠ L → c ≠ I0 → c ≠ k → c ≠ 385 → H' c = some o) → TabG H' 385 → Q (.ret (.bool true)) m' H') : EX (Cx.fn C (lv + 8) A (callEnvC fd388 L' 388) stk own) ((bod st388).drop 4) m H Q R := by
  have g1 := g.1
  have g2 := g.2.1
  have gt : ∀ p ∈ bs, p.1 ≤ p.2 := fun p hp => (g.2.2 p hp).2.2.1
  have hN : sizeN bs ≤ 27 := by have := g.take bs.length; rwa [List.take_length] at this
  have h0N : 0 < sizeN bs := by rw [← hrl]; exact (List.getElem?_eq_some_iff.mp hr0).1
  have lm : (rs.map V.ref).length = rs.length := List.length_map ..
  have take : ∀ {m : Locs} {H : AH} {K : V → AH → Prop} {R : Int → AH → Prop} {p1 p2 p3 p4 : Pos} {k n : Nat}, m.lookup ("box" : Str) = some (.ref a) → BoxIs H a L → 0 < n → (∀ (r : Nat) (H' : AH), r < n → BoxIs H' a L → (∀ b, b ≠ a → b ≠ L → H' b = H b) → K (.int r) H') →
      EV (Cx.fn C (lv + 8) A (callEnvC fd388 L' 388) stk own) (.Call (.Name "_law_take" p1) [.Name "box" p2, .Constant (.int n) k p3] [] p4) m H K R := fun hm hbx hn hK =>
    ev_call ok ok359.keep (lv := lv + 1) (ev_glob ok rfl g__law_take ⟨rfl, evs_cons (ev_local ok hm (evs_cons (ev_int (evs_nil (c_take (C := C) (lv := lv) hB hbx hn hK)))))⟩) (by show lv + 1 ≤ lv + 8; omega)
  refine ex_for ok Top1.fnC (iv_tcall (ev_blt ok rfl n_range b_range (fun _ _ => .ty _) ⟨rfl, evs_cons (ev_bin (ev_int (take h0 hb (by decide) fun r H1 hr hb1 fr => op_add (evs_nil ?_))))⟩))
  have hr : r < 4 := hr
  have hsm : ∀ r : Nat, r < 4 → Builtin.Range.small 0 (1 + (r : Int)) 1 = true ∧ Builtin.Range.rangeSize 0 (1 + (r : Int)) 1 = ((r + 1 : Nat) : Int) := by decide
  have up1 : ∀ c o, H c = some o → c ≠ a → c ≠ L → H1 c = some o := fun c o e n1 n2 => by rw [fr c n1 n2]; exact e
  refine bi_range1 (n := r + 1) ok (hsm r hr).1 (hsm r hr).2 fun I hI => ⟨fun i mi Hi => (∀ y : Str, y ≠ "turn" → y ≠ "places" → y ≠ "value" → mi.lookup y = m.lookup y) ∧ BoxIs Hi a L ∧ (∃ vals kvs, Hi I0 = some (.list vals) ∧ vals.length = sizeN bs ∧ Hi k = some (.dict kvs) ∧ kvs.length ≤ i ∧ ∀ j < sizeN bs, vals[j]? = some (valAt kvs bs j) ∧ ValOk (valAt kvs bs j)) ∧ ∀ c o, H c = some o → c ≠ a → c ≠ L → c ≠ I0 → c ≠ k → Hi c = some o, ?_, ?_, ?_⟩
  · have rd : ∀ c o, H1 c = some o → lockH H1 [I] [] c = some o := fun c o e => by rw [lockH_ne (nm e hI) List.not_mem_nil]; exact e
    obtain ⟨n0, ns, bb, ea, eL, hz⟩ := id hb1
    exact ⟨fun _ _ _ _ => rfl, hb1.of ((rd _ _ ea).trans ea.symm) ((rd _ _ eL).trans eL.symm), ⟨vals, [], rd _ _ (up1 _ _ hI0 ap2.1 ap2.2.1), hvl, rd _ _ (up1 _ _ hk ap2.2.2.1 ap2.2.2.2.1), Nat.le_refl _, fun j hj => ⟨hv j hj, .inl rfl⟩⟩, fun c o e n1 n2 _ _ => rd _ _ (up1 _ _ e n1 n2)⟩
  · rintro i xv mi Hi hxv ⟨hm, hbi, ⟨vs, kvs, eI, hvsl, ek, hkl, hvs⟩, hf⟩ _
    obtain ⟨t, rfl⟩ : ∃ t : Int, xv = .int t := by
      unfold rangeL at hxv
      rw [List.getElem?_map] at hxv
      cases z : (List.range (r + 1))[i]? with
      | none => rw [z] at hxv; cases hxv
      | some w => rw [z] at hxv; cases hxv; exact ⟨_, rfl⟩
    have hi : i < 4 := by
      have := (List.getElem?_eq_some_iff.mp hxv).1
      unfold rangeL at this
      rw [List.length_map, List.length_range] at this; omega
    refine as_name ok ow (.inr ⟨rfl, rfl⟩) ?_
    have hm1 : ∀ y : Str, y ≠ "turn" → y ≠ "places" → y ≠ "value" → ∀ v, m.lookup y = some v → ((("turn" : Str), V.int t) :: mi : Locs).lookup y = some v := fun y n1 n2 n3 v e => by
      rw [List.lookup_cons, beq_eq_false_iff_ne.mpr n1]; exact (hm y n1 n2 n3).trans e
    have hEi := hf _ _ hE (ap E (by simp)).1 (ap E (by simp)).2.1 (ap E (by simp)).2.2.1 (ap E (by simp)).2.2.2
    refine ex_swap (fun u v H2 => ∃ (j : Nat) (rj : Addr) (n : Nat), j < sizeN bs ∧ rs[j]? = some rj ∧ u = .ref rj ∧ v = .int (n : Int) ∧ BoxIs H2 a L ∧ ∀ c, c ≠ a → c ≠ L → H2 c = Hi c) ok ow
      (ev_sub (ev_local ok (hm1 "every" (by decide) (by decide) (by decide) _ h2) (ev_call ok ok359.keep (lv := lv + 1) (ev_glob ok rfl g__law_take ⟨rfl, evs_cons (ev_local ok (hm1 "box" (by decide) (by decide) (by decide) _ h0) (evs_cons (ev_bcall (ev_blt ok rfl n_len b_len (fun _ _ => .bi _) ⟨rfl, evs_cons (ev_local ok (hm1 "every" (by decide) (by decide) (by decide) _ h2) (evs_nil (bv_len (.inl hEi) (by rw [lm]; omega) (evs_nil ?_))))⟩))))⟩) (by show lv + 1 ≤ lv + 8; omega)))) ?_
    · rw [lm, hrl]
      refine c_take (C := C) (lv := lv) hB hbi h0N fun j H2 hj hb2 fr2 => ?_
      have hjr : j < rs.length := by omega
      refine gi_list (v := .ref rs[j]) (.inl (by rw [fr2 E (ap E (by simp)).1 (ap E (by simp)).2.1]; exact hEi)) (by omega) (by rw [lm]; omega) (by rw [Int.toNat_natCast, List.getElem?_map, List.getElem?_eq_getElem hjr]; rfl) ?_
      exact take (hm1 "box" (by decide) (by decide) (by decide) _ h0) hb2 (by decide) fun n H3 hn hb3 fr3 => ⟨j, rs[j], n, hj, List.getElem?_eq_getElem hjr, rfl, rfl, hb3, fun c n1 n2 => (fr3 c n1 n2).trans (fr2 c n1 n2)⟩
    rintro _ _ H2 ⟨j, rj, n, hj, hrj, rfl, rfl, hb2, fr2⟩
    have rap := ap rj (.inr (.inr (.inr (.inl (List.mem_of_getElem? hrj)))))
    obtain ⟨pl1, pl2⟩ := placeB_at gt hj
    have lp : (placesB bs (j : Int)).length = bs.length := pl2
    have up2 : ∀ c o, H c = some o → c ≠ a ∧ c ≠ L ∧ c ≠ I0 ∧ c ≠ k → H2 c = some o := fun c o e d => by rw [fr2 c d.1 d.2.1]; exact hf c o e d.1 d.2.1 d.2.2.1 d.2.2.2
    have hr2 := up2 _ _ (hrs j rj hrj) rap
    have hx2 := up2 _ _ hx (ap x (by simp))
    have hF2 := up2 _ _ hF (ap Fb (by simp))
    have eI2 : H2 I0 = some (.list vs) := by rw [fr2 I0 ap2.1 ap2.2.1]; exact eI
    have ek2 : H2 k = some (.dict kvs) := by rw [fr2 k ap2.2.2.1 ap2.2.2.2.1]; exact ek
    have prange : ∀ p ∈ placesB bs (j : Int), -1 ≤ p ∧ p ≤ 7 := fun p hp => by
      obtain ⟨b, hb', h1', h2'⟩ := placeOf_in bs _ _ _ pl2.symm pl1 p hp
      have := g.2.2 b hb'
      omega
    generalize hps : placesB bs (j : Int) = ps at *
    have hm2 : ∀ y : Str, y ≠ "turn" → y ≠ "places" → y ≠ "value" → ∀ v, m.lookup y = some v → ((("places" : Str), V.ref rj) :: (("value" : Str), V.int (n : Int)) :: (("turn" : Str), V.int t) :: mi : Locs).lookup y = some v := fun y n1 n2 n3 v e => by
      rw [List.lookup_cons, beq_eq_false_iff_ne.mpr n2, List.lookup_cons, beq_eq_false_iff_ne.mpr n3]; exact hm1 y n1 n2 n3 v e
    refine ex_expr (ev_call ok ok318.keep (lv := lv + 1) (ev_glob ok rfl g_slot_set ⟨rfl, evs_cons (ev_call ok ok304.keep (lv := lv + 6) (ev_glob ok rfl g_item_ref ⟨rfl, evs_cons (ev_local ok (hm2 "array" (by decide) (by decide) (by decide) _ h1) (evs_cons (ev_comp ok (cap := [("turn", .int t)]) (iv_of (ev_local ok rfl (it_list ok hr2 fun I2 hI2 => ?_))) ?_ rfl)))⟩) (by show lv + 6 ≤ lv + 8; omega))⟩) (by show lv + 1 ≤ lv + 8; omega))
    · refine comp_gen (ps.map fun p => some (keyV t p)) ["place"] ok (fun b hb => by rw [List.mem_singleton.mp hb]; exact hI2) (by rw [List.length_map, intsV_len]) (by rw [intsV_len, lp]; omega) rfl (fun C' l v y ml Hl hv hy ok' ow' rd rl hml => ?_) (fun D hD => ?_)
      · unfold intsV at hv
        rw [List.getElem?_map] at hv hy
        cases hc : ps[l]? with
        | none => rw [hc] at hv; cases hv
        | some p =>
          rw [hc] at hv hy; cases hv; cases hy
          have hp := prange p (List.mem_of_getElem? hc)
          obtain ⟨_, _, hlog⟩ := str_place p hp.1 hp.2
          have hct : (("place", V.int p) :: ml : Locs).lookup ("turn" : Str) = some (.int t) := by
            rw [List.lookup_cons, beq_eq_false_iff_ne.mpr (by decide)]; exact hml "turn" (by decide)
          refine as_nameL ok' ow' ⟨rfl, fun z hz => ?_, rfl, rfl, fun v hv => ?_⟩
          · rw [List.lookup_cons, beq_eq_false_iff_ne.mpr fun w => hz (by rw [w]; simp)]; exact hml z hz
          · cases hv
            refine ev_ifB (tv_cmp (ev_local ok' hct (ev_int (cmp_eq ⟨fun e => ?_, fun e => ?_⟩))))
            · refine ev_tcall (ev_blt ok' rfl n_str b_str (fun _ _ => .ty _) ⟨rfl, evs_cons (ev_local ok' rfl (evs_nil (bv_str hlog ⟨?_, rfl⟩)))⟩)
              unfold keyV; rw [if_pos (by simpa using e)]
            · refine ev_local ok' rfl ⟨?_, rfl⟩
              unfold keyV; rw [if_neg (by simpa using e)]
      · have el : (ps.map fun p => some (keyV t p)).filterMap id = ps.map (keyV t) := by
          rw [List.filterMap_map]
          show ps.filterMap (fun p => some (keyV t p)) = _
          rw [List.filterMap_eq_map']
        rw [el]
        have leD := AH.le_set hD (.list (ps.map (keyV t)))
        have hW : ∀ v ∈ ps.map (keyV t), ∃ i, IsWhole v i := fun v hv => by
          obtain ⟨p, hp, rfl⟩ := List.mem_map.mp hv
          exact ⟨p, keyV_whole (prange p hp).1 (prange p hp).2⟩
        have hWf : (ps.map (keyV t)).map wholeF = intsV ps := by
          unfold intsV; rw [List.map_map]
          exact List.map_congr_left fun p hp => (keyV_whole (prange p hp).1 (prange p hp).2).f
        refine evs_cons (ev_int (evs_nil (c_item_arr (C := C) (lv := lv) hB (bs := bs) (ps := ps) (fs := arrF 4 told Fb I0) (leD _ _ hx2) rfl (leD _ _ hF2) (AH.set_self _ _ _) g.bits (by omega) (by rw [List.length_map, lp]; omega) hW hWf (fun _ z => ?_) (fun _ n' hn y K d H3 hy hK hd e1 e2 => ?_) (fun hne => absurd lp.symm hne))))
        · rw [pl1] at z; cases z
        · rw [pl1] at hn; cases hn
          have le3 : AH.le H2 H3 := fun c o e => by
            have e := leD _ _ e
            rw [e2 c (nz e hy) (nz e hK) (nz e hd)]; exact e
          refine evs_cons (ev_local ok rfl (evs_nil (c_slot_set_arr (C := C) (lv := lv) hB (xs := vs) e1 rfl rfl (le3 _ _ hx2) rfl (le3 _ _ eI2) (by omega) (by omega) (by omega) ?_)))
          have nI : ∀ {c : Addr} {o : AO}, H3 c = some o → c ≠ I0 → (H3.set I0 (.list (vs.set (Int.toNat (j : Int)) (.int n)))) c = some o := fun e d => by rw [AH.set_ne _ _ d]; exact e
          refine ex_cons (es_setitem (ev_local ok rfl (ev_local ok (hm2 "kept" (by decide) (by decide) (by decide) _ h5) (ev_tcall (ev_blt ok rfl n_tuple b_tuple (fun _ _ => .ty _) ⟨rfl, evs_cons (ev_local ok rfl (evs_nil (bv_tuple (.inl (nI (le3 _ _ hr2) rap.2.2.1)) (by rw [intsV_len, lp]; omega) (si_dict ok (nI (le3 _ _ ek2) ap2.2.2.2.2.symm) (AreKV.ints _) (by omega) (ex_nil ?_)))))⟩)))))
          have fin : ∀ c o, H2 c = some o → c ≠ I0 → c ≠ k → ((H3.set I0 (.list (vs.set (Int.toNat (j : Int)) (.int n)))).set k (.dict (kvPut kvs (ps.map .inr) (.int n)))) c = some o := fun c o e d1 d2 => by
            rw [AH.set_ne _ _ d2, AH.set_ne _ _ d1]; exact le3 _ _ e
          obtain ⟨n0, ns, bb, ea, eL, hz⟩ := id hb2
          refine ⟨fun y n1 n2 n3 => ?_, hb2.of ((fin _ _ ea ap2.1.symm ap2.2.2.1.symm).trans ea.symm) ((fin _ _ eL ap2.2.1.symm ap2.2.2.2.1.symm).trans eL.symm), ⟨vs.set j (.int n), kvPut kvs (ps.map .inr) (.int n), ?_, ?_, AH.set_self _ _ _, ?_, fun l hl => ?_⟩, fun c o e n1 n2 n3 n4 => fin c o (up2 c o e ⟨n1, n2, n3, n4⟩) n3 n4⟩
          · rw [List.lookup_cons, beq_eq_false_iff_ne.mpr n2, List.lookup_cons, beq_eq_false_iff_ne.mpr n3, List.lookup_cons, beq_eq_false_iff_ne.mpr n1]; exact hm y n1 n2 n3
          · rw [AH.set_ne _ _ ap2.2.2.2.2, AH.set_self, Int.toNat_natCast]
          · rw [List.length_set]; exact hvsl
          · have := kvPut_len (kvs := kvs) (k := ps.map .inr) (v := .int n); omega
          · by_cases w : l = j
            · subst w
              have : valAt (kvPut kvs (ps.map .inr) (.int n)) bs l = .int n := by unfold valAt; rw [hps, kvGet_put]; rfl
              rw [this]
              exact ⟨by rw [List.getElem?_set_self (by omega)], .inr ⟨_, rfl⟩⟩
            · have hk' : (placesB bs (l : Int)).map Sum.inr ≠ (ps.map .inr : List KV) := fun z => by
                have z2 : placesB bs (l : Int) = ps := List.map_inj_right (fun x y h => Sum.inr.inj h) |>.mp z
                have := (placeB_at gt hl).1
                rw [z2, pl1] at this
                exact w (by have := Option.some.inj this; omega)
              have : valAt (kvPut kvs (ps.map .inr) (.int n)) bs l = valAt kvs bs l := by unfold valAt; rw [kvGet_put_ne hk']
              rw [this, List.getElem?_set_ne (fun z => w z.symm)]
              exact hvs l hl
    · refine Caps.of (fun p hp => ?_) fun p hp h1 h2 => ?_
      · simp only [List.mem_cons, List.not_mem_nil, or_false] at hp
        subst hp
        exact ⟨rfl, by show some NameKind.cell ≠ _; decide, .inl rfl, rfl⟩
      · simp only [List.mem_cons, List.not_mem_nil, or_false] at hp
        subst hp
        exact ⟨rfl, rfl⟩
  · rintro mn Hn ⟨hm, hbn, ⟨vs, kvs, eI, hvsl, ek, hkl, hvs⟩, hf⟩ lk
    have un : ∀ c o, Hn c = some o → (∀ l, o ≠ .lock l) → unl H1 [I] [] Hn c = some o := fun c o e n => lk.unl_get e n
    have m1 : ∀ y : Str, y ≠ "turn" → y ≠ "places" → y ≠ "value" → ∀ v, m.lookup y = some v → mn.lookup y = some v := fun y n1 n2 n3 v e => (hm y n1 n2 n3).trans e
    obtain ⟨n0, ns, bb, ea, eL, hz⟩ := id hbn
    have up : ∀ c o, H c = some o → (∀ l, o ≠ .lock l) → (c ≠ a ∧ c ≠ L ∧ c ≠ I0 ∧ c ≠ k) → unl H1 [I] [] Hn c = some o := fun c o e n d => un c o (hf c o e d.1 d.2.1 d.2.2.1 d.2.2.2) n
    refine a_loop2 hB hB4 ok ow (rs := rs) (vals := vs) (kvs := kvs) (m1 _ (by decide) (by decide) (by decide) _ h0) (m1 _ (by decide) (by decide) (by decide) _ h4) (m1 _ (by decide) (by decide) (by decide) _ h1) (m1 _ (by decide) (by decide) (by decide) _ h2) (m1 _ (by decide) (by decide) (by decide) _ h3) (m1 _ (by decide) (by decide) (by decide) _ h5)
      (hbn.of ((un _ _ ea fun _ z => by cases z).trans ea.symm) ((un _ _ eL fun _ z => by cases z).trans eL.symm)) (fun c hc => ?_) (up _ _ hx (fun _ z => by cases z) (ap x (by simp))) (up _ _ hF (fun _ z => by cases z) (ap Fb (by simp))) g (up _ _ hE (fun _ z => by cases z) (ap E (by simp))) hrl hr0
      (fun j r hj => up _ _ (hrs j r hj) (fun _ z => by cases z) (ap r (.inr (.inr (.inr (.inl (List.mem_of_getElem? hj))))))) (un _ _ eI fun _ z => by cases z) hvsl (un _ _ ek fun _ z => by cases z) hvs hne (up _ _ hP (fun _ z => by cases z) (ap 385 (by simp))) fun H' m' b' f' tg => ?_
    · have : c = Fb ∨ c = x ∨ c = E ∨ c ∈ rs ∨ c = 385 := by
        rcases hc with h | h | h | h | h
        · exact .inl h
        · exact .inr (.inl h)
        · exact .inr (.inr (.inl h))
        · exact .inr (.inr (.inr (.inl (by rw [h]; exact List.mem_of_getElem? hr0))))
        · exact .inr (.inr (.inr (.inr h)))
      exact ⟨(ap c this).1, (ap c this).2.1⟩
    · refine q H' m' b' (fun c o e n1 n2 n3 n4 n5 => f' c o ?_ n1 n2 n5) tg
      have e1 := up1 c o e n1 n2
      unfold unl
      rw [if_neg (nm e1 hI), if_neg List.not_mem_nil]
      exact hf c o e n1 n2 n3 n4
end

section
variable {C : Con} {lv : Nat} {H : AH} {Q : V → AH → Prop} {R : Int → AH → Prop}
set_option maxHeartbeats 1000000 in
theorem c_array_right (hB : Base C.w C.base) (hB4 : BMain C.base) {a L : Addr} (hb : BoxIs H a L) (hP : H 385 = some (.obj (tabObj #[]))) (q : ∀ H', BoxIs H' a L → (∀ c o, H c = some o → c ≠ a → c ≠ L → c ≠ 385 → H' c = some o) → TabG H' 385 → Q (.bool true) H') : CW C (lv + 9) (.ref 388) [.ref a] H Q R := by
  refine cw_defc (lv := lv + 8) ok388 hB (body := bod st388) rfl rfl (fun A stk L' own ok ow => ?_)
  obtain ⟨hne0, ns0, b0, ea0, eL0, hz0⟩ := id hb
  have nPa : 385 ≠ a := fun z => by rw [← z, hP] at ea0; cases ea0
  have nPL : 385 ≠ L := fun z => by rw [← z, hP] at eL0; cases eL0
  refine ex_asgT (ev_call ok ok378.keep (lv := lv + 2) (ev_glob ok rfl g__law_bounds ⟨rfl, evs_cons (ev_local ok rfl (evs_nil (c_bounds (C := C) (lv := lv) hB hb fun Fb told bs H1 hb1 hFn fr1 eF nFa nFL g hrd hz => as_pair ok (as_name ok ow (.inl rfl) (as_name ok ow (.inl rfl) ?_)))))⟩) (by show lv + 2 ≤ lv + 8; omega))
  have g1 := g.1
  have g2 := g.2.1
  have gt : ∀ p ∈ bs, p.1 ≤ p.2 := fun p hp => (g.2.2 p hp).2.2.1
  have hN : sizeN bs ≤ 27 := by have := g.take bs.length; rwa [List.take_length] at this
  have hP1 : H1 385 = some (.obj (tabObj #[])) := fr1 _ _ hP nPa nPL
  have nF385 : Fb ≠ 385 := ((nz hP hFn).symm)
  refine ex_ifF (tv_cmp (ev_call ok ok271.keep (lv := lv + 4) (ev_glob ok rfl g_read_bounds ⟨rfl, evs_cons (ev_local ok rfl (evs_cons (ev_int (evs_nil (c_read_bounds (C := C) (lv := lv) hB (by omega) (fun bs' hrd' D H2 hD le2 eD => ev_local ok rfl ?_) fun hn => ?_)))))⟩) (by show lv + 4 ≤ lv + 8; omega)))
  rotate_left
  · rw [hrd] at hn; cases hn
  rw [hrd] at hrd'
  cases hrd'
  refine cmp_ne_same ok (.bounds (.inl eD)) (.bounds (.inl (le2 _ _ eF))) (shaped_bnd _) ⟨rfl, ?_⟩
  have hsz : sizeB bs = (sizeN bs : Int) := sizeB_eq gt
  refine ex_asgT (ev_tuple (evs_cons (ev_call ok keep236 (lv := lv + 3) (ev_glob ok rfl g_Array ⟨rfl, evs_cons (ev_int (evs_cons (ev_local ok rfl (evs_cons (ev_local ok rfl (evs_cons (ev_str (evs_nil (c_Array (C := C) (lv := lv) (bs := bs) hB (le2 _ _ eF) g.bits (by omega) (by omega) fun x d I0 H3 hx hI0 hd hxI hdx ex eI le3 => ?_)))))))) )⟩) (by show lv + 3 ≤ lv + 8; omega))))
  refine evs_cons (ev_dict0 ok fun k hk => evs_nil ⟨by show 2 ≤ 1000; decide, as_pair ok (as_name ok ow (.inr ⟨rfl, rfl⟩) (as_name ok ow (.inl rfl) ?_))⟩)
  have le13 : AH.le H1 H3 := AH.le.trans le2 le3
  have le4 : AH.le H3 (H3.set k (.dict [])) := AH.le_set hk _
  have le14 := AH.le.trans le13 le4
  have ek : (H3.set k (.dict [])) k = some (.dict []) := AH.set_self _ _ _
  generalize H3.set k (.dict []) = H4 at le4 le14 ek
  refine ex_asg (fun v H5 => ∃ E, v = .ref E ∧ H4 E = none ∧ AH.le H4 H5 ∧ Part H4 H5 E (everyL bs)) ok ow (ev_call ok ok383.keep (lv := lv + 1) (ev_glob ok rfl g__law_every ⟨rfl, evs_cons (ev_local ok rfl (evs_nil (c_every (C := C) (lv := lv) hB (le14 _ _ eF) g fun E H5 hE le5 hp => ⟨E, rfl, hE, le5, hp⟩)))⟩) (by show lv + 1 ≤ lv + 8; omega)) ?_
  rintro _ H5 ⟨E, rfl, hE, le5, rs, hE5, hrl, hrs⟩
  have le15 := AH.le.trans le14 le5
  have le35 := AH.le.trans le4 le5
  rw [everyL_eq gt, List.length_map, List.length_range] at hrl
  have hrs' : ∀ (j : Nat) (r : Addr), rs[j]? = some r → r ≠ E ∧ H4 r = none ∧ H5 r = some (.list (intsV (placesB bs j))) := fun j r hj => by
    obtain ⟨f1, f2, e, f3, f4⟩ := hrs j r hj
    rw [everyL_eq gt, List.getElem?_map] at f3
    cases z : (List.range (sizeN bs))[j]? with
    | none => rw [z] at f3; cases f3
    | some j' =>
      obtain ⟨z1, z2⟩ := List.getElem?_eq_some_iff.mp z
      rw [List.getElem_range] at z2
      subst z2
      rw [z] at f3; cases f3
      exact ⟨f1, f2, f4⟩
  obtain ⟨_, ns, b, ea, eL, hz1⟩ := id hb1
  have nx : ∀ {c o}, H1 c = some o → c ≠ x := fun e z => by rw [z] at e; rw [le2 _ _ e] at hx; cases hx
  have nI : ∀ {c o}, H1 c = some o → c ≠ I0 := fun e z => by rw [z] at e; rw [le2 _ _ e] at hI0; cases hI0
  have nk : ∀ {c o}, H3 c = some o → c ≠ k := fun e z => by rw [z, hk] at e; cases e
  have nE : ∀ {c o}, H4 c = some o → c ≠ E := fun e z => by rw [z, hE] at e; cases e
  have nr : ∀ {c o}, H4 c = some o → c ∉ rs := fun {c o} e z => by
    obtain ⟨j, hj, hc⟩ := List.getElem_of_mem z
    have := (hrs' j c (by rw [← hc]; exact List.getElem?_eq_getElem hj)).2.1
    rw [e] at this; cases this
  have h0N : 0 < sizeN bs := by
    have hs : 0 < sizeN bs := by
      have key : ∀ rs : List (Int × Int), (∀ p ∈ rs, p.1 ≤ p.2) → 0 < sizeN rs.reverse := by
        intro rs
        induction rs with
        | nil => intro _; decide
        | cons p rs ih =>
          intro h
          rw [List.reverse_cons, sizeN_snoc]
          have := h p (.head _)
          exact Nat.mul_pos (ih fun q hq => h q (.tail _ hq)) (by omega)
      have := key bs.reverse fun p hp => gt p (List.mem_reverse.mp hp)
      rwa [List.reverse_reverse] at this
    exact hs
  obtain ⟨r0, hr0⟩ : ∃ r0, rs[0]? = some r0 := ⟨rs[0], List.getElem?_eq_getElem (by omega)⟩
  have eI5 := le35 _ _ eI
  refine a_loop1 hB hB4 ok ow (a := a) (L := L) (x := x) (Fb := Fb) (I0 := I0) (E := E) (k := k) (told := told) (bs := bs) (rs := rs) (vals := List.replicate (sizeB bs).toNat (.str "first")) rfl rfl rfl rfl rfl rfl
    (hb1.of ((le15 _ _ ea).trans ea.symm) ((le15 _ _ eL).trans eL.symm)) (fun c hc => ?_) ⟨(nI ea).symm, (nI eL).symm, (nk (le13 _ _ ea)).symm, (nk (le13 _ _ eL)).symm, nk eI⟩ (le35 _ _ ex) (le15 _ _ eF) g hE5 hrl hr0
    (fun j r hj => (hrs' j r hj).2.2) eI5 (by rw [List.length_replicate, hsz, Int.toNat_natCast]) (le5 _ _ ek) (fun j hj => by rw [hsz, Int.toNat_natCast]; exact List.getElem?_replicate_of_lt hj) ⟨nE (le14 _ _ eF), nE (le4 _ _ eI), fun j r hj => (hrs' j r hj).1⟩ (le15 _ _ hP1) fun H' m' b' f' tg => ?_
  · rcases hc with rfl | rfl | rfl | hc | rfl
    · exact ⟨nFa, nFL, nI eF, nk (le13 _ _ eF)⟩
    · exact ⟨(nx ea).symm, (nx eL).symm, hxI, nk ex⟩
    · exact ⟨(nE (le14 _ _ ea)).symm, (nE (le14 _ _ eL)).symm, (nE (le4 _ _ eI)).symm, (nE ek).symm⟩
    · exact ⟨fun z => nr (le14 _ _ ea) (z ▸ hc), fun z => nr (le14 _ _ eL) (z ▸ hc), fun z => nr (le4 _ _ eI) (z ▸ hc), fun z => nr ek (z ▸ hc)⟩
    · exact ⟨nPa, nPL, nI hP1, nk (le13 _ _ hP1)⟩
  · refine q H' b' (fun c o e n1 n2 n3 => ?_) tg
    have e1 := fr1 c o e n1 n2
    exact f' c o (le15 c o e1) n1 n2 (nI e1) (nk (le13 _ _ e1)) n3
end

section
variable {Γ : Cx} {H : AH} {B : Bool → AH → Prop} {R : Int → AH → Prop}
theorem cmp_eq_len {a b : Addr} {xs ys : List V} (ok : Γ.Ok) (ha : LA H a xs) (hb : LA H b ys) (hn : xs.length ≠ ys.length) (q : B false H) : CmpV Γ .Eq (.ref a) (.ref b) H B R := by
  intro s va vb y ra rb
  refine ra.rE ?_; refine rb.rE ?_
  obtain ⟨i1, n1, e1, r1⟩ := ha.at y
  obtain ⟨i2, n2, e2, r2⟩ := hb.at y
  exact SeqAt.RcAt.lists_lengths ⟨_, e1, rfl, _, rfl⟩ ⟨_, e2, rfl, _, rfl⟩ (by rw [lenL r1, lenL r2]; simpa using hn) (by have := ok.units; show Γ.A.units < 9900; omega) _ _ _ _ (cb y q)
end
noncomputable def keyAt (A6 A7 A8 : Addr) : Nat → V
  | 0 => .int 1 | 1 => .str "1" | 2 => .str "" | 3 => .str "key" | 4 => .int 0 | 5 => .int (-5) | 6 => .ref A6 | 7 => .ref A7 | _ => .ref A8
noncomputable def keyL (A6 A7 A8 : Addr) : List V := [.int 1, .str "1", .str "", .str "key", .int 0, .int (-5), .ref A6, .ref A7, .ref A8]
noncomputable def keyK : Nat → List KV
  | 0 => [.inl "INTEGER", .inr 1] | 1 => [.inl "STRING", .inl "1"] | 2 => [.inl "STRING", .inl ""] | 3 => [.inl "STRING", .inl "key"] | 4 => [.inl "INTEGER", .inr 0] | 5 => [.inl "INTEGER", .inr (-5)]
  | 6 => [.inl "HOLDER", .inr 20] | 7 => [.inl "HOLDER", .inr 21] | _ => [.inl "HOLDER", .inr 22]
noncomputable def keyVs : Nat → List V
  | 0 => [.str "INTEGER", .int 1] | 1 => [.str "STRING", .str "1"] | 2 => [.str "STRING", .str ""] | 3 => [.str "STRING", .str "key"] | 4 => [.str "INTEGER", .int 0] | 5 => [.str "INTEGER", .int (-5)]
  | 6 => [.str "HOLDER", .int 20] | 7 => [.str "HOLDER", .int 21] | _ => [.str "HOLDER", .int 22]
noncomputable def keyW : Nat → Str
  | 0 => "INTEGER" | 1 => "STRING" | 2 => "STRING" | 3 => "STRING" | 4 => "INTEGER" | 5 => "INTEGER" | 6 => "TABLE" | 7 => "ARRAY" | _ => "TABLE"
noncomputable def keyN : Nat → KV
  | 0 => .inr 1 | 1 => .inl "1" | 2 => .inl "" | 3 => .inl "key" | 4 => .inr 0 | 5 => .inr (-5) | 6 => .inr 20 | 7 => .inr 21 | _ => .inr 22
theorem keyK_inj : ∀ i < 9, ∀ j < 9, keyK i = keyK j → i = j := by decide +kernel
theorem keySK_inj : ∀ i < 9, ∀ j < 9, decide (keyW i = keyW j ∧ keyN i = keyN j) = decide (i = j) := by decide +kernel
theorem keyL_at (A6 A7 A8 : Addr) : ∀ i < 9, (keyL A6 A7 A8)[i]? = some (keyAt A6 A7 A8 i) :=
  ltE (ltE (ltE (ltE (ltE (ltE (ltE (ltE (ltE lt0E rfl) rfl) rfl) rfl) rfl) rfl) rfl) rfl) rfl
structure KIn (H : AH) (A6 A7 A8 : Addr) : Prop where
  k6 : ∃ D, H A6 = some (.inst 255 (tabF 20 D))
  k7 : ∃ b D, H A7 = some (.inst 236 (arrF 21 "2" b D))
  k8 : ∃ D, H A8 = some (.inst 255 (tabF 22 D))
theorem KIn.of {H H' : AH} {A6 A7 A8 : Addr} (k : KIn H A6 A7 A8) (h : ∀ a K fs, H a = some (.inst K fs) → H' a = some (.inst K fs)) : KIn H' A6 A7 A8 :=
  ⟨k.k6.imp fun _ e => h _ _ _ e, let ⟨b, D, e⟩ := k.k7; ⟨b, D, h _ _ _ e⟩, k.k8.imp fun _ e => h _ _ _ e⟩
theorem KIn.key {H : AH} {A6 A7 A8 : Addr} (k : KIn H A6 A7 A8) : ∀ i < 9, IsKey H (keyAt A6 A7 A8 i) (keyVs i) (keyK i) ∧ SK H (keyAt A6 A7 A8 i) (keyW i) (keyN i) := by
  obtain ⟨⟨_, e6⟩, ⟨_, _, e7⟩, ⟨_, e8⟩⟩ := k
  exact ltE (ltE (ltE (ltE (ltE (ltE (ltE (ltE (ltE lt0E ⟨.int _, .int _⟩) ⟨.str _, .str _⟩) ⟨.str _, .str _⟩) ⟨.str _, .str _⟩) ⟨.int _, .int _⟩) ⟨.int _, .int _⟩) ⟨.tab e6 rfl rfl, .tab e6 rfl rfl⟩) ⟨.arr e7 rfl rfl, .arr e7 rfl rfl⟩) ⟨.tab e8 rfl rfl, .tab e8 rfl rfl⟩
/-- the values that the law puts -/
noncomputable def valL : List V := [.str "", .str "x", .int 7, .str "1", .int 1]
def IsVT (v : V) : Prop := v ∈ valL
theorem IsVT.data {v : V} (h : IsVT v) : ∃ d, (∀ H, DV H v d) ∧ SeqAt.shaped d = true ∧ d.depth = 0 ∧ PyData.canLay0 d = true ∧ IsVal v ∧ PyData.eqv d (.str "") = nullV v := by
  simp only [IsVT, valL, List.mem_cons, List.not_mem_nil, or_false] at h
  rcases h with rfl | rfl | rfl | rfl | rfl
  · exact ⟨.str "", fun _ => .str _, by kernel_rfl, rfl, by kernel_rfl, .str _, by kernel_rfl⟩
  · exact ⟨.str "x", fun _ => .str _, by kernel_rfl, rfl, by kernel_rfl, .str _, by kernel_rfl⟩
  · exact ⟨.int 7, fun _ => .int _, rfl, rfl, rfl, .int _, by kernel_rfl⟩
  · exact ⟨.str "1", fun _ => .str _, by kernel_rfl, rfl, by kernel_rfl, .str _, by kernel_rfl⟩
  · exact ⟨.int 1, fun _ => .int _, rfl, rfl, rfl, .int _, by kernel_rfl⟩
abbrev TE := Nat × V × Addr
noncomputable def tKvs (ts : List TE) : List (List KV × V) := ts.map fun e => (keyK e.1, .ref e.2.2)
noncomputable def rRefs (ts : List TE) : List V := ts.map fun e => .ref e.2.2
def Here (H0 H : AH) (A6 A7 A8 : Addr) (ts : List TE) : Prop := ∀ e ∈ ts, e.1 < 9 ∧ IsVT e.2.1 ∧ H0 e.2.2 = none ∧ H e.2.2 = some (.list [keyAt A6 A7 A8 e.1, e.2.1])
noncomputable def pairsOf (A6 A7 A8 : Addr) (ts : List TE) : List (V × V) := ts.map fun e => (keyAt A6 A7 A8 e.1, e.2.1)
noncomputable def ivs (ts : List TE) : List (Nat × V) := ts.map fun e => (e.1, e.2.1)
noncomputable def updE (i : Nat) (v : V) (ts : List TE) : List TE := ts.map fun e => if e.1 = i then (e.1, v, e.2.2) else e
theorem updE_kvs (i : Nat) (v : V) (ts : List TE) : tKvs (updE i v ts) = tKvs ts := by
  unfold tKvs updE
  rw [List.map_map]
  refine List.map_congr_left fun e _ => ?_
  show (keyK (if e.1 = i then (e.1, v, e.2.2) else e).1, V.ref (if e.1 = i then (e.1, v, e.2.2) else e).2.2) = _
  split <;> rfl
theorem updE_refs (i : Nat) (v : V) (ts : List TE) : rRefs (updE i v ts) = rRefs ts := by
  unfold rRefs updE
  rw [List.map_map]
  refine List.map_congr_left fun e _ => ?_
  show V.ref (if e.1 = i then (e.1, v, e.2.2) else e).2.2 = _
  split <;> rfl
theorem updE_idx (i : Nat) (v : V) (ts : List TE) : (updE i v ts).map (·.1) = ts.map (·.1) := by
  unfold updE
  rw [List.map_map]
  refine List.map_congr_left fun e _ => ?_
  show (if e.1 = i then (e.1, v, e.2.2) else e).1 = _
  split <;> rfl
theorem kvGet_at {ts : List TE} {e : TE} (hn : (ts.map (·.1)).Nodup) (h9 : ∀ e ∈ ts, e.1 < 9) (he : e ∈ ts) : kvGet (tKvs ts) (keyK e.1) = some (.ref e.2.2) := by
  unfold kvGet tKvs
  induction ts with
  | nil => cases he
  | cons t ts ih =>
    rw [List.map_cons, List.find?_cons]
    rcases List.mem_cons.mp he with rfl | he'
    · rw [decide_eq_true rfl]; rfl
    · have hne : t.1 ≠ e.1 := fun z => by
        rw [List.map_cons, List.nodup_cons] at hn
        exact hn.1 (z ▸ List.mem_map_of_mem he')
      rw [decide_eq_false (show ¬ keyK t.1 = keyK e.1 from fun z => hne (keyK_inj _ (h9 t (.head _)) _ (h9 e he) z))]
      exact ih (List.nodup_cons.mp (by rw [List.map_cons] at hn; exact hn)).2 (fun e h => h9 e (.tail _ h)) he'
theorem kvGet_not {ts : List TE} {i : Nat} (hi : i < 9) (h9 : ∀ e ∈ ts, e.1 < 9) (he : i ∉ ts.map (·.1)) : kvGet (tKvs ts) (keyK i) = none := by
  refine kvGet_none fun q => ?_
  unfold tKvs at q
  rw [List.map_map] at q
  obtain ⟨e, h1, h2⟩ := List.mem_map.mp q
  have : e.1 = i := keyK_inj _ (h9 e h1) _ hi h2
  exact he (this ▸ List.mem_map_of_mem h1)

structure TSt (H0 H : AH) (a L T D K KL A6 A7 A8 : Addr) (ts ks : List TE) : Prop where
  box : BoxIs H a L
  tab : H T = some (.inst 255 (tabF 9 D))
  dic : H D = some (.dict (tKvs ts))
  kep : H K = some (.list (rRefs ks))
  kl : H KL = some (.list (keyL A6 A7 A8))
  kin : KIn H A6 A7 A8
  tn : (ts.map (·.1)).Nodup
  kn : (ks.map (·.1)).Nodup
  th : Here H0 H A6 A7 A8 ts
  kh : Here H0 H A6 A7 A8 ks
  ap : ∀ e ∈ ts, ∀ e' ∈ ks, e.2.2 ≠ e'.2.2
  fr : ∀ c o, H0 c = some o → c ≠ a → c ≠ L → H c = some o
  nw : ∀ c, c = T ∨ c = D ∨ c = K ∨ c = KL ∨ c = A6 ∨ c = A7 ∨ c = A8 → H0 c = none
  ob : H0 a ≠ none ∧ H0 L ≠ none
section
variable {H0 H H' : AH} {a L T D K KL A6 A7 A8 : Addr} {ts ks ts' ks' : List TE}
theorem TSt.nwa (t : TSt H0 H a L T D K KL A6 A7 A8 ts ks) {c : Addr} (h : H0 c = none) : c ≠ a ∧ c ≠ L := ⟨fun z => t.ob.1 (z ▸ h), fun z => t.ob.2 (z ▸ h)⟩
/-- what stays where only the table, the kept list and their pairs change -/
theorem TSt.rest (t : TSt H0 H a L T D K KL A6 A7 A8 ts ks) {c : Addr} {o : AO} (hc : (∃ C fs, o = .inst C fs) ∨ o = .list (keyL A6 A7 A8)) (e : H c = some o) : c ≠ D ∧ c ≠ K ∧ ∀ x ∈ ts ++ ks, c ≠ x.2.2 := by
  refine ⟨fun z => ?_, fun z => ?_, fun x hx z => ?_⟩
  · rw [z, t.dic] at e; cases e
    rcases hc with ⟨_, _, h⟩ | h <;> cases h
  · rw [z, t.kep] at e; cases e
    rcases hc with ⟨_, _, h⟩ | h
    · cases h
    · unfold rRefs keyL at h
      cases ks with
      | nil => cases h
      | cons e es => cases h
  · have hx' : H x.2.2 = some (.list [keyAt A6 A7 A8 x.1, x.2.1]) := by
      rcases List.mem_append.mp hx with h | h
      · exact (t.th x h).2.2.2
      · exact (t.kh x h).2.2.2
    rw [z, hx'] at e; cases e
    rcases hc with ⟨_, _, h⟩ | h
    · cases h
    · exact absurd (congrArg List.length (AO.list.inj h)) (by show (2 : Nat) ≠ 9; decide)
theorem TSt.step (t : TSt H0 H a L T D K KL A6 A7 A8 ts ks) (box : BoxIs H' a L) (dic : H' D = some (.dict (tKvs ts'))) (kep : H' K = some (.list (rRefs ks'))) (tn : (ts'.map (·.1)).Nodup) (kn : (ks'.map (·.1)).Nodup)
    (th : Here H0 H' A6 A7 A8 ts') (kh : Here H0 H' A6 A7 A8 ks') (ap : ∀ e ∈ ts', ∀ e' ∈ ks', e.2.2 ≠ e'.2.2) (fr : ∀ c o, H c = some o → c ≠ a → c ≠ L → c ≠ D → c ≠ K → (∀ x ∈ ts ++ ks, c ≠ x.2.2) → H' c = some o) : TSt H0 H' a L T D K KL A6 A7 A8 ts' ks' := by
  have inst : ∀ c C fs, c = T ∨ c = D ∨ c = K ∨ c = KL ∨ c = A6 ∨ c = A7 ∨ c = A8 → H c = some (.inst C fs) → H' c = some (.inst C fs) := fun c C fs h e => by
    obtain ⟨d1, d2, d3⟩ := t.rest (.inl ⟨_, _, rfl⟩) e
    exact fr c _ e (t.nwa (t.nw c h)).1 (t.nwa (t.nw c h)).2 d1 d2 d3
  obtain ⟨l1, l2, l3⟩ := t.rest (.inr rfl) t.kl
  refine ⟨box, inst T _ _ (by simp) t.tab, dic, kep, fr KL _ t.kl (t.nwa (t.nw KL (by simp))).1 (t.nwa (t.nw KL (by simp))).2 l1 l2 l3, ⟨?_, ?_, ?_⟩, tn, kn, th, kh, ap, fun c o e n1 n2 => fr c o (t.fr c o e n1 n2) n1 n2 (fun z => ?_) (fun z => ?_) (fun x hx z => ?_), t.nw, t.ob⟩
  · obtain ⟨d, e⟩ := t.kin.k6; exact ⟨d, inst A6 _ _ (by simp) e⟩
  · obtain ⟨b, d, e⟩ := t.kin.k7; exact ⟨b, d, inst A7 _ _ (by simp) e⟩
  · obtain ⟨d, e⟩ := t.kin.k8; exact ⟨d, inst A8 _ _ (by simp) e⟩
  · have := t.nw D (by simp); rw [← z, e] at this; cases this
  · have := t.nw K (by simp); rw [← z, e] at this; cases this
  · have hx' : H0 x.2.2 = none := by
      rcases List.mem_append.mp hx with h | h
      · exact (t.th x h).2.2.1
      · exact (t.kh x h).2.2.1
    rw [← z, e] at hx'; cases hx'
theorem TSt.le (t : TSt H0 H a L T D K KL A6 A7 A8 ts ks) (h : AH.le H H') : TSt H0 H' a L T D K KL A6 A7 A8 ts ks := by
  obtain ⟨_, ns, b, ea, eL, hz⟩ := id t.box
  exact t.step (t.box.of ((h _ _ ea).trans ea.symm) ((h _ _ eL).trans eL.symm)) (h _ _ t.dic) (h _ _ t.kep) t.tn t.kn (fun e he => let ⟨x, y, z, w⟩ := t.th e he; ⟨x, y, z, h _ _ w⟩) (fun e he => let ⟨x, y, z, w⟩ := t.kh e he; ⟨x, y, z, h _ _ w⟩) t.ap fun c o e _ _ _ _ _ => h c o e
theorem TSt.take (t : TSt H0 H a L T D K KL A6 A7 A8 ts ks) (hb : BoxIs H' a L) (h : ∀ c, c ≠ a → c ≠ L → H' c = H c) : TSt H0 H' a L T D K KL A6 A7 A8 ts ks := by
  have e : ∀ {c o}, H0 c = none → H c = some o → H' c = some o := fun hc e => by rw [h _ (t.nwa hc).1 (t.nwa hc).2]; exact e
  exact t.step hb (e (t.nw D (by simp)) t.dic) (e (t.nw K (by simp)) t.kep) t.tn t.kn (fun x he => let ⟨x1, y, z, w⟩ := t.th x he; ⟨x1, y, z, e z w⟩) (fun x he => let ⟨x1, y, z, w⟩ := t.kh x he; ⟨x1, y, z, e z w⟩) t.ap fun c o e n1 n2 _ _ _ => by rw [h c n1 n2]; exact e
theorem TSt.t9 (t : TSt H0 H a L T D K KL A6 A7 A8 ts ks) : ∀ e ∈ ts, e.1 < 9 := fun e he => (t.th e he).1
end

noncomputable def tbody : List Stmt := match nth (bod st393) 2 with
  | .For _ _ b _ _ => b
  | _ => []
theorem SK.det {H : AH} {v : V} {w w' : Str} {n n' : KV} (h : SK H v w n) (h' : SK H v w' n') : w = w' ∧ n = n' := by
  cases h with
  | int i => cases h'; exact ⟨rfl, rfl⟩
  | str x => cases h'; exact ⟨rfl, rfl⟩
  | arr e1 e2 e3 =>
    cases h' with
    | arr f1 f2 f3 => rw [e1] at f1; cases f1; rw [e3] at f3; cases f3; exact ⟨rfl, rfl⟩
    | tab f1 f2 f3 => rw [e1] at f1; cases f1
  | tab e1 e2 e3 =>
    cases h' with
    | arr f1 f2 f3 => rw [e1] at f1; cases f1
    | tab f1 f2 f3 => rw [e1] at f1; cases f1; rw [e3] at f3; cases f3; exact ⟨rfl, rfl⟩
theorem keyAt_inj {H : AH} {A6 A7 A8 : Addr} (k : KIn H A6 A7 A8) {i j : Nat} (hi : i < 9) (hj : j < 9) (e : keyAt A6 A7 A8 i = keyAt A6 A7 A8 j) : i = j := by
  have h1 := (k.key i hi).2
  have h2 := (k.key j hj).2
  rw [e] at h1
  have h3 := h1.det h2
  have := keySK_inj i hi j hj
  rw [decide_eq_true h3] at this
  exact of_decide_eq_true this.symm
theorem ivs_upd (i : Nat) (v : V) (ts : List TE) : ivs (updE i v ts) = (ivs ts).map fun q => if q.1 = i then (q.1, v) else q := by
  unfold ivs updE
  rw [List.map_map, List.map_map]
  refine List.map_congr_left fun e _ => ?_
  show ((if e.1 = i then (e.1, v, e.2.2) else e).1, (if e.1 = i then (e.1, v, e.2.2) else e).2.1) = if e.1 = i then (e.1, v) else (e.1, e.2.1)
  split <;> rfl
theorem idx_ne {ks : List TE} (hn : (ks.map (·.1)).Nodup) {l l' : Nat} {e e' : TE} (h1 : ks[l]? = some e) (h2 : ks[l']? = some e') (h3 : e.1 = e'.1) : l = l' := by
  obtain ⟨a1, a2⟩ := List.getElem?_eq_some_iff.mp h1
  obtain ⟨b1, b2⟩ := List.getElem?_eq_some_iff.mp h2
  refine (List.getElem_inj (h₀ := by rw [List.length_map]; exact a1) (h₁ := by rw [List.length_map]; exact b1) hn).mp ?_
  rw [List.getElem_map, List.getElem_map, a2, b2]; exact h3
section
variable {C : Con} {lv : Nat} {A : Around} {stk : List Env} {L' : Addr} {own : List Addr} {m : Locs} {H0 H : AH} {Q : Fl → Locs → AH → Prop} {R : Int → AH → Prop}
set_option maxHeartbeats 1000000 in
theorem t_turnC (hB : Base C.w C.base) (ok : (Cx.fn C (lv + 8) A (callEnvC fd393 L' 393) stk own).Ok) (ow : Owns (Cx.fn C (lv + 8) A (callEnvC fd393 L' 393) stk own))
    {a L T D K KL A6 A7 A8 : Addr} {ts ks : List TE} {i : Nat} {v : V} (hi : i < 9) (hv : IsVT v) (t : TSt H0 H a L T D K KL A6 A7 A8 ts ks)
    (h1 : m.lookup ("kept" : Str) = some (.ref K)) (h2 : m.lookup ("key" : Str) = some (keyAt A6 A7 A8 i)) (h3 : m.lookup ("value" : Str) = some v)
    (q : ∀ m' H', (∀ y : Str, y ≠ "pair" → m'.lookup y = m.lookup y) → TSt H0 H' a L T D K KL A6 A7 A8 ts (updE i v ks) → Q .next m' H') : EX (Cx.fn C (lv + 8) A (callEnvC fd393 L' 393) stk own) (tbody.drop 6) m H Q R := by
  have lk : (rRefs ks).length = ks.length := List.length_map ..
  have nK : ∀ e ∈ ks, e.2.2 ≠ K := fun e he z => by
    have := (t.kh e he).2.2.2
    rw [z, t.kep] at this
    have := AO.list.inj (Option.some.inj this)
    unfold rRefs at this
    cases ks with
    | nil => cases he
    | cons x xs =>
      cases xs with
      | nil => exact absurd (congrArg List.length this) (by show (1 : Nat) ≠ 2; decide)
      | cons y ys =>
        have h2 := (List.cons.inj (List.cons.inj this).2).1
        have := (t.kh e he).2.1.data
        obtain ⟨_, _, _, _, _, hval, _⟩ := this
        rw [← h2] at hval; cases hval
  have rinj : ∀ {l l' : Nat} {e e' : TE}, ks[l]? = some e → ks[l']? = some e' → e.2.2 = e'.2.2 → l = l' := fun h1 h2 h3 => by
    have a1 := (t.kh _ (List.mem_of_getElem? h1))
    have a2 := (t.kh _ (List.mem_of_getElem? h2))
    have := a1.2.2.2
    rw [h3, a2.2.2.2] at this
    have := (List.cons.inj (AO.list.inj (Option.some.inj this))).1
    exact idx_ne t.kn h1 h2 (keyAt_inj t.kin a1.1 a2.1 this.symm)
  refine ex_for ok Top1.fnC (iv_of (ev_local ok h1 (it_list ok t.kep fun I hI => ⟨fun j mj Hj => (∀ y : Str, y ≠ "pair" → mj.lookup y = m.lookup y) ∧ (∀ (l : Nat) (e : TE), ks[l]? = some e → Hj e.2.2 = some (.list [keyAt A6 A7 A8 e.1, if e.1 = i ∧ l < j then v else e.2.1])) ∧ ∀ c o, H c = some o → c ≠ K → (∀ e ∈ ks, c ≠ e.2.2) → Hj c = some o, ?_, ?_, ?_⟩)))
  · have nI : ∀ {c o}, H c = some o → c ∉ [I] := fun e z => by rw [List.mem_singleton.mp z, hI] at e; cases e
    refine ⟨fun _ _ => rfl, fun l e he => ?_, fun c o e n _ => ?_⟩
    · have := (t.kh e (List.mem_of_getElem? he)).2.2.2
      rw [lockH_ne (nI this) (fun z => nK e (List.mem_of_getElem? he) (List.mem_singleton.mp z)), if_neg (by omega)]; exact this
    · rw [lockH_ne (nI e) (fun z => n (List.mem_singleton.mp z))]; exact e
  · rintro j x mj Hj hx ⟨hm, hr, hf⟩ _
    unfold rRefs at hx
    rw [List.getElem?_map] at hx
    cases hc : ks[j]? with
    | none => rw [hc] at hx; cases hx
    | some e =>
      rw [hc] at hx; cases hx
      have he := t.kh e (List.mem_of_getElem? hc)
      have hre := hr j e hc
      rw [if_neg (by omega)] at hre
      have kin : KIn Hj A6 A7 A8 := by
        have g : ∀ c C fs, H c = some (.inst C fs) → Hj c = some (.inst C fs) := fun c C fs e => by
          obtain ⟨_, d2, d3⟩ := t.rest (.inl ⟨_, _, rfl⟩) e
          exact hf c _ e d2 fun x hx => d3 x (List.mem_append_right _ hx)
        exact t.kin.of g
      refine as_name ok ow (.inl rfl) ?_
      have hm1 : ∀ y : Str, y ≠ "pair" → ∀ w, m.lookup y = some w → ((("pair" : Str), V.ref e.2.2) :: mj : Locs).lookup y = some w := fun y n w z => by
        rw [List.lookup_cons, beq_eq_false_iff_ne.mpr n]; exact (hm y n).trans z
      have hmn : ∀ y : Str, y ≠ "pair" → ((("pair" : Str), V.ref e.2.2) :: mj : Locs).lookup y = m.lookup y := fun y n => by
        rw [List.lookup_cons, beq_eq_false_iff_ne.mpr n]; exact hm y n
      refine ex_if (tv_call (bb := decide (keyW e.1 = keyW i ∧ keyN e.1 = keyN i)) (ev_call ok ok212.keep (lv := lv + 2) (ev_glob ok rfl g_same_value ⟨rfl, evs_cons (ev_sub (ev_local ok rfl (ev_int (gi_list (.inl hre) (by decide) (by show 2 ≤ 1000000; decide) rfl (evs_cons (ev_local ok (hm1 "key" (by decide) _ h2) (evs_nil (c_same (C := C) (lv := lv) hB (kin.key _ he.1).2 (kin.key _ hi).2 ⟨rfl, fun z => ?_, fun z => ?_⟩))))))))⟩) (by show lv + 2 ≤ lv + 8; omega)))
      · rw [keySK_inj _ he.1 _ hi] at z
        have z := of_decide_eq_true z
        refine ex_cons (es_setitem (ev_local ok (hm1 "value" (by decide) _ h3) (ev_local ok rfl (ev_int (si_list hre (by decide) (by show 2 ≤ 1000000; decide) (by show (1 : Int) < 2; decide) (ex_nil (ex_nil ⟨hmn, fun l e' he' => ?_, fun c o ec n1 n2 => ?_⟩)))))))
        · by_cases w : l = j
          · subst w
            rw [hc] at he'; cases he'
            rw [AH.set_self, if_pos ⟨z, by omega⟩]; rfl
          · rw [AH.set_ne _ _ (fun w2 => w (rinj he' hc w2)), hr l e' he']
            have : (e'.1 = i ∧ l < j) ↔ (e'.1 = i ∧ l < j + 1) := ⟨fun h => ⟨h.1, by omega⟩, fun h => ⟨h.1, by omega⟩⟩
            simp only [this]
        · rw [AH.set_ne _ _ (n2 e (List.mem_of_getElem? hc))]; exact hf c o ec n1 n2
      · rw [keySK_inj _ he.1 _ hi] at z
        have z := of_decide_eq_false z
        refine ex_nil ⟨hmn, fun l e' he' => ?_, hf⟩
        rw [hr l e' he']
        have : (e'.1 = i ∧ l < j) ↔ (e'.1 = i ∧ l < j + 1) := ⟨fun h => ⟨h.1, by omega⟩, fun h => ⟨h.1, by
          by_cases w : l = j
          · subst w; rw [hc] at he'; cases he'; exact absurd h.1 z
          · omega⟩⟩
        simp only [this]
  · rintro mn Hn ⟨hm, hr, hf⟩ lkn
    rw [lk] at hr
    have nI : ∀ {c o}, H c = some o → c ∉ [I] := fun e z => by rw [List.mem_singleton.mp z, hI] at e; cases e
    have un : ∀ c o, H c = some o → c ≠ K → (∀ e ∈ ks, c ≠ e.2.2) → unl H [I] [K] Hn c = some o := fun c o e n1 n2 => by
      unfold unl
      rw [if_neg (nI e), if_neg (fun z => n1 (List.mem_singleton.mp z))]; exact hf c o e n1 n2
    have unr : ∀ (l : Nat) (e : TE), ks[l]? = some e → unl H [I] [K] Hn e.2.2 = some (.list [keyAt A6 A7 A8 e.1, if e.1 = i then v else e.2.1]) := fun l e he => by
      have hl := (List.getElem?_eq_some_iff.mp he).1
      have := hr l e he
      have w : (e.1 = i ∧ l < ks.length) ↔ e.1 = i := ⟨fun h => h.1, fun h => ⟨h, hl⟩⟩
      simp only [w] at this
      exact lkn.unl_get this fun _ z => by cases z
    obtain ⟨_, ns, b, ea, eL, hz⟩ := id t.box
    have nKa := t.nwa (t.nw K (by simp))
    have nka : ∀ e ∈ ks, e.2.2 ≠ a ∧ e.2.2 ≠ L := fun e he => t.nwa (t.kh e he).2.2.1
    have dD : D ≠ K := fun z => by have := t.dic; rw [z, t.kep] at this; cases this
    have dk : ∀ e ∈ ks, D ≠ e.2.2 := fun e he z => by have := (t.kh e he).2.2.2; rw [← z, t.dic] at this; cases this
    refine ex_nil (q _ _ hm (t.step (t.box.of ((un _ _ ea nKa.1.symm fun e he => (nka e he).1.symm).trans ea.symm) ((un _ _ eL nKa.2.symm fun e he => (nka e he).2.symm).trans eL.symm)) (un _ _ t.dic dD dk) ?_ t.tn (by rw [updE_idx]; exact t.kn) (fun e he => ?_) (fun e he => ?_) (fun e he e' he' => ?_) fun c o e n1 n2 n3 n4 n5 => un c o e n4 fun x hx => n5 x (List.mem_append_right _ hx)))
    · rw [updE_refs]
      unfold unl
      rw [if_neg (nI t.kep), if_pos (List.mem_singleton.mpr rfl)]; exact t.kep
    · obtain ⟨x1, x2, x3, x4⟩ := t.th e he
      refine ⟨x1, x2, x3, un _ _ x4 (fun z => ?_) fun e' he' => t.ap e he e' he'⟩
      rw [z, t.kep] at x4
      have := AO.list.inj (Option.some.inj x4)
      unfold rRefs at this
      cases ks with
      | nil => cases this
      | cons x xs =>
        cases xs with
        | nil => exact absurd (congrArg List.length this) (by show (1 : Nat) ≠ 2; decide)
        | cons y ys =>
          have h2 := (List.cons.inj (List.cons.inj this).2).1
          obtain ⟨_, _, _, _, _, hval, _⟩ := x2.data
          rw [← h2] at hval; cases hval
    · unfold updE at he
      obtain ⟨x, hx, rfl⟩ := List.mem_map.mp he
      obtain ⟨l, hl, hlx⟩ := List.getElem_of_mem hx
      have hlx' : ks[l]? = some x := by rw [← hlx]; exact List.getElem?_eq_getElem hl
      have := unr l x hlx'
      obtain ⟨x1, x2, x3, x4⟩ := t.kh x hx
      by_cases w : x.1 = i
      · simp only [if_pos w] at this ⊢; exact ⟨x1, hv, x3, this⟩
      · simp only [if_neg w] at this ⊢; exact ⟨x1, x2, x3, this⟩
    · unfold updE at he'
      obtain ⟨x, hx, rfl⟩ := List.mem_map.mp he'
      have : (if x.1 = i then (x.1, v, x.2.2) else x).2.2 = x.2.2 := by split <;> rfl
      rw [this]; exact t.ap e he x hx
end

noncomputable def dueL (i : Nat) (ks : List TE) : List V := ks.filterMap fun e => if e.1 = i then some e.2.1 else none
theorem dueL_none {i : Nat} {ks : List TE} (h : i ∉ ks.map (·.1)) : dueL i ks = [] := by
  induction ks with
  | nil => rfl
  | cons e ks ih =>
    unfold dueL
    rw [List.filterMap_cons, if_neg (fun z => h (by rw [List.map_cons, z]; exact List.mem_cons_self))]
    exact ih fun z => h (by rw [List.map_cons]; exact List.mem_cons_of_mem _ z)
theorem dueL_some {i : Nat} {old : V} {ks : List TE} (hn : (ks.map (·.1)).Nodup) (h : (i, old) ∈ ivs ks) : dueL i ks = [old] := by
  induction ks with
  | nil => cases h
  | cons e ks ih =>
    rw [List.map_cons, List.nodup_cons] at hn
    unfold dueL
    rw [List.filterMap_cons]
    unfold ivs at h
    rw [List.map_cons] at h
    rcases List.mem_cons.mp h with h | h
    · have h1 : i = e.1 := congrArg Prod.fst h
      have h2 : old = e.2.1 := congrArg Prod.snd h
      rw [if_pos h1.symm, h2]
      show e.2.1 :: dueL i ks = _
      rw [dueL_none (by rw [h1]; exact hn.1)]
    · have hm : i ∈ ks.map (·.1) := by
        obtain ⟨x, hx, hxe⟩ := List.mem_map.mp h
        have : x.1 = i := congrArg Prod.fst hxe
        exact this ▸ List.mem_map_of_mem hx
      rw [if_neg (fun (z : e.1 = i) => hn.1 (by rw [z]; exact hm))]
      exact ih hn.2 h
theorem ivs_idx (ts : List TE) : (ivs ts).map (·.1) = ts.map (·.1) := by unfold ivs; rw [List.map_map]; rfl
theorem ivs_mem {ts : List TE} {i : Nat} {v : V} (h : (i, v) ∈ ivs ts) : ∃ e ∈ ts, e.1 = i ∧ e.2.1 = v := by
  obtain ⟨x, hx, hxe⟩ := List.mem_map.mp h
  exact ⟨x, hx, congrArg Prod.fst hxe, congrArg Prod.snd hxe⟩
theorem TSt.inst {H0 H H' : AH} {a L T D K KL A6 A7 A8 : Addr} {ts ks : List TE} (t : TSt H0 H a L T D K KL A6 A7 A8 ts ks) (h : ∀ c o, H c = some o → c ≠ K → H' c = some o) : ∀ c C fs, H c = some (.inst C fs) → H' c = some (.inst C fs) := fun c C fs e =>
  h c _ e (t.rest (.inl ⟨_, _, rfl⟩) e).2.1
theorem TSt.notK {H0 H : AH} {a L T D K KL A6 A7 A8 : Addr} {ts ks : List TE} (t : TSt H0 H a L T D K KL A6 A7 A8 ts ks) {p : Addr} {k v : V} (e : H p = some (.list [k, v])) (hv : IsVT v) : p ≠ K := fun z => by
  rw [z, t.kep] at e
  have := AO.list.inj (Option.some.inj e)
  unfold rRefs at this
  cases ks with
  | nil => cases this
  | cons x xs =>
    cases xs with
    | nil => exact absurd (congrArg List.length this) (by show (1 : Nat) ≠ 2; decide)
    | cons y ys =>
      have h2 := (List.cons.inj (List.cons.inj this).2).1
      obtain ⟨_, _, _, _, _, hval, _⟩ := hv.data
      rw [← h2] at hval; cases hval
theorem TSt.fresh {H0 H : AH} {a L T D K KL A6 A7 A8 : Addr} {ts ks : List TE} (t : TSt H0 H a L T D K KL A6 A7 A8 ts ks) {c : Addr} (h : H c = none) : H0 c = none := by
  cases z : H0 c with
  | none => rfl
  | some o =>
    obtain ⟨_, ns, b, ea, eL, hz⟩ := t.box
    by_cases w1 : c = a
    · rw [w1, ea] at h; cases h
    · by_cases w2 : c = L
      · rw [w2, eL] at h; cases h
      · rw [t.fr c o z w1 w2] at h; cases h
/-- the table's pair takes a new value -/
theorem TSt.put {H0 H : AH} {a L T D K KL A6 A7 A8 : Addr} {ts ks : List TE} (t : TSt H0 H a L T D K KL A6 A7 A8 ts ks) {e : TE} (he : e ∈ ts) {v : V} (hv : IsVT v) :
    TSt H0 (H.set e.2.2 (.list [keyAt A6 A7 A8 e.1, v])) a L T D K KL A6 A7 A8 (updE e.1 v ts) ks := by
  obtain ⟨x1, x2, x3, x4⟩ := t.th e he
  obtain ⟨_, ns, b, ea, eL, hz⟩ := id t.box
  have na := t.nwa x3
  have nD : D ≠ e.2.2 := fun z => by rw [← z, t.dic] at x4; cases x4
  have nK := t.notK x4 x2
  have ad : ∀ x ∈ updE e.1 v ts, ∃ y ∈ ts, x.2.2 = y.2.2 := fun x hx => by
    unfold updE at hx
    obtain ⟨y, hy, rfl⟩ := List.mem_map.mp hx
    exact ⟨y, hy, by split <;> rfl⟩
  refine t.step (t.box.of (AH.set_ne _ _ na.1.symm) (AH.set_ne _ _ na.2.symm)) (by rw [AH.set_ne _ _ nD, updE_kvs]; exact t.dic) (by rw [AH.set_ne _ _ nK.symm]; exact t.kep) (by rw [updE_idx]; exact t.tn) t.kn (fun x hx => ?_) (fun x hx => ?_) (fun x hx x' hx' => ?_) fun c o ec _ _ _ _ n => ?_
  · unfold updE at hx
    obtain ⟨y, hy, rfl⟩ := List.mem_map.mp hx
    obtain ⟨y1, y2, y3, y4⟩ := t.th y hy
    by_cases w : y.1 = e.1
    · rw [if_pos w]
      obtain ⟨l1, hl1, q1⟩ := List.getElem_of_mem hy
      obtain ⟨l2, hl2, q2⟩ := List.getElem_of_mem he
      have : l1 = l2 := idx_ne t.tn (by rw [← q1]; exact List.getElem?_eq_getElem hl1) (by rw [← q2]; exact List.getElem?_eq_getElem hl2) w
      subst this
      have : y = e := q1.symm.trans q2
      subst this
      exact ⟨y1, hv, y3, AH.set_self _ _ _⟩
    · rw [if_neg w]
      refine ⟨y1, y2, y3, ?_⟩
      rw [AH.set_ne _ _ (fun z => ?_)]; exact y4
      rw [z, x4] at y4
      exact w (keyAt_inj t.kin y1 x1 (List.cons.inj (AO.list.inj (Option.some.inj y4))).1.symm)
  · obtain ⟨y1, y2, y3, y4⟩ := t.kh x hx
    exact ⟨y1, y2, y3, by rw [AH.set_ne _ _ (fun z => t.ap e he x hx z.symm)]; exact y4⟩
  · obtain ⟨y, hy, hyx⟩ := ad x hx
    rw [hyx]; exact t.ap y hy x' hx'
  · rw [AH.set_ne _ _ (n e (List.mem_append_left _ he))]; exact ec
/-- a pair is kept -/
theorem TSt.keep {H0 H : AH} {a L T D K KL A6 A7 A8 : Addr} {ts ks : List TE} (t : TSt H0 H a L T D K KL A6 A7 A8 ts ks) {i : Nat} {v : V} {r : Addr} (hi : i < 9) (hv : IsVT v) (hr : H r = none) (hn : i ∉ ks.map (·.1)) :
    TSt H0 ((H.set r (.list [keyAt A6 A7 A8 i, v])).set K (.list (rRefs ks ++ [.ref r]))) a L T D K KL A6 A7 A8 ts (ks ++ [(i, v, r)]) := by
  obtain ⟨_, ns, b, ea, eL, hz⟩ := id t.box
  have h0 := t.fresh hr
  have nr : ∀ {c o}, H c = some o → c ≠ r := fun e z => by rw [z, hr] at e; cases e
  have nKa := t.nwa (t.nw K (by simp))
  have up : ∀ c o, H c = some o → c ≠ K → ((H.set r (.list [keyAt A6 A7 A8 i, v])).set K (.list (rRefs ks ++ [.ref r]))) c = some o := fun c o e n => by rw [AH.set_ne _ _ n, AH.set_ne _ _ (nr e)]; exact e
  have nDK : D ≠ K := fun z => by have := t.dic; rw [z, t.kep] at this; cases this
  refine t.step (t.box.of ((up _ _ ea nKa.1.symm).trans ea.symm) ((up _ _ eL nKa.2.symm).trans eL.symm)) (up _ _ t.dic nDK) (by rw [AH.set_self]; unfold rRefs; rw [List.map_append]; rfl) t.tn ?_ (fun x hx => ?_) (fun x hx => ?_) (fun x hx x' hx' => ?_) fun c o ec _ _ _ n _ => up c o ec n
  · rw [List.map_append]
    refine List.nodup_append.mpr ⟨t.kn, by simp, fun p hp p' hp' => ?_⟩
    rw [List.map_cons, List.map_nil] at hp'
    rw [List.mem_singleton.mp hp']
    exact fun z => hn (by have z : p = i := z; rw [← z]; exact hp)
  · obtain ⟨y1, y2, y3, y4⟩ := t.th x hx
    exact ⟨y1, y2, y3, up _ _ y4 (t.notK y4 y2)⟩
  · rcases List.mem_append.mp hx with hx | hx
    · obtain ⟨y1, y2, y3, y4⟩ := t.kh x hx
      exact ⟨y1, y2, y3, up _ _ y4 (t.notK y4 y2)⟩
    · rw [List.mem_singleton.mp hx]
      refine ⟨hi, hv, h0, ?_⟩
      show ((H.set r _).set K _) r = _
      rw [AH.set_ne _ _ (nr t.kep).symm, AH.set_self]
  · rcases List.mem_append.mp hx' with hx' | hx'
    · exact t.ap x hx x' hx'
    · rw [List.mem_singleton.mp hx']; exact nr (t.th x hx).2.2.2
section
variable {C : Con} {lv : Nat} {A : Around} {stk : List Env} {L' : Addr} {own : List Addr} {m : Locs} {H0 H : AH} {Q : Fl → Locs → AH → Prop} {R : Int → AH → Prop}
set_option maxHeartbeats 1000000 in
theorem t_turnB (hB : Base C.w C.base) (ok : (Cx.fn C (lv + 8) A (callEnvC fd393 L' 393) stk own).Ok) (ow : Owns (Cx.fn C (lv + 8) A (callEnvC fd393 L' 393) stk own))
    {a L T D K KL A6 A7 A8 y : Addr} {ts ks : List TE} {i : Nat} {v : V} (hi : i < 9) (hv : IsVT v) (t : TSt H0 H a L T D K KL A6 A7 A8 ts ks) (hkl : ks.length ≤ 1000)
    (hc : (∃ old, (i, old) ∈ ivs ks ∧ ivs ts = ivs ks) ∨ (i ∉ ks.map (·.1) ∧ ivs ts = ivs ks ++ [(i, .str "")])) (hy : H y = some (.inst 117 [("kind", .str "item"), ("owner", .ref T), ("key", .tup (keyVs i))]))
    (h1 : m.lookup ("kept" : Str) = some (.ref K)) (h2 : m.lookup ("key" : Str) = some (keyAt A6 A7 A8 i)) (h3 : m.lookup ("value" : Str) = some v) (h4 : m.lookup ("ref" : Str) = some (.ref y))
    (q : ∀ m' H' ts' ks', (∀ z : Str, z ≠ "pair" → z ≠ "due" → m'.lookup z = m.lookup z) → TSt H0 H' a L T D K KL A6 A7 A8 ts' ks' → ivs ts' = ivs ks' → ts'.length = ts.length → Q .next m' H') : EX (Cx.fn C (lv + 8) A (callEnvC fd393 L' 393) stk own) (tbody.drop 2) m H Q R := by
  have lk : (rRefs ks).length = ks.length := List.length_map ..
  -- the value that the table holds for the key
  obtain ⟨e, he, hei, hcur⟩ : ∃ e ∈ ts, e.1 = i ∧ e.2.1 = (dueL i ks).getD 0 (.str "") := by
    rcases hc with ⟨old, ho, hivs⟩ | ⟨hno, hivs⟩
    · rw [dueL_some t.kn ho]; exact ivs_mem (by rw [hivs]; exact ho)
    · rw [dueL_none hno]; exact ivs_mem (by rw [hivs]; exact List.mem_append_right _ (List.mem_singleton.mpr rfl))
  have hdl : dueL i ks = [] ∨ ∃ old, dueL i ks = [old] := by
    rcases hc with ⟨old, ho, hivs⟩ | ⟨hno, hivs⟩
    · exact .inr ⟨old, dueL_some t.kn ho⟩
    · exact .inl (dueL_none hno)
  obtain ⟨x1, x2, x3, x4⟩ := t.th e he
  rw [hei] at x4
  -- due
  refine ex_cons (es_assign_comp ok ow rfl (cap := [("key", keyAt A6 A7 A8 i)]) (iv_of (ev_local ok h1 (it_list ok t.kep fun I hI => ?_))) ?_ rfl rfl)
  rotate_left
  · refine Caps.of (fun p hp => ?_) fun p hp h1 h2 => ?_
    · simp only [List.mem_cons, List.not_mem_nil, or_false] at hp
      subst hp
      exact ⟨h2, by show some NameKind.cell ≠ _; decide, .inl rfl, rfl⟩
    · simp only [List.mem_cons, List.not_mem_nil, or_false] at hp
      subst hp
      exact ⟨rfl, rfl⟩
  refine comp_gen (ks.map fun e => if e.1 = i then some e.2.1 else none) ["pair"] ok (fun b hb => by rw [List.mem_singleton.mp hb]; exact hI) (by rw [List.length_map, lk]) (by rw [lk]; omega) rfl (fun C' l w y' ml Hl hw hy' ok' ow' rd rl hml => ?_) (fun Dd hDd => ?_)
  · unfold rRefs at hw
    rw [List.getElem?_map] at hw hy'
    cases hl : ks[l]? with
    | none => rw [hl] at hw; cases hw
    | some x =>
      rw [hl] at hw hy'; cases hw; cases hy'
      obtain ⟨y1, y2, y3, y4⟩ := t.kh x (List.mem_of_getElem? hl)
      have gr : ∀ c o, H c = some o → c ≠ K → Hl c = some o := fun c o e n => rd c o e fun z => n (List.mem_singleton.mp z)
      have kin : KIn Hl A6 A7 A8 := t.kin.of (t.inst gr)
      have hrx := gr _ _ y4 (t.notK y4 y2)
      refine as_nameL ok' ow' ⟨rfl, fun z hz => ?_, ?_⟩
      · rw [List.lookup_cons, beq_eq_false_iff_ne.mpr fun w => hz (by rw [w]; simp)]; exact hml z hz
      have hck : (("pair", V.ref x.2.2) :: ml : Locs).lookup ("key" : Str) = some (keyAt A6 A7 A8 i) := by
        rw [List.lookup_cons, beq_eq_false_iff_ne.mpr (by decide)]; exact hml "key" (by decide)
      refine tv_call (bb := decide (keyW x.1 = keyW i ∧ keyN x.1 = keyN i)) (ev_call ok' ok212.keep (lv := lv + 2) (ev_glob ok' rfl g_same_value ⟨rfl, evs_cons (ev_sub (ev_local ok' rfl (ev_int (gi_list (.inl hrx) (by decide) (by show 2 ≤ 1000000; decide) rfl (evs_cons (ev_local ok' hck (evs_nil (c_same (C := C) (lv := lv) hB (kin.key _ y1).2 (kin.key _ hi).2 ⟨rfl, rfl, ?_, fun u hu => ?_⟩))))))))⟩) (by show lv + 2 ≤ lv + 8; omega))
      · rw [keySK_inj _ y1 _ hi]
        show decide (x.1 = i) = (if x.1 = i then some x.2.1 else none).isSome
        by_cases w : x.1 = i
        · rw [if_pos w, decide_eq_true w]; rfl
        · rw [if_neg w, decide_eq_false w]; rfl
      · have hu : (if x.1 = i then some x.2.1 else none) = some u := hu
        by_cases w : x.1 = i
        · rw [if_pos w] at hu; cases hu
          exact ev_sub (ev_local ok' rfl (ev_int (gi_list (.inl hrx) (by decide) (by show 2 ≤ 1000000; decide) rfl ⟨rfl, rfl⟩)))
        · rw [if_neg w] at hu; cases hu
  have el : (ks.map fun e => if e.1 = i then some e.2.1 else none).filterMap id = dueL i ks := by
    rw [List.filterMap_map]; rfl
  rw [el]
  have leD := AH.le_set hDd (.list (dueL i ks))
  have t2 := t.le leD
  have eD : (H.set Dd (.list (dueL i ks))) Dd = some (.list (dueL i ks)) := AH.set_self _ _ _
  have hy2 := leD _ _ hy
  have x42 := leD _ _ x4
  generalize H.set Dd (.list (dueL i ks)) = H2 at leD t2 eD hy2 x42
  have ldl : (dueL i ks).length ≤ 1 := by
    rcases hdl with h | ⟨o, h⟩ <;> rw [h]
    · exact Nat.zero_le _
    · exact Nat.le_refl _
  have hm1 : ∀ z : Str, z ≠ "due" → ∀ w, m.lookup z = some w → ((("due" : Str), V.ref Dd) :: m : Locs).lookup z = some w := fun z n w h => by
    rw [List.lookup_cons, beq_eq_false_iff_ne.mpr n]; exact h
  have hmn : ∀ z : Str, z ≠ "due" → ((("due" : Str), V.ref Dd) :: m : Locs).lookup z = m.lookup z := fun z n => by
    rw [List.lookup_cons, beq_eq_false_iff_ne.mpr n]
  have hg : kvGet (tKvs ts) (keyK i) = some (.ref e.2.2) := by rw [← hei]; exact kvGet_at t.tn t.t9 he
  obtain ⟨dc, dd1, dd2, dd3, dd4, dd5, dd6⟩ := x2.data
  refine ex_ifF (tv_cmp (ev_call ok ok311.keep (lv := lv + 1) (ev_glob ok rfl g_slot_get ⟨rfl, evs_cons (ev_local ok (hm1 "ref" (by decide) _ h4) (evs_nil (c_slot_get_tab (C := C) (lv := lv) hB hy2 rfl rfl t2.tab rfl t2.dic (t2.kin.key i hi).1.kv hg x42 ?_)))⟩) (by show lv + 1 ≤ lv + 8; omega)))
  have goon : ∀ H3, AH.le H2 H3 → EX (Cx.fn C (lv + 8) A (callEnvC fd393 L' 393) stk own) (tbody.drop 4) (("due", V.ref Dd) :: m) H3 Q R := fun H3 le3 => by
    have t3 := t2.le le3
    refine ex_expr (ev_call ok ok318.keep (lv := lv + 1) (ev_glob ok rfl g_slot_set ⟨rfl, evs_cons (ev_local ok (hm1 "ref" (by decide) _ h4) (evs_cons (ev_local ok (hm1 "value" (by decide) _ h3) (evs_nil (c_slot_set_tab (C := C) (lv := lv) hB (le3 _ _ hy2) rfl rfl t3.tab rfl t3.dic (t3.kin.key i hi).1.kv hg (le3 _ _ x42) ?_)))))⟩) (by show lv + 1 ≤ lv + 8; omega))
    have t4 := t3.put he hv
    rw [hei] at t4
    have eD4 : (H3.set e.2.2 (.list [keyAt A6 A7 A8 i, v])) Dd = some (.list (dueL i ks)) := by
      rw [AH.set_ne _ _ (fun z => ?_)]; exact le3 _ _ eD
      rw [← z, eD] at x42
      have := congrArg List.length (AO.list.inj (Option.some.inj x42))
      have this : (dueL i ks).length = 2 := this
      omega
    generalize H3.set e.2.2 (.list [keyAt A6 A7 A8 i, v]) = H4 at t4 eD4
    have hlen : (updE i v ts).length = ts.length := List.length_map ..
    refine ex_if (tv_cmp (ev_local ok rfl (ev_list (evs_nil ⟨by decide, fun Z hZ => ?_⟩))))
    have eZ : (H4.set Z (.list [])) Z = some (.list []) := AH.set_self _ _ _
    have leZ := AH.le_set hZ (.list [])
    have t5 := t4.le leZ
    rcases hc with ⟨old, ho, hivs⟩ | ⟨hno, hivs⟩
    · rw [dueL_some t.kn ho] at eD4
      refine cmp_eq_len ok (.inl (leZ _ _ eD4)) (.inl eZ) (by show (1 : Nat) ≠ 0; decide) ⟨(fun z => by cases z), fun _ => ?_⟩
      refine t_turnC hB ok ow hi hv t5 (hm1 "kept" (by decide) _ h1) (hm1 "key" (by decide) _ h2) (hm1 "value" (by decide) _ h3) fun m' H' hm' t' => ?_
      exact q m' H' _ _ (fun z n1 n2 => (hm' z n1).trans (hmn z n2)) t' (by rw [ivs_upd, ivs_upd, hivs]) hlen
    · rw [dueL_none hno] at eD4
      refine cmp_eq_same ok (.ref (leZ _ _ eD4) .nil) (.ref eZ .nil) rfl ⟨fun _ => ?_, fun z => by cases z⟩
      refine ex_expr (ev_meth F.plainAttrs_list F.slot_list_append rfl (ev_local ok (hm1 "kept" (by decide) _ h1) ⟨ty_list (.inl t5.kep), evs_cons (ev_list (evs_cons (ev_local ok (hm1 "key" (by decide) _ h2) (evs_cons (ev_local ok (hm1 "value" (by decide) _ h3) (evs_nil ⟨by show 2 ≤ 1000; decide, fun r hr => evs_nil (bv_append (acc := rRefs ks) ?_ (by rw [lk]; omega) (ex_nil ?_))⟩))))))⟩))
      · rw [AH.set_ne _ _ (nz t5.kep hr)]; exact t5.kep
      · have t7 := t5.keep hi hv hr hno
        refine t_turnC hB ok ow hi hv t7 (hm1 "kept" (by decide) _ h1) (hm1 "key" (by decide) _ h2) (hm1 "value" (by decide) _ h3) fun m' H' hm' t' => ?_
        refine q m' H' _ _ (fun z n1 n2 => (hm' z n1).trans (hmn z n2)) t' ?_ hlen
        rw [ivs_upd, ivs_upd, hivs]
        have : ivs (ks ++ [(i, v, r)]) = ivs ks ++ [(i, v)] := by unfold ivs; rw [List.map_append]; rfl
        rw [this, List.map_append, List.map_append]
        show _ ++ [if i = i then (i, v) else _] = _ ++ [if i = i then (i, v) else _]
        rw [if_pos rfl, if_pos rfl]
  refine ev_ifB (tv_cmp (ev_local ok rfl (ev_list (evs_nil ⟨by decide, fun Z hZ => ?_⟩))))
  have eZ : (H2.set Z (.list [])) Z = some (.list []) := AH.set_self _ _ _
  have leZ := AH.le_set hZ (.list [])
  rcases hdl with hd | ⟨old, hd⟩
  · rw [hd] at eD hcur
    refine cmp_ne_same ok (.ref (leZ _ _ eD) .nil) (.ref eZ .nil) rfl ⟨(fun z => by cases z), fun _ => ev_str ?_⟩
    rw [hcur]
    have hcur' : e.2.1 = .str "" := hcur
    rw [hcur'] at dd1
    exact cmp_ne_same ok (dd1 _) (dd1 _) dd2 ⟨rfl, goon _ leZ⟩
  · rw [hd] at eD hcur
    have hcur' : e.2.1 = old := hcur
    rw [hcur'] at dd1
    refine cmp_neD ok (.ref (leZ _ _ eD) (.cons (dd1 _) .nil)) (.ref eZ .nil) ⟨fun _ => ?_, fun z => ?_⟩ ?_ rfl
    · refine ev_sub (ev_local ok rfl (ev_int (gi_list (.inl (leZ _ _ eD)) (by decide) (by show 1 ≤ 1000000; decide) rfl ?_)))
      rw [hcur']
      exact cmp_ne_same ok (dd1 _) (dd1 _) dd2 ⟨rfl, goon _ leZ⟩
    · cases z
    · simp [SeqAt.shaped, PyData.canLay0, PyData.canLayAll0, dd4, PyData.depth, PyData.depthAll, dd3]
end

section
variable {C : Con} {lv : Nat} {A : Around} {stk : List Env} {L' : Addr} {own : List Addr} {m : Locs} {H0 H : AH} {Q : Fl → Locs → AH → Prop} {R : Int → AH → Prop}
/-- a new pair in the table -/
theorem TSt.insert {H0 H : AH} {a L T D K KL A6 A7 A8 : Addr} {ts ks : List TE} (t : TSt H0 H a L T D K KL A6 A7 A8 ts ks) {i : Nat} {p : Addr} (hi : i < 9) (hp : H p = none) (hn : i ∉ ts.map (·.1)) :
    TSt H0 ((H.set p (.list [keyAt A6 A7 A8 i, .str ""])).set D (.dict (tKvs ts ++ [(keyK i, .ref p)]))) a L T D K KL A6 A7 A8 (ts ++ [(i, .str "", p)]) ks := by
  obtain ⟨_, ns, b, ea, eL, hz⟩ := id t.box
  have h0 := t.fresh hp
  have nr : ∀ {c o}, H c = some o → c ≠ p := fun e z => by rw [z, hp] at e; cases e
  have nDa := t.nwa (t.nw D (by simp))
  have up : ∀ c o, H c = some o → c ≠ D → ((H.set p (.list [keyAt A6 A7 A8 i, .str ""])).set D (.dict (tKvs ts ++ [(keyK i, .ref p)]))) c = some o := fun c o e n => by rw [AH.set_ne _ _ n, AH.set_ne _ _ (nr e)]; exact e
  have nDK : K ≠ D := fun z => by have := t.dic; rw [← z, t.kep] at this; cases this
  have nDl : ∀ {c xs}, H c = some (.list xs) → c ≠ D := fun e z => by rw [z, t.dic] at e; cases e
  have hv0 : IsVT (.str "") := by unfold IsVT valL; exact List.mem_cons_self
  refine t.step (t.box.of ((up _ _ ea nDa.1.symm).trans ea.symm) ((up _ _ eL nDa.2.symm).trans eL.symm)) (by rw [AH.set_self]; unfold tKvs; rw [List.map_append]; rfl) (up _ _ t.kep nDK) ?_ t.kn (fun x hx => ?_) (fun x hx => ?_) (fun x hx x' hx' => ?_) fun c o ec _ _ n _ _ => up c o ec n
  · rw [List.map_append]
    refine List.nodup_append.mpr ⟨t.tn, by simp, fun q hq q' hq' => ?_⟩
    rw [List.map_cons, List.map_nil] at hq'
    rw [List.mem_singleton.mp hq']
    exact fun z => hn (by have z : q = i := z; rw [← z]; exact hq)
  · rcases List.mem_append.mp hx with hx | hx
    · obtain ⟨y1, y2, y3, y4⟩ := t.th x hx
      exact ⟨y1, y2, y3, up _ _ y4 (nDl y4)⟩
    · rw [List.mem_singleton.mp hx]
      refine ⟨hi, hv0, h0, ?_⟩
      show ((H.set p _).set D _) p = _
      rw [AH.set_ne _ _ (nr t.dic).symm, AH.set_self]
  · obtain ⟨y1, y2, y3, y4⟩ := t.kh x hx
    exact ⟨y1, y2, y3, up _ _ y4 (nDl y4)⟩
  · rcases List.mem_append.mp hx with hx | hx
    · exact t.ap x hx x' hx'
    · rw [List.mem_singleton.mp hx]; exact (nr (t.kh x' hx').2.2.2).symm
theorem val_at : ∀ k < 5, ∃ v, valL[k]? = some v ∧ IsVT v := fun k hk => ⟨valL[k]'hk, List.getElem?_eq_getElem hk, List.getElem_mem hk⟩
set_option maxHeartbeats 1000000 in
theorem t_turnA (hB : Base C.w C.base) (ok : (Cx.fn C (lv + 8) A (callEnvC fd393 L' 393) stk own).Ok) (ow : Owns (Cx.fn C (lv + 8) A (callEnvC fd393 L' 393) stk own))
    {a L T D K KL A6 A7 A8 : Addr} {ts ks : List TE} (t : TSt H0 H a L T D K KL A6 A7 A8 ts ks) (hkl : ts.length ≤ 900) (hiv : ivs ts = ivs ks)
    (h0 : m.lookup ("box" : Str) = some (.ref a)) (h1 : m.lookup ("kept" : Str) = some (.ref K)) (h2 : m.lookup ("keys" : Str) = some (.ref KL)) (h3 : m.lookup ("table" : Str) = some (.ref T))
    (q : ∀ m' H' ts' ks', (∀ z : Str, z ≠ "pair" → z ≠ "due" → z ≠ "ref" → z ≠ "key" → z ≠ "value" → m'.lookup z = m.lookup z) → TSt H0 H' a L T D K KL A6 A7 A8 ts' ks' → ivs ts' = ivs ks' → ts'.length ≤ ts.length + 1 → Q .next m' H') : EX (Cx.fn C (lv + 8) A (callEnvC fd393 L' 393) stk own) tbody m H Q R := by
  have lkl : (keyL A6 A7 A8).length = 9 := rfl
  have hlen : ks.length = ts.length := by
    have := congrArg List.length hiv
    unfold ivs at this
    rw [List.length_map, List.length_map] at this; exact this.symm
  have take : ∀ {H : AH} {K : V → AH → Prop} {R : Int → AH → Prop} {p1 p2 p3 p4 : Pos} {k n : Nat}, BoxIs H a L → 0 < n → (∀ (r : Nat) (H' : AH), r < n → BoxIs H' a L → (∀ b, b ≠ a → b ≠ L → H' b = H b) → K (.int r) H') →
      EV (Cx.fn C (lv + 8) A (callEnvC fd393 L' 393) stk own) (.Call (.Name "_law_take" p1) [.Name "box" p2, .Constant (.int n) k p3] [] p4) m H K R := fun hbx hn hK =>
    ev_call ok ok359.keep (lv := lv + 1) (ev_glob ok rfl g__law_take ⟨rfl, evs_cons (ev_local ok h0 (evs_cons (ev_int (evs_nil (c_take (C := C) (lv := lv) hB hbx hn hK)))))⟩) (by show lv + 1 ≤ lv + 8; omega)
  refine ex_asgT (ev_tuple (evs_cons (ev_sub (ev_local ok h2 (ev_call ok ok359.keep (lv := lv + 1) (ev_glob ok rfl g__law_take ⟨rfl, evs_cons (ev_local ok h0 (evs_cons (ev_bcall (ev_blt ok rfl n_len b_len (fun _ _ => .bi _) ⟨rfl, evs_cons (ev_local ok h2 (evs_nil (bv_len (.inl t.kl) (by show 9 ≤ 1000000; decide) (evs_nil ?_))))⟩))))⟩) (by show lv + 1 ≤ lv + 8; omega))))))
  rw [lkl]
  refine c_take (C := C) (lv := lv) hB t.box (by decide) fun i H1 hi hb1 fr1 => ?_
  have t1 := t.take hb1 fr1
  refine gi_list (v := keyAt A6 A7 A8 i) (.inl t1.kl) (by omega) (by show 9 ≤ 1000000; decide) (by rw [Int.toNat_natCast]; exact keyL_at A6 A7 A8 i hi) ?_
  refine evs_cons (ev_sub (ev_list (evs_cons (ev_str (evs_cons (ev_str (evs_cons (ev_int (evs_cons (ev_str (evs_cons (ev_int (evs_nil ⟨by show 5 ≤ 1000; decide, fun Z hZ => ?_⟩)))))))))))))
  have t2 := t1.le (AH.le_set hZ (.list valL))
  refine take t2.box (by decide) fun k H3 hk hb3 fr3 => ?_
  have t3 := t2.take hb3 fr3
  obtain ⟨v, hvk, hv⟩ := val_at k hk
  have hZ0 : H0 Z = none := t1.fresh hZ
  have eZ : H3 Z = some (.list valL) := by rw [fr3 Z (t.nwa hZ0).1 (t.nwa hZ0).2]; exact AH.set_self _ _ _
  refine gi_list (v := v) (.inl eZ) (by omega) (by show 5 ≤ 1000000; decide) (by rw [Int.toNat_natCast]; exact hvk) (evs_nil ⟨by show 2 ≤ 1000; decide, as_pair ok (as_name ok ow (.inr ⟨rfl, rfl⟩) (as_name ok ow (.inl rfl) ?_))⟩)
  clear t t1 t2 eZ hZ0 fr3 hb3 fr1 hb1
  have hm1 : ∀ z : Str, z ≠ "key" → z ≠ "value" → ∀ w, m.lookup z = some w → ((("value" : Str), v) :: (("key" : Str), keyAt A6 A7 A8 i) :: m : Locs).lookup z = some w := fun z n1 n2 w h => by
    rw [List.lookup_cons, beq_eq_false_iff_ne.mpr n2, List.lookup_cons, beq_eq_false_iff_ne.mpr n1]; exact h
  refine ex_asg (fun w H4 => ∃ y ts', w = .ref y ∧ TSt H0 H4 a L T D K KL A6 A7 A8 ts' ks ∧ H4 y = some (.inst 117 [("kind", .str "item"), ("owner", .ref T), ("key", .tup (keyVs i))]) ∧ ((∃ old, (i, old) ∈ ivs ks ∧ ivs ts' = ivs ks) ∨ (i ∉ ks.map (·.1) ∧ ivs ts' = ivs ks ++ [(i, .str "")])) ∧ ts'.length ≤ ts.length + 1) ok ow
    (ev_call ok ok304.keep (lv := lv + 4) (ev_glob ok rfl g_item_ref ⟨rfl, evs_cons (ev_local ok (hm1 "table" (by decide) (by decide) _ h3) (evs_cons (ev_list (evs_cons (ev_local ok rfl (evs_nil ⟨by show 1 ≤ 1000; decide, fun Ka hKa => evs_cons (ev_int (evs_nil ?_))⟩))))))⟩) (by show lv + 4 ≤ lv + 8; omega)) ?_
  · have t4 := t3.le (AH.le_set hKa (.list [keyAt A6 A7 A8 i]))
    refine c_item_tab (C := C) (lv := lv) hB t4.tab rfl t4.dic (AH.set_self _ _ _) (t4.kin.key i hi).1 (by unfold tKvs; rw [List.length_map]; omega) (fun w hg x d H5 hx hd e1 e2 => ?_) (fun hg p x d H5 hp hx hd hxp e1 e2 => ?_)
    · have hin : i ∈ ts.map (·.1) := by
        by_cases z : i ∈ ts.map (·.1)
        · exact z
        · rw [kvGet_not hi t4.t9 z] at hg; cases hg
      obtain ⟨e, he, hei⟩ := List.mem_map.mp hin
      refine ⟨x, ts, rfl, t4.le fun c o ec => ?_, e1, .inl ⟨e.2.1, ?_, hiv⟩, Nat.le_succ _⟩
      · rw [e2 c (nz ec hx) (nz ec hd)]; exact ec
      · rw [← hiv, ← hei]; exact List.mem_map_of_mem (f := fun e : TE => (e.1, e.2.1)) he
    · have hnin : i ∉ ts.map (·.1) := fun z => by
        obtain ⟨e, he, hei⟩ := List.mem_map.mp z
        have := kvGet_at t4.tn t4.t9 he
        have hei : e.1 = i := hei
        rw [hei, hg] at this; cases this
      have t5 := t4.insert hi hp hnin
      rw [kvPut_new hg] at e2
      have hx5 : ∀ {c}, c = x ∨ c = d → (((H3.set Ka (.list [keyAt A6 A7 A8 i])).set p (.list [keyAt A6 A7 A8 i, .str ""])).set D (.dict (tKvs ts ++ [(keyK i, .ref p)]))) c = none := fun {c} hc => by
        have hcn : (H3.set Ka (.list [keyAt A6 A7 A8 i])) c = none := by rcases hc with rfl | rfl; exact hx; exact hd
        rw [AH.set_ne _ _ ((nz t4.dic hcn).symm), AH.set_ne _ _ (fun z => by rcases hc with rfl | rfl; exact hxp.1 z; exact hxp.2 z)]; exact hcn
      refine ⟨x, ts ++ [(i, .str "", p)], rfl, t5.le fun c o ec => ?_, e1, .inr ⟨?_, ?_⟩, by rw [List.length_append]; exact Nat.le_refl _⟩
      · rw [e2 c (fun z => by rw [hx5 (.inl z)] at ec; cases ec) (fun z => by rw [hx5 (.inr z)] at ec; cases ec)]; exact ec
      · rw [← ivs_idx, ← hiv, ivs_idx]; exact hnin
      · have : ivs (ts ++ [(i, .str "", p)]) = ivs ts ++ [(i, .str "")] := by unfold ivs; rw [List.map_append]; rfl
        rw [this, hiv]
  rintro _ H4 ⟨y, ts', rfl, t4, hy, hc, hl'⟩
  have hm2 : ∀ z : Str, z ≠ "ref" → ∀ w, ((("value" : Str), v) :: (("key" : Str), keyAt A6 A7 A8 i) :: m : Locs).lookup z = some w → ((("ref" : Str), V.ref y) :: (("value" : Str), v) :: (("key" : Str), keyAt A6 A7 A8 i) :: m : Locs).lookup z = some w := fun z n w h => by
    rw [List.lookup_cons, beq_eq_false_iff_ne.mpr n]; exact h
  refine t_turnB hB ok ow hi hv t4 (by omega) hc hy (hm2 _ (by decide) _ (hm1 _ (by decide) (by decide) _ h1)) rfl rfl rfl fun m' H' ts2 ks2 hm' t' hiv' hl2 => ?_
  refine q m' H' ts2 ks2 (fun z n1 n2 n3 n4 n5 => ?_) t' hiv' (by omega)
  rw [hm' z n1 n2, List.lookup_cons, beq_eq_false_iff_ne.mpr n3, List.lookup_cons, beq_eq_false_iff_ne.mpr n5, List.lookup_cons, beq_eq_false_iff_ne.mpr n4]
end

section
variable {C : Con} {lv : Nat} {A : Around} {stk : List Env} {L' : Addr} {own : List Addr} {m : Locs} {H : AH} {Q : Fl → Locs → AH → Prop} {R : Int → AH → Prop}
set_option maxHeartbeats 1000000 in
theorem b_last (hB : Base C.w C.base) (hB4 : BMain C.base) (ok : (Cx.fn C (lv + 8) A (callEnvC fd393 L' 393) stk own).Ok) (ow : Owns (Cx.fn C (lv + 8) A (callEnvC fd393 L' 393) stk own))
    {T D : Addr} (h1 : m.lookup ("table" : Str) = some (.ref T)) (hT : H T = some (.inst 255 (tabF 9 D))) (hP : H 390 = some (.obj (tabObj #[]))) (q : ∀ H' m', (∀ c o, H c = some o → c ≠ 390 → H' c = some o) → TabG H' 390 → Q (.ret (.bool true)) m' H') : EX (Cx.fn C (lv + 8) A (callEnvC fd393 L' 393) stk own) ((bod st393).drop 11) m H Q R := by
  refine ex_ret (ev_andT (ev_cmp (ev_call ok ok352.keep (lv := lv + 2) (ev_glob ok rfl g_array_to_table ⟨rfl, evs_cons (ev_call ok keep236 (lv := lv + 3) (ev_glob ok rfl g_Array ⟨rfl, evs_cons (ev_int (evs_cons (ev_str (evs_cons (ev_list (evs_cons (ev_tuple (evs_cons (ev_int (evs_cons (ev_int (evs_nil ⟨by show 2 ≤ 1000; decide, evs_nil ⟨by show 1 ≤ 1000; decide, fun ba hba => evs_cons (ev_str (evs_nil (c_Array (C := C) (lv := lv) (bs := [(1, 3)]) hB (AH.set_self _ _ _) (fun p hp => bits_small (by rw [List.mem_singleton.mp hp]; decide)) (by decide) (by decide) fun x d I0 H2 hx hI0 hd hxI hdx e1 e2 le2 => ?_)))⟩⟩))))))))))))⟩) (by show lv + 3 ≤ lv + 8; omega))⟩) (by show lv + 2 ≤ lv + 8; omega))))
  have le := AH.le.trans (AH.le_set hba (.list [.tup [.int 1, .int 3]])) le2
  refine evs_cons (ev_int (evs_nil (c_array_to_none (C := C) (lv := lv) hB e1 rfl rfl (le2 _ _ (AH.set_self _ _ _)) e2 fun H3 le3 => ev_none (cmp_is ⟨rfl, ?_⟩))))
  have le13 := AH.le.trans le le3
  refine ev_cmp ((ev_lawerrT (lv := lv + 6) (cap := [("table", .ref T)]) (Q := fun v H4 => v = .int 3 ∧ (∀ c o, H c = some o → c ≠ 390 → H4 c = some o) ∧ TabG H4 390) ok hB4 (.nil (le13 _ _ hP)) hd392 ?_ (Nat.le_refl _) fun H4 f4 t4 C2 pm c ct fa hB2 A2 stk2 L2 own2 ok2 => ?_).mono fun v H4 p => ?_)
  · refine LamSee.of fun p hp => ?_
    simp only [List.mem_cons, List.not_mem_nil, or_false] at hp
    subst hp
    exact ⟨h1, rfl, rfl, rfl, .ref _⟩
  · have nT : T ≠ 390 := fun z => by rw [z, hP] at hT; cases hT
    refine ev_call ok2 ok304.keep (lv := lv + 3) (ev_glob ok2 rfl g_item_ref ⟨rfl, evs_cons (ev_local ok2 rfl (evs_cons (ev_list (evs_cons (ev_int (evs_cons (ev_int (evs_nil ⟨by show 2 ≤ 1000; decide, fun Z hZ => evs_cons (ev_int (evs_nil (c_item_tab2 (C := C2) (lv := lv) hB2 (w := "TABLE") (AH.le_set hZ _ _ _ (f4 _ _ (le13 _ _ hT) nT)) rfl (AH.set_self _ _ _) (by show 2 ≤ 1000; decide) (by show 2 ≠ 1; decide) ⟨rfl, fun c o e n => AH.le_set hZ _ _ _ (f4 _ _ (le13 _ _ e) n), t4.g.le (AH.le_set hZ _)⟩)))⟩))))))))⟩) (by show lv + 3 ≤ lv + 6; omega)
  · obtain ⟨rfl, f, tg⟩ := p
    exact ev_int (cmp_eq (q _ _ f tg))
end

theorem odd_range : ∀ n < 10, 1 ≤ n → sliceBounds (some 1) none (some 2) (2 * n) = (1, ((2 * n : Nat) : Int), 2) ∧ sliceRange 1 ((2 * n : Nat) : Int) 2 = (List.range n).map fun j => 2 * j + 1 := by decide
theorem flatL_odd : ∀ (es : List (V × V)) (j : Nat), (flatL es)[2 * j + 1]? = (es.map (·.2))[j]?
  | [], j => rfl
  | (k, v) :: es, 0 => rfl
  | (k, v) :: es, j + 1 => by
    have e : 2 * (j + 1) + 1 = (2 * j + 1) + 2 := by omega
    rw [e]
    show (flatL es)[2 * j + 1]? = _
    rw [flatL_odd es j]; rfl
theorem slice_odd {es : List (V × V)} (h1 : 1 ≤ es.length) (h2 : es.length < 10) : sliceV (flatL es) (some 1) Option.none (some 2) = es.map (·.2) := by
  unfold sliceV
  obtain ⟨a, b⟩ := odd_range es.length h2 h1
  rw [flatL_len, a]
  dsimp only
  rw [b, List.filterMap_map]
  have := pick_all (es.map (·.2))
  rw [List.length_map] at this
  exact Eq.trans (congrArg (fun f => List.filterMap f (List.range es.length)) (funext fun j => flatL_odd es j)) this
theorem told_num : ∀ n < 10, 1 ≤ n → (toldN n != (Str.ofString (toString ((n : Nat) : Int)) ++ (",2" : Str))) = false ∧ (Str.ofString (toString ((n : Nat) : Int))).length + (",2" : Str).length ≤ 10 ∧ ((n : Nat) : Int).natAbs.log2 < 1920 := by decide +kernel
/-- kept pairs, each at its place -/
def PairsAt (H : AH) (A6 A7 A8 : Addr) (fks : List TE) : Prop := ∀ e ∈ fks, e.1 < 9 ∧ IsVT e.2.1 ∧ H e.2.2 = some (.list [keyAt A6 A7 A8 e.1, e.2.1])
theorem PairsAt.le {H H' : AH} {A6 A7 A8 : Addr} {fks : List TE} (p : PairsAt H A6 A7 A8 fks) (h : AH.le H H') : PairsAt H' A6 A7 A8 fks := fun e he => let ⟨a, b, c⟩ := p e he; ⟨a, b, h _ _ c⟩
theorem KIn.le {H H' : AH} {A6 A7 A8 : Addr} (k : KIn H A6 A7 A8) (h : AH.le H H') : KIn H' A6 A7 A8 := k.of fun a K fs e => h _ _ e
noncomputable def tupsL (es : List (V × V)) : List V := es.map fun e => .tup [e.1, e.2]
/-- the data of the values that the law puts -/
theorem vals_data {H : AH} : ∀ {vs : List V}, (∀ v ∈ vs, IsVT v) → ∃ ds, DVs H vs ds ∧ PyData.canLayAll0 ds = true ∧ PyData.depthAll ds = 0
  | [], _ => ⟨[], .nil, rfl, rfl⟩
  | v :: vs, h => by
    obtain ⟨d, h1, h2, h3, h4, _⟩ := (h v (.head _)).data
    obtain ⟨ds, i1, i2, i3⟩ := vals_data (H := H) fun u hu => h u (.tail _ hu)
    exact ⟨d :: ds, .cons (h1 H) i1, by simp [PyData.canLayAll0, h4, i2], by simp [PyData.depthAll, h3, i3]⟩
section
variable {C : Con} {lv : Nat} {A : Around} {stk : List Env} {L' : Addr} {own : List Addr} {m : Locs} {H : AH} {Q : Fl → Locs → AH → Prop} {R : Int → AH → Prop}
set_option maxHeartbeats 1000000 in
theorem b_again (hB : Base C.w C.base) (hB4 : BMain C.base) (ok : (Cx.fn C (lv + 8) A (callEnvC fd393 L' 393) stk own).Ok) (ow : Owns (Cx.fn C (lv + 8) A (callEnvC fd393 L' 393) stk own))
    {T D X To ba Dd A6 A7 A8 : Addr} {fks : List TE} (h1 : m.lookup ("table" : Str) = some (.ref T)) (h2 : m.lookup ("array" : Str) = some (.ref X)) (h3 : m.lookup ("told" : Str) = some (.ref To)) (hT : H T = some (.inst 255 (tabF 9 D))) (hX : H X = some (.inst 236 (arrF 30 (toldN fks.length) ba Dd))) (hba : H ba = some (.list (boundsV [(1, fks.length), (1, 2)]))) (hDd : H Dd = some (.list (flatL (pairsOf A6 A7 A8 fks))))
    (hTo : H To = some (.list (tupsL (pairsOf A6 A7 A8 fks)))) (kin : KIn H A6 A7 A8) (hp : PairsAt H A6 A7 A8 fks) (hnd : (fks.map (·.1)).Nodup) (hnn : ∀ e ∈ fks, nullV e.2.1 = false) (g1 : 1 ≤ fks.length) (g2 : fks.length < 10)
    (hP : H 390 = some (.obj (tabObj #[]))) (q : ∀ H' m', (∀ c o, H c = some o → c ≠ 390 → H' c = some o) → TabG H' 390 → Q (.ret (.bool true)) m' H') : EX (Cx.fn C (lv + 8) A (callEnvC fd393 L' 393) stk own) ((bod st393).drop 9) m H Q R := by
  have lp : (pairsOf A6 A7 A8 fks).length = fks.length := List.length_map ..
  have hval : ∀ e ∈ pairsOf A6 A7 A8 fks, IsVal e.2 := fun e he => by
    obtain ⟨x, hx, rfl⟩ := List.mem_map.mp he
    obtain ⟨_, _, _, _, _, hv, _⟩ := (hp x hx).2.1.data
    exact hv
  have hkeys : KeysAre H (pairsOf A6 A7 A8 fks) (fks.map fun e => keyK e.1) := by
    refine ⟨by rw [lp, List.length_map], fun i e he => ?_⟩
    unfold pairsOf at he
    rw [List.getElem?_map] at he
    cases hc : fks[i]? with
    | none => rw [hc] at he; cases he
    | some x =>
      rw [hc] at he; cases he
      exact ⟨keyVs x.1, keyK x.1, by rw [List.getElem?_map, hc]; rfl, (kin.key _ (hp x (List.mem_of_getElem? hc)).1).1⟩
  have hknd : (fks.map fun e => keyK e.1).Nodup := by
    have h9 : ∀ e ∈ fks, e.1 < 9 := fun e he => (hp e he).1
    clear hkeys hval lp hX hDd hTo hp hnn g1 g2 hba
    induction fks with
    | nil => exact List.nodup_nil
    | cons e es ih =>
      rw [List.map_cons, List.nodup_cons] at hnd ⊢
      refine ⟨fun z => ?_, ih hnd.2 fun x hx => h9 x (.tail _ hx)⟩
      obtain ⟨x, hx, hxe⟩ := List.mem_map.mp z
      exact hnd.1 ((keyK_inj _ (h9 x (.tail _ hx)) _ (h9 e (.head _)) hxe) ▸ List.mem_map_of_mem hx)
  have hfull : fullL (pairsOf A6 A7 A8 fks) = tupsL (pairsOf A6 A7 A8 fks) := by
    rw [fullL_eq]
    unfold fullP tupsL
    rw [List.filter_eq_self.mpr fun e he => ?_]
    obtain ⟨x, hx, rfl⟩ := List.mem_map.mp he
    show (!nullV x.2.1) = true
    rw [hnn x hx]; rfl
  refine ex_asg (fun v H1 => ∃ x D' kvs, v = .ref x ∧ AH.le H H1 ∧ H1 x = some (.inst 255 (tabF 31 D')) ∧ H1 D' = some (.dict kvs) ∧ EntsAre H1 kvs (pairsOf A6 A7 A8 fks)) ok ow (ev_call ok ok352.keep (lv := lv + 4) (ev_glob ok rfl g_array_to_table ⟨rfl, evs_cons (ev_local ok h2 (evs_cons (ev_int (evs_nil (c_array_to_table (C := C) (lv := lv) (es := pairsOf A6 A7 A8 fks) hB hX rfl rfl (by rw [lp]; exact hba) hDd (by omega) (by omega) hkeys hknd hval fun x D' kvs H1 le1 e1 e2 e3 => ⟨x, D', kvs, rfl, le1, e1, e2, e3⟩)))))⟩) (by show lv + 4 ≤ lv + 8; omega)) ?_
  rintro _ H1 ⟨x, D', kvs, rfl, le1, e1, e2, e3⟩
  have hTo1 := le1 _ _ hTo
  have lt : (tupsL (pairsOf A6 A7 A8 fks)).length = fks.length := by unfold tupsL; rw [List.length_map, lp]
  have hm1 : ∀ z : Str, z ≠ "again" → ∀ w, m.lookup z = some w → ((("again" : Str), V.ref x) :: m : Locs).lookup z = some w := fun z n w h => by
    rw [List.lookup_cons, beq_eq_false_iff_ne.mpr n]; exact h
  refine ex_ifF (tv_cmp (ev_comp ok (cap := []) (iv_tcall (ev_blt ok rfl n_zip b_zip (fun _ _ => .ty _) ⟨rfl, evs_cons (ev_call ok ok330.keep (lv := lv + 2) (ev_glob ok rfl g_entries_of ⟨rfl, evs_cons (ev_local ok rfl (evs_nil (c_entries_of (C := C) (lv := lv) hB e1 rfl e2 (by rw [e3.length, lp]; omega) e3 fun G hG => evs_cons (ev_local ok (hm1 "told" (by decide) _ h3) (evs_nil ?_)))))⟩) (by show lv + 2 ≤ lv + 8; omega))⟩)) Caps.nil rfl))
  rw [hfull]
  have leG := AH.le_set hG (.list (tupsL (pairsOf A6 A7 A8 fks)))
  have kin2 := (kin.le le1).le leG
  refine bi_zip ok rfl (AH.set_self _ _ _) (leG _ _ hTo1) fun wr hwr => ?_
  refine comp_gen ((zipL (tupsL (pairsOf A6 A7 A8 fks)) (tupsL (pairsOf A6 A7 A8 fks))).map fun _ => none) ["one", "two"] ok hwr (List.length_map ..) (by rw [zipL_length, lt]; omega) rfl (fun C' l w y' ml Hl hw hy' ok' ow' rd rl hml => ?_) (fun Dz hDz => ?_)
  · obtain ⟨u1, u2, hu1, hu2, rfl⟩ := zipL_get hw
    rw [hu1] at hu2; cases hu2
    rw [List.getElem?_map, hw] at hy'
    cases hy'
    unfold tupsL pairsOf at hu1
    rw [List.getElem?_map, List.getElem?_map] at hu1
    cases hc : fks[l]? with
    | none => rw [hc] at hu1; cases hu1
    | some e =>
      rw [hc] at hu1; cases hu1
      obtain ⟨y1, y2, y3⟩ := hp e (List.mem_of_getElem? hc)
      have kin3 : KIn Hl A6 A7 A8 := kin2.of fun c K fs ec => rd c _ ec fun z => by
        rcases List.mem_cons.mp z with z | z
        · rw [z, AH.set_self] at ec; cases ec
        · rw [List.mem_singleton.mp z, leG _ _ hTo1] at ec; cases ec
      obtain ⟨dc, dd1, dd2, dd3, dd4, dd5, dd6⟩ := y2.data
      refine as_pair ok' (as_nameL ok' ow' (as_nameL ok' ow' ⟨rfl, fun z hz => ?_, ?_⟩))
      · rw [List.lookup_cons, beq_eq_false_iff_ne.mpr fun w => hz (by rw [w]; simp), List.lookup_cons, beq_eq_false_iff_ne.mpr fun w => hz (by rw [w]; simp)]; exact hml z hz
      refine tv_bool (at_or (tv_not (tv_call (bb := decide (keyW e.1 = keyW e.1 ∧ keyN e.1 = keyN e.1)) (ev_call ok' ok212.keep (lv := lv + 2) (ev_glob ok' rfl g_same_value ⟨rfl, evs_cons (ev_sub (ev_local ok' rfl (ev_int (gi_tup (by decide) (by show 2 ≤ 1000000; decide) rfl (evs_cons (ev_sub (ev_local ok' rfl (ev_int (gi_tup (by decide) (by show 2 ≤ 1000000; decide) rfl (evs_nil (c_same (C := C) (lv := lv) hB (kin3.key _ y1).2 (kin3.key _ y1).2 ⟨rfl, ?_, fun _ => ?_⟩)))))))))))⟩) (by show lv + 2 ≤ lv + 8; omega)))))
      · intro z; rw [decide_eq_true (⟨rfl, rfl⟩ : _ ∧ _)] at z; cases z
      · refine at_or1 (tv_cmp (ev_sub (ev_local ok' rfl (ev_int (gi_tup (by decide) (by show 2 ≤ 1000000; decide) rfl (ev_sub (ev_local ok' rfl (ev_int (gi_tup (by decide) (by show 2 ≤ 1000000; decide) rfl (cmp_ne_same ok' (dd1 _) (dd1 _) dd2 ⟨rfl, rfl, fun _ z => by cases z⟩))))))))))
  · have en : ((zipL (tupsL (pairsOf A6 A7 A8 fks)) (tupsL (pairsOf A6 A7 A8 fks))).map fun _ => (none : Option V)).filterMap id = [] := by
      generalize zipL _ _ = zs
      induction zs with
      | nil => rfl
      | cons z zs ih => rw [List.map_cons, List.filterMap_cons]; exact ih
    rw [en]
    refine ev_list (evs_nil ⟨by decide, fun Z hZ => cmp_ne_same ok (.ref (AH.le_set hZ _ _ _ (AH.set_self _ _ _)) .nil) (.ref (AH.set_self _ _ _) .nil) rfl ⟨rfl, ?_⟩⟩)
    have le4 := AH.le.trans (AH.le.trans (AH.le.trans le1 leG) (AH.le_set hDz (.list []))) (AH.le_set hZ (.list []))
    exact b_last hB hB4 ok ow (hm1 "table" (by decide) _ h1) (le4 _ _ hT) (le4 _ _ hP) fun H' m' f tg => q H' m' (fun c o e n => f c o (le4 _ _ e) n) tg
end

section
variable {C : Con} {lv : Nat} {A : Around} {stk : List Env} {L' : Addr} {own : List Addr} {m : Locs} {H : AH} {Q : Fl → Locs → AH → Prop} {R : Int → AH → Prop}
set_option maxHeartbeats 1000000 in
theorem b_told (hB : Base C.w C.base) (hB4 : BMain C.base) (ok : (Cx.fn C (lv + 8) A (callEnvC fd393 L' 393) stk own).Ok) (ow : Owns (Cx.fn C (lv + 8) A (callEnvC fd393 L' 393) stk own))
    {T D X To Fu ba Dd A6 A7 A8 : Addr} {fks : List TE} (h1 : m.lookup ("table" : Str) = some (.ref T)) (h2 : m.lookup ("array" : Str) = some (.ref X)) (h3 : m.lookup ("told" : Str) = some (.ref To)) (h4 : m.lookup ("full" : Str) = some (.ref Fu)) (hT : H T = some (.inst 255 (tabF 9 D))) (hX : H X = some (.inst 236 (arrF 30 (toldN fks.length) ba Dd))) (hba : H ba = some (.list (boundsV [(1, fks.length), (1, 2)]))) (hDd : H Dd = some (.list (flatL (pairsOf A6 A7 A8 fks))))
    (hTo : H To = some (.list (tupsL (pairsOf A6 A7 A8 fks)))) (hFu : H Fu = some (.list (rRefs fks))) (kin : KIn H A6 A7 A8) (hp : PairsAt H A6 A7 A8 fks) (hnd : (fks.map (·.1)).Nodup) (hnn : ∀ e ∈ fks, nullV e.2.1 = false) (g1 : 1 ≤ fks.length) (g2 : fks.length < 10)
    (hP : H 390 = some (.obj (tabObj #[]))) (q : ∀ H' m', (∀ c o, H c = some o → c ≠ 390 → H' c = some o) → TabG H' 390 → Q (.ret (.bool true)) m' H') : EX (Cx.fn C (lv + 8) A (callEnvC fd393 L' 393) stk own) ((bod st393).drop 8) m H Q R := by
  have lp : (pairsOf A6 A7 A8 fks).length = fks.length := List.length_map ..
  have lr : (rRefs fks).length = fks.length := List.length_map ..
  obtain ⟨n1, n2, n3⟩ := told_num fks.length g2 g1
  refine ex_ifF (tv_bool (at_or (tv_cmp (ev_attr (ev_local ok h2 (ga_field ok hX get236_told rfl (ev_bin (ev_tcall (ev_blt ok rfl n_str b_str (fun _ _ => .ty _) ⟨rfl, evs_cons (ev_bcall (ev_blt ok rfl n_len b_len (fun _ _ => .bi _) ⟨rfl, evs_cons (ev_local ok h4 (evs_nil (bv_len (.inl hFu) (by rw [lr]; omega) (evs_nil ?_))))⟩))⟩)))))))))
  rw [lr]
  refine bv_str n3 (ev_str (op_cat (Nat.le_trans n2 (by decide)) (cmp_neS ⟨fun z => ?_, fun _ => ?_⟩)))
  · exact absurd (n1.symm.trans z) (by decide)
  have eo := slice_odd (es := pairsOf A6 A7 A8 fks) (by omega) (by omega)
  have ev : (pairsOf A6 A7 A8 fks).map (·.2) = fks.map fun e => e.2.1 := by unfold pairsOf; rw [List.map_map]; rfl
  rw [ev] at eo
  refine at_or1 (tv_cmp (ev_slice (ev_attr (ev_local ok h2 (ga_field ok hX get236_items rfl (show PartV _ _ _ _ _ _ from (ev_int ⟨1, rfl, (show PartV _ _ _ _ _ _ from (show PartV _ _ _ _ _ _ from (ev_int ⟨2, rfl, .inl ⟨Dd, _, rfl, .inl hDd, by decide, by rw [flatL_len, lp]; omega, fun Z hZ => ?_⟩⟩)))⟩)))))))
  rw [eo]
  have leZ := AH.le_set hZ (.list (fks.map fun e => e.2.1))
  refine ev_comp ok (cap := []) (iv_of (ev_local ok h4 (it_list ok (leZ _ _ hFu) fun I hI => ?_))) Caps.nil rfl
  refine comp_gen (fks.map fun e => some e.2.1) ["pair"] ok (fun b hb => by rw [List.mem_singleton.mp hb]; exact hI) (by rw [List.length_map, lr]) (by rw [lr]; omega) rfl (fun C' l w y' ml Hl hw hy' ok' ow' rd rl hml => ?_) (fun G hG => ?_)
  · unfold rRefs at hw
    rw [List.getElem?_map] at hw hy'
    cases hc : fks[l]? with
    | none => rw [hc] at hw; cases hw
    | some e =>
      rw [hc] at hw hy'; cases hw; cases hy'
      obtain ⟨y1, y2, y3⟩ := hp e (List.mem_of_getElem? hc)
      have nFu : e.2.2 ≠ Fu := fun z => by
        rw [z, hFu] at y3
        have := AO.list.inj (Option.some.inj y3)
        unfold rRefs at this
        obtain ⟨_, _, _, _, _, hv, _⟩ := y2.data
        have h2 := congrArg (fun l : List V => l[1]?) this
        have h2 : (fks.map fun e => V.ref e.2.2)[1]? = some e.2.1 := h2
        rw [List.getElem?_map] at h2
        cases z2 : fks[1]? with
        | none => rw [z2] at h2; cases h2
        | some e' => rw [z2] at h2; have h2 := Option.some.inj h2; rw [← h2] at hv; cases hv
      have hre := rd _ _ (leZ _ _ y3) fun z => nFu (List.mem_singleton.mp z)
      refine as_nameL ok' ow' ⟨rfl, fun z hz => ?_, rfl, rfl, fun v hv => ?_⟩
      · rw [List.lookup_cons, beq_eq_false_iff_ne.mpr fun w => hz (by rw [w]; simp)]; exact hml z hz
      · cases hv
        exact ev_sub (ev_local ok' rfl (ev_int (gi_list (.inl hre) (by decide) (by show 2 ≤ 1000000; decide) rfl ⟨rfl, rfl⟩)))
  · have el : (fks.map fun e => some e.2.1).filterMap id = fks.map fun e => e.2.1 := by
      rw [List.filterMap_map]
      show fks.filterMap (fun e => some e.2.1) = _
      rw [List.filterMap_eq_map']
    rw [el]
    have leG := AH.le_set hG (.list (fks.map fun e => e.2.1))
    obtain ⟨ds, d1, d2, d3⟩ := vals_data (H := (H.set Z (.list (fks.map fun e => e.2.1))).set G (.list (fks.map fun e => e.2.1))) (vs := fks.map fun e => e.2.1) fun v hv => by
      obtain ⟨e, he, rfl⟩ := List.mem_map.mp hv
      exact (hp e he).2.1
    refine cmp_ne_same ok (.ref (leG _ _ (AH.set_self _ _ _)) d1) (.ref (AH.set_self _ _ _) d1) (by simp [SeqAt.shaped, PyData.canLay0, PyData.depth, d2, d3]) ⟨rfl, ?_⟩
    have le := AH.le.trans leZ leG
    exact b_again hB hB4 ok ow h1 h2 h3 (le _ _ hT) (le _ _ hX) (le _ _ hba) (le _ _ hDd) (le _ _ hTo) (kin.le le) (hp.le le) hnd hnn g1 g2 (le _ _ hP) fun H' m' f tg => q H' m' (fun c o e n => f c o (le _ _ e) n) tg
end

noncomputable def fullK (ks : List TE) : List TE := ks.filter fun e => !nullV e.2.1
theorem pairsOf_ivs {A6 A7 A8 : Addr} {ts ks : List TE} (h : ivs ts = ivs ks) : pairsOf A6 A7 A8 ts = pairsOf A6 A7 A8 ks := by
  have : ∀ xs : List TE, pairsOf A6 A7 A8 xs = (ivs xs).map fun q => (keyAt A6 A7 A8 q.1, q.2) := fun xs => by unfold pairsOf ivs; rw [List.map_map]; rfl
  rw [this, this, h]
theorem fullP_pairs {A6 A7 A8 : Addr} : ∀ ks : List TE, fullP (pairsOf A6 A7 A8 ks) = pairsOf A6 A7 A8 (fullK ks)
  | [] => rfl
  | e :: ks => by
    have ih := fullP_pairs (A6 := A6) (A7 := A7) (A8 := A8) ks
    unfold fullP pairsOf fullK at ih ⊢
    rw [List.map_cons, List.filter_cons, List.filter_cons]
    by_cases h : (!nullV e.2.1) = true
    · rw [if_pos h, if_pos h, List.map_cons, ih]
    · rw [if_neg h, if_neg h, ih]
theorem ents_of {H0 H : AH} {A6 A7 A8 : Addr} : ∀ {ts : List TE}, Here H0 H A6 A7 A8 ts → EntsAre H (tKvs ts) (pairsOf A6 A7 A8 ts)
  | [], _ => .nil
  | e :: ts, h => by
    obtain ⟨x1, x2, x3, x4⟩ := h e (.head _)
    obtain ⟨_, _, _, _, _, hv, _⟩ := x2.data
    exact .cons x4 hv (ents_of fun x hx => h x (.tail _ hx))
section
variable {C : Con} {lv : Nat} {A : Around} {stk : List Env} {L' : Addr} {own : List Addr} {m : Locs} {H0 H : AH} {Q : Fl → Locs → AH → Prop} {R : Int → AH → Prop}
set_option maxHeartbeats 1000000 in
theorem b_full (hB : Base C.w C.base) (hB4 : BMain C.base) (ok : (Cx.fn C (lv + 8) A (callEnvC fd393 L' 393) stk own).Ok) (ow : Owns (Cx.fn C (lv + 8) A (callEnvC fd393 L' 393) stk own))
    {a L T D K KL A6 A7 A8 : Addr} {ts ks : List TE} (t : TSt H0 H a L T D K KL A6 A7 A8 ts ks) (hkl : ts.length < 10) (hiv : ivs ts = ivs ks) (h1 : m.lookup ("table" : Str) = some (.ref T)) (h2 : m.lookup ("kept" : Str) = some (.ref K))
    (hP : H 390 = some (.obj (tabObj #[]))) (q : ∀ H' m', (∀ c o, H c = some o → c ≠ 390 → H' c = some o) → TabG H' 390 → Q (.ret (.bool true)) m' H') : EX (Cx.fn C (lv + 8) A (callEnvC fd393 L' 393) stk own) ((bod st393).drop 3) m H Q R := by
  have lk : (rRefs ks).length = ks.length := List.length_map ..
  have hlen : ks.length = ts.length := by
    have := congrArg List.length hiv
    unfold ivs at this
    rw [List.length_map, List.length_map] at this; exact this.symm
  have hpk : PairsAt H A6 A7 A8 (fullK ks) := fun e he => by
    obtain ⟨x1, x2, x3, x4⟩ := t.kh e (List.mem_filter.mp he).1
    exact ⟨x1, x2, x4⟩
  have hnn : ∀ e ∈ fullK ks, nullV e.2.1 = false := fun e he => by
    have := (List.mem_filter.mp he).2
    cases z : nullV e.2.1 with
    | false => rfl
    | true => rw [z] at this; cases this
  have hnd : ((fullK ks).map (·.1)).Nodup := List.Nodup.sublist (List.Sublist.map _ List.filter_sublist) t.kn
  have hfl : (fullK ks).length ≤ ks.length := List.length_filter_le ..
  have hpairs : fullP (pairsOf A6 A7 A8 ts) = pairsOf A6 A7 A8 (fullK ks) := by rw [pairsOf_ivs hiv]; exact fullP_pairs ks
  have lp : (pairsOf A6 A7 A8 (fullK ks)).length = (fullK ks).length := List.length_map ..
  have lt : (tupsL (pairsOf A6 A7 A8 (fullK ks))).length = (fullK ks).length := by unfold tupsL; rw [List.length_map, lp]
  have lr : (rRefs (fullK ks)).length = (fullK ks).length := List.length_map ..
  -- full
  refine ex_cons (es_assign_comp ok ow rfl (cap := []) (iv_of (ev_local ok h2 (it_list ok t.kep fun I hI => ?_))) Caps.nil rfl rfl)
  refine comp_gen (ks.map fun e => if nullV e.2.1 = true then none else some (V.ref e.2.2)) ["pair"] ok (fun b hb => by rw [List.mem_singleton.mp hb]; exact hI) (by rw [List.length_map, lk]) (by rw [lk]; omega) rfl (fun C' l w y' ml Hl hw hy' ok' ow' rd rl hml => ?_) (fun Fu hFu => ?_)
  · unfold rRefs at hw
    rw [List.getElem?_map] at hw hy'
    cases hc : ks[l]? with
    | none => rw [hc] at hw; cases hw
    | some e =>
      rw [hc] at hw hy'; cases hw; cases hy'
      obtain ⟨x1, x2, x3, x4⟩ := t.kh e (List.mem_of_getElem? hc)
      obtain ⟨dc, dd1, dd2, dd3, dd4, dd5, dd6⟩ := x2.data
      have hre := rd _ _ x4 fun z => t.notK x4 x2 (List.mem_singleton.mp z)
      refine as_nameL ok' ow' ⟨rfl, fun z hz => ?_, ?_⟩
      · rw [List.lookup_cons, beq_eq_false_iff_ne.mpr fun w => hz (by rw [w]; simp)]; exact hml z hz
      refine tv_cmp (ev_sub (ev_local ok' rfl (ev_int (gi_list (.inl hre) (by decide) (by show 2 ≤ 1000000; decide) rfl (ev_str (cmp_neD ok' (dd1 _) (.str "") ⟨rfl, ?_, fun u hu => ?_⟩ dd2 (by kernel_rfl)))))))
      · rw [dd6]
        show (!nullV e.2.1) = (if nullV e.2.1 = true then none else some (V.ref e.2.2)).isSome
        cases nullV e.2.1 <;> rfl
      · have hu : (if nullV e.2.1 = true then none else some (V.ref e.2.2)) = some u := hu
        by_cases z : nullV e.2.1 = true
        · rw [if_pos z] at hu; cases hu
        · rw [if_neg z] at hu; cases hu
          exact ev_local ok' rfl ⟨rfl, rfl⟩
  have el : (ks.map fun e => if nullV e.2.1 = true then none else some (V.ref e.2.2)).filterMap id = rRefs (fullK ks) := by
    rw [List.filterMap_map]
    show ks.filterMap (fun e => if nullV e.2.1 = true then none else some (V.ref e.2.2)) = _
    unfold rRefs fullK
    clear t lk hlen hpk hnn hnd hfl hpairs lp lt lr hiv
    induction ks with
    | nil => rfl
    | cons e ks ih =>
      rw [List.filterMap_cons, List.filter_cons]
      cases z : nullV e.2.1
      · simp only [Bool.false_eq_true, if_false, Bool.not_false, if_true, List.map_cons]; rw [ih]
      · simp only [if_true, Bool.not_true, Bool.false_eq_true, if_false]; exact ih
  rw [el]
  have leF := AH.le_set hFu (.list (rRefs (fullK ks)))
  have eF : (H.set Fu (.list (rRefs (fullK ks)))) Fu = some (.list (rRefs (fullK ks))) := AH.set_self _ _ _
  generalize H.set Fu (.list (rRefs (fullK ks))) = H1 at leF eF
  have t1 := t.le leF
  have hm1 : ∀ z : Str, z ≠ "full" → ∀ w, m.lookup z = some w → ((("full" : Str), V.ref Fu) :: m : Locs).lookup z = some w := fun z n w h => by
    rw [List.lookup_cons, beq_eq_false_iff_ne.mpr n]; exact h
  -- told
  refine ex_asg (fun v H2 => ∃ To, v = .ref To ∧ H1 To = none ∧ H2 = H1.set To (.list (tupsL (pairsOf A6 A7 A8 (fullK ks))))) ok ow (ev_call ok ok330.keep (lv := lv + 2) (ev_glob ok rfl g_entries_of ⟨rfl, evs_cons (ev_local ok (hm1 "table" (by decide) _ h1) (evs_nil (c_entries_of (C := C) (lv := lv) hB t1.tab rfl t1.dic (by unfold tKvs; rw [List.length_map]; omega) (ents_of t1.th) fun To hTo => ⟨To, rfl, hTo, ?_⟩)))⟩) (by show lv + 2 ≤ lv + 8; omega)) ?_
  · rw [fullL_eq, hpairs]; rfl
  rintro _ _ ⟨To, rfl, hTo, rfl⟩
  have leT := AH.le_set hTo (.list (tupsL (pairsOf A6 A7 A8 (fullK ks))))
  have eT : (H1.set To (.list (tupsL (pairsOf A6 A7 A8 (fullK ks))))) To = some (.list (tupsL (pairsOf A6 A7 A8 (fullK ks)))) := AH.set_self _ _ _
  generalize H1.set To (.list (tupsL (pairsOf A6 A7 A8 (fullK ks)))) = H2 at leT eT
  have t2 := t1.le leT
  have eF2 := leT _ _ eF
  have hp2 := (hpk.le leF).le leT
  have hm2 : ∀ z : Str, z ≠ "full" → z ≠ "told" → ∀ w, m.lookup z = some w → ((("told" : Str), V.ref To) :: (("full" : Str), V.ref Fu) :: m : Locs).lookup z = some w := fun z n1 n2 w h => by
    rw [List.lookup_cons, beq_eq_false_iff_ne.mpr n2]; exact hm1 z n1 w h
  -- the check
  refine ex_ifF (tv_bool (at_or (tv_cmp (ev_bcall (ev_blt ok rfl n_len b_len (fun _ _ => .bi _) ⟨rfl, evs_cons (ev_local ok rfl (evs_nil (bv_len (.inl eT) (by rw [lt]; omega) (ev_bcall (ev_blt ok rfl n_len b_len (fun _ _ => .bi _) ⟨rfl, evs_cons (ev_local ok rfl (evs_nil (bv_len (.inl eF2) (by rw [lr]; omega) (cmp_ne ⟨fun z => ?_, fun _ => ?_⟩))))⟩)))))⟩)))))
  · rw [lt, lr] at z; simp at z
  refine at_or1 (tv_cmp (ev_comp ok (cap := []) (iv_tcall (ev_blt ok rfl n_zip b_zip (fun _ _ => .ty _) ⟨rfl, evs_cons (ev_local ok rfl (evs_cons (ev_local ok rfl (evs_nil (bi_zip ok rfl eT eF2 fun wr hwr => ?_)))))⟩)) Caps.nil rfl))
  refine comp_gen ((zipL (tupsL (pairsOf A6 A7 A8 (fullK ks))) (rRefs (fullK ks))).map fun _ => none) ["one", "two"] ok hwr (List.length_map ..) (by rw [zipL_length, lt]; omega) rfl (fun C' l w y' ml Hl hw hy' ok' ow' rd rl hml => ?_) (fun Dz hDz => ?_)
  · obtain ⟨u1, u2, hu1, hu2, rfl⟩ := zipL_get hw
    rw [List.getElem?_map, hw] at hy'
    cases hy'
    unfold tupsL pairsOf at hu1
    unfold rRefs at hu2
    rw [List.getElem?_map, List.getElem?_map] at hu1
    rw [List.getElem?_map] at hu2
    cases hc : (fullK ks)[l]? with
    | none => rw [hc] at hu1; cases hu1
    | some e =>
      rw [hc] at hu1 hu2; cases hu1; cases hu2
      obtain ⟨y1, y2, y3⟩ := hp2 e (List.mem_of_getElem? hc)
      have inst : ∀ c K fs, H2 c = some (.inst K fs) → Hl c = some (.inst K fs) := fun c K fs ec => rd c _ ec fun z => by
        rcases List.mem_cons.mp z with z | z
        · rw [z, eT] at ec; cases ec
        · rw [List.mem_singleton.mp z, eF2] at ec; cases ec
      have kin3 : KIn Hl A6 A7 A8 := t2.kin.of inst
      obtain ⟨dc, dd1, dd2, dd3, dd4, dd5, dd6⟩ := y2.data
      have nval : ∀ xs : List TE, [keyAt A6 A7 A8 e.1, e.2.1] ≠ rRefs xs := fun xs z => by
        have h2 : (xs.map fun e => V.ref e.2.2)[1]? = some e.2.1 := (congrArg (fun l : List V => l[1]?) z).symm
        rw [List.getElem?_map] at h2
        cases z2 : xs[1]? with
        | none => rw [z2] at h2; cases h2
        | some e' => rw [z2] at h2; have h2 := Option.some.inj h2; rw [← h2] at dd5; cases dd5
      have ntup : [keyAt A6 A7 A8 e.1, e.2.1] ≠ tupsL (pairsOf A6 A7 A8 (fullK ks)) := fun z => by
        have h2 : ((pairsOf A6 A7 A8 (fullK ks)).map fun e => V.tup [e.1, e.2])[1]? = some e.2.1 := (congrArg (fun l : List V => l[1]?) z).symm
        rw [List.getElem?_map] at h2
        cases z2 : (pairsOf A6 A7 A8 (fullK ks))[1]? with
        | none => rw [z2] at h2; cases h2
        | some e' => rw [z2] at h2; have h2 := Option.some.inj h2; rw [← h2] at dd5; cases dd5
      have hre : Hl e.2.2 = some (.list [keyAt A6 A7 A8 e.1, e.2.1]) := rd _ _ y3 fun z => by
        rcases List.mem_cons.mp z with z | z
        · rw [z, eT] at y3; exact ntup (AO.list.inj (Option.some.inj y3)).symm
        · rw [List.mem_singleton.mp z, eF2] at y3; exact nval _ (AO.list.inj (Option.some.inj y3)).symm
      refine as_pair ok' (as_nameL ok' ow' (as_nameL ok' ow' ⟨rfl, fun z hz => ?_, ?_⟩))
      · rw [List.lookup_cons, beq_eq_false_iff_ne.mpr fun w => hz (by rw [w]; simp), List.lookup_cons, beq_eq_false_iff_ne.mpr fun w => hz (by rw [w]; simp)]; exact hml z hz
      refine tv_bool (at_or (tv_not (tv_call (bb := decide (keyW e.1 = keyW e.1 ∧ keyN e.1 = keyN e.1)) (ev_call ok' ok212.keep (lv := lv + 2) (ev_glob ok' rfl g_same_value ⟨rfl, evs_cons (ev_sub (ev_local ok' rfl (ev_int (gi_tup (by decide) (by show 2 ≤ 1000000; decide) rfl (evs_cons (ev_sub (ev_local ok' rfl (ev_int (gi_list (.inl hre) (by decide) (by show 2 ≤ 1000000; decide) rfl (evs_nil (c_same (C := C) (lv := lv) hB (kin3.key _ y1).2 (kin3.key _ y1).2 ⟨rfl, ?_, fun _ => ?_⟩)))))))))))⟩) (by show lv + 2 ≤ lv + 8; omega)))))
      · intro z; rw [decide_eq_true (⟨rfl, rfl⟩ : _ ∧ _)] at z; cases z
      · refine at_or1 (tv_cmp (ev_sub (ev_local ok' rfl (ev_int (gi_tup (by decide) (by show 2 ≤ 1000000; decide) rfl (ev_sub (ev_local ok' rfl (ev_int (gi_list (.inl hre) (by decide) (by show 2 ≤ 1000000; decide) rfl (cmp_ne_same ok' (dd1 _) (dd1 _) dd2 ⟨rfl, rfl, fun _ z => by cases z⟩))))))))))
  have en : ((zipL (tupsL (pairsOf A6 A7 A8 (fullK ks))) (rRefs (fullK ks))).map fun _ => (none : Option V)).filterMap id = [] := by
    generalize zipL _ _ = zs
    induction zs with
    | nil => rfl
    | cons z zs ih => rw [List.map_cons, List.filterMap_cons]; exact ih
  rw [en]
  refine ev_list (evs_nil ⟨by decide, fun Z hZ => cmp_ne_same ok (.ref (AH.le_set hZ _ _ _ (AH.set_self _ _ _)) .nil) (.ref (AH.set_self _ _ _) .nil) rfl ⟨rfl, ?_⟩⟩)
  have le3 := AH.le.trans (AH.le_set hDz (.list [])) (AH.le_set hZ (.list []))
  generalize (H2.set Dz (.list [])).set Z (.list []) = H3 at le3
  have t3 := t2.le le3
  -- the array
  refine ex_asg (fun v H4 => AH.le H3 H4 ∧ ((fullK ks = [] ∧ v = .none) ∨ (fullK ks ≠ [] ∧ ∃ X ba Dd, v = .ref X ∧ H4 X = some (.inst 236 (arrF 30 (toldN (fullK ks).length) ba Dd)) ∧ H4 ba = some (.list (boundsV [(1, (fullK ks).length), (1, 2)])) ∧ H4 Dd = some (.list (flatL (pairsOf A6 A7 A8 (fullK ks))))))) ok ow (ev_call ok ok335.keep (lv := lv + 5) (ev_glob ok rfl g_table_to_array ⟨rfl, evs_cons (ev_local ok (hm2 "table" (by decide) (by decide) _ h1) (evs_cons (ev_int (evs_nil (c_table_to_array (C := C) (lv := lv) hB t3.tab rfl t3.dic (ents_of t3.th) (by unfold pairsOf; rw [List.length_map]; exact hkl) (fun h0 H4 le4 => ⟨le4, .inl ⟨?_, rfl⟩⟩) (fun h0 X ba Dd H4 le4 e1 e2 e3 => ⟨le4, .inr ⟨?_, X, ba, Dd, rfl, ?_, ?_, ?_⟩⟩))))))⟩) (by show lv + 5 ≤ lv + 8; omega)) ?_
  · rw [hpairs] at h0; exact List.map_eq_nil_iff.mp h0
  · rw [hpairs] at h0; exact fun z => h0 (by rw [z]; rfl)
  · rw [hpairs, lp] at e1; exact e1
  · rw [hpairs, lp] at e2; exact e2
  · rw [hpairs] at e3; exact e3
  rintro v H4 ⟨le4, hcase⟩
  have leA : AH.le H H4 := AH.le.trans (AH.le.trans (AH.le.trans leF leT) le3) le4
  have eF4 := le4 _ _ (le3 _ _ eF2)
  have hmf : ((("array" : Str), v) :: (("told" : Str), V.ref To) :: (("full" : Str), V.ref Fu) :: m : Locs).lookup ("full" : Str) = some (.ref Fu) := rfl
  refine ex_if (tv_cmp (ev_local ok hmf (ev_list (evs_nil ⟨by decide, fun Z2 hZ2 => ?_⟩))))
  have leZ2 := AH.le_set hZ2 (.list [])
  rcases hcase with ⟨h0, rfl⟩ | ⟨h0, X, ba, Dd, rfl, e1, e2, e3⟩
  · rw [h0] at eF4
    refine cmp_eq_same ok (.ref (leZ2 _ _ eF4) .nil) (.ref (AH.set_self _ _ _) .nil) rfl ⟨fun _ => ?_, fun z => by cases z⟩
    exact ex_ret (ev_cmp (ev_local ok rfl (ev_none (cmp_is (q _ _ (fun c o e n => leZ2 _ _ (leA _ _ e)) ⟨_, leZ2 _ _ (leA _ _ hP)⟩)))))
  · have g1 : 1 ≤ (fullK ks).length := by
      cases z : fullK ks with
      | nil => exact absurd z h0
      | cons _ _ => rw [List.length_cons]; omega
    refine cmp_eq_len ok (.inl (leZ2 _ _ eF4)) (.inl (AH.set_self _ _ _)) (by rw [lr]; show (fullK ks).length ≠ 0; omega) ⟨(fun z => by cases z), fun _ => ?_⟩
    have t5 := (t3.le le4).le leZ2
    have leB := AH.le.trans leA leZ2
    have hm3 : ((("array" : Str), V.ref X) :: (("told" : Str), V.ref To) :: (("full" : Str), V.ref Fu) :: m : Locs).lookup ("table" : Str) = some (.ref T) := by
      rw [List.lookup_cons, beq_eq_false_iff_ne.mpr (by decide)]; exact hm2 "table" (by decide) (by decide) _ h1
    exact b_told hB hB4 ok ow hm3 rfl rfl rfl t5.tab (leZ2 _ _ e1) (leZ2 _ _ e2) (leZ2 _ _ e3) (leZ2 _ _ (le4 _ _ (le3 _ _ eT))) (leZ2 _ _ eF4) t5.kin (hpk.le leB) hnd hnn g1 (by omega) (leB _ _ hP) fun H' m' f tg => q H' m' (fun c o e n => f c o (leB _ _ e) n) tg
end

section
variable {C : Con} {lv : Nat} {H : AH} {Q : V → AH → Prop} {R : Int → AH → Prop}
theorem le_but3 {H H' : AH} {x y z : Addr} (hx : H x = none) (hy : H y = none) (hz : H z = none) (f : ∀ b, b ≠ x → b ≠ y → b ≠ z → H' b = H b) : AH.le H H' := fun c o e => by
  rw [f c (nz e hx) (nz e hy) (nz e hz)]; exact e
theorem le_none {H H' : AH} (h : AH.le H H') {c : Addr} (e : H' c = none) : H c = none := by
  cases z : H c with
  | none => rfl
  | some o => rw [h _ _ z] at e; cases e
theorem TSt.unlk {H0 H1 Hn : AH} {a L T D K KL A6 A7 A8 I : Addr} {ts ks : List TE} (t : TSt H0 Hn a L T D K KL A6 A7 A8 ts ks) (lk : Lk H1 [I] [] Hn) (hI : H1 I = none) (h0 : ∀ c o, H0 c = some o → c ≠ a → c ≠ L → H1 c = some o) : TSt H0 (unl H1 [I] [] Hn) a L T D K KL A6 A7 A8 ts ks := by
  have g : ∀ {c o}, Hn c = some o → (∀ l, o ≠ .lock l) → unl H1 [I] [] Hn c = some o := fun e n => lk.unl_get e n
  obtain ⟨_, ns, b, ea, eL, hz⟩ := id t.box
  refine ⟨t.box.of ((g ea fun _ z => by cases z).trans ea.symm) ((g eL fun _ z => by cases z).trans eL.symm), g t.tab (fun _ z => by cases z), g t.dic (fun _ z => by cases z), g t.kep (fun _ z => by cases z), g t.kl (fun _ z => by cases z), t.kin.of (fun a K fs e => g e fun _ z => by cases z), t.tn, t.kn,
    fun e he => let ⟨x1, x2, x3, x4⟩ := t.th e he; ⟨x1, x2, x3, g x4 (fun _ z => by cases z)⟩, fun e he => let ⟨x1, x2, x3, x4⟩ := t.kh e he; ⟨x1, x2, x3, g x4 (fun _ z => by cases z)⟩, t.ap, fun c o e n1 n2 => ?_, t.nw, t.ob⟩
  have e1 := h0 c o e n1 n2
  show (if c ∈ [I] then none else if c ∈ [] then H1 c else Hn c) = some o
  rw [if_neg (nm e1 hI), if_neg List.not_mem_nil]
  exact t.fr c o e n1 n2
set_option maxHeartbeats 1000000 in
theorem c_table_right (hB : Base C.w C.base) (hB4 : BMain C.base) {a L : Addr} (hb : BoxIs H a L) (hP : H 390 = some (.obj (tabObj #[]))) (q : ∀ H', BoxIs H' a L → (∀ c o, H c = some o → c ≠ a → c ≠ L → c ≠ 390 → H' c = some o) → TabG H' 390 → Q (.bool true) H') : CW C (lv + 9) (.ref 393) [.ref a] H Q R := by
  refine cw_defc (lv := lv + 8) ok393 hB (body := bod st393) rfl rfl (fun A stk L' own ok ow => ?_)
  obtain ⟨hne0, ns0, b0, ea0, eL0, hz0⟩ := id hb
  have nPa : 390 ≠ a := fun z => by rw [← z, hP] at ea0; cases ea0
  have nPL : 390 ≠ L := fun z => by rw [← z, hP] at eL0; cases eL0
  refine ex_asgT (ev_tuple (evs_cons (ev_call ok keep255 (lv := lv + 3) (ev_glob ok rfl g_Table ⟨rfl, evs_cons (ev_int (evs_nil (c_Table (C := C) (lv := lv) hB fun T d D H1 hT hD hd hTD hdT eT eD fr1 => evs_cons (ev_list (evs_nil ⟨by decide, fun K hK => evs_nil ⟨by show 2 ≤ 1000; decide, as_pair ok (as_name ok ow (.inr ⟨rfl, rfl⟩) (as_name ok ow (.inl rfl) ?_))⟩⟩)))))⟩) (by show lv + 3 ≤ lv + 8; omega))))
  have le1 : AH.le H H1 := le_but3 hT hD hd fr1
  have leK := AH.le_set hK (.list [])
  have eK : (H1.set K (.list [])) K = some (.list []) := AH.set_self _ _ _
  have eT2 := leK _ _ eT
  have eD2 := leK _ _ eD
  have le2 := AH.le.trans le1 leK
  have hK0 := le_none le1 hK
  have nDK : D ≠ K := (nz eD hK)
  generalize H1.set K (.list []) = H2 at leK eK eT2 eD2 le2
  have tbl : ∀ {m : Locs} {H3 : AH} {n : Int} {K : V → AH → Prop} {R : Int → AH → Prop} {p1 p2 p3 : Pos} {k : Nat}, (∀ x D H4, H3 x = none → AH.le H3 H4 → H4 x = some (.inst 255 (tabF n D)) → K (.ref x) H4) →
      EV (Cx.fn C (lv + 8) A (callEnvC fd393 L' 393) stk own) (.Call (.Name "Table" p1) [.Constant (.int n) k p2] [] p3) m H3 K R := fun hk =>
    ev_call ok keep255 (lv := lv + 3) (ev_glob ok rfl g_Table ⟨rfl, evs_cons (ev_int (evs_nil (c_Table (C := C) (lv := lv) hB fun x d D H4 hx hD hd _ _ e1 e2 fr => hk x D H4 hx (le_but3 hx hD hd fr) e1)))⟩) (by show lv + 3 ≤ lv + 8; omega)
  refine ex_asg (fun v H3 => ∃ KL A6 A7 A8, v = .ref KL ∧ AH.le H2 H3 ∧ H2 KL = none ∧ H2 A6 = none ∧ H2 A7 = none ∧ H2 A8 = none ∧ H3 KL = some (.list (keyL A6 A7 A8)) ∧ KIn H3 A6 A7 A8) ok ow
    (ev_list (evs_cons (ev_int (evs_cons (ev_str (evs_cons (ev_str (evs_cons (ev_str (evs_cons (ev_int (evs_cons (ev_bin (ev_int (ev_int (op_sub (evs_cons (tbl fun A6 D6 H3 h6 l6 e6 => evs_cons (ev_call ok keep236 (lv := lv + 3) (ev_glob ok rfl g_Array ⟨rfl, evs_cons (ev_int (evs_cons (ev_str (evs_cons (ev_list (evs_cons (ev_tuple (evs_cons (ev_int (evs_cons (ev_int (evs_nil ⟨by show 2 ≤ 1000; decide, evs_nil ⟨by show 1 ≤ 1000; decide, fun ba hba => evs_cons (ev_str (evs_nil (c_Array (C := C) (lv := lv) (bs := [(1, 2)]) hB (AH.set_self _ _ _) (fun p hp => bits_small (by rw [List.mem_singleton.mp hp]; decide)) (by decide) (by decide) fun A7 d7 I7 H4 h7 hI7 hd7 _ _ e7 _ l7 => evs_cons (tbl fun A8 D8 H5 h8 l8 e8 => evs_nil ⟨by show 9 ≤ 1000; decide, fun KL hKL => ?_⟩))))⟩⟩))))))))))))⟩) (by show lv + 3 ≤ lv + 8; omega)))))))))))))))))))) ?_
  · have l67 := AH.le.trans (AH.le_set hba (.list [.tup [.int 1, .int 2]])) l7
    have lKL := AH.le_set hKL (.list (keyL A6 A7 A8))
    have l58 := AH.le.trans l8 lKL
    have l48 := AH.le.trans l67 l58
    refine ⟨KL, A6, A7, A8, rfl, AH.le.trans l6 l48, ?_, h6, ?_, ?_, AH.set_self _ _ _, ⟨⟨D6, l48 _ _ e6⟩, ⟨ba, I7, l58 _ _ e7⟩, ⟨D8, lKL _ _ e8⟩⟩⟩
    · exact le_none (AH.le.trans l6 (AH.le.trans l67 l8)) hKL
    · exact le_none (AH.le.trans l6 (AH.le_set hba _)) h7
    · exact le_none (AH.le.trans l6 l67) h8
  rintro _ H3 ⟨KL, A6, A7, A8, rfl, le3, hKL, h6, h7, h8, eKL, kin⟩
  have le03 := AH.le.trans le2 le3
  have t : TSt H H3 a L T D K KL A6 A7 A8 [] [] := ⟨hb.of ((le03 _ _ ea0).trans ea0.symm) ((le03 _ _ eL0).trans eL0.symm), le3 _ _ eT2, le3 _ _ eD2, le3 _ _ eK, eKL, kin, List.nodup_nil, List.nodup_nil, (fun _ h => nomatch h), (fun _ h => nomatch h), (fun _ h => nomatch h), fun c o e _ _ => le03 _ _ e,
    fun c hc => by
      rcases hc with rfl | rfl | rfl | rfl | rfl | rfl | rfl
      · exact hT
      · exact hD
      · exact hK0
      · exact le_none le2 hKL
      · exact le_none le2 h6
      · exact le_none le2 h7
      · exact le_none le2 h8, ⟨(by rw [ea0]; exact fun z => by cases z), (by rw [eL0]; exact fun z => by cases z)⟩⟩
  refine ex_for ok Top1.fnC (iv_tcall (ev_blt ok rfl n_range b_range (fun _ _ => .ty _) ⟨rfl, evs_cons (ev_bin (ev_int (ev_call ok ok359.keep (lv := lv + 1) (ev_glob ok rfl g__law_take ⟨rfl, evs_cons (ev_local ok rfl (evs_cons (ev_int (evs_nil (c_take (C := C) (lv := lv) (m := 9) hB t.box (by decide) fun r H4 hr hb4 fr4 => op_add (evs_nil ?_))))))⟩) (by show lv + 1 ≤ lv + 8; omega))))⟩))
  have t4 := t.take hb4 fr4
  have hsm : ∀ r : Nat, r < 9 → Builtin.Range.small 0 (1 + (r : Int)) 1 = true ∧ Builtin.Range.rangeSize 0 (1 + (r : Int)) 1 = ((r + 1 : Nat) : Int) := by decide
  refine bi_range1 (n := r + 1) ok (hsm r hr).1 (hsm r hr).2 fun I hI => ⟨fun i mi Hi => ∃ ts ks, (∀ z : Str, z ≠ "turn" → z ≠ "pair" → z ≠ "due" → z ≠ "ref" → z ≠ "key" → z ≠ "value" → mi.lookup z = ([("keys", .ref KL), ("kept", .ref K), ("table", .ref T), ("box", .ref a)] : Locs).lookup z) ∧ TSt H Hi a L T D K KL A6 A7 A8 ts ks ∧ ivs ts = ivs ks ∧ ts.length ≤ i, ?_, ?_, ?_⟩
  · refine ⟨[], [], fun _ _ _ _ _ _ _ => rfl, t4.le fun c o e => ?_, rfl, Nat.le_refl _⟩
    rw [lockH_ne (nm e hI) List.not_mem_nil]; exact e
  · rintro i xv mi Hi hxv ⟨ts, ks, hm, ti, hiv, hl⟩ _
    have hi : i < 9 := by
      have := (List.getElem?_eq_some_iff.mp hxv).1
      unfold rangeL at this
      rw [List.length_map, List.length_range] at this; omega
    refine as_name ok ow (.inl rfl) ?_
    have hm1 : ∀ z : Str, z ≠ "turn" → z ≠ "pair" → z ≠ "due" → z ≠ "ref" → z ≠ "key" → z ≠ "value" → ((("turn" : Str), xv) :: mi : Locs).lookup z = ([("keys", .ref KL), ("kept", .ref K), ("table", .ref T), ("box", .ref a)] : Locs).lookup z := fun z n1 n2 n3 n4 n5 n6 => by
      rw [List.lookup_cons, beq_eq_false_iff_ne.mpr n1]; exact hm z n1 n2 n3 n4 n5 n6
    refine t_turnA hB ok ow ti (by omega) hiv (hm1 "box" (by decide) (by decide) (by decide) (by decide) (by decide) (by decide)) (hm1 "kept" (by decide) (by decide) (by decide) (by decide) (by decide) (by decide)) (hm1 "keys" (by decide) (by decide) (by decide) (by decide) (by decide) (by decide)) (hm1 "table" (by decide) (by decide) (by decide) (by decide) (by decide) (by decide)) fun m' H' ts' ks' hm' t' hiv' hl' => ?_
    exact ⟨ts', ks', fun z n1 n2 n3 n4 n5 n6 => (hm' z n2 n3 n4 n5 n6).trans (hm1 z n1 n2 n3 n4 n5 n6), t', hiv', by omega⟩
  · rintro mn Hn ⟨ts, ks, hm, tn, hiv, hl⟩ lk
    have hll : (rangeL 0 (r + 1) 1).length = r + 1 := by unfold rangeL; rw [List.length_map, List.length_range]
    rw [hll] at hl
    have tu := tn.unlk lk hI t4.fr
    refine b_full hB hB4 ok ow tu (by omega) hiv ((hm "table" (by decide) (by decide) (by decide) (by decide) (by decide) (by decide)).trans rfl) ((hm "kept" (by decide) (by decide) (by decide) (by decide) (by decide) (by decide)).trans rfl) (tu.fr _ _ hP nPa nPL) fun H' m' f tg => ?_
    obtain ⟨_, ns, b, ea, eL, hz⟩ := id tu.box
    exact q H' (tu.box.of ((f _ _ ea nPa.symm).trans ea.symm) ((f _ _ eL nPL.symm).trans eL.symm)) (fun c o e n1 n2 n3 => f c o (tu.fr c o e n1 n2) n3) tg
end

noncomputable def lawPos : Pos := ⟨301, 49, 301, 78⟩
noncomputable def wrongL : List Str := ["", "0", "a", "3,", "2:1", "1:2:3", "1.5", ",2", "3:", " 3", "5,-1"]
theorem wrong_none : ∀ t ∈ wrongL, readB t = none ∧ t.length ≤ 900 := by decide +kernel
/-- displays of strings; kept from view, for the elaborator runs what it sees -/
inductive AreStrs : List Expr → List Str → Prop
  | nil : AreStrs [] []
  | cons {s : Str} {k : Nat} {p : Pos} {es : List Expr} {ss : List Str} : AreStrs es ss → AreStrs (.Constant (.str s) k p :: es) (s :: ss)
theorem evs_strs {Γ : Cx} {m : Locs} {H : AH} {R : Int → AH → Prop} {es : List Expr} {ss : List Str} {Q : List V → AH → Prop} (h : AreStrs es ss) (q : Q (ss.map .str) H) : EVs Γ es m H Q R := by
  induction h generalizing Q with
  | nil => exact evs_nil q
  | cons h ih => exact evs_cons (ev_str (ih q))
/-- the code of law's lambda, once it is made -/
inductive LamMade (H : AH) : Prop
  | mk (ps : Array Value) (c' : Addr) (oc : Obj) (vs : Array Value) (tq : Tok) (e1 : H 395 = some (.obj (tabObj ps))) (e2 : TriplesOk ps.toList) (e3 : codeAmong lawPos ps.toList = some (.ref c')) (e4 : H c' = some (.obj oc)) (e5 : oc.data = .fields vs) (e6 : vs[1]? = some (.str ((("law" : Str) ++ (".<locals>." : Str)) ++ ("<lambda>" : Str)) tq))
theorem LamMade.le {H H' : AH} (h : LamMade H) (l : ∀ c ob, H c = some (.obj ob) → H' c = some (.obj ob)) : LamMade H' := by
  obtain ⟨ps, c', oc, vs, tq, a, b, c, d, e, f⟩ := h
  exact ⟨ps, c', oc, vs, tq, l _ _ a, b, c, l _ _ d, e, f⟩
theorem okc_of {Γ : Cx} {scope : Scope} {x : Str} {C c : Addr} (ok : Γ.Ok) (ow : Owns (Γ.compc scope x C c)) (hk : scope.kind = .function) : (Γ.compc scope x C c).Ok := ok.compc hk
section
variable {C : Con} {lv : Nat} {A : Around} {stk : List Env} {L' : Addr} {own : List Addr} {m : Locs} {H : AH} {Q : Fl → Locs → AH → Prop} {R : Int → AH → Prop}
set_option maxHeartbeats 1000000 in
theorem l_wrong (hB : Base C.w C.base) (hB4 : BMain C.base) (ok : (Cx.fn C (lv + 9) A (callEnv fd398 L' 398) stk own).Ok) (ow : Owns (Cx.fn C (lv + 9) A (callEnv fd398 L' 398) stk own))
    (hP : H 395 = some (.obj (tabObj #[]))) (hA : TabG H 385) (hC : TabG H 390) (q : ∀ m' H', TabG H' 385 → TabG H' 390 → TabG H' 395 → Q (.ret (.bool true)) m' H') : EX (Cx.fn C (lv + 9) A (callEnv fd398 L' 398) stk own) ((bod st398).drop 2) m H Q R := by
  have key : ∀ (es : List Expr) (p1 p2 p3 : Pos), AreStrs es wrongL → (∀ W, H W = none → EX (Cx.fn C (lv + 9) A (callEnv fd398 L' 398) stk own) ((bod st398).drop 3) (("wrong", .ref W) :: m) (H.set W (.list (wrongL.map .str))) Q R) → EX (Cx.fn C (lv + 9) A (callEnv fd398 L' 398) stk own) (.Assign [.Name "wrong" p1] (.List es p2) p3 :: (bod st398).drop 3) m H Q R := fun es p1 p2 p3 hes h => by
    refine ex_asg (fun v H1 => ∃ W, v = .ref W ∧ H W = none ∧ H1 = H.set W (.list (wrongL.map .str))) ok ow (ev_list (evs_strs hes ⟨by show 11 ≤ 1000; decide, fun W hW => ⟨W, rfl, hW, rfl⟩⟩)) ?_
    rintro _ _ ⟨W, rfl, hW, rfl⟩
    exact h W hW
  refine @key _ _ _ _ (.cons (.cons (.cons (.cons (.cons (.cons (.cons (.cons (.cons (.cons (.cons .nil))))))))))) fun W hW => ?_
  clear key
  have leW := AH.le_set hW (.list (wrongL.map .str))
  have hP1 := leW _ _ hP
  have hA1 := hA.le leW
  have hC1 := hC.le leW
  have eW : (H.set W (.list (wrongL.map .str))) W = some (.list (wrongL.map .str)) := AH.set_self _ _ _
  generalize H.set W (.list (wrongL.map .str)) = H1 at eW hP1 hA1 hC1
  refine ex_ret (ev_cmp (ev_comp_cell ok (x := "text") (iv_of (ev_local ok rfl (it_list ok eW fun I hI => ?_))) rfl))
  intro C' c D ow' hD hw1 hl1
  have ok' := okc_of ok ow' rfl
  have nD : 395 ≠ D := (nz hP1 hD)
  have nI : (395 : Addr) ∉ [I] := (nm hP1 hI)
  have nW : (395 : Addr) ∉ [W] := fun z => by rw [List.mem_singleton.mp z, eW] at hP1; cases hP1
  refine ⟨fun i mi Hi => Hi D = some (.list []) ∧ TabG Hi 385 ∧ TabG Hi 390 ∧ (Hi 395 = some (.obj (tabObj #[])) ∨ LamMade Hi), ⟨?_, ?_, ?_, .inl ?_⟩, ?_, ?_⟩
  · rw [lockH_ne hw1 hl1, AH.set_self]
  · obtain ⟨ps, e⟩ := hA1
    exact ⟨ps, by rw [lockH_ne (nm e hI) (fun z => by rw [List.mem_singleton.mp z, eW] at e; cases e), AH.set_ne _ _ (nz e hD)]; exact e⟩
  · obtain ⟨ps, e⟩ := hC1
    exact ⟨ps, by rw [lockH_ne (nm e hI) (fun z => by rw [List.mem_singleton.mp z, eW] at e; cases e), AH.set_ne _ _ (nz e hD)]; exact e⟩
  · rw [lockH_ne nI nW, AH.set_ne _ _ nD]; exact hP1
  · rintro i v mi Hi hv ⟨hDi, hAi, hCi, hlam⟩ _
    rw [List.getElem?_map] at hv
    cases hc : wrongL[i]? with
    | none => rw [hc] at hv; cases hv
    | some t =>
      rw [hc] at hv; cases hv
      obtain ⟨hn, hz⟩ := wrong_none t (List.mem_of_getElem? hc)
      refine as_name ok' ow' (.inr ⟨rfl, rfl⟩) ?_
      have done : ∀ H4, H4 D = some (.list []) → LamMade H4 → H4 D = some (.list []) ∧ (H4 395 = some (.obj (tabObj #[])) ∨ LamMade H4) := fun H4 a b => ⟨a, .inr b⟩
      rcases hlam with hP2 | hmade
      · refine tv_cmp ((ev_lawerr (lv := lv + 7) (cap := [("text", .str t)]) (Q := fun v H4 => v = .int 6 ∧ H4 D = some (.list []) ∧ TabG H4 385 ∧ TabG H4 390 ∧ LamMade H4) ok' hB4 rfl rfl (hd397 _ ok.base.K) hP2 trivial rfl rfl rfl ?_ (fun _ _ _ => rfl) (by decide) rfl rfl rfl (Nat.le_refl _) fun c' oc vs tq hcn hd hv hcP => ?_).mono fun v H4 p => ?_)
        · refine LamSee.of fun p hp => ?_
          simp only [List.mem_cons, List.not_mem_nil, or_false] at hp
          subst hp
          exact ⟨rfl, rfl, rfl, rfl, .str _⟩
        · intro C2 pm c2 ct fa hB2 A2 stk2 L2 own2 ok2
          refine ev_call ok2 ok271.keep (lv := lv + 4) (ev_glob ok2 rfl g_read_bounds ⟨rfl, evs_cons (ev_local ok2 rfl (evs_cons (ev_int (evs_nil (c_read_bounds (C := C2) (lv := lv) hB2 hz (fun bs hrd => ?_) fun _ H5 le5 => ⟨rfl, ?_, ?_, ?_, ?_⟩)))))⟩) (by show lv + 4 ≤ lv + 7; omega)
          · rw [hn] at hrd; cases hrd
          · refine le5 _ _ ?_
            rw [AH.set_ne _ _ (nz hDi hcn), AH.set_ne _ _ nD.symm]; exact hDi
          · refine TabG.le (hAi.imp fun _ e => ?_) le5
            rw [AH.set_ne _ _ (nz e hcn), AH.set_ne _ _ (by decide)]; exact e
          · refine TabG.le (hCi.imp fun _ e => ?_) le5
            rw [AH.set_ne _ _ (nz e hcn), AH.set_ne _ _ (by decide)]; exact e
          · refine LamMade.le ?_ fun c ob => le5 c _
            refine ⟨_, c', oc, vs, tq, by rw [AH.set_ne _ _ hcP.symm]; exact AH.set_self _ _ _, ?_, ?_, AH.set_self _ _ _, hd, hv⟩
            · rw [Array.toList_append]; trivial
            · rw [Array.toList_append]; exact codeAmong_snoc [] trivial rfl
        · obtain ⟨rfl, e1, ea, ec, e2⟩ := p
          exact ev_int (cmp_ne ⟨e1, ea, ec, .inr e2⟩)
      · obtain ⟨ps, c', oc, vs, tq, e1, e2, e3, e4, e5, e6⟩ := id hmade
        refine tv_cmp ((ev_lawerr2 (lv := lv + 7) (cap := [("text", .str t)]) (Q := fun v H4 => v = .int 6 ∧ H4 D = some (.list []) ∧ TabG H4 385 ∧ TabG H4 390 ∧ LamMade H4) ok' hB4 rfl rfl (hd397 _ ok.base.K) e1 e2 e3 e4 e5 e6 rfl rfl ?_ (fun _ _ _ => rfl) (by decide) rfl rfl rfl (Nat.le_refl _) ?_).mono fun v H4 p => ?_)
        · refine LamSee.of fun p hp => ?_
          simp only [List.mem_cons, List.not_mem_nil, or_false] at hp
          subst hp
          exact ⟨rfl, rfl, rfl, rfl, .str _⟩
        · intro C2 pm c2 ct fa hB2 A2 stk2 L2 own2 ok2
          refine ev_call ok2 ok271.keep (lv := lv + 4) (ev_glob ok2 rfl g_read_bounds ⟨rfl, evs_cons (ev_local ok2 rfl (evs_cons (ev_int (evs_nil (c_read_bounds (C := C2) (lv := lv) hB2 hz (fun bs hrd => ?_) fun _ H5 le5 => ⟨rfl, le5 _ _ hDi, hAi.le le5, hCi.le le5, hmade.le fun c ob => le5 c _⟩)))))⟩) (by show lv + 4 ≤ lv + 7; omega)
          rw [hn] at hrd; cases hrd
        · obtain ⟨rfl, e1, ea, ec, e2⟩ := p
          exact ev_int (cmp_ne ⟨e1, ea, ec, .inr e2⟩)
  · rintro mn Hn ⟨hDn, hAn, hCn, hln⟩ lk
    have g : ∀ {P}, TabG Hn P → TabG (unl (H1.set D (.list [])) [I] [W] Hn) P := fun t => t.imp fun _ e => lk.unl_get e fun _ z => by cases z
    have h95 : TabG Hn 395 := by
      rcases hln with e | ⟨ps, _, _, _, _, e, _⟩
      · exact ⟨_, e⟩
      · exact ⟨_, e⟩
    refine ev_list (evs_nil ⟨by decide, fun Z hZ => cmp_eq_same ok (.ref (AH.le_set hZ _ _ _ (lk.unl_get hDn fun _ z => by cases z)) .nil) (.ref (AH.set_self _ _ _) .nil) rfl (q _ _ ((g hAn).le (AH.le_set hZ _)) ((g hCn).le (AH.le_set hZ _)) ((g h95).le (AH.le_set hZ _)))⟩)
end

section
variable {C : Con} {lv : Nat} {A : Around} {stk : List Env} {L' : Addr} {own : List Addr} {m : Locs} {H : AH} {Q : Fl → Locs → AH → Prop} {R : Int → AH → Prop}
set_option maxHeartbeats 1000000 in
theorem l_body (hB : Base C.w C.base) (hB4 : BMain C.base) (ok : (Cx.fn C (lv + 9) A (callEnv fd398 L' 398) stk own).Ok) (ow : Owns (Cx.fn C (lv + 9) A (callEnv fd398 L' 398) stk own)) {ns : List Int} (hz : ns.length ≤ 1000) (hs : m.lookup ("script" : Str) = some (.lst (intsV ns)))
    (h385 : H 385 = some (.obj (tabObj #[]))) (h390 : H 390 = some (.obj (tabObj #[]))) (h395 : H 395 = some (.obj (tabObj #[]))) (q : ∀ m' H', TabG H' 385 → TabG H' 390 → TabG H' 395 → Q (.ret (.bool true)) m' H') : EX (Cx.fn C (lv + 9) A (callEnv fd398 L' 398) stk own) (bod st398) m H Q R := by
  refine ex_asg (fun v H1 => ∃ a L, v = .ref a ∧ AH.le H H1 ∧ H a = none ∧ H L = none ∧ BoxIs H1 a L) ok ow (ev_call ok ok364.keep (lv := lv + 1) (ev_glob ok rfl g__law_box ⟨rfl, evs_cons (ev_local ok hs (evs_nil (c_box (C := C) (lv := lv) hB hz fun a L H1 le ha hL hb => ⟨a, L, rfl, le, ha, hL, hb⟩)))⟩) (by show lv + 1 ≤ lv + 9; omega)) ?_
  rintro _ H1 ⟨a, L, rfl, le, ha, hL, hb⟩
  have ne : ∀ {c o}, H c = some o → c ≠ a ∧ c ≠ L := fun e => ⟨(nz e ha), (nz e hL)⟩
  refine ex_ifF (tv_bool (at_or (tv_not (tv_call (bb := true) (ev_call ok ok388.keep (lv := lv + 9) (ev_glob ok rfl g__law_array_right ⟨rfl, evs_cons (ev_local ok rfl (evs_nil (c_array_right (C := C) (lv := lv) hB hB4 hb (le _ _ h385) fun H2 hb2 f2 tA => ⟨rfl, (fun z => by cases z), fun _ => ?_⟩)))⟩) (Nat.le_refl _))))))
  have e390 := f2 _ _ (le _ _ h390) (ne h390).1 (ne h390).2 (by decide)
  have e395 := f2 _ _ (le _ _ h395) (ne h395).1 (ne h395).2 (by decide)
  refine at_or1 (tv_not (tv_call (bb := true) (ev_call ok ok393.keep (lv := lv + 9) (ev_glob ok rfl g__law_table_right ⟨rfl, evs_cons (ev_local ok rfl (evs_nil (c_table_right (C := C) (lv := lv) hB hB4 hb2 e390 fun H3 hb3 f3 tC => ⟨rfl, rfl, ?_⟩)))⟩) (Nat.le_refl _))))
  obtain ⟨pA, eA⟩ := id tA
  have n385 : ∀ {c o}, H2 c = some o → c = 385 → H3 385 = some o := fun e z => f3 _ _ (z ▸ e) (ne h385).1 (ne h385).2 (by decide)
  refine @l_wrong _ _ _ _ _ _ _ _ _ _ hB hB4 ok ow (f3 _ _ e395 (ne h395).1 (ne h395).2 (by decide)) ?_ tC q
  exact ⟨pA, n385 eA rfl⟩
end

section
variable {C : Con} {lv : Nat} {H : AH}
theorem c_law (hB : Base C.w C.base) (hB4 : BMain C.base) {ns : List Int} (hz : ns.length ≤ 1000)
    (h385 : H 385 = some (.obj (tabObj #[]))) (h390 : H 390 = some (.obj (tabObj #[]))) (h395 : H 395 = some (.obj (tabObj #[]))) :
    CW C (lv + 10) (.ref 398) [.lst (intsV ns)] H (fun v H' => v = .bool true ∧ TabG H' 385 ∧ TabG H' 390 ∧ TabG H' 395) (fun _ _ => False) :=
  cw_def ok398 hB (body := bod st398) rfl rfl fun A stk L own ok ow => l_body hB hB4 ok ow hz rfl h385 h390 h395 fun m' H' a b c => ⟨rfl, a, b, c⟩
end
noncomputable abbrev tabs : List (Addr × Addr) := [(387, 385), (392, 390), (397, 395)]
theorem tabs_at {w : World} {h : Heap} (X : (frag w.params).In h) (h1 : h.get? 385 = some (tabObj #[])) (h2 : h.get? 390 = some (tabObj #[])) (h3 : h.get? 395 = some (tabObj #[])) : TabsAt tabs h := by
  rintro q hq
  rcases List.mem_cons.mp hq with rfl | hq
  · exact ⟨hd387 _ X, h1⟩
  rcases List.mem_cons.mp hq with rfl | hq
  · exact ⟨hd392 _ X, h2⟩
  · cases List.mem_singleton.mp hq
    exact ⟨hd397 _ X, h3⟩
theorem rel_ints {H : AH} {h : Heap} {vs : List Value} {ns : List Int} (i : IntsAre vs ns) : RelAll H h vs (intsV ns) := by
  induction i with
  | nil => exact .nil
  | cons n t _ ih => exact .cons (.int n t) ih
/-- the proof's heap at the start: the three tables -/
noncomputable def H0 : AH := fun b => if b = 385 ∨ b = 390 ∨ b = 395 then some (.obj (tabObj #[])) else none
theorem law_code {w : World} {s₁ : Shared} {vs : List Value} {ns : List Int} {a : Addr} {mean : ExcName → Option Value} {mg mb : Str → Option Value} {cw : ClaimW} {cl : Str → Option Addr} {args : List WData}
    (X : (frag w.params).In s₁.heap) (h1 : s₁.heap.get? 385 = some (tabObj #[])) (h2 : s₁.heap.get? 390 = some (tabObj #[])) (h3 : s₁.heap.get? 395 = some (tabObj #[]))
    (T : Top view (looseW view [Str.ofString "SnobolError"]) mean mg mb s₁.heap) (hg : s₁.gens = #[]) (hL : s₁.heap.IsList a vs.toArray) (hI : IntsAre vs ns) (hz : ns.length ≤ 1000)
    (hr : ∀ a x, cw.raises a x = false) (hp : cw.post args (.bool true) args = true) :
    codeAny (Mw w) callerA (.call (.ref 398) ⟨[.ref a], []⟩) (GoodWG cw cl mean args s₁) s₁ := by
  have hT := tabs_at X h1 h2 h3
  refine kn_post hT hr ?_
  obtain ⟨ol, e1, e2, n, e3⟩ := hL
  have e385 : (ghostOf s₁.heap tabs).get? 385 = none := hideAll_none _ (by decide)
  have e390 : (ghostOf s₁.heap tabs).get? 390 = none := hideAll_none _ (by decide)
  have e395 : (ghostOf s₁.heap tabs).get? 395 = none := hideAll_none _ (by decide)
  have hn : ∀ b, H0 b ≠ none → b = 385 ∨ b = 390 ∨ b = 395 := fun b q => by
    by_cases z : b = 385 ∨ b = 390 ∨ b = 395
    · exact z
    · exact absurd (if_neg z) q
  have ha : H0 a = none := by
    cases q : H0 a with
    | none => rfl
    | some o =>
      have z := hn a (fun z => by rw [z] at q; cases q)
      rcases z with rfl | rfl | rfl <;> simp_all
  have hB : Base w (ghostOf s₁.heap tabs) := ⟨ghost_K hT X (by kernel_rfl), mg, mb, ⟨ghost_ns hT T.g, ghost_ns hT T.b, let ⟨mc, a, r⟩ := T.nolimit; ⟨mc, ghost_ns hT a, r⟩, T.builtins, T.free⟩⟩
  have hB4 : BMain (ghostOf s₁.heap tabs) := by
    obtain ⟨bm, ob, a1, a2, a3, a4, a5, a6⟩ := T.bmain
    have e4 := mg_of X T.g (g_builtins _)
    rw [show mg ("__builtins__" : Str) = some (.ref bm) from a1] at e4
    cases e4
    exact ⟨ob, ghost_get hT a3 (fun q => by rw [q] at a4; cases a4), a4, a5, a6⟩
  have sim : Sim w (ghostOf s₁.heap tabs) s₁.os H0 s₁ := by
    refine ⟨fun b o e => of_hideAll _ e, fun b o e => ?_, fun b o e => ?_, hg, rfl⟩
    · rcases hn b (by rw [e]; exact nofun) with rfl | rfl | rfl <;> cases e
      · exact h1
      · exact h2
      · exact h3
    · rcases hn b (by rw [e]; exact nofun) with rfl | rfl | rfl
      · exact e385
      · exact e390
      · exact e395
  have key := @c_law ⟨w, ghostOf s₁.heap tabs, s₁.os⟩ 0 H0 hB hB4 ns hz rfl rfl rfl
  refine codeAny_mono (key callerA [] s₁ [.ref a] rfl (by decide) (by decide) rfl trivial (fun _ h => nomatch h) sim
    (.cons (.lst e1 e2 e3 ha (by rw [List.toList_toArray]; exact rel_ints hI)) .nil)) fun r s' p => ?_
  rcases r with e | (v | _ | _ | _)
  · obtain ⟨n, H', e, x, y, r, z, q⟩ := p; exact q.elim
  all_goals first | exact (show False from p).elim | skip
  obtain ⟨mv, H', x, y, r, rfl, t1, t2, t3⟩ := p
  cases r
  have gr : ∀ {P}, TabG H' P → GrownAt P s'.heap := fun ⟨ps, e⟩ => ⟨ps, y.view _ _ e⟩
  exact ⟨⟨.inl ⟨_, .bool true, [], rfl, hr _, .bool true, hp, fun _ => ⟨.nil, fun _ h => nomatch h⟩⟩, y.stays, y.os, y.gens⟩, gr t1, gr t2, gr t3, trivial⟩

theorem frag2_in {P : Params} {h : Heap} (X : (frag2 P).In h) : (frag P).In h ∧ h.get? 385 = some (tabObj #[]) ∧ h.get? 390 = some (tabObj #[]) ∧ h.get? 395 = some (tabObj #[]) := by
  refine ⟨fun a o e => X a o ?_, X _ _ (by kernel_rfl), X _ _ (by kernel_rfl), X _ _ (by kernel_rfl)⟩
  unfold frag2
  rw [List.lookup_append, e]; rfl
theorem g_law : ∀ P, nsIn (frag P) mainGlobals ("law" : Str) = some (some (.ref 398)) := fun P => by kernel_rfl
theorem post_true (l : List WData) : (PySem.Challenge.rw_np0299_01.row).claim.post l (.bool true) l = true := by
  first | (rfl; done) | (kernel_rfl; done)
end Np
set_option maxHeartbeats 8000000 in
theorem PySem.Challenge.cw_np0299_01_holds : PySem.Challenge.rw_np0299_01.Holds := by
  w_on
  refine holds_law (by decide +kernel) fun said => ?_
  refine holds_open (r := PySem.Challenge.rw_np0299_01.row) (q := Np.view) (loose := [Str.ofString "SnobolError"]) (Xt := Np.xt) (XP := XL Np.view []) (Yf := Hook.obs Np.hook) (Ya := Hook.val Np.hook) (YP := Hook.says Np.hook) (N := 5908) Np.left (Hook.of Np.hook) (Hook.keeps Np.hook) (fun s e => xl_of s (Bool.and_eq_true_iff.mp e).1) XL.keeps (by rfl) (by rfl) (by rfl) (fun s e => recFacts_of (Bool.and_eq_true_iff.mp e).2) (by rfl) said (by decide +kernel) ⟨rfl, rfl, rfl, rfl, rfl, by decide +kernel⟩ ?hw ?hc
  case hw => w_witness2
  case hc =>
    intro w s₀ s₁ mg mb G Y fa o pm cd doc dV kV ho hd hcd hD hmg hg args vals as hpre hlay hrd hwl hlo
    obtain ⟨KX, h1, h2, h3⟩ := Np.frag2_in (kIn_of Y)
    refine Ground.open G ?_
    intro T B D TE TW
    have hfa : fa = 398 := by
      have e := mg_of KX T.g (Np.g_law _)
      have e2 : some (Value.ref 398) = some (Value.ref fa) := e.symm.trans hmg
      cases e2; rfl
    clear hmg hD D B TE TW hcd hd ho
    subst hfa
    wrow_args hpre hlay hrd hwl hlo
    rename_i a vs _ hL _ _ _ hI _ hc _
    refine enter_call ?_
    exact Np.law_code KX h1 h2 h3 T hg hL hI (by omega) (fun _ _ => rfl) (Np.post_true _)

