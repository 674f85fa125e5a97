import PyProof.Rows.All
import Wide.All
import OpenK.AllK
import Wide.FinOn
import PySem.Challenge.RW_pb0359_01
set_option Elab.async false
set_option linter.all false
set_option maxRecDepth 100000
set_option autoImplicit false
set_option genSizeOf false
set_option genInjectivity false
noncomputable section
set_option maxHeartbeats 0
namespace Mine
open PySem PySem.W PyProof.Rows PySem.Calls
noncomputable abbrev pw : Program := PySem.Challenge.pw_pb0359_01
namespace H
noncomputable abbrev S (s : String) : Str := Str.ofString s
noncomputable def v (s : String) (t : Tok) : Value := .str (Str.ofString s) t
noncomputable def e (P : Params) (k : String) (t : Tok) (x : Value) : DictEntry := ⟨PyData.keyHash P (Str.ofString k), .str (Str.ofString k) t, x⟩
noncomputable abbrev DF := Arguments × List Stmt × Scope
noncomputable def ofDef : Option Stmt → DF
  | some (.FunctionDef _ a b _ _ _ sc _ _ _) => (a, b, sc)
  | _ => default
noncomputable def dF (i : Nat) : DF := ofDef pw.main.body[i]?
noncomputable def dM (i j : Nat) : DF := match pw.main.body[i]? with
  | some (.ClassDef _ _ _ body _ _ _ _ _ _ _) => ofDef body[j]?
  | _ => default
noncomputable def mkF (d : DF) (name qual : Str) (g : Addr) (dv kv doc pm code ct : Value) (bl : Addr) : FuncData :=
  { name := name, qualname := qual, params := d.1, body := .stmts d.2.1, scope := d.2.2, globals := g, closure := [], defaults := dv, kwdefaults := kv, doc := doc, pyModule := pm, annotations := none, code := code, closureTuple := ct, builtins := bl }
noncomputable def kF (d : DF) (a b : String) : Obj := ⟨.none, none, (.func (mkF d (S a) (S b) 0 .none .none .none .none .none .none 0)), ⟨[]⟩⟩
noncomputable def kU (d : DF) (a b : String) (dv : Value) (m : String) (mt c : Nat) (ct : Value) : Obj := ⟨(.type "function"), none, (.func (mkF d (S a) (S b) 3 dv .none .none (v m mt) (.ref c) ct 0)), ⟨[]⟩⟩
noncomputable def kC (a : String) (t1 : Nat) (b : String) (t2 t3 : Nat) (l n k : Int) (r1 r2 : Nat) (x1 x2 x3 x4 : Value) (t4 : Int) (t5 : Nat) : Obj := ⟨(.type "code"), none, (.fields ⟨[(v a t1), (v b t2), (v "/claim/cut.py" t3), (.int l 0), (.int n 0), (.int 0 0), (.int 0 0), (.int k 0), (.ref r1), (.bool true), (.int 181 0), (.ref r2), x1, x2, x3, x4, (.int t4 0), (.int l 0), (v "/claim/cut.py" t5)]⟩), ⟨[]⟩⟩
noncomputable def tupV : Tok → List String → List Value
  | _, [] => []
  | t, s :: r => v s t :: tupV (t + 1) r
noncomputable def kT (t : Tok) (l : List String) : Obj := ⟨(.type "tuple"), none, (.seq ⟨tupV t l⟩ 0), ⟨[]⟩⟩
noncomputable def o2 : Obj := ⟨.none, none, (.dict ⟨[]⟩ 0), ⟨[]⟩⟩
noncomputable def o11 : Obj := ⟨(.type "tuple"), none, (.seq ⟨[]⟩ 0), ⟨[]⟩⟩
noncomputable def o12 : Obj := ⟨.none, none, (.fields ⟨[]⟩), ⟨[]⟩⟩
noncomputable def fn7 (i : Nat) (d : DF) (a b : String) (tn : Tok) (l : List String) (t : Nat) (ln n t4 : Int) (o : Obj) : List Obj := [o11, o12, kT tn l, o11, kF d a b, kC a t b (t + 1) (t + 2) ln n 3 i (i + 1) .none (.ref (i + 2)) (.ref (i + 3)) (.ref (i + 4)) t4 (t4.toNat + 1), o]
noncomputable def o28 : Obj := kU (dM 2 0) "__init__" "Lowered.__init__" .none "moduleyard.lower" 187 27 .none
noncomputable def o49 : Obj := kU (dM 3 0) "__init__" "RowMaker.__init__" .none "moduleyard.lower" 187 48 .none
noncomputable def o56 : Obj := kU (dM 3 1) "put" "RowMaker.put" .none "moduleyard.lower" 187 55 .none
noncomputable def o63 : Obj := kU (dM 3 2) "number" "RowMaker.number" .none "moduleyard.lower" 187 62 .none
noncomputable def o70 : Obj := kU (dM 3 3) "variable" "RowMaker.variable" .none "moduleyard.lower" 187 69 .none
noncomputable def o75 : Obj := kU (dM 3 4) "keep" "RowMaker.keep" .none "moduleyard.lower" 187 74 .none
noncomputable def o89 : Obj := kU (dF 4) "variable_key" "variable_key" .none "moduleyard.lower" 187 88 .none
noncomputable def o96 : Obj := kU (dF 5) "is_word" "is_word" .none "moduleyard.lower" 187 95 .none
noncomputable def o103 : Obj := kU (dF 6) "is_plain_variable" "is_plain_variable" .none "moduleyard.lower" 187 102 .none
noncomputable def o110 : Obj := kU (dF 7) "relation_row" "relation_row" .none "moduleyard.lower" 187 109 .none
noncomputable def o117 : Obj := kU (dF 8) "turned" "turned" .none "moduleyard.lower" 187 116 .none
noncomputable def o124 : Obj := kU (dF 9) "lowered_relation" "lowered_relation" .none "moduleyard.lower" 187 123 .none
noncomputable def o131 : Obj := kU (dF 10) "lowered_subset" "lowered_subset" .none "moduleyard.lower" 187 130 .none
noncomputable def o138 : Obj := kU (dF 11) "lowered_pair" "lowered_pair" .none "moduleyard.lower" 187 137 .none
noncomputable def o145 : Obj := kU (dF 12) "lowered_absolute" "lowered_absolute" .none "moduleyard.lower" 187 144 .none
noncomputable def o152 : Obj := kU (dF 13) "lowered_bits" "lowered_bits" .none "moduleyard.lower" 187 151 .none
noncomputable def o157 : Obj := kU (dF 14) "lowered_std" "lowered_std" .none "moduleyard.lower" 187 156 .none
noncomputable def o164 : Obj := kU (dF 15) "lowered_set" "lowered_set" .none "moduleyard.lower" 187 163 .none
noncomputable def o171 : Obj := kU (dF 16) "lowered" "lowered" .none "moduleyard.lower" 187 170 .none
noncomputable def o178 : Obj := kU (dF 17) "lowered_assign" "lowered_assign" .none "moduleyard.lower" 187 177 .none
noncomputable def o185 : Obj := kU (dF 18) "lowered_change" "lowered_change" .none "moduleyard.lower" 187 184 .none
noncomputable def o192 : Obj := kU (dF 19) "lowered_statement" "lowered_statement" .none "moduleyard.lower" 187 191 .none
noncomputable def o199 : Obj := kU (dF 20) "lower_block" "lower_block" .none "moduleyard.lower" 187 198 .none
noncomputable def o206 : Obj := kU (dF 21) "lower_expression" "lower_expression" .none "moduleyard.lower" 187 205 .none
noncomputable def o214 : Obj := ⟨(.type "tuple"), none, (.seq ⟨[.none]⟩ 0), ⟨[]⟩⟩
noncomputable def o221 : Obj := kU (dM 23 0) "__init__" "Node.__init__" (.ref 214) "moduleyard.trees" 460 220 .none
noncomputable def o235 : Obj := kU (dF 24) "const" "const" .none "moduleyard.trees" 460 234 .none
noncomputable def o249 : Obj := kU (dM 26 0) "__init__" "Type.__init__" .none "moduleyard.types" 509 248 .none
noncomputable def o270 : Obj := kU (dM 27 0) "__init__" "Obj.__init__" .none "moduleyard.types" 509 269 .none
noncomputable def o291 : Obj := kU (dM 28 0) "__init__" "Types.__init__" .none "moduleyard.types" 509 290 .none
noncomputable def o292 : Obj := ⟨(.type "tuple"), none, (.seq ⟨[(v "" 617), (v "" 618)]⟩ 0), ⟨[]⟩⟩
noncomputable def o299 : Obj := kU (dM 28 1) "new" "Types.new" (.ref 292) "moduleyard.types" 509 298 .none
noncomputable def o320 : Obj := kU (dF 31) "two_operand_names" "two_operand_names" .none "moduleyard.vcode" 657 319 .none
noncomputable def o327 : Obj := kU (dF 32) "defined" "defined" .none "moduleyard.vcode" 657 326 .none
noncomputable def o334 : Obj := kU (dF 33) "used" "used" .none "moduleyard.vcode" 657 333 .none
noncomputable def o341 : Obj := kU (dF 34) "row_problem" "row_problem" .none "moduleyard.vcode" 657 340 .none
noncomputable def o348 : Obj := kU (dF 35) "problems" "problems" .none "moduleyard.vcode" 657 347 .none
noncomputable def o355 : Obj := kU (dF 36) "signed_word" "signed_word" .none "moduleyard.vcode" 657 354 .none
noncomputable def o362 : Obj := kU (dF 37) "two_operand_value" "two_operand_value" .none "moduleyard.vcode" 657 361 .none
noncomputable def o369 : Obj := kU (dF 38) "meaning" "meaning" .none "moduleyard.vcode" 657 368 .none
noncomputable def o376 : Obj := kU (dF 40) "_law_pool" "_law_pool" .none "law_pb0359_01" 734 375 .none
noncomputable def o383 : Obj := kU (dF 41) "_law_draw" "_law_draw" .none "law_pb0359_01" 734 382 .none
noncomputable def o391 : Obj := kU (dF 42) "_law_make" "_law_make" (.ref 384) "law_pb0359_01" 734 390 .none
noncomputable def o396 : Obj := kU (dF 43) "_law_leaf" "_law_leaf" .none "law_pb0359_01" 734 395 .none
noncomputable def o403 : Obj := kU (dF 44) "_law_whole" "_law_whole" .none "law_pb0359_01" 734 402 .none
noncomputable def o410 : Obj := kU (dF 45) "_law_mask" "_law_mask" .none "law_pb0359_01" 734 409 .none
noncomputable def o417 : Obj := kU (dF 46) "_law_truth" "_law_truth" .none "law_pb0359_01" 734 416 .none
noncomputable def o424 : Obj := kU (dF 47) "_law_by_form" "_law_by_form" .none "law_pb0359_01" 734 423 .none
noncomputable def o431 : Obj := kU (dF 48) "_law_deed" "_law_deed" .none "law_pb0359_01" 734 430 .none
noncomputable def o438 : Obj := kU (dF 49) "_law_signed" "_law_signed" .none "law_pb0359_01" 734 437 .none
noncomputable def o445 : Obj := kU (dF 50) "_law_std" "_law_std" .none "law_pb0359_01" 734 444 .none
noncomputable def o452 : Obj := kU (dF 51) "_law_bits" "_law_bits" .none "law_pb0359_01" 734 451 .none
noncomputable def o459 : Obj := kU (dF 52) "_law_pair" "_law_pair" .none "law_pb0359_01" 734 458 .none
noncomputable def o464 : Obj := kU (dF 53) "_law_word" "_law_word" .none "law_pb0359_01" 734 463 .none
noncomputable def o471 : Obj := kU (dF 54) "_law_done" "_law_done" .none "law_pb0359_01" 734 470 .none
noncomputable def o476 : Obj := kU (dF 55) "law" "law" .none "law_pb0359_01" 734 475 .none
noncomputable def mdR (P : Params) (l : List (String × Tok × Addr)) : List DictEntry := l.map fun p => e P p.1 p.2.1 (.ref p.2.2)
noncomputable def mdE (P : Params) : List DictEntry := [e P "__doc__" 166 .none, e P "__package__" 167 .none, e P "__loader__" 168 (.builtin "__main__.__loader__#opaque"), e P "__spec__" 169 .none, e P "__annotations__" 170 (.ref 6), e P "__builtins__" 171 (.ref 4), e P "__file__" 173 (v "/claim/cut.py" 172), e P "__cached__" 174 .none, e P "FULL" 190 (.int 4294967295 189)] ++ (mdR P [("Lowered", 223, 31), ("RowMaker", 289, 78), ("variable_key", 296, 89), ("is_word", 303, 96), ("is_plain_variable", 310, 103), ("relation_row", 318, 110), ("turned", 326, 117), ("lowered_relation", 340, 124), ("lowered_subset", 350, 131), ("lowered_pair", 362, 138), ("lowered_absolute", 371, 145), ("lowered_bits", 380, 152), ("lowered_std", 386, 157), ("lowered_set", 397, 164), ("lowered", 408, 171), ("lowered_assign", 419, 178), ("lowered_change", 431, 185), ("lowered_statement", 440, 192), ("lower_block", 450, 199), ("lower_expression", 459, 206), ("Node", 499, 224), ("const", 508, 235), ("Type", 552, 252), ("Obj", 597, 273), ("Types", 656, 309)] ++ (e P "WORD" 660 (.int 4294967296 659) :: mdR P [("two_operand_names", 666, 320), ("defined", 673, 327), ("used", 680, 334), ("row_problem", 690, 341), ("problems", 701, 348), ("signed_word", 708, 355), ("two_operand_value", 717, 362), ("meaning", 733, 369), ("_law_pool", 746, 376), ("_law_draw", 754, 383), ("_law_make", 764, 391), ("_law_leaf", 770, 396), ("_law_whole", 783, 403), ("_law_mask", 798, 410), ("_law_truth", 811, 417), ("_law_by_form", 820, 424), ("_law_deed", 832, 431), ("_law_signed", 839, 438), ("_law_std", 848, 445), ("_law_bits", 862, 452), ("_law_pair", 875, 459), ("_law_word", 881, 464), ("_law_done", 896, 471), ("law", 902, 476)]))
noncomputable def lnT : List (Int × Addr) := [(3, 20), (9, 41), (39, 88), (43, 95), (45, 102), (47, 109), (50, 116), (52, 123), (58, 130), (61, 137), (77, 144), (80, 151), (86, 156), (102, 163), (112, 170), (138, 177), (147, 184), (163, 191), (172, 198), (180, 205), (188, 212), (197, 234), (200, 241), (215, 262), (232, 283), (261, 319), (263, 326), (267, 333), (275, 340), (291, 347), (301, 354), (305, 361), (327, 368), (346, 375), (358, 382), (360, 390), (362, 395), (375, 402), (395, 409), (410, 416), (430, 423), (438, 430), (448, 437), (450, 444), (463, 451), (471, 458), (487, 463), (511, 470), (528, 475)]
noncomputable def o3k (P : Params) (s : String) (t : Tok) (k : Nat) : Obj := ⟨(.type "dict"), none, (.dict ⟨e P "__name__" 165 (v s t) :: (mdE P).take k⟩ (k + 1)), ⟨[]⟩⟩
noncomputable def o12k (k : Nat) : Obj := ⟨.none, none, (.fields ⟨(lnT.take k).flatMap fun p => [.int p.1 0, .int 0 0, .ref p.2]⟩), ⟨[]⟩⟩
noncomputable def hL (P : Params) (x y : Obj) : List Obj := [(boot_o_0 P), (boot_o_1 P), o2, x, (boot_o_4 P), (boot_o_5 P), (boot_o_6 P), (boot_o_7 P), (boot_o_8 P), (boot_o_9 P), (boot_o_10 P), o11, y, ⟨(.type "code"), none, (.fields ⟨[(v "<module>" 182), (v "<module>" 183), (v "/claim/cut.py" 184), (.int 1 0), (.int 0 0), (.int 0 0), (.int 0 0), (.int 0 0), (.ref 11), (.bool false), (.int 181 0), (.ref 12), .none, .none, .none, .none, (.int 185 0), (.int 1 0), (v "/claim/cut.py" 186)]⟩), ⟨[]⟩⟩, ⟨(.type "frame"), none, .plain, ⟨[(some (.ref 13)), (some (.ref 3)), (some (.ref 3)), none, (some (v "__main__" 164)), none, (some (.ref 0))]⟩⟩, o11, ⟨(.type "builtin_function_or_method"), none, (.fields ⟨[(.builtin "type.__prepare__"), (.type "type")]⟩), ⟨[]⟩⟩, ⟨(.type "dict"), none, (.dict ⟨[e P "__module__" 198 (v "moduleyard.lower" 187), e P "__qualname__" 200 (v "Lowered" 199), e P "__firstlineno__" 202 (.int 3 201), e P "__init__" 212 (.ref 28), e P "__static_attributes__" 216 (.ref 29)]⟩ 5), ⟨[]⟩⟩, o11, ⟨.none, none, (.fields ⟨[(.int 5 0), (.int 4 0), (.ref 27)]⟩), ⟨[]⟩⟩, ⟨(.type "code"), none, (.fields ⟨[(v "Lowered" 193), (v "Lowered" 194), (v "/claim/cut.py" 195), (.int 3 0), (.int 0 0), (.int 0 0), (.int 0 0), (.int 0 0), (.ref 18), (.bool false), (.int 181 0), (.ref 19), .none, .none, .none, .none, (.int 196 0), (.int 3 0), (v "/claim/cut.py" 197)]⟩), ⟨[]⟩⟩, ⟨(.type "frame"), none, .plain, ⟨[(some (.ref 20)), (some (.ref 3)), (some (.ref 17)), none, (some (v "moduleyard.lower" 187)), none, (some (.ref 0))]⟩⟩] ++ (fn7 22 (dM 2 0) "__init__" "Lowered.__init__" 206 ["self", "rows", "inputs", "outputs"] 203 5 4 210 o28 ++ ([kT 213 ["inputs", "outputs", "rows"], ⟨(.type "dict"), none, (.dict ⟨[e P "__module__" 198 (v "moduleyard.lower" 187), e P "__firstlineno__" 202 (.int 3 201), e P "__init__" 212 (.ref 28), e P "__static_attributes__" 216 (.ref 29), e P "__dict__" 218 (.ref 32), e P "__weakref__" 220 (.ref 33), e P "__doc__" 221 .none]⟩ 4), ⟨[]⟩⟩, ⟨(.type "type"), none, (.cls { name := (S "Lowered"), bases := [(.type "object")], mro := [(.ref 31), (.type "object")], ns := 30, qualname := (S "Lowered"), hasDict := true, slotNames := [], subclasses := [], abstract := false, collection := none, hasDel := false }), ⟨[none, none, (some (v "Lowered" 191)), (some (v "Lowered" 199)), (some (.builtin "object.__new__")), (some (.bool true))]⟩⟩, ⟨(.type "getset_descriptor"), none, (.fields ⟨[(v "__dict__" 217), (.ref 31), (.builtin "function.__dict__"), (.builtin "function.__dict__#set")]⟩), ⟨[]⟩⟩, ⟨(.type "getset_descriptor"), none, (.fields ⟨[(v "__weakref__" 219), (.ref 31), (.builtin "ExceptionGroup.__weakref__"), .none]⟩), ⟨[]⟩⟩, ⟨(.type "super"), none, (.fields ⟨[(.ref 31), (.ref 31), (.ref 31)]⟩), ⟨[]⟩⟩, ⟨(.type "builtin_function_or_method"), none, (.fields ⟨[(.builtin "object.__init_subclass__"), (.ref 31)]⟩), ⟨[]⟩⟩, o11, ⟨(.type "builtin_function_or_method"), none, (.fields ⟨[(.builtin "type.__prepare__"), (.type "type")]⟩), ⟨[]⟩⟩, ⟨(.type "dict"), none, (.dict ⟨[e P "__module__" 231 (v "moduleyard.lower" 187), e P "__qualname__" 233 (v "RowMaker" 232), e P "__firstlineno__" 235 (.int 9 234), e P "__init__" 242 (.ref 49), e P "put" 253 (.ref 56), e P "number" 261 (.ref 63), e P "variable" 270 (.ref 70), e P "keep" 276 (.ref 75), e P "__static_attributes__" 282 (.ref 76)]⟩ 9), ⟨[]⟩⟩, o11, ⟨.none, none, (.fields ⟨[(.int 11 0), (.int 4 0), (.ref 48), (.int 18 0), (.int 4 0), (.ref 55), (.int 24 0), (.int 4 0), (.ref 62), (.int 27 0), (.int 4 0), (.ref 69), (.int 34 0), (.int 4 0), (.ref 74)]⟩), ⟨[]⟩⟩, ⟨(.type "code"), none, (.fields ⟨[(v "RowMaker" 226), (v "RowMaker" 227), (v "/claim/cut.py" 228), (.int 9 0), (.int 0 0), (.int 0 0), (.int 0 0), (.int 0 0), (.ref 39), (.bool false), (.int 181 0), (.ref 40), .none, .none, .none, .none, (.int 229 0), (.int 9 0), (v "/claim/cut.py" 230)]⟩), ⟨[]⟩⟩, ⟨(.type "frame"), none, .plain, ⟨[(some (.ref 41)), (some (.ref 3)), (some (.ref 38)), none, (some (v "moduleyard.lower" 187)), none, (some (.ref 0))]⟩⟩] ++ (fn7 43 (dM 3 0) "__init__" "RowMaker.__init__" 239 ["self"] 236 11 1 240 o49 ++ (fn7 50 (dM 3 1) "put" "RowMaker.put" 246 ["self", "op", "x", "y", "register"] 243 18 4 251 o56 ++ (fn7 57 (dM 3 2) "number" "RowMaker.number" 257 ["self", "n"] 254 24 2 259 o63 ++ (fn7 64 (dM 3 3) "variable" "RowMaker.variable" 265 ["self", "obj", "key"] 262 27 2 268 o70 ++ ([o11, o12, kF (dM 3 4) "keep" "RowMaker.keep", kC "keep" 271 "RowMaker.keep" 272 273 34 3 3 71 72 .none .none .none (.ref 73) 274 275, o75, kT 277 ["count", "held", "inputs", "rows", "stored"], ⟨(.type "dict"), none, (.dict ⟨[e P "__module__" 231 (v "moduleyard.lower" 187), e P "__firstlineno__" 235 (.int 9 234), e P "__init__" 242 (.ref 49), e P "put" 253 (.ref 56), e P "number" 261 (.ref 63), e P "variable" 270 (.ref 70), e P "keep" 276 (.ref 75), e P "__static_attributes__" 282 (.ref 76), e P "__dict__" 284 (.ref 79), e P "__weakref__" 286 (.ref 80), e P "__doc__" 287 .none]⟩ 4), ⟨[]⟩⟩, ⟨(.type "type"), none, (.cls { name := (S "RowMaker"), bases := [(.type "object")], mro := [(.ref 78), (.type "object")], ns := 77, qualname := (S "RowMaker"), hasDict := true, slotNames := [], subclasses := [], abstract := false, collection := none, hasDel := false }), ⟨[none, none, (some (v "RowMaker" 224)), (some (v "RowMaker" 232)), (some (.builtin "object.__new__")), (some (.bool true))]⟩⟩, ⟨(.type "getset_descriptor"), none, (.fields ⟨[(v "__dict__" 283), (.ref 78), (.builtin "function.__dict__"), (.builtin "function.__dict__#set")]⟩), ⟨[]⟩⟩, ⟨(.type "getset_descriptor"), none, (.fields ⟨[(v "__weakref__" 285), (.ref 78), (.builtin "ExceptionGroup.__weakref__"), .none]⟩), ⟨[]⟩⟩, ⟨(.type "super"), none, (.fields ⟨[(.ref 78), (.ref 78), (.ref 78)]⟩), ⟨[]⟩⟩, ⟨(.type "builtin_function_or_method"), none, (.fields ⟨[(.builtin "object.__init_subclass__"), (.ref 78)]⟩), ⟨[]⟩⟩] ++ (fn7 83 (dF 4) "variable_key" "variable_key" 293 ["obj"] 290 39 1 294 o89 ++ (fn7 90 (dF 5) "is_word" "is_word" 300 ["t"] 297 43 1 301 o96 ++ (fn7 97 (dF 6) "is_plain_variable" "is_plain_variable" 307 ["node"] 304 45 1 308 o103 ++ (fn7 104 (dF 7) "relation_row" "relation_row" 314 ["op", "rows"] 311 47 1 316 o110 ++ (fn7 111 (dF 8) "turned" "turned" 322 ["maker", "register"] 319 50 2 324 o117 ++ (fn7 118 (dF 9) "lowered_relation" "lowered_relation" 330 ["maker", "node", "x", "y", "name", "exchanged", "opposite", "found"] 327 52 4 338 o124 ++ (fn7 125 (dF 10) "lowered_subset" "lowered_subset" 344 ["maker", "x", "y", "away"] 341 58 3 348 o131 ++ (fn7 132 (dF 11) "lowered_pair" "lowered_pair" 354 ["maker", "node", "x", "y", "op", "names"] 351 61 4 360 o138 ++ (fn7 139 (dF 12) "lowered_absolute" "lowered_absolute" 366 ["maker", "x", "sign"] 363 77 2 369 o145 ++ (fn7 146 (dF 13) "lowered_bits" "lowered_bits" 375 ["maker", "t", "x"] 372 80 3 378 o152 ++ ([o11, o12, kF (dF 14) "lowered_std" "lowered_std", kC "lowered_std" 381 "lowered_std" 382 383 86 2 3 153 154 .none .none .none (.ref 155) 384 385, o157] ++ (fn7 158 (dF 15) "lowered_set" "lowered_set" 390 ["maker", "node", "total", "kid", "element"] 387 102 2 395 o164 ++ (fn7 165 (dF 16) "lowered" "lowered" 401 ["maker", "node", "op", "found", "kid"] 398 112 2 406 o171 ++ (fn7 172 (dF 17) "lowered_assign" "lowered_assign" 412 ["maker", "node", "left", "right", "found"] 409 138 2 417 o178 ++ (fn7 179 (dF 18) "lowered_change" "lowered_change" 423 ["maker", "node", "x", "old", "made", "bit"] 420 147 2 429 o185 ++ (fn7 186 (dF 19) "lowered_statement" "lowered_statement" 435 ["maker", "node", "kid"] 432 163 2 438 o192 ++ (fn7 193 (dF 20) "lower_block" "lower_block" 444 ["node", "maker", "number", "obj"] 441 172 1 448 o199 ++ (fn7 200 (dF 21) "lower_expression" "lower_expression" 454 ["node", "maker", "found"] 451 180 1 457 o206 ++ ([o11, ⟨(.type "builtin_function_or_method"), none, (.fields ⟨[(.builtin "type.__prepare__"), (.type "type")]⟩), ⟨[]⟩⟩, ⟨(.type "dict"), none, (.dict ⟨[e P "__module__" 469 (v "moduleyard.trees" 460), e P "__qualname__" 471 (v "Node" 470), e P "__firstlineno__" 473 (.int 188 472), e P "__init__" 485 (.ref 221), e P "__static_attributes__" 492 (.ref 222)]⟩ 5), ⟨[]⟩⟩, o11, ⟨.none, none, (.fields ⟨[(.int 190 0), (.int 4 0), (.ref 220)]⟩), ⟨[]⟩⟩, ⟨(.type "code"), none, (.fields ⟨[(v "Node" 464), (v "Node" 465), (v "/claim/cut.py" 466), (.int 188 0), (.int 0 0), (.int 0 0), (.int 0 0), (.int 0 0), (.ref 210), (.bool false), (.int 181 0), (.ref 211), .none, .none, .none, .none, (.int 467 0), (.int 188 0), (v "/claim/cut.py" 468)]⟩), ⟨[]⟩⟩, ⟨(.type "frame"), none, .plain, ⟨[(some (.ref 212)), (some (.ref 3)), (some (.ref 209)), none, (some (v "moduleyard.trees" 460)), none, (some (.ref 0))]⟩⟩, o214] ++ (fn7 215 (dM 23 0) "__init__" "Node.__init__" 477 ["self", "op", "place", "type_of", "kids", "value"] 474 190 6 483 o221 ++ ([kT 486 ["kids", "op", "place", "sure", "type", "value"], ⟨(.type "dict"), none, (.dict ⟨[e P "__module__" 469 (v "moduleyard.trees" 460), e P "__firstlineno__" 473 (.int 188 472), e P "__init__" 485 (.ref 221), e P "__static_attributes__" 492 (.ref 222), e P "__dict__" 494 (.ref 225), e P "__weakref__" 496 (.ref 226), e P "__doc__" 497 .none]⟩ 4), ⟨[]⟩⟩, ⟨(.type "type"), none, (.cls { name := (S "Node"), bases := [(.type "object")], mro := [(.ref 224), (.type "object")], ns := 223, qualname := (S "Node"), hasDict := true, slotNames := [], subclasses := [], abstract := false, collection := none, hasDel := false }), ⟨[none, none, (some (v "Node" 462)), (some (v "Node" 470)), (some (.builtin "object.__new__")), (some (.bool true))]⟩⟩, ⟨(.type "getset_descriptor"), none, (.fields ⟨[(v "__dict__" 493), (.ref 224), (.builtin "function.__dict__"), (.builtin "function.__dict__#set")]⟩), ⟨[]⟩⟩, ⟨(.type "getset_descriptor"), none, (.fields ⟨[(v "__weakref__" 495), (.ref 224), (.builtin "ExceptionGroup.__weakref__"), .none]⟩), ⟨[]⟩⟩, ⟨(.type "super"), none, (.fields ⟨[(.ref 224), (.ref 224), (.ref 224)]⟩), ⟨[]⟩⟩, ⟨(.type "builtin_function_or_method"), none, (.fields ⟨[(.builtin "object.__init_subclass__"), (.ref 224)]⟩), ⟨[]⟩⟩] ++ (fn7 229 (dF 24) "const" "const" 503 ["t", "value", "place"] 500 197 3 506 o235 ++ ([o11, ⟨(.type "builtin_function_or_method"), none, (.fields ⟨[(.builtin "type.__prepare__"), (.type "type")]⟩), ⟨[]⟩⟩, ⟨(.type "dict"), none, (.dict ⟨[e P "__module__" 518 (v "moduleyard.types" 509), e P "__qualname__" 520 (v "Type" 519), e P "__firstlineno__" 522 (.int 200 521), e P "__init__" 532 (.ref 249), e P "__static_attributes__" 545 (.ref 250)]⟩ 5), ⟨[]⟩⟩, o11, ⟨.none, none, (.fields ⟨[(.int 202 0), (.int 4 0), (.ref 248)]⟩), ⟨[]⟩⟩, ⟨(.type "code"), none, (.fields ⟨[(v "Type" 513), (v "Type" 514), (v "/claim/cut.py" 515), (.int 200 0), (.int 0 0), (.int 0 0), (.int 0 0), (.int 0 0), (.ref 239), (.bool false), (.int 181 0), (.ref 240), .none, .none, .none, .none, (.int 516 0), (.int 200 0), (v "/claim/cut.py" 517)]⟩), ⟨[]⟩⟩, ⟨(.type "frame"), none, .plain, ⟨[(some (.ref 241)), (some (.ref 3)), (some (.ref 238)), none, (some (v "moduleyard.types" 509)), none, (some (.ref 0))]⟩⟩] ++ (fn7 243 (dM 26 0) "__init__" "Type.__init__" 526 ["self", "number", "form", "size"] 523 202 4 530 o249 ++ ([kT 533 ["base", "exno", "fields", "form", "hidden", "label", "length", "level", "module", "number", "params", "size"], ⟨(.type "dict"), none, (.dict ⟨[e P "__module__" 518 (v "moduleyard.types" 509), e P "__firstlineno__" 522 (.int 200 521), e P "__init__" 532 (.ref 249), e P "__static_attributes__" 545 (.ref 250), e P "__dict__" 547 (.ref 253), e P "__weakref__" 549 (.ref 254), e P "__doc__" 550 .none]⟩ 4), ⟨[]⟩⟩, ⟨(.type "type"), none, (.cls { name := (S "Type"), bases := [(.type "object")], mro := [(.ref 252), (.type "object")], ns := 251, qualname := (S "Type"), hasDict := true, slotNames := [], subclasses := [], abstract := false, collection := none, hasDel := false }), ⟨[none, none, (some (v "Type" 511)), (some (v "Type" 519)), (some (.builtin "object.__new__")), (some (.bool true))]⟩⟩, ⟨(.type "getset_descriptor"), none, (.fields ⟨[(v "__dict__" 546), (.ref 252), (.builtin "function.__dict__"), (.builtin "function.__dict__#set")]⟩), ⟨[]⟩⟩, ⟨(.type "getset_descriptor"), none, (.fields ⟨[(v "__weakref__" 548), (.ref 252), (.builtin "ExceptionGroup.__weakref__"), .none]⟩), ⟨[]⟩⟩, ⟨(.type "super"), none, (.fields ⟨[(.ref 252), (.ref 252), (.ref 252)]⟩), ⟨[]⟩⟩, ⟨(.type "builtin_function_or_method"), none, (.fields ⟨[(.builtin "object.__init_subclass__"), (.ref 252)]⟩), ⟨[]⟩⟩, o11, ⟨(.type "builtin_function_or_method"), none, (.fields ⟨[(.builtin "type.__prepare__"), (.type "type")]⟩), ⟨[]⟩⟩, ⟨(.type "dict"), none, (.dict ⟨[e P "__module__" 560 (v "moduleyard.types" 509), e P "__qualname__" 562 (v "Obj" 561), e P "__firstlineno__" 564 (.int 215 563), e P "__init__" 575 (.ref 270), e P "__static_attributes__" 590 (.ref 271)]⟩ 5), ⟨[]⟩⟩, o11, ⟨.none, none, (.fields ⟨[(.int 217 0), (.int 4 0), (.ref 269)]⟩), ⟨[]⟩⟩, ⟨(.type "code"), none, (.fields ⟨[(v "Obj" 555), (v "Obj" 556), (v "/claim/cut.py" 557), (.int 215 0), (.int 0 0), (.int 0 0), (.int 0 0), (.int 0 0), (.ref 260), (.bool false), (.int 181 0), (.ref 261), .none, .none, .none, .none, (.int 558 0), (.int 215 0), (v "/claim/cut.py" 559)]⟩), ⟨[]⟩⟩, ⟨(.type "frame"), none, .plain, ⟨[(some (.ref 262)), (some (.ref 3)), (some (.ref 259)), none, (some (v "moduleyard.types" 509)), none, (some (.ref 0))]⟩⟩] ++ (fn7 264 (dM 27 0) "__init__" "Obj.__init__" 568 ["self", "name", "kind", "type_of", "place"] 565 217 5 573 o270 ++ ([kT 576 ["exported", "isparam", "kind", "level", "module", "name", "narrowed", "number", "offset", "place", "readonly", "slot", "type", "value"], ⟨(.type "dict"), none, (.dict ⟨[e P "__module__" 560 (v "moduleyard.types" 509), e P "__firstlineno__" 564 (.int 215 563), e P "__init__" 575 (.ref 270), e P "__static_attributes__" 590 (.ref 271), e P "__dict__" 592 (.ref 274), e P "__weakref__" 594 (.ref 275), e P "__doc__" 595 .none]⟩ 4), ⟨[]⟩⟩, ⟨(.type "type"), none, (.cls { name := (S "Obj"), bases := [(.type "object")], mro := [(.ref 273), (.type "object")], ns := 272, qualname := (S "Obj"), hasDict := true, slotNames := [], subclasses := [], abstract := false, collection := none, hasDel := false }), ⟨[none, none, (some (v "Obj" 553)), (some (v "Obj" 561)), (some (.builtin "object.__new__")), (some (.bool true))]⟩⟩, ⟨(.type "getset_descriptor"), none, (.fields ⟨[(v "__dict__" 591), (.ref 273), (.builtin "function.__dict__"), (.builtin "function.__dict__#set")]⟩), ⟨[]⟩⟩, ⟨(.type "getset_descriptor"), none, (.fields ⟨[(v "__weakref__" 593), (.ref 273), (.builtin "ExceptionGroup.__weakref__"), .none]⟩), ⟨[]⟩⟩, ⟨(.type "super"), none, (.fields ⟨[(.ref 273), (.ref 273), (.ref 273)]⟩), ⟨[]⟩⟩, ⟨(.type "builtin_function_or_method"), none, (.fields ⟨[(.builtin "object.__init_subclass__"), (.ref 273)]⟩), ⟨[]⟩⟩, o11, ⟨(.type "builtin_function_or_method"), none, (.fields ⟨[(.builtin "type.__prepare__"), (.type "type")]⟩), ⟨[]⟩⟩, ⟨(.type "dict"), none, (.dict ⟨[e P "__module__" 605 (v "moduleyard.types" 509), e P "__qualname__" 607 (v "Types" 606), e P "__firstlineno__" 609 (.int 232 608), e P "__init__" 616 (.ref 291), e P "new" 630 (.ref 299), e P "string" 639 (.ref 306), e P "__static_attributes__" 649 (.ref 307)]⟩ 7), ⟨[]⟩⟩, o11, ⟨.none, none, (.fields ⟨[(.int 234 0), (.int 4 0), (.ref 290), (.int 245 0), (.int 4 0), (.ref 298), (.int 254 0), (.int 4 0), (.ref 305)]⟩), ⟨[]⟩⟩, ⟨(.type "code"), none, (.fields ⟨[(v "Types" 600), (v "Types" 601), (v "/claim/cut.py" 602), (.int 232 0), (.int 0 0), (.int 0 0), (.int 0 0), (.int 0 0), (.ref 281), (.bool false), (.int 181 0), (.ref 282), .none, .none, .none, .none, (.int 603 0), (.int 232 0), (v "/claim/cut.py" 604)]⟩), ⟨[]⟩⟩, ⟨(.type "frame"), none, .plain, ⟨[(some (.ref 283)), (some (.ref 3)), (some (.ref 280)), none, (some (v "moduleyard.types" 509)), none, (some (.ref 0))]⟩⟩] ++ (fn7 285 (dM 28 0) "__init__" "Types.__init__" 613 ["self"] 610 234 1 614 o291 ++ ([o292] ++ (fn7 293 (dM 28 1) "new" "Types.new" 622 ["self", "form", "size", "module", "label", "made"] 619 245 5 628 o299 ++ ([o11, o12, kT 634 ["self", "length", "made"], o11, kF (dM 28 2) "string" "Types.string", kC "string" 631 "Types.string" 632 633 254 2 3 300 301 .none (.ref 302) (.ref 303) (.ref 304) 637 638, kU (dM 28 2) "string" "Types.string" .none "moduleyard.types" 509 305 .none, kT 640 ["boolean", "byte", "char", "counter", "integer", "known", "mask", "nil", "none"], ⟨(.type "dict"), none, (.dict ⟨[e P "__module__" 605 (v "moduleyard.types" 509), e P "__firstlineno__" 609 (.int 232 608), e P "__init__" 616 (.ref 291), e P "new" 630 (.ref 299), e P "string" 639 (.ref 306), e P "__static_attributes__" 649 (.ref 307), e P "__dict__" 651 (.ref 310), e P "__weakref__" 653 (.ref 311), e P "__doc__" 654 .none]⟩ 4), ⟨[]⟩⟩, ⟨(.type "type"), none, (.cls { name := (S "Types"), bases := [(.type "object")], mro := [(.ref 309), (.type "object")], ns := 308, qualname := (S "Types"), hasDict := true, slotNames := [], subclasses := [], abstract := false, collection := none, hasDel := false }), ⟨[none, none, (some (v "Types" 598)), (some (v "Types" 606)), (some (.builtin "object.__new__")), (some (.bool true))]⟩⟩, ⟨(.type "getset_descriptor"), none, (.fields ⟨[(v "__dict__" 650), (.ref 309), (.builtin "function.__dict__"), (.builtin "function.__dict__#set")]⟩), ⟨[]⟩⟩, ⟨(.type "getset_descriptor"), none, (.fields ⟨[(v "__weakref__" 652), (.ref 309), (.builtin "ExceptionGroup.__weakref__"), .none]⟩), ⟨[]⟩⟩, ⟨(.type "super"), none, (.fields ⟨[(.ref 309), (.ref 309), (.ref 309)]⟩), ⟨[]⟩⟩, ⟨(.type "builtin_function_or_method"), none, (.fields ⟨[(.builtin "object.__init_subclass__"), (.ref 309)]⟩), ⟨[]⟩⟩, o11, o12, o11, o11, kF (dF 31) "two_operand_names" "two_operand_names", kC "two_operand_names" 661 "two_operand_names" 662 663 261 0 3 314 315 .none (.ref 316) (.ref 317) (.ref 318) 664 665, o320] ++ (fn7 321 (dF 32) "defined" "defined" 670 ["row"] 667 263 1 671 o327 ++ (fn7 328 (dF 33) "used" "used" 677 ["row"] 674 267 1 678 o334 ++ (fn7 335 (dF 34) "row_problem" "row_problem" 684 ["row", "known", "field", "v"] 681 275 2 688 o341 ++ (fn7 342 (dF 35) "problems" "problems" 694 ["rows", "known", "found", "index", "problem"] 691 291 1 699 o348 ++ (fn7 349 (dF 36) "signed_word" "signed_word" 705 ["x"] 702 301 1 706 o355 ++ (fn7 356 (dF 37) "two_operand_value" "two_operand_value" 712 ["op", "x", "y"] 709 305 3 715 o362 ++ (fn7 363 (dF 38) "meaning" "meaning" 721 ["rows", "inputs", "values", "outputs", "op", "d", "a", "b", "found", "k"] 718 327 2 731 o369 ++ (fn7 370 (dF 40) "_law_pool" "_law_pool" 739 ["script", "figures", "cell", "left_over", "lap"] 736 346 1 744 o376 ++ (fn7 377 (dF 41) "_law_draw" "_law_draw" 750 ["pool", "bound_at"] 747 358 2 752 o383 ++ ([o214] ++ (fn7 385 (dF 42) "_law_make" "_law_make" 758 ["op", "t", "kids", "value_at"] 755 360 4 762 o391 ++ ([o11, o12, kF (dF 43) "_law_leaf" "_law_leaf", kC "_law_leaf" 765 "_law_leaf" 766 767 362 3 3 392 393 .none .none .none (.ref 394) 768 769, o396] ++ (fn7 397 (dF 44) "_law_whole" "_law_whole" 774 ["book", "pool", "deep", "draw", "whole_type", "op", "count"] 771 375 3 781 o403 ++ (fn7 404 (dF 45) "_law_mask" "_law_mask" 787 ["book", "pool", "deep", "draw", "mask_type", "op", "kids", "lap", "element"] 784 395 3 796 o410 ++ (fn7 411 (dF 46) "_law_truth" "_law_truth" 802 ["book", "pool", "deep", "draw", "truth_type", "op", "element"] 799 410 3 809 o417 ++ (fn7 418 (dF 47) "_law_by_form" "_law_by_form" 815 ["book", "pool", "form"] 812 430 3 818 o424 ++ (fn7 425 (dF 48) "_law_deed" "_law_deed" 824 ["book", "pool", "obj", "left", "draw", "element"] 821 438 2 830 o431 ++ (fn7 432 (dF 49) "_law_signed" "_law_signed" 836 ["word"] 833 448 1 837 o438 ++ (fn7 439 (dF 50) "_law_std" "_law_std" 843 ["node", "told", "word"] 840 450 2 846 o445 ++ (fn7 446 (dF 51) "_law_bits" "_law_bits" 852 ["op", "left", "right", "total", "spot", "a", "b", "holds_now"] 849 463 3 860 o452 ++ (fn7 453 (dF 52) "_law_pair" "_law_pair" 866 ["node", "left", "right", "op", "low", "high", "found"] 863 471 3 873 o459 ++ ([o11, o12, kF (dF 53) "_law_word" "_law_word", kC "_law_word" 876 "_law_word" 877 878 487 4 3 460 461 .none .none .none (.ref 462) 879 880, o464] ++ (fn7 465 (dF 54) "_law_done" "_law_done" 885 ["node", "words", "used_first", "stored_now", "label", "word", "old", "power_at", "there"] 882 511 4 894 o471 ++ ([o11, o12, kF (dF 55) "law" "law", kC "law" 897 "law" 898 899 528 1 3 472 473 .none .none .none (.ref 474) 900 901, o476]))))))))))))))))))))))))))))))))))))))))))))))))))))))))))))))
noncomputable def evs : List Obj → List Obj
  | [] => []
  | [a] => [a]
  | a :: _ :: r => a :: evs r
noncomputable def bt : Nat → List Obj → BT
  | 0, _ => .nil
  | _ + 1, [] => .nil
  | n + 1, o :: r => .node o (bt n (evs r)) (bt n (evs (r.drop 1)))
noncomputable def t0 (P : Params) : BT := bt 10 ((hL P (o3k P "__main__" 164 8) (o12k 0)).take 15)
noncomputable def t1 (P : Params) : BT := bt 10 ((hL P (o3k P "moduleyard.lower" 187 10) (o12k 1)).take 36)
noncomputable def t2 (P : Params) : BT := bt 10 ((hL P (o3k P "moduleyard.lower" 187 11) (o12k 2)).take 83)
noncomputable def t3 (P : Params) : BT := bt 10 ((hL P (o3k P "moduleyard.lower" 187 23) (o12k 14)).take 165)
noncomputable def t4 (P : Params) : BT := bt 10 ((hL P (o3k P "moduleyard.trees" 460 29) (o12k 20)).take 207)
noncomputable def t5 (P : Params) : BT := bt 10 ((hL P (o3k P "moduleyard.types" 509 31) (o12k 22)).take 236)
noncomputable def t6 (P : Params) : BT := bt 10 ((hL P (o3k P "moduleyard.types" 509 32) (o12k 23)).take 257)
noncomputable def t7 (P : Params) : BT := bt 10 ((hL P (o3k P "moduleyard.types" 509 33) (o12k 24)).take 278)
noncomputable def t8 (P : Params) : BT := bt 10 ((hL P (o3k P "moduleyard.types" 509 34) (o12k 25)).take 314)
noncomputable def t9 (P : Params) : BT := bt 10 ((hL P (o3k P "law_pb0359_01" 734 44) (o12k 34)).take 377)
noncomputable def t10 (P : Params) : BT := bt 10 ((hL P (o3k P "law_pb0359_01" 734 54) (o12k 44)).take 446)
noncomputable def hp (P : Params) : List Obj := hL P (o3k P "law_pb0359_01" 734 59) (o12k 49)
noncomputable def t11 (P : Params) : BT := bt 10 (hp P)
noncomputable def H1 (P : Params) : Heap := ⟨⟨hp P⟩, {}⟩
noncomputable def env : Env := { scope := pw.main.scope, locals := mainNs, globals := mainNs, cells := [], code := .ref 13, frame := some 14 }
noncomputable def bd : List Stmt := behindTheImports pw
noncomputable abbrev cd : Code := .body (behindTheImports pw) env
noncomputable abbrev B : List Frame := [topFrame ⟨0, 0, 0, 0⟩]
noncomputable def sh (t : BT) (n toks : Nat) (os : OsState) : SharedT := ⟨t, n, {}, ⟨[]⟩, {}, toks, os⟩
theorem pre (w : World) (os : OsState) : topGo treeTable pw w 11 (some (.ref 6)) 12 ⟨boot_heap w.params, ⟨[]⟩, boot_drawn, boot_toks, os⟩ (topStub pw) =
    some ((sh (t0 w.params) 15 187 os).abs, ⟨denote treeTable cd, cd, ⟨0, 0, 0, 0⟩, B⟩) := by
  kernel_rfl
theorem block (w : World) (os : OsState) : segRun treeTable pw w 11 (some (.ref 6)) 1 1 (sh (t0 w.params) 15 187 os).abs (blockOf (behindTheImports pw) env cd ⟨0, 0, 0, 0⟩ B) =
    some (.next, (sh (t0 w.params) 15 187 os).abs, cd, ⟨0, 0, 0, 0⟩) := by
  kernel_rfl
theorem r1 (w : World) (os : OsState) : segRunT treeTable pw w 11 (some (.ref 6)) 1 245 (sh (t0 w.params) 15 187 os) (piecesOf (bd.drop 0 |>.take 3) env cd ⟨0, 0, 0, 0⟩ B) =
    some (.next, (sh (t1 w.params) 36 224 os), cd, ⟨3, 0, 8, 30⟩) := by
  rw [PySem.W.Fast.te10110043849684766642, PySem.W.Fast.te14364793385576792824]; kernel_rfl
theorem r2 (w : World) (os : OsState) : segRunT treeTable pw w 11 (some (.ref 6)) 1 354 (sh (t1 w.params) 36 224 os) (piecesOf (bd.drop 3 |>.take 1) env cd ⟨3, 0, 8, 30⟩ B) =
    some (.next, (sh (t2 w.params) 83 290 os), cd, ⟨9, 0, 38, 35⟩) := by
  rw [PySem.W.Fast.te10110043849684766642, PySem.W.Fast.te14364793385576792824]; kernel_rfl
theorem r3 (w : World) (os : OsState) : segRunT treeTable pw w 11 (some (.ref 6)) 1 371 (sh (t2 w.params) 83 290 os) (piecesOf (bd.drop 4 |>.take 12) env cd ⟨9, 0, 38, 35⟩ B) =
    some (.next, (sh (t3 w.params) 165 398 os), cd, ⟨102, 0, 111, 16⟩) := by
  rw [PySem.W.Fast.te10110043849684766642, PySem.W.Fast.te14364793385576792824]; kernel_rfl
theorem r4 (w : World) (os : OsState) : segRunT treeTable pw w 11 (some (.ref 6)) 1 204 (sh (t3 w.params) 165 398 os) (piecesOf (bd.drop 16 |>.take 7) env cd ⟨102, 0, 111, 16⟩ B) =
    some (.next, (sh (t4 w.params) 207 462 os), cd, ⟨187, 0, 187, 8⟩) := by
  rw [PySem.W.Fast.te10110043849684766642, PySem.W.Fast.te14364793385576792824]; kernel_rfl
theorem r5 (w : World) (os : OsState) : segRunT treeTable pw w 11 (some (.ref 6)) 1 273 (sh (t4 w.params) 207 462 os) (piecesOf (bd.drop 23 |>.take 3) env cd ⟨187, 0, 187, 8⟩ B) =
    some (.next, (sh (t5 w.params) 236 511 os), cd, ⟨199, 0, 199, 8⟩) := by
  rw [PySem.W.Fast.te10110043849684766642, PySem.W.Fast.te14364793385576792824]; kernel_rfl
theorem r6 (w : World) (os : OsState) : segRunT treeTable pw w 11 (some (.ref 6)) 1 236 (sh (t5 w.params) 236 511 os) (piecesOf (bd.drop 26 |>.take 1) env cd ⟨199, 0, 199, 8⟩ B) =
    some (.next, (sh (t6 w.params) 257 553 os), cd, ⟨200, 0, 214, 21⟩) := by
  rw [PySem.W.Fast.te10110043849684766642, PySem.W.Fast.te14364793385576792824]; kernel_rfl
theorem r7 (w : World) (os : OsState) : segRunT treeTable pw w 11 (some (.ref 6)) 1 239 (sh (t6 w.params) 257 553 os) (piecesOf (bd.drop 27 |>.take 1) env cd ⟨200, 0, 214, 21⟩ B) =
    some (.next, (sh (t7 w.params) 278 598 os), cd, ⟨215, 0, 231, 28⟩) := by
  rw [PySem.W.Fast.te10110043849684766642, PySem.W.Fast.te14364793385576792824]; kernel_rfl
theorem r8 (w : World) (os : OsState) : segRunT treeTable pw w 11 (some (.ref 6)) 1 302 (sh (t7 w.params) 278 598 os) (piecesOf (bd.drop 28 |>.take 1) env cd ⟨215, 0, 231, 28⟩ B) =
    some (.next, (sh (t8 w.params) 314 657 os), cd, ⟨232, 0, 258, 19⟩) := by
  rw [PySem.W.Fast.te10110043849684766642, PySem.W.Fast.te14364793385576792824]; kernel_rfl
theorem r9 (w : World) (os : OsState) : segRunT treeTable pw w 11 (some (.ref 6)) 1 310 (sh (t8 w.params) 314 657 os) (piecesOf (bd.drop 29 |>.take 12) env cd ⟨232, 0, 258, 19⟩ B) =
    some (.next, (sh (t9 w.params) 377 747 os), cd, ⟨346, 0, 357, 18⟩) := by
  rw [PySem.W.Fast.te10110043849684766642, PySem.W.Fast.te14364793385576792824]; kernel_rfl
theorem r10 (w : World) (os : OsState) : segRunT treeTable pw w 11 (some (.ref 6)) 1 322 (sh (t9 w.params) 377 747 os) (piecesOf (bd.drop 41 |>.take 10) env cd ⟨346, 0, 357, 18⟩ B) =
    some (.next, (sh (t10 w.params) 446 849 os), cd, ⟨450, 0, 462, 15⟩) := by
  rw [PySem.W.Fast.te10110043849684766642, PySem.W.Fast.te14364793385576792824]; kernel_rfl
theorem r11 (w : World) (os : OsState) : segRunT treeTable pw w 11 (some (.ref 6)) 1 161 (sh (t10 w.params) 446 849 os) (piecesOf (bd.drop 51 |>.take 5) env cd ⟨450, 0, 462, 15⟩ B) =
    some (.next, (sh (t11 w.params) 477 903 os), cd, ⟨528, 0, 567, 104⟩) := by
  rw [PySem.W.Fast.te10110043849684766642, PySem.W.Fast.te14364793385576792824]; kernel_rfl
theorem fin (w : World) (os : OsState) : topRun treeTable pw w 11 (some (.ref 6)) 2 (sh (t11 w.params) 477 903 os).abs (restOf [] env cd ⟨528, 0, 567, 104⟩ B) =
    some ⟨H1 w.params, ⟨[]⟩, {}, 903, os⟩ := by
  kernel_rfl
end H
end Mine
end
noncomputable section
set_option maxHeartbeats 0
namespace Mine
open PySem PySem.W PyProof.Rows PySem.Calls
namespace H
def AS : List Addr := List.range 477
def K (P : Params) : Frag := (List.range 477).zip (hp P)
def q : Program := { pw with main := { pw.main with body := pw.main.body.drop 55 } }
def loose : List Str := pw.boundNames.filter fun x => !(x == S "law")
theorem size (w : World) : ((boot_heap w.params).isNs mainGlobals && (⟨[]⟩ : Array GenState).size == 0, (boot_heap w.params).objs.size, (boot_heap w.params).nsMap mainGlobals "__annotations__") = (true, 11, some (.ref 6)) := by kernel_rfl
theorem open_ (w : World) : (fencedOpening treeTable pw w 7000).map (fun s => (s.heap, s.gens, s.drawn, s.toks)) = some (boot_heap w.params, Array.mk [], boot_drawn, boot_toks) :=
  boot_open (by kernel_rfl) (by kernel_rfl) (fun s => by kernel_rfl) w
theorem look1 (w : World) (os : OsState) : (staticsOk (importedModules pw.main.body) (boot_heap w.params) (H1 w.params) && namesBound pw (H1 w.params) && gensDone ⟨H1 w.params, ⟨[]⟩, {}, 903, os⟩ && laidKept (boot_heap w.params) (H1 w.params)) = true := by kernel_rfl
end H
end Mine
namespace Mine
open PySem PySem.W PyProof.Rows PySem.Calls
namespace H
abbrev rw_ : RowW := PySem.Challenge.rw_pb0359_01.row.toRowW
def Xt (s : Shared) : Bool := xlAt q [] s && recOk (RowW.records rw_) s
theorem look2 (w : World) (os : OsState) : openSeen q loose (importedModules pw.main.body) Xt true ⟨H1 w.params, ⟨[]⟩, {}, 903, os⟩ = openGood q loose := by kernel_rfl
end H
end Mine
namespace Mine
open PySem PySem.W PyProof.Rows PySem.Calls
namespace H
theorem parts : behindTheImports pw = (bd.drop 0 |>.take 3) ++ ((bd.drop 3 |>.take 1) ++ ((bd.drop 4 |>.take 12) ++ ((bd.drop 16 |>.take 7) ++ ((bd.drop 23 |>.take 3) ++ ((bd.drop 26 |>.take 1) ++ ((bd.drop 27 |>.take 1) ++ ((bd.drop 28 |>.take 1) ++ ((bd.drop 29 |>.take 12) ++ ((bd.drop 41 |>.take 10) ++ ((bd.drop 51 |>.take 5) ++ [])))))))))) := by kernel_rfl
theorem run (w : World) (os : OsState) : topRun treeTable pw w 11 (some (.ref 6)) 3032 ⟨boot_heap w.params, ⟨[]⟩, boot_drawn, boot_toks, os⟩ (topStub pw) = some ⟨H1 w.params, ⟨[]⟩, {}, 903, os⟩ :=
  go_top (pre w os) (piece_block (block w os) ((congrArg (fun b => topRun treeTable pw w 11 (some (.ref 6)) _ _ (restOf b env cd _ B)) parts).trans (piece_app (r1 w os |> fun h => segRun_of h) (piece_app (r2 w os |> fun h => segRun_of h) (piece_app (r3 w os |> fun h => segRun_of h) (piece_app (r4 w os |> fun h => segRun_of h) (piece_app (r5 w os |> fun h => segRun_of h) (piece_app (r6 w os |> fun h => segRun_of h) (piece_app (r7 w os |> fun h => segRun_of h) (piece_app (r8 w os |> fun h => segRun_of h) (piece_app (r9 w os |> fun h => segRun_of h) (piece_app (r10 w os |> fun h => segRun_of h) (piece_app (r11 w os |> fun h => segRun_of h) (fin w os))))))))))))))
def hk : Hook := kHook K AS (fun _ => by kernel_rfl)
theorem left : LeftO pw q loose Xt hk.obs hk.val 7000 true :=
  LeftO.of_pieces (H₀ := boot_heap) (H₁ := H1) (gs₀ := Array.mk []) (gs₁ := ⟨[]⟩) (d₀ := boot_drawn) (d₁ := {}) (k₀ := boot_toks) (k₁ := 903) (m₀ := 11) (ann := some (.ref 6)) open_ size run (by kernel_rfl)
    (fun w => funext fun os => Prod.ext (look1 w os) (Prod.ext (look2 w os) (by kernel_rfl)))
end H
end Mine
end
noncomputable section
set_option maxHeartbeats 0
namespace Mine
open PySem PySem.W PyProof.Rows PySem.Calls
namespace H
def d : DefRec := ⟨S "law", (dF 55).1, (dF 55).2.1, (dF 55).2.2, ⟨528, 0, 567, 104⟩⟩
theorem and_t {a b : Bool} (h : a = true) (k : b = true) : (a && b) = true := by rw [h, k]; rfl
abbrev ol : OpenLaw := PySem.Challenge.rw_pb0359_01
theorem sa1 : sreFenced ol.row.prog.main = true := by rw [PySem.W.Fast.te11788848310118352699]; kernel_rfl
theorem sa2 : ((moduleNames ol.row.prog.main.body).isEmpty || lookedIntoSs (moduleNames ol.row.prog.main.body) ol.row.prog.main.body) = true := by kernel_rfl
theorem sa3 : namesResolve ol.row.prog = true := by rw [PySem.W.Fast.te8377067652309620493]; kernel_rfl
theorem sa4 : (ol.row.prog.boundNames.all fun n => !worldNames.contains n) = true := by kernel_rfl
theorem nrApp (lk : Look) : ∀ (a b : List Stmt), noRoadLSs lk a = true → noRoadLSs lk b = true → noRoadLSs lk (a ++ b) = true
  | [], _, _, h => h
  | s :: r, b, h1, h2 => by
    replace h1 : (noRoadLS lk s && noRoadLSs lk r) = true := h1
    obtain ⟨x, y⟩ := Bool.and_eq_true_iff.mp h1
    exact Bool.and_eq_true_iff.mpr ⟨x, nrApp lk r b y h2⟩
theorem lk1 : (importedModules ol.row.prog.main.body).all cThrough.contains = true := by kernel_rfl
theorem lk2 : readsOut ol.row.prog ol.row.prog.main.body (S "vars") = false := by rw [PySem.W.Fast.te13343964577679436407]; kernel_rfl
theorem lk3 : readsOut ol.row.prog ol.row.prog.main.body (S "dir") = false := by rw [PySem.W.Fast.te13343964577679436407]; kernel_rfl
theorem lk4 : readsOut ol.row.prog ol.row.prog.main.body (S "locals") = false := by rw [PySem.W.Fast.te13343964577679436407]; kernel_rfl
theorem lkEq : ({ strict := !(importedModules ol.row.prog.main.body).all cThrough.contains, foot := none, bare := (["vars", "dir", "locals"] : List Str).filter (readsOut ol.row.prog ol.row.prog.main.body) } : Look) = { strict := false, foot := none } := by
  rw [lk1, List.filter_cons, List.filter_cons, List.filter_cons, lk2, lk3, lk4]; rfl
theorem nr1 : noRoadLSs { strict := false, foot := none } (ol.row.prog.main.body.take 20) = true := by rw [PySem.W.Fast.te8326940854005059898]; kernel_rfl
theorem nr2 : noRoadLSs { strict := false, foot := none } ((ol.row.prog.main.body.drop 20).take 16) = true := by rw [PySem.W.Fast.te8326940854005059898]; kernel_rfl
theorem nr3 : noRoadLSs { strict := false, foot := none } ((ol.row.prog.main.body.drop 20).drop 16) = true := by rw [PySem.W.Fast.te8326940854005059898]; kernel_rfl
theorem sa5 : noRoadLSs { strict := !(importedModules ol.row.prog.main.body).all cThrough.contains, foot := none, bare := (["vars", "dir", "locals"] : List Str).filter (readsOut ol.row.prog ol.row.prog.main.body) } ol.row.prog.main.body = true := by
  rw [lkEq]
  have h := nrApp _ _ _ nr1 (nrApp _ _ _ nr2 nr3)
  rwa [List.take_append_drop, List.take_append_drop] at h
theorem sa6 : (namesMeet ol.row.prog ol.row.prog.main.body fun _ n => attrL n) = true := by rw [PySem.W.Fast.te17119622794617984870]; kernel_rfl
theorem saLook : looksOpen ol.row.prog = true := by
  delta looksOpen
  exact and_t (and_t (and_t (and_t (and_t sa1 sa2) sa3) sa4) sa5) sa6
theorem saRow : ol.row.wellSaid = true := by
  delta OpenRow.wellSaid OpenRow.partSaid
  refine and_t (and_t (and_t (and_t (and_t (and_t (and_t (and_t (and_t (and_t (and_t (and_t (and_t (and_t (and_t saLook ?_) ?_) ?_) ?_) ?_) ?_) ?_) ?_) ?_) ?_) ?_) ?_) ?_) ?_) ?_
  all_goals kernel_rfl
theorem sb3 : ol.footing.all footLine = true := by rw [PySem.W.Fast.te10501279942588096481]; kernel_rfl
theorem sb7 : noRoadLSs { strict := true, foot := some ol.bound', writes := ol.writes, may := ol.may } ol.footing = true := by rw [PySem.W.Fast.te8326940854005059898]; kernel_rfl
theorem sb9 : ol.namesIt = true := by rw [PySem.W.Fast.te16286561074155671207]; kernel_rfl
theorem sb14 : namesMeet ol.prog ol.footing (fun sc n => (!(["type", "isinstance", "issubclass", "getattr", "hasattr"] : List Str).contains n || sc.names.lookup n == some .globalImplicit) &&
    (ol.may != some n || sc.kind == .module || sc.names.lookup n == some .globalImplicit)) = true := by rw [PySem.W.Fast.te17119622794617984870]; kernel_rfl
theorem sb18 : namesMeet ol.prog ol.above (fun _ n => !ol.own.contains n) = true := by rw [PySem.W.Fast.te17119622794617984870]; kernel_rfl
theorem sb19 : (namesMeet ol.prog ol.footing fun sc n => sc.kind == .module || sc.names.lookup n != some .globalExplicit) = true := by rw [PySem.W.Fast.te17119622794617984870]; kernel_rfl
theorem sb8 : defStands ol.about ol.above = true := by rw [PySem.W.Fast.te9558739934217749035]; kernel_rfl
theorem sb17 : (ol.own.all fun n => !builtinNamed n) = true := by kernel_rfl
theorem sb16 : (ol.own.eraseDups.length == ol.own.length) = true := by kernel_rfl
theorem sb11 : (ol.bound'.all fun n => !builtinNamed n || ol.about == [n] || !ol.reads n) = true := by kernel_rfl
theorem said : PySem.Challenge.rw_pb0359_01.wellSaid = true := by
  delta OpenLaw.wellSaid
  refine and_t (and_t (and_t (and_t (and_t (and_t (and_t (and_t (and_t (and_t (and_t (and_t (and_t (and_t (and_t (and_t (and_t (and_t saRow ?_) sb3) ?_) ?_) ?_) sb7) sb8) sb9) ?_) sb11) ?_) ?_) sb14) ?_) sb16) sb17) sb18) sb19
  all_goals kernel_rfl
theorem whole : rw_.prog.tablesWhole = true := by
  delta Program.tablesWhole TablesWhole.wProgram
  rw [PySem.W.Fast.te6116379765354995101]; kernel_rfl
theorem hdef : defOf q rw_.name = some (d, []) := by kernel_rfl
theorem hp_ : rw_.prog.theDef rw_.name = some (d.params, d.body, d.scope) := by kernel_rfl
theorem hkw : kwWritten? d.params.kwonlyargs d.params.kw_defaults = some [] := by kernel_rfl
theorem hok : (chainsOk q && opensWell rw_.prog && (frees rw_ && rw_.within.isEmpty)) = true := by kernel_rfl
theorem hbare : rw_.prog.bare := ⟨by kernel_rfl, by kernel_rfl, by kernel_rfl, by kernel_rfl, by kernel_rfl, whole⟩
theorem hprom : rw_.promised := by w_witness2
abbrev rc : OpenRow := PySem.Challenge.rw_pb0359_01.row
theorem progEq : pw = rw_.prog := by kernel_rfl
theorem left' : LeftO rw_.prog q loose Xt hk.obs hk.val 7000 true := progEq ▸ left
theorem hX : ∀ s, Xt s = true → XL q [] (s.heap.nsMap mainGlobals) s.heap := fun s e => xl_of s (Bool.and_eq_true_iff.mp (show (xlAt q [] s && recOk (RowW.records rw_) s) = true from e)).1
theorem hRf : ∀ s, Xt s = true → RecFacts (RowW.records rw_) s.heap := fun s e => recFacts_of (Bool.and_eq_true_iff.mp (show (xlAt q [] s && recOk (RowW.records rw_) s) = true from e)).2
theorem hwr : (!rc.writes || rc.records.isEmpty) = true := by kernel_rfl
theorem head (walk : WalkO q loose (XL q []) hk.says rw_ d [] fun f vs => PySem.call f vs) : PySem.Challenge.rw_pb0359_01.Holds :=
  holds_law said fun sd => holds_open (r := rc) (q := q) (loose := loose) (Xt := Xt) (XP := XL q []) (Yf := hk.obs) (Ya := hk.val) (YP := hk.says) (d := d) (kwd := []) (N := 7000)
    left' hk.of hk.keeps hX XL.keeps hdef hp_ hkw hRf hwr sd hok hbare hprom walk
end H
end Mine
end
section
namespace Mine
open PySem PySem.W PyProof.Rows PySem.Calls
inductive E2 {α β : Type} (p : α → β → Prop) : Prop
  | mk (a : α) (b : β) (h : p a b) : E2 p
inductive E3 {α β γ : Type} (p : α → β → γ → Prop) : Prop
  | mk (a : α) (b : β) (c : γ) (h : p a b c) : E3 p
inductive E4 {α β γ δ : Type} (p : α → β → γ → δ → Prop) : Prop
  | mk (a : α) (b : β) (c : γ) (d : δ) (h : p a b c d) : E4 p
inductive E5 {α β γ δ ε : Type} (p : α → β → γ → δ → ε → Prop) : Prop
  | mk (a : α) (b : β) (c : γ) (d : δ) (e : ε) (h : p a b c d e) : E5 p
inductive E6 {α β γ δ ε ζ : Type} (p : α → β → γ → δ → ε → ζ → Prop) : Prop
  | mk (a : α) (b : β) (c : γ) (d : δ) (e : ε) (f : ζ) (h : p a b c d e f) : E6 p
inductive E7 {α β γ δ ε ζ η : Type} (p : α → β → γ → δ → ε → ζ → η → Prop) : Prop
  | mk (a : α) (b : β) (c : γ) (d : δ) (e : ε) (f : ζ) (g : η) (h : p a b c d e f g) : E7 p
inductive E8 {α β γ δ ε ζ η θ : Type} (p : α → β → γ → δ → ε → ζ → η → θ → Prop) : Prop
  | mk (a : α) (b : β) (c : γ) (d : δ) (e : ε) (f : ζ) (g : η) (i : θ) (h : p a b c d e f g i) : E8 p
inductive A3 (a b c : Prop) : Prop
  | mk (xa : a) (xb : b) (xc : c) : A3 a b c
inductive A4 (a b c d : Prop) : Prop
  | mk (xa : a) (xb : b) (xc : c) (xd : d) : A4 a b c d
inductive A5 (a b c d e : Prop) : Prop
  | mk (xa : a) (xb : b) (xc : c) (xd : d) (xe : e) : A5 a b c d e
inductive A6 (a b c d e f : Prop) : Prop
  | mk (xa : a) (xb : b) (xc : c) (xd : d) (xe : e) (xf : f) : A6 a b c d e f
inductive A7 (a b c d e f g : Prop) : Prop
  | mk (xa : a) (xb : b) (xc : c) (xd : d) (xe : e) (xf : f) (xg : g) : A7 a b c d e f g
noncomputable def AllP {α : Type} (P : α → Prop) : List α → Prop
  | [] => True
  | a :: l => P a ∧ AllP P l
theorem each {α : Type} {P : α → Prop} : ∀ {l : List α} {x : α}, x ∈ l → AllP P l → P x
  | _ :: _, _, .head _, h => h.1
  | _ :: _, _, .tail _ m, h => each m h.2
theorem each3 {α : Type} {P : α → Prop} {x a0 a1 a2 : α} (h : x ∈ [a0, a1, a2]) (h0 : P a0) (h1 : P a1) (h2 : P a2) : P x :=
  each h (⟨h0, h1, h2, trivial⟩ : P a0 ∧ P a1 ∧ P a2 ∧ True)
theorem each4 {α : Type} {P : α → Prop} {x a0 a1 a2 a3 : α} (h : x ∈ [a0, a1, a2, a3]) (h0 : P a0) (h1 : P a1) (h2 : P a2) (h3 : P a3) : P x :=
  each h (⟨h0, h1, h2, h3, trivial⟩ : P a0 ∧ P a1 ∧ P a2 ∧ P a3 ∧ True)
theorem each6 {α : Type} {P : α → Prop} {x a0 a1 a2 a3 a4 a5 : α} (h : x ∈ [a0, a1, a2, a3, a4, a5]) (h0 : P a0) (h1 : P a1) (h2 : P a2) (h3 : P a3) (h4 : P a4) (h5 : P a5) : P x :=
  each h (⟨h0, h1, h2, h3, h4, h5, trivial⟩ : P a0 ∧ P a1 ∧ P a2 ∧ P a3 ∧ P a4 ∧ P a5 ∧ True)
theorem each11 {α : Type} {P : α → Prop} {x a0 a1 a2 a3 a4 a5 a6 a7 a8 a9 a10 : α} (h : x ∈ [a0, a1, a2, a3, a4, a5, a6, a7, a8, a9, a10]) (h0 : P a0) (h1 : P a1) (h2 : P a2) (h3 : P a3) (h4 : P a4) (h5 : P a5) (h6 : P a6) (h7 : P a7) (h8 : P a8) (h9 : P a9) (h10 : P a10) : P x :=
  each h (⟨h0, h1, h2, h3, h4, h5, h6, h7, h8, h9, h10, trivial⟩ : P a0 ∧ P a1 ∧ P a2 ∧ P a3 ∧ P a4 ∧ P a5 ∧ P a6 ∧ P a7 ∧ P a8 ∧ P a9 ∧ P a10 ∧ True)
theorem each2 {α : Type} {P : α → Prop} {x a0 a1 : α} (h : x ∈ [a0, a1]) (h0 : P a0) (h1 : P a1) : P x :=
  each h (⟨h0, h1, trivial⟩ : P a0 ∧ P a1 ∧ True)
theorem allT {α : Type} {p : α → Bool} {x : α} {l : List α} (hx : x ∈ l) (h : l.all p = true) : p x = true := List.all_eq_true.mp h x hx
theorem allF {α : Type} {p : α → Bool} {x : α} {l : List α} (hx : x ∈ l) (h : (l.all fun y => !p y) = true) : p x = false := by
  have := List.all_eq_true.mp h x hx
  simpa using this
noncomputable abbrev Gh := Addr → Obj → Prop
noncomputable abbrev Led := List (Addr × Obj)
noncomputable abbrev PI (x : Int) : Value → Gh → Led → Prop := fun v _ fp' => fp' = [] ∧ ∃ t, v = .int x t
noncomputable abbrev PV (v0 : Value) : Value → Gh → Led → Prop := fun v _ fp' => fp' = [] ∧ v = v0
noncomputable def Led.ads (l : Led) : List Addr := l.map (·.1)
structure HS (hB : Heap) (G : Gh) (fp : Led) (h : Heap) : Prop where
  bs : ∀ a o, hB.get? a = some o → G a o
  sub : ∀ a o, G a o → h.get? a = some o
  own : ∀ p ∈ fp, h.get? p.1 = some p.2
  gmu : ∀ p ∈ fp, ∀ o, ¬ G p.1 o
  nd : fp.ads.Nodup
structure Eff (G : Gh) (fp : Led) (h : Heap) (G' : Gh) (fp' : Led) (h' : Heap) : Prop where
  keep : ∀ a o, h.get? a = some o → a ∉ fp.ads → h'.get? a = some o
  le : ∀ a o, G a o → G' a o
  new : ∀ a o, G' a o → G a o ∨ h.objs.size ≤ a
  sub : ∀ a o, G' a o → h'.get? a = some o
  own : ∀ p ∈ fp', h'.get? p.1 = some p.2
  adr : fp'.ads = fp.ads
  size : h.objs.size ≤ h'.objs.size
structure Ent where
  h₀ : Heap
  G₀ : Gh
  fa : List Addr
  L : Addr
structure St (hB : Heap) (e : Ent) (G : Gh) (m : Str → Option Value) (mu : Led) (h : Heap) : Prop where
  bs : ∀ a o, hB.get? a = some o → G a o
  ns : h.Ns e.L m
  sub : ∀ a o, G a o → h.get? a = some o
  own : ∀ p ∈ mu, h.get? p.1 = some p.2
  gL : ∀ o, ¬ G e.L o
  gmu : ∀ p ∈ mu, ∀ o, ¬ G p.1 o
  nd : (e.L :: mu.ads).Nodup
  base : ∀ a o, e.h₀.get? a = some o → a ∉ e.fa → h.get? a = some o
  le : ∀ a o, e.G₀ a o → G a o
  new : ∀ a o, G a o → e.G₀ a o ∨ e.h₀.objs.size ≤ a
  aL : e.h₀.objs.size ≤ e.L
  amu : ∀ p ∈ mu, p.1 ∈ e.fa ∨ e.h₀.objs.size ≤ p.1
  size : e.h₀.objs.size ≤ h.objs.size
noncomputable def gadd (G : Gh) (a : Addr) (o : Obj) : Gh := fun b x => G b x ∨ (b = a ∧ x = o)
theorem gadd_at {G : Gh} {a : Addr} {o : Obj} : gadd G a o a o := .inr ⟨rfl, rfl⟩
section
variable {hB h h' : Heap} {e : Ent} {G G' : Gh} {m m' : Str → Option Value} {mu fp fp' ex : Led} {o o' : Obj} {a : Addr}
theorem mem_ads {l : Led} {p : Addr × Obj} (hp : p ∈ l) : p.1 ∈ l.ads := List.mem_map_of_mem hp
theorem ads_append (l r : Led) : (l ++ r).ads = l.ads ++ r.ads := List.map_append
theorem St.ltL (S : St hB e G m mu h) : e.L < h.objs.size := S.ns.lt
theorem St.get (S : St hB e G m mu h) {a : Addr} {o : Obj} (hg : G a o) : h.get? a = some o := S.sub a o hg
theorem St.keepB (S : St hB e G m mu h) : ∀ a o, hB.get? a = some o → h.get? a = some o := fun a o x => S.sub a o (S.bs a o x)
theorem St.neL (S : St hB e G m mu h) {p : Addr × Obj} (hp : p ∈ mu) : p.1 ≠ e.L := fun q => (List.nodup_cons.mp S.nd).1 (q ▸ mem_ads hp)
theorem St.push (S : St hB e G m mu h) (o : Obj) : St hB e G m mu (h.push o) where
  bs := S.bs
  ns := S.ns.push o
  sub := fun a x g => Heap.get?_push_of_some _ (S.sub a x g)
  own := fun p hp => Heap.get?_push_of_some _ (S.own p hp)
  gL := S.gL
  gmu := S.gmu
  nd := S.nd
  base := fun a x g n => Heap.get?_push_of_some _ (S.base a x g n)
  le := S.le
  new := S.new
  aL := S.aL
  amu := S.amu
  size := by rw [Heap.size_push]; exact Nat.le_succ_of_le S.size
theorem St.notG (S : St hB e G m mu h) (x : Obj) : ¬ G h.objs.size x := fun g => Nat.lt_irrefl _ (Heap.lt_size (S.sub _ _ g))
theorem St.notMu (S : St hB e G m mu h) : h.objs.size ∉ mu.ads := fun q => by
  obtain ⟨p, hp, e⟩ := List.mem_map.mp q
  exact Nat.lt_irrefl _ (e ▸ Heap.lt_size (S.own p hp))
theorem St.pushMu (S : St hB e G m mu h) (o : Obj) (hf : o.isFreed = false) : St hB e G m ((h.objs.size, o) :: mu) (h.push o) :=
  let T := S.push o
  { T with
    own := fun p hp => by
      rcases List.mem_cons.mp hp with rfl | hp
      · exact Heap.get?_push_size _ hf
      · exact T.own p hp
    gmu := fun p hp x g => by
      rcases List.mem_cons.mp hp with rfl | hp
      · exact S.notG _ g
      · exact S.gmu p hp x g
    nd := by
      have := List.nodup_cons.mp S.nd
      refine List.nodup_cons.mpr ⟨fun q => ?_, List.nodup_cons.mpr ⟨S.notMu, this.2⟩⟩
      rcases List.mem_cons.mp q with q | q
      · have l := S.ltL; rw [q] at l; exact absurd l (Nat.lt_irrefl _)
      · exact this.1 q
    amu := fun p hp => by
      rcases List.mem_cons.mp hp with rfl | hp
      · exact .inr S.size
      · exact S.amu p hp }
theorem St.pushG (S : St hB e G m mu h) (o : Obj) (hf : o.isFreed = false) : St hB e (gadd G h.objs.size o) m mu (h.push o) :=
  let T := S.push o
  { T with
    bs := fun a x g => .inl (S.bs a x g)
    sub := fun a x g => by
      rcases g with g | ⟨rfl, rfl⟩
      · exact T.sub a x g
      · exact Heap.get?_push_size _ hf
    gL := fun x g => by
      rcases g with g | ⟨q, _⟩
      · exact S.gL x g
      · have l := S.ltL; rw [q] at l; exact absurd l (Nat.lt_irrefl _)
    gmu := fun p hp x g => by
      rcases g with g | ⟨q, _⟩
      · exact S.gmu p hp x g
      · exact S.notMu (q ▸ mem_ads hp)
    le := fun a x g => .inl (S.le a x g)
    new := fun a x g => by
      rcases g with g | ⟨rfl, _⟩
      · exact S.new a x g
      · exact .inr S.size }
theorem St.freeze (S : St hB e G m ((a, o) :: mu) h) (ha : e.h₀.objs.size ≤ a) : St hB e (gadd G a o) m mu h where
  bs := fun b x g => .inl (S.bs b x g)
  ns := S.ns
  sub := fun b x g => by
    rcases g with g | ⟨rfl, rfl⟩
    · exact S.sub b x g
    · exact S.own _ (.head _)
  own := fun p hp => S.own p (.tail _ hp)
  gL := fun x g => by
    rcases g with g | ⟨q, _⟩
    · exact S.gL x g
    · exact S.neL (.head _) q.symm
  gmu := fun p hp x g => by
    rcases g with g | ⟨q, _⟩
    · exact S.gmu p (.tail _ hp) x g
    · have := (List.nodup_cons.mp (List.nodup_cons.mp S.nd).2).1
      exact this (by show a ∈ mu.ads; rw [← q]; exact mem_ads hp)
  nd := by
    have n1 := List.nodup_cons.mp S.nd
    have n2 := List.nodup_cons.mp n1.2
    exact List.nodup_cons.mpr ⟨fun q => n1.1 (.tail _ q), n2.2⟩
  base := S.base
  le := fun b x g => .inl (S.le b x g)
  new := fun b x g => by
    rcases g with g | ⟨rfl, _⟩
    · exact S.new b x g
    · exact .inr ha
  aL := S.aL
  amu := fun p hp => S.amu p (.tail _ hp)
  size := S.size
theorem St.drop (S : St hB e G m ((a, o) :: mu) h) : St hB e G m mu h :=
  { S with
    own := fun p hp => S.own p (.tail _ hp)
    gmu := fun p hp => S.gmu p (.tail _ hp)
    nd := by
      have n1 := List.nodup_cons.mp S.nd
      have n2 := List.nodup_cons.mp n1.2
      exact List.nodup_cons.mpr ⟨fun q => n1.1 (.tail _ q), n2.2⟩
    amu := fun p hp => S.amu p (.tail _ hp) }
theorem St.frame (S : St hB e G m mu h) (hn : h'.Ns e.L m') (hs : Heap.SameBut e.L h h') : St hB e G m' mu h' where
  bs := S.bs
  ns := hn
  sub := fun b x g => (hs.2 b fun q => S.gL x (q ▸ g)).trans (S.sub b x g)
  own := fun p hp => (hs.2 _ (S.neL hp)).trans (S.own p hp)
  gL := S.gL
  gmu := S.gmu
  nd := S.nd
  base := fun b x g n => (hs.2 b fun q => by have := Heap.lt_size g; rw [q] at this; exact absurd this (Nat.not_lt.mpr S.aL)).trans (S.base b x g n)
  le := S.le
  new := S.new
  aL := S.aL
  amu := S.amu
  size := by rw [hs.1]; exact S.size
theorem St.same (S : St hB e G m (ex ++ (a, o) :: fp) h) (hs : Heap.SameBut a h h') (ho : h'.get? a = some o') : St hB e G m (ex ++ (a, o') :: fp) h' := by
  have hm : (a, o) ∈ ex ++ (a, o) :: fp := List.mem_append_right _ (.head _)
  have hads : (ex ++ (a, o') :: fp).ads = (ex ++ (a, o) :: fp).ads := by simp [Led.ads]
  have nd : (ex ++ (a, o) :: fp).ads.Nodup := (List.nodup_cons.mp S.nd).2
  have hx : ∀ p ∈ ex, p.1 ≠ a := fun p hp q => by
    rw [ads_append] at nd
    exact (List.nodup_append.mp nd).2.2 _ (mem_ads hp) _ (.head _) q
  have hf : ∀ p ∈ fp, p.1 ≠ a := fun p hp q => by
    rw [ads_append] at nd
    exact (List.nodup_cons.mp (List.nodup_append.mp nd).2.1).1 (by show a ∈ fp.ads; rw [← q]; exact mem_ads hp)
  refine { bs := S.bs, ns := S.ns.sameBut hs (S.neL hm).symm, sub := fun b x g => (hs.2 b fun q => S.gmu _ hm x (q ▸ g)).trans (S.sub b x g), own := fun p hp => ?_, gL := S.gL, gmu := fun p hp x g => ?_, nd := ?_,
           base := fun b x g n => ?_, le := S.le, new := S.new, aL := S.aL, amu := fun p hp => ?_, size := by rw [hs.1]; exact S.size }
  · rcases List.mem_append.mp hp with hp | hp
    · exact (hs.2 _ (hx p hp)).trans (S.own p (List.mem_append_left _ hp))
    · rcases List.mem_cons.mp hp with rfl | hp
      · exact ho
      · exact (hs.2 _ (hf p hp)).trans (S.own p (List.mem_append_right _ (.tail _ hp)))
  · have : p.1 ∈ (ex ++ (a, o) :: fp).ads := hads ▸ mem_ads hp
    obtain ⟨p', hp', q⟩ := List.mem_map.mp this
    exact S.gmu p' hp' x (q ▸ g)
  · rw [hads]; exact S.nd
  · refine (hs.2 b fun q => ?_).trans (S.base b x g n)
    rcases S.amu _ hm with y | y
    · exact n (q ▸ y)
    · have := Heap.lt_size g; rw [q] at this; exact absurd this (Nat.not_lt.mpr y)
  · have : p.1 ∈ (ex ++ (a, o) :: fp).ads := hads ▸ mem_ads hp
    obtain ⟨p', hp', q⟩ := List.mem_map.mp this
    exact q ▸ S.amu p' hp'
theorem St.toHS (S : St hB e G m (ex ++ fp) h) : HS hB G fp h where
  bs := S.bs
  sub := S.sub
  own := fun p hp => S.own p (List.mem_append_right _ hp)
  gmu := fun p hp => S.gmu p (List.mem_append_right _ hp)
  nd := by
    have := (List.nodup_cons.mp S.nd).2
    rw [ads_append] at this
    exact (List.nodup_append.mp this).2.1
theorem St.after (S : St hB e G m (ex ++ fp) h) (X : Eff G fp h G' fp' h') : St hB e G' m (ex ++ fp') h' := by
  have nd := (List.nodup_cons.mp S.nd).2
  have nL := (List.nodup_cons.mp S.nd).1
  rw [ads_append] at nd nL
  have hx : ∀ p ∈ ex, p.1 ∉ fp.ads := fun p hp q => (List.nodup_append.mp nd).2.2 _ (mem_ads hp) _ q rfl
  have hads : (ex ++ fp').ads = (ex ++ fp).ads := by rw [ads_append, ads_append, X.adr]
  have old : ∀ p ∈ ex ++ fp', ∃ q ∈ ex ++ fp, q.1 = p.1 := fun p hp => by
    have : p.1 ∈ (ex ++ fp).ads := hads ▸ mem_ads hp
    obtain ⟨q, hq, e⟩ := List.mem_map.mp this
    exact ⟨q, hq, e⟩
  refine { bs := fun a x g => X.le a x (S.bs a x g), ns := ?_, sub := X.sub, own := fun p hp => ?_, gL := fun x g => ?_, gmu := fun p hp x g => ?_, nd := by rw [hads]; exact S.nd,
           base := fun b x g n => ?_, le := fun a x g => X.le a x (S.le a x g), new := fun a x g => ?_, aL := S.aL, amu := fun p hp => ?_, size := Nat.le_trans S.size X.size }
  · obtain ⟨oL, es, ep, hL, r⟩ := S.ns
    exact ⟨oL, es, ep, X.keep _ _ hL fun q => nL (List.mem_append_right _ q), r⟩
  · rcases List.mem_append.mp hp with hp | hp
    · exact X.keep _ _ (S.own p (List.mem_append_left _ hp)) (hx p hp)
    · exact X.own p hp
  · rcases X.new _ _ g with g | g
    · exact S.gL x g
    · exact absurd S.ltL (Nat.not_lt.mpr g)
  · obtain ⟨q, hq, eq⟩ := old p hp
    rw [← eq] at g
    rcases X.new _ _ g with g | g
    · exact S.gmu q hq x g
    · exact absurd (Heap.lt_size (S.own q hq)) (Nat.not_lt.mpr g)
  · by_cases hb : b ∈ fp.ads
    · obtain ⟨p, hp, rfl⟩ := List.mem_map.mp hb
      rcases S.amu p (List.mem_append_right _ hp) with y | y
      · exact absurd y n
      · exact absurd (Heap.lt_size g) (Nat.not_lt.mpr y)
    · exact X.keep _ _ (S.base b x g n) hb
  · rcases X.new _ _ g with g | g
    · exact S.new a x g
    · exact .inr (Nat.le_trans S.size g)
  · obtain ⟨q, hq, eq⟩ := old p hp
    exact eq ▸ S.amu q hq
theorem St.toEff {fp₀ : Led} (S : St hB e G m (ex ++ fp) h) (hfa : e.fa = fp₀.ads) (had : fp.ads = fp₀.ads) (hk : ∀ a o, h'.get? a = some o → e.h₀.get? a = some o) (hz : h'.objs.size = e.h₀.objs.size) : Eff e.G₀ fp₀ h' G fp h where
  keep := fun a x g n => S.base a x (hk a x g) (hfa ▸ n)
  le := S.le
  new := fun a x g => by rw [hz]; exact S.new a x g
  sub := S.sub
  own := fun p hp => S.own p (List.mem_append_right _ hp)
  adr := had
  size := by rw [hz]; exact S.size
theorem St.perm (S : St hB e G m mu h) (p : mu.Perm fp) : St hB e G m fp h :=
  { S with
    own := fun q hq => S.own q (p.mem_iff.mpr hq)
    gmu := fun q hq => S.gmu q (p.mem_iff.mpr hq)
    nd := (List.Perm.cons e.L (List.Perm.map Prod.fst p)).nodup_iff.mp S.nd
    amu := fun q hq => S.amu q (p.mem_iff.mpr hq) }
end
end Mine
end
section
namespace Mine
open PySem PySem.W PyProof.Rows PySem.Calls
noncomputable abbrev Md (w : World) : Model := model H.rw_.prog w
structure Base (w : World) (hB : Heap) (mg mb : Str → Option Value) : Prop where
  K : (H.K w.params).In hB
  g : hB.Ns mainGlobals mg
  b : hB.Ns builtinsNs mb
  nolimit : hB.NoLimit
  blt : ∀ x : Str, x ≠ "__name__" → mb x = bootBuiltins x
structure Room (A : Around) (n : Nat) : Prop where
  handled : A.handled = none
  depth : A.depth + n < recursionLimit
  units : A.units + 32 * n < cLine
theorem Room.le {A : Around} {n k : Nat} (R : Room A n) (h : k ≤ n) : Room A k := ⟨R.handled, by have := R.depth; lia, by have := R.units; lia⟩
theorem Room.deeper {A : Around} {n : Nat} {env : Env} (R : Room A (n + 1)) : Room (A.deeper env) n := ⟨R.handled, by
  show A.depth + 1 + n < _; have := R.depth; lia, by show A.units + 3 + 32 * n < _; have := R.units; lia⟩
theorem Room.lt {A : Around} {n : Nat} (R : Room A n) : A.depth < recursionLimit := by have := R.depth; lia
noncomputable def fm (ks : List Str) (vs : List (Option Value)) : Str → Option Value := fun x => ((ks.zip vs).lookup x).join
theorem fm_at : ∀ {ks : List Str} {vs : List (Option Value)} {i : Nat} {x : Str} {v : Value}, ks.Nodup → ks[i]? = some x → vs[i]? = some (some v) → fm ks vs x = some v
  | k :: ks, [], i, x, v, _, _, h => by simp at h
  | k :: ks, u :: vs, 0, x, v, _, hk, hv => by
    simp only [List.getElem?_cons_zero, Option.some.injEq] at hk hv
    subst hk hv
    simp [fm, List.lookup_cons]
  | k :: ks, u :: vs, i + 1, x, v, nd, hk, hv => by
    simp only [List.getElem?_cons_succ] at hk hv
    have n1 := List.nodup_cons.mp nd
    have hne : (x == k) = false := by
      rw [beq_eq_false_iff_ne]; rintro rfl; exact n1.1 (List.mem_of_getElem? hk)
    have := fm_at n1.2 hk hv
    simp only [fm, List.zip_cons_cons, List.lookup_cons, hne] at this ⊢
    exact this
theorem fm_set : ∀ {ks : List Str} {vs : List (Option Value)} {i : Nat} {x : Str} (v : Value), ks.Nodup → ks[i]? = some x → i < vs.length → fm ks (vs.set i (some v)) = fun y => if y = x then some v else fm ks vs y
  | [], _, _, _, _, _, h, _ => by simp at h
  | k :: ks, [], i, x, v, _, _, h => by simp at h
  | k :: ks, u :: vs, 0, x, v, _, hk, _ => by
    simp only [List.getElem?_cons_zero, Option.some.injEq] at hk
    subst hk
    funext y
    by_cases h : y = k
    · subst h; simp [fm, List.lookup_cons]
    · have : (y == k) = false := beq_eq_false_iff_ne.mpr h
      simp [fm, List.lookup_cons, h, this]
  | k :: ks, u :: vs, i + 1, x, v, nd, hk, hl => by
    simp only [List.getElem?_cons_succ] at hk
    have n1 := List.nodup_cons.mp nd
    have hne : x ≠ k := by rintro rfl; exact n1.1 (List.mem_of_getElem? hk)
    have ih := fm_set v n1.2 hk (Nat.lt_of_succ_lt_succ hl)
    funext y
    have e := congrFun ih y
    by_cases h : y = k
    · subst h
      simp [fm, List.lookup_cons, Ne.symm hne]
    · have hb : (y == k) = false := beq_eq_false_iff_ne.mpr h
      simp only [fm, List.set_cons_succ, List.zip_cons_cons, List.lookup_cons, hb] at e ⊢
      exact e
theorem fm_none (ks : List Str) (n : Nat) (x : Str) : fm ks (List.replicate n none) x = none := by
  induction ks generalizing n with
  | nil => rfl
  | cons k ks ih =>
    cases n with
    | zero => simp [fm]
    | succ n =>
      rw [List.replicate_succ]
      simp only [fm, List.zip_cons_cons, List.lookup_cons]
      cases h : x == k with
      | true => rfl
      | false => exact ih n
theorem lookup_append_none {α : Type} {l r : List (Str × α)} {x : Str} (h : l.lookup x = none) : (l ++ r).lookup x = r.lookup x := by
  induction l with
  | nil => rfl
  | cons p l ih =>
    obtain ⟨k, v⟩ := p
    rw [List.cons_append, List.lookup_cons]
    rw [List.lookup_cons] at h
    cases hb : x == k with
    | true => rw [hb] at h; cases h
    | false => rw [hb] at h; exact ih h
theorem lookup_append_some {α : Type} {l r : List (Str × α)} {x : Str} {v : α} (h : l.lookup x = some v) : (l ++ r).lookup x = some v := by
  induction l with
  | nil => cases h
  | cons p l ih =>
    obtain ⟨k, u⟩ := p
    rw [List.cons_append, List.lookup_cons]
    rw [List.lookup_cons] at h
    cases hb : x == k with
    | true => rw [hb] at h; exact h
    | false => rw [hb] at h; exact ih h
theorem fm_binds : ∀ (ps rest : List Str) (as : List Value), (ps ++ rest).Nodup → ps.length = as.length → ∀ (n : Nat) (x : Str), (ps.zip as).reverse.lookup x = fm (ps ++ rest) (as.map some ++ List.replicate n none) x
  | [], rest, [], _, _, n, x => by simp [fm_none]
  | p :: ps, rest, a :: as, nd, hl, n, x => by
    have n1 := List.nodup_cons.mp nd
    have ih := fm_binds ps rest as n1.2 (Nat.succ.inj hl) n x
    rw [List.zip_cons_cons, List.reverse_cons]
    simp only [List.cons_append, List.map_cons]
    by_cases h : x = p
    · subst h
      have none' : (ps.zip as).reverse.lookup x = none := by
        cases q : (ps.zip as).reverse.lookup x with
        | none => rfl
        | some v =>
          exfalso
          have : ∀ l : List (Str × Value), l.lookup x = some v → (x, v) ∈ l := by
            intro l
            induction l with
            | nil => intro h; cases h
            | cons p l ih =>
              obtain ⟨k, u⟩ := p
              intro h
              rw [List.lookup_cons] at h
              cases hb : x == k with
              | true => rw [hb] at h; cases h; rw [beq_iff_eq.mp hb]; exact .head _
              | false => rw [hb] at h; exact .tail _ (ih h)
          have m := List.mem_reverse.mp (this _ q)
          exact n1.1 (List.mem_append_left _ (List.of_mem_zip m).1)
      rw [lookup_append_none none']
      simp [fm, List.lookup_cons]
    · have hb : (x == p) = false := beq_eq_false_iff_ne.mpr h
      have e2 : fm (p :: (ps ++ rest)) (some a :: (as.map some ++ List.replicate n none)) x = fm (ps ++ rest) (as.map some ++ List.replicate n none) x := by
        simp only [fm, List.zip_cons_cons, List.lookup_cons, hb]
      rw [e2, ← ih]
      cases q : (ps.zip as).reverse.lookup x with
      | none => rw [lookup_append_none q]; simp [List.lookup_cons, hb]
      | some v => rw [lookup_append_some q]
structure EnvOK (env : Env) (ks gs : List Str) (L : Addr) : Prop where
  kind : env.scope.kind = .function
  loc : env.locals = L
  glob : env.globals = mainGlobals
  blt : env.builtins = builtinsNs
  lk : ∀ (i : Nat) (x : Str), ks[i]? = some x → env.kindOf x = some .local ∧ x ≠ "__debug__"
  gk : ∀ (i : Nat) (x : Str), gs[i]? = some x → env.kindOf x = some .globalImplicit ∧ x ≠ "__debug__"
  nd : ks.Nodup
noncomputable def Calls (w : World) (hB : Heap) (n : Nat) (F : Addr) (args : List Value) (G : Gh) (fp : Led) (P : Value → Gh → Led → Prop) : Prop :=
  ∀ (A : Around) (s : Shared) (R : Result → Shared → Prop), Room A n → HS hB G fp s.heap →
    (∀ r G' fp' h' tk', Eff G fp s.heap G' fp' h' → P r G' fp' → R (.ok (.ret r)) { s with heap := h', toks := tk' }) → codeAny (Md w) A (.call (.ref F) ⟨args, []⟩) R s
theorem Calls.post {w : World} {hB : Heap} {n : Nat} {F : Addr} {args : List Value} {G : Gh} {fp : Led} {P Q : Value → Gh → Led → Prop} (C : Calls w hB n F args G fp P) (h : ∀ v G' fp', P v G' fp' → Q v G' fp') : Calls w hB n F args G fp Q := fun A s R rm hs ret => C A s R rm hs fun r G' fp' h' tk' e p => ret r G' fp' h' tk' e (h _ _ _ p)
noncomputable def Ret (hB : Heap) (e : Ent) (P : Value → Gh → Led → Prop) (g : Array GenState) (d : Drawn) (os : OsState) (fl : Flow) (s' : Shared) : Prop :=
  (E4 fun G' m' ex fp' => A6 (St hB e G' m' (ex ++ fp') s'.heap) (fp'.ads = e.fa) (P (match fl with | .ret v => v | _ => .none) G' fp') (s'.gens = g) (s'.drawn = d) (s'.os = os))
structure FnOk (fd : FuncData) (ps rest gs : List Str) (body : List Stmt) : Prop where
  body : fd.body = .stmts body
  kind : fd.scope.kind = .function
  gen : fd.scope.isGenerator = false
  co : fd.scope.isCoroutine = false
  cells : (fd.scope.names.all fun x => x.2 != .cell) = true
  lk : ((ps ++ rest).all fun x => fd.scope.names.lookup x == some .local && x != "__debug__") = true
  gk : (gs.all fun x => fd.scope.names.lookup x == some .globalImplicit && x != "__debug__") = true
  nd : decide ((ps ++ rest).Nodup) = true
  glob : fd.globals = mainGlobals
  blt : fd.builtins = builtinsNs
theorem envOK {fd : FuncData} {ps rest gs : List Str} {body : List Stmt} (I : FnOk fd ps rest gs body) (L F : Addr) : EnvOK (callEnv fd L F) (ps ++ rest) gs L where
  kind := I.kind
  loc := rfl
  glob := I.glob
  blt := I.blt
  lk := fun i x h => by
    have := List.all_eq_true.mp I.lk x (List.mem_of_getElem? h)
    simp only [Bool.and_eq_true, beq_iff_eq, bne_iff_ne] at this
    exact this
  gk := fun i x h => by
    have := List.all_eq_true.mp I.gk x (List.mem_of_getElem? h)
    simp only [Bool.and_eq_true, beq_iff_eq, bne_iff_ne] at this
    exact this
  nd := of_decide_eq_true I.nd
theorem enter {w : World} {hB : Heap} {mg mb : Str → Option Value} {n : Nat} {F : Addr} {args bs : List Value} {G : Gh} {fp : Led} {P : Value → Gh → Led → Prop} {fo : Obj} {fd : FuncData} {ps rest gs : List Str} {body : List Stmt}
    (Bs : Base w hB mg mb) (hF : hB.get? F = some fo) (hd : fo.data = .func fd) (I : FnOk fd ps rest gs body) (hcd : hB.CodeRec fd.code fd.qualname)
    (hbind : ∀ h g d t os, (∀ a o, hB.get? a = some o → h.get? a = some o) → BindsTo ⟨h, g, d, t, os⟩ fd ⟨args, []⟩ (ps.zip bs)) (hl : ps.length = bs.length)
    (k : ∀ A e env h t g d os, Room A n → e.fa = fp.ads → e.G₀ = G → EnvOK env (ps ++ rest) gs e.L → St hB e G (fm (ps ++ rest) (bs.map some ++ List.replicate rest.length none)) fp h →
      wpAny (Md w) A (execs body env) (Ret hB e P g d os) (fun _ _ => False) ⟨h, g, d, t, os⟩) : Calls w hB (n + 1) F args G fp P := by
  intro A s Q R H ret
  obtain ⟨h, g, d, t, os⟩ := s
  have kp : ∀ a o, hB.get? a = some o → h.get? a = some o := fun a o x => H.sub a o (H.bs a o x)
  refine codeAny_call_def (fd := fd) (body := body) (binds := ps.zip bs) R.lt (kp _ _ hF) hd (Bs.nolimit.keeps kp) (hcd.keeps kp) I.body (hbind h g d t os kp) (fun x hx => ?_) (fun x hx => ?_) (fun h₀ hns hk => ?_) I.co I.gen I.kind
  · have := List.all_eq_true.mp I.cells x hx
    simpa using this
  · have hm := (List.of_mem_zip hx).1
    have := List.all_eq_true.mp I.lk x.1 (List.mem_append_left _ hm)
    simp only [Bool.and_eq_true, beq_iff_eq] at this
    exact this.1
  · have ndk : (ps ++ rest).Nodup := of_decide_eq_true I.nd
    have e : (fun x => (ps.zip bs).reverse.lookup x) = fm (ps ++ rest) (bs.map some ++ List.replicate rest.length none) := funext fun x => fm_binds ps rest bs ndk hl _ x
    rw [e] at hns
    have S : St hB ⟨h, G, fp.ads, h.objs.size⟩ G (fm (ps ++ rest) (bs.map some ++ List.replicate rest.length none)) fp h₀ :=
      { bs := H.bs, ns := hns, sub := fun a o x => hk a o (H.sub a o x), own := fun p hp => hk _ _ (H.own p hp), gL := fun o x => absurd (Heap.lt_size (H.sub _ _ x)) (Nat.lt_irrefl _), gmu := H.gmu,
        nd := List.nodup_cons.mpr ⟨fun q => by
          obtain ⟨p, hp, eq⟩ := List.mem_map.mp q
          exact absurd (Heap.lt_size (H.own p hp)) (by rw [eq]; exact Nat.lt_irrefl _), H.nd⟩,
        base := fun a o x _ => hk a o x, le := fun _ _ x => x, new := fun _ _ x => .inl x, aL := Nat.le_refl _, amu := fun p hp => .inl (mem_ads hp), size := Nat.le_of_lt hns.lt }
    refine wpAny_mono (k _ ⟨h, G, fp.ads, h.objs.size⟩ _ h₀ (t + (ps.zip bs).length) g d os R.deeper rfl rfl (envOK I _ _) S) (fun fl s' hr => ?_) fun _ _ f => f.elim
    obtain ⟨G', m', ex, fp', S', had, hP, hg, hdr, ho⟩ := hr
    obtain ⟨h', g', d', t', os'⟩ := s'
    dsimp only at S' hg hdr ho
    subst hg hdr ho
    exact ret _ G' fp' h' t' (S'.toEff rfl had (fun _ _ x => x) rfl) hP
end Mine
end
section
namespace Mine
open PySem PySem.W PyProof.Rows PySem.Calls
structure Cx where
  w : World
  hB : Heap
  A : Around
  env : Env
  e : Ent
  ks : List Str
  gs : List Str
  hid : Led := []
structure Sg where
  vs : List (Option Value)
  G : Gh
  mu : Led
noncomputable def Cx.St (c : Cx) (σ : Sg) (h : Heap) : Prop := Mine.St c.hB c.e σ.G (fm c.ks σ.vs) (σ.mu ++ c.hid) h
structure Cx.Ok (c : Cx) (mg mb : Str → Option Value) (n : Nat) : Prop where
  X : EnvOK c.env c.ks c.gs c.e.L
  B : Base c.w c.hB mg mb
  R : Room c.A n
theorem Cx.St.mid {c : Cx} {σ : Sg} {h : Heap} {ex fp : Led} {p : Addr × Obj} (S : c.St σ h) (e : σ.mu = ex ++ p :: fp) : Mine.St c.hB c.e σ.G (fm c.ks σ.vs) (ex ++ p :: (fp ++ c.hid)) h := by
  unfold Cx.St at S
  rw [e, List.append_assoc, List.cons_append] at S
  exact S
theorem Cx.St.unmid {c : Cx} {vs : List (Option Value)} {G : Gh} {h : Heap} {ex fp : Led} {p : Addr × Obj} (S : Mine.St c.hB c.e G (fm c.ks vs) (ex ++ p :: (fp ++ c.hid)) h) : c.St ⟨vs, G, ex ++ p :: fp⟩ h := by
  unfold Cx.St
  rw [List.append_assoc, List.cons_append]
  exact S
structure IfB (r : Bool) (A B : Prop) : Prop where of ::
  t : r = true → A
  f : r = false → B
structure Do (c : Cx) (σ : Sg) {α : Type} (tr : Sem α) (K : α → Sg → Prop) : Prop where
  run : ∀ h g d t os (Q : α → Shared → Prop) (E : Value → Shared → Prop), c.St σ h → (∀ a σ' h' t', K a σ' → c.St σ' h' → Q a ⟨h', g, d, t', os⟩) → wpAny (Md c.w) c.A tr Q E ⟨h, g, d, t, os⟩
section
variable {c : Cx} {σ : Sg} {α β : Type}
theorem Do.mono {tr : Sem α} {K K' : α → Sg → Prop} (x : Do c σ tr K) (h : ∀ a σ', K a σ' → K' a σ') : Do c σ tr K' :=
  ⟨fun h' g d t os Q E S q => x.run h' g d t os Q E S fun a σ' h'' t' k => q a σ' h'' t' (h a σ' k)⟩
theorem Do.pure {a : α} {K : α → Sg → Prop} (k : K a σ) : Do c σ (Pure.pure a : Sem α) K := ⟨fun h _ _ t _ _ _ S q => wpAny_pure (q a σ h t k S)⟩
theorem Do.bind {m : Sem α} {f : α → Sem β} {K : β → Sg → Prop} (x : Do c σ m fun a σ' => Do c σ' (f a) K) : Do c σ (m >>= f) K :=
  ⟨fun h g d t os Q E S q => wpAny_bind (x.run h g d t os _ E S fun a _ h' t' k S' => k.run h' g d t' os Q E S' q)⟩
theorem Do.holding {vs : List Value} {m : Sem α} {K : α → Sg → Prop} (x : Do c σ m K) : Do c σ (holding vs m) K := ⟨fun h g d t os Q E S q => wpAny_holding (x.run h g d t os Q E S q)⟩
theorem Do.standAt {p : Pos} {K : Unit → Sg → Prop} (k : K () σ) : Do c σ (standAt p) K := ⟨fun h _ _ t _ _ _ S q => wpAny_standAt (q () σ h t k S)⟩
theorem Do.rule {t : String} {K : Unit → Sg → Prop} (k : K () σ) : Do c σ (rule t) K := ⟨fun h _ _ t _ _ _ S q => wpAny_rule (q () σ h t k S)⟩
theorem Do.point {K : Unit → Sg → Prop} (k : K () σ) : Do c σ point K := ⟨fun h _ _ t _ _ _ S q => wpAny_point (q () σ h t k S)⟩
theorem Do.release {vs keep : List Value} {K : Unit → Sg → Prop} (k : K () σ) : Do c σ (release vs keep) K := ⟨fun h _ _ t _ _ _ S q => wpAny_release (q () σ h t k S)⟩
theorem Do.operate {vs : List Value} {m : Sem Value} {K : Value → Sg → Prop} (x : Do c σ m K) : Do c σ (operate vs m) K := ⟨fun h g d t os Q E S q => wpAny_operateT (x.run h g d t os Q E S q)⟩
theorem Do.letGo {b : Expr} {o r : Value} {K : Unit → Sg → Prop} (k : K () σ) : Do c σ (letTemporaryGo b o r) K := ⟨fun h _ _ t _ _ _ S q => wpAny_letTemporaryGo (q () σ h t k S)⟩
theorem Do.of_eq {t t' : Sem α} {K : α → Sg → Prop} (e : t = t') (x : Do c σ t' K) : Do c σ t K := e ▸ x
theorem Do.mkInt {i : Int} {K : Value → Sg → Prop} (k : ∀ t, K (.int i t) σ) : Do c σ (mkInt i) K := ⟨fun h _ _ t _ _ _ S q => wpAny_mkInt (q _ σ h _ (k t) S)⟩
theorem Do.mkText {x : Str} {K : Value → Sg → Prop} (k : ∀ t, K (.str x t) σ) : Do c σ (mkText x) K := ⟨fun h _ _ t _ _ _ S q => wpAny_mkText (q _ σ h _ (k t) S)⟩
theorem Do.execs_nil {K : Flow → Sg → Prop} (k : K .next σ) : Do c σ (execs [] c.env) K := Do.pure k
theorem Do.execs_cons {st : Stmt} {rest : List Stmt} {K : Flow → Sg → Prop}
    (x : Do c σ (exec st c.env) fun fl σ' => match fl with | .next => Do c σ' (execs rest c.env) K | f => K f σ') : Do c σ (execs (st :: rest) c.env) K := by
  rw [PySem.execs_cons]
  refine Do.bind (x.mono fun fl σ' k => ?_)
  cases fl with
  | next => exact k
  | brk => exact Do.pure k
  | cont => exact Do.pure k
  | ret v => exact Do.pure k
theorem Do.const_int {i : Int} {k : Nat} {p : Pos} {K : Value → Sg → Prop} (x : ∀ t, K (.int i t) σ) : Do c σ (eval (.Constant (.int i) k p) c.env) K := Do.of_eq (eval_Constant _ _ _ _) (Do.mkInt x)
theorem Do.const_str {s : Str} {k : Nat} {p : Pos} {K : Value → Sg → Prop} (x : ∀ t, K (.str s t) σ) : Do c σ (eval (.Constant (.str s) k p) c.env) K := Do.of_eq (eval_Constant _ _ _ _) (Do.mkText x)
theorem Do.const_none {k : Nat} {p : Pos} {K : Value → Sg → Prop} (x : K .none σ) : Do c σ (eval (.Constant .none k p) c.env) K := Do.of_eq (eval_Constant _ _ _ _) (Do.pure x)
theorem Do.const_bool {b : Bool} {k : Nat} {p : Pos} {K : Value → Sg → Prop} (x : K (.bool b) σ) : Do c σ (eval (.Constant (.bool b) k p) c.env) K := Do.of_eq (eval_Constant _ _ _ _) (Do.pure x)
variable {mg mb : Str → Option Value} {n : Nat}
theorem Do.name (o : c.Ok mg mb n) (i : Nat) {x : Str} {p : Pos} {v : Value} {K : Value → Sg → Prop} (hx : c.ks[i]? = some x) (hv : σ.vs[i]? = some (some v)) (k : K v σ) : Do c σ (eval (.Name x p) c.env) K := ⟨fun h g d t os Q E S q => by
    obtain ⟨hl, hd⟩ := o.X.lk i x hx
    refine wpAny_Name (wpAny_loadName_local o.X.kind hl (m := fm c.ks σ.vs) ?_ (fm_at o.X.nd hx hv) (q v σ h t k S)) (beq_eq_false_iff_ne.mpr hd)
    show h.Ns c.env.locals _
    rw [o.X.loc]; exact S.ns⟩
theorem Do.global (o : c.Ok mg mb n) (i : Nat) {x : Str} {p : Pos} {v : Value} {K : Value → Sg → Prop} (hx : c.gs[i]? = some x) (hv : mg x = some v) (k : K v σ) : Do c σ (eval (.Name x p) c.env) K := ⟨fun h g d t os Q E S q => by
    obtain ⟨hl, hd⟩ := o.X.gk i x hx
    refine Name_function_global o.X.kind hl (loadGlobal_global (mg := mg) ?_ hv (q v σ h t k S)) (beq_eq_false_iff_ne.mpr hd)
    show h.Ns c.env.globals _
    rw [o.X.glob]; exact o.B.g.keeps (St.keepB S)⟩
theorem Do.builtin (o : c.Ok mg mb n) (i : Nat) {x : Str} {p : Pos} {v : Value} {K : Value → Sg → Prop} (hx : c.gs[i]? = some x) (hm : mg x = none) (hn : x ≠ "__name__") (hv : bootBuiltins x = some v) (k : K v σ) : Do c σ (eval (.Name x p) c.env) K := ⟨fun h g d t os Q E S q => by
    obtain ⟨hl, hd⟩ := o.X.gk i x hx
    refine Name_function_global o.X.kind hl (loadGlobal_builtin (mg := mg) (mb := mb) ?_ hm ?_ ((o.B.blt x hn).trans hv) (q v σ h t k S)) (beq_eq_false_iff_ne.mpr hd)
    · show h.Ns c.env.globals _
      rw [o.X.glob]; exact o.B.g.keeps (St.keepB S)
    · show h.Ns c.env.builtins _
      rw [o.X.blt]; exact o.B.b.keeps (St.keepB S)⟩
theorem Do.binop {l r : Expr} {op : Operator} {p : Pos} {K : Value → Sg → Prop}
    (x : Do c σ (eval l c.env) fun a σ₁ => Do c σ₁ (eval r c.env) fun b σ₂ => Do c σ₂ (binaryOp op a b) K) : Do c σ (eval (.BinOp l op r p) c.env) K := by
  rw [arm_eval_BinOp]
  exact Do.bind (x.mono fun a σ₁ y => Do.bind (Do.holding (y.mono fun b σ₂ z => Do.bind (Do.standAt (Do.operate z)))))
theorem Do.ifexp {t b o : Expr} {p : Pos} {K : Value → Sg → Prop}
    (x : Do c σ (isTrue t c.env (eval t c.env)) fun r σ₁ => IfB r (Do c σ₁ (eval b c.env) K) (Do c σ₁ (eval o c.env) K)) : Do c σ (eval (.IfExp t b o p) c.env) K := by
  rw [arm_eval_IfExp]
  refine Do.bind (x.mono fun r σ₁ y => ?_)
  cases r
  · exact y.f rfl
  · exact y.t rfl
theorem Do.boolop {op : BoolOp} {es : List Expr} {p : Pos} {K : Value → Sg → Prop} (x : Do c σ (boolOp p op (evalEach es c.env)) K) : Do c σ (eval (.BoolOp op es p) c.env) K := x
theorem Do.isTrue_not {x : Expr} {p : Pos} {wh : Sem Value} {K : Bool → Sg → Prop} (y : Do c σ (isTrue x c.env (eval x c.env)) fun b σ' => K (!b) σ') : Do c σ (isTrue (.UnaryOp .Not x p) c.env wh) K := by
  rw [arm_isTrue_UnaryOp]
  exact Do.bind (y.mono fun b σ' k => Do.pure k)
theorem Do.isTrue_bool {op : BoolOp} {es : List Expr} {p : Pos} {wh : Sem Value} {K : Bool → Sg → Prop} (y : Do c σ (allTrue op es c.env) K) : Do c σ (isTrue (.BoolOp op es p) c.env wh) K := y
theorem Do.allTrue_nil {op : BoolOp} {K : Bool → Sg → Prop} (k : K (op == .And) σ) : Do c σ (allTrue op [] c.env) K := Do.pure k
theorem Do.allTrue_and {x : Expr} {r : List Expr} {K : Bool → Sg → Prop} (y : Do c σ (isTrue x c.env (eval x c.env)) fun b σ' => IfB b (Do c σ' (allTrue .And r c.env) K) (K false σ')) : Do c σ (allTrue .And (x :: r) c.env) K := by
  rw [arm_allTrue_cons]
  refine Do.bind (y.mono fun b σ' k => ?_)
  cases b
  · exact Do.pure (k.f rfl)
  · exact k.t rfl
theorem Do.allTrue_or {x : Expr} {r : List Expr} {K : Bool → Sg → Prop} (y : Do c σ (isTrue x c.env (eval x c.env)) fun b σ' => IfB b (K true σ') (Do c σ' (allTrue .Or r c.env) K)) : Do c σ (allTrue .Or (x :: r) c.env) K := by
  rw [arm_allTrue_cons]
  refine Do.bind (y.mono fun b σ' k => ?_)
  cases b
  · exact k.f rfl
  · exact Do.pure (k.t rfl)
theorem Do.testChain1 {op : CmpOp} {p : Pos} {a : Value} {r : Sem Value} {K : Bool → Sg → Prop} (y : Do c σ r fun b σ₁ => Do c σ₁ (compareOp op a b) fun v σ₂ => Do c σ₂ (truthy v) K) : Do c σ (testChain p a [op] [r]) K := by
  unfold testChain
  exact Do.bind (Do.holding (y.mono fun b σ₁ z => Do.bind (Do.standAt (Do.bind (Do.operate (z.mono fun v σ₂ k => Do.holding k))))))
theorem Do.isTrue_cmp {l r : Expr} {op : CmpOp} {p : Pos} {wh : Sem Value} {K : Bool → Sg → Prop} (hm : lastMarks [op] [r] = false)
    (y : Do c σ (eval l c.env) fun a σ₀ => Do c σ₀ (eval r c.env) fun b σ₁ => Do c σ₁ (compareOp op a b) fun v σ₂ => Do c σ₂ (truthy v) K) : Do c σ (isTrue (.Compare l [op] [r] p) c.env wh) K := by
  rw [arm_isTrue_Compare]
  refine Do.bind (y.mono fun a σ₀ z => ?_)
  rw [markedEach_of_false _ _ _ hm]
  exact Do.testChain1 z
theorem Do.truthy_bool {b : Bool} {K : Bool → Sg → Prop} (k : K b σ) : Do c σ (truthy (.bool b)) K := ⟨fun h _ _ t _ _ _ S q => wpAny_truthy_bool (q b σ h t k S)⟩
theorem Do.ret {e : Expr} {p : Pos} {K : Flow → Sg → Prop} (x : Do c σ (eval e c.env) fun v σ' => K (.ret v) σ') : Do c σ (exec (.Return (some e) p) c.env) K := by
  rw [exec_Return_some]
  exact Do.bind (Do.standAt (Do.bind (x.mono fun v σ' k => Do.pure k)))
theorem Do.ret_none {p : Pos} {K : Flow → Sg → Prop} (k : K (.ret .none) σ) : Do c σ (exec (.Return none p) c.env) K := by
  rw [exec_Return_none]
  exact Do.bind (Do.standAt (Do.pure k))
theorem Do.if_ {t : Expr} {b o : List Stmt} {p : Pos} {K : Flow → Sg → Prop}
    (x : Do c σ (isTrue t c.env (eval t c.env)) fun r σ₁ => IfB r (Do c σ₁ (execs b c.env) K) (Do c σ₁ (execs o c.env) K)) : Do c σ (exec (.If t b o p) c.env) K := by
  rw [exec_If]
  refine Do.bind (Do.standAt (Do.bind (x.mono fun r σ₁ y => ?_)))
  cases r
  · exact y.f rfl
  · exact y.t rfl
theorem Do.pass {p : Pos} {K : Flow → Sg → Prop} (k : K .next σ) : Do c σ (exec (.Pass p) c.env) K := Do.bind (Do.standAt (Do.pure k))
theorem Do.brk {p : Pos} {K : Flow → Sg → Prop} (k : K .brk σ) : Do c σ (exec (.Break p) c.env) K := Do.bind (Do.standAt (Do.pure k))
theorem Do.expr {e : Expr} {p : Pos} {K : Flow → Sg → Prop} (o : c.Ok mg mb n) (hs : swapsWith e none p.line c.env = Pure.pure false) (x : Do c σ (eval e c.env) fun _ σ' => K .next σ') : Do c σ (exec (.Expr e p) c.env) K :=
  ⟨fun h g d t os Q E S q => wpAny_Expr_any (x.run h g d t os _ E S fun a σ' h' t' k S' => q .next σ' h' t' k S') (by
    unfold interactive; rw [o.X.kind]; rfl) hs⟩
theorem Do.store (o : c.Ok mg mb n) (i : Nat) {x : Str} {v : Value} {K : Unit → Sg → Prop} (hx : c.ks[i]? = some x) (hi : i < σ.vs.length) (k : K () ⟨σ.vs.set i (some v), σ.G, σ.mu⟩) : Do c σ (storeName c.env x v) K := ⟨fun h g d t os Q E S q => by
    obtain ⟨hl, hd⟩ := o.X.lk i x hx
    refine wpAny_storeName_local (m := fm c.ks σ.vs) hl (by show h.Ns c.env.locals _; rw [o.X.loc]; exact S.ns) (fun h' hn hs => ?_) (by rw [o.X.kind]; rfl)
    rw [o.X.loc] at hn hs
    refine q () _ h' _ k ?_
    show Mine.St _ _ _ (fm c.ks (σ.vs.set i (some v))) (σ.mu ++ c.hid) _
    rw [fm_set v o.X.nd hx hi]
    exact St.frame S hn hs⟩
theorem Do.bindName (o : c.Ok mg mb n) (i : Nat) {x : Str} {v : Value} {K : Unit → Sg → Prop} (hx : c.ks[i]? = some x) (hi : i < σ.vs.length) (k : K () ⟨σ.vs.set i (some v), σ.G, σ.mu⟩) : Do c σ (bindName c.env x v) K := by
  unfold PySem.bindName
  exact Do.bind (Do.holding (Do.point (Do.bind (Do.store o i hx hi (Do.point k)))))
theorem Do.assign_name (o : c.Ok mg mb n) (i : Nat) {x : Str} {e : Expr} {p q : Pos} {K : Flow → Sg → Prop} (hx : c.ks[i]? = some x) (hs : swapsWith e (some (.Name x q)) p.line c.env = Pure.pure false)
    (y : Do c σ (eval e c.env) fun v σ' => i < σ'.vs.length ∧ K .next ⟨σ'.vs.set i (some v), σ'.G, σ'.mu⟩) : Do c σ (exec (.Assign [.Name x q] e p) c.env) K := by
  rw [exec_Assign_Name _ _ _ _ _ hs]
  refine Do.bind (Do.standAt (Do.bind (y.mono fun v σ' k => ?_)))
  exact Do.bind (Do.standAt (Do.bind (Do.bindName o i hx k.1 (Do.pure k.2))))
end
end Mine
end
section
namespace Mine
open PySem PySem.W PyProof.Rows PySem.Calls
theorem str_beq (x y : Str) : (x.cps.toList == y.cps.toList) = (x == y) := by
  rw [Bool.eq_iff_iff, beq_iff_eq, beq_iff_eq]
  constructor
  · intro h; cases x; cases y; simp only [Str.mk.injEq]; exact Array.toList_inj.mp h
  · rintro rfl; rfl
section
variable {c : Cx} {σ : Sg} {a b : Int} {t u : Tok} {K : Value → Sg → Prop}
theorem Do.add (k : ∀ t', K (.int (a + b) t') σ) : Do c σ (binaryOp .Add (.int a t) (.int b u)) K := ⟨fun h _ _ _ _ _ _ S q => by with_reducible exact PyProof.Rows.add_int (q _ σ h _ (k _) S)⟩
theorem Do.iadd (k : ∀ t', K (.int (a + b) t') σ) : Do c σ (inplaceOp .Add (.int a t) (.int b u)) K := ⟨fun h _ _ _ _ _ _ S q => by with_reducible exact PyProof.Rows.iadd_int (q _ σ h _ (k _) S)⟩
theorem Do.sub (k : ∀ t', K (.int (a - b) t') σ) : Do c σ (binaryOp .Sub (.int a t) (.int b u)) K := ⟨fun h _ _ _ _ _ _ S q => by with_reducible exact PyProof.Rows.sub_int (q _ σ h _ (k _) S)⟩
theorem Do.mul (hm : IntMulOk a b) (k : ∀ t', K (.int (a * b) t') σ) : Do c σ (binaryOp .Mult (.int a t) (.int b u)) K := ⟨fun h _ _ _ _ _ _ S q => by with_reducible exact PyProof.Rows.mul_int (q _ σ h _ (k _) S) hm⟩
theorem Do.mod (hb : b ≠ 0) (k : ∀ t', K (.int (a.fmod b) t') σ) : Do c σ (binaryOp .Mod (.int a t) (.int b u)) K := ⟨fun h _ _ _ _ _ _ S q => by with_reducible exact PyProof.Rows.mod_int' hb (q _ σ h _ (k _) S)⟩
theorem Do.fdiv (hb : b ≠ 0) (hp : Builtin.divisionGoesByPylong a b = false) (k : ∀ t', K (.int (a.fdiv b) t') σ) : Do c σ (binaryOp .FloorDiv (.int a t) (.int b u)) K := ⟨fun h _ _ _ _ _ _ S q => by with_reducible exact PyProof.Rows.floordiv_int hb (q _ σ h _ (k _) S) (.inl hp)⟩
theorem Do.and (k : ∀ t', K (.int (Builtin.bitAnd a b) t') σ) : Do c σ (binaryOp .BitAnd (.int a t) (.int b u)) K := ⟨fun h _ _ _ _ _ _ S q => by with_reducible exact PyProof.Rows.and_int (q _ σ h _ (k _) S)⟩
theorem Do.or (k : ∀ t', K (.int (Builtin.bitOr a b) t') σ) : Do c σ (binaryOp .BitOr (.int a t) (.int b u)) K := ⟨fun h _ _ _ _ _ _ S q => by with_reducible exact PyProof.Rows.or_int (q _ σ h _ (k _) S)⟩
theorem Do.xor (k : ∀ t', K (.int (Builtin.bitXor a b) t') σ) : Do c σ (binaryOp .BitXor (.int a t) (.int b u)) K := ⟨fun h _ _ _ _ _ _ S q => by with_reducible exact PyProof.Rows.xor_int (q _ σ h _ (k _) S)⟩
theorem Do.shr (hb : 0 ≤ b) (k : ∀ t', K (.int (a.fdiv (2 ^ b.toNat)) t') σ) : Do c σ (binaryOp .RShift (.int a t) (.int b u)) K := ⟨fun h _ _ _ _ _ _ S q => by with_reducible exact PyProof.Rows.rshift_int hb (q _ σ h _ (k _) S)⟩
theorem Do.shl (hb : 0 ≤ b) (hb2 : b ≤ 1000000) (ha : a.natAbs < 2 ^ 64) (k : ∀ t', K (.int (a * 2 ^ b.toNat) t') σ) : Do c σ (binaryOp .LShift (.int a t) (.int b u)) K := ⟨fun h _ _ _ _ _ _ S q => by with_reducible exact PyProof.Rows.lshift_int_small hb hb2 ha (q _ σ h _ (k _) S)⟩
theorem Do.pow (hb : 0 ≤ b) (hb2 : b ≤ 1000000) (ha : a.natAbs < 2 ^ 64) (k : ∀ t', K (.int (a ^ b.toNat) t') σ) : Do c σ (binaryOp .Pow (.int a t) (.int b u)) K := ⟨fun h _ _ _ _ _ _ S q => by with_reducible exact PyProof.Rows.pow_int_small hb hb2 ha (q _ σ h _ (k _) S)⟩
theorem Do.neg (k : ∀ t', K (.int (-a) t') σ) : Do c σ (unaryOp .USub (.int a t)) K := ⟨fun h _ _ _ _ _ _ S q => by with_reducible exact PySem.P.neg_int (q _ σ h _ (k _) S)⟩
theorem Do.eqi (k : K (.bool (a == b)) σ) : Do c σ (compareOp .Eq (.int a t) (.int b u)) K := ⟨fun h _ _ _ _ _ _ S q => by with_reducible exact PyProof.Rows.eq_int (q _ σ h _ k S)⟩
theorem Do.nei (k : K (.bool (a != b)) σ) : Do c σ (compareOp .NotEq (.int a t) (.int b u)) K := ⟨fun h _ _ _ _ _ _ S q => by with_reducible exact PyProof.Rows.ne_int (q _ σ h _ k S)⟩
theorem Do.lti (k : K (.bool (decide (a < b))) σ) : Do c σ (compareOp .Lt (.int a t) (.int b u)) K := ⟨fun h _ _ _ _ _ _ S q => by with_reducible exact PySem.P.lt_int (q _ σ h _ k S)⟩
theorem Do.lei (k : K (.bool (decide (a ≤ b))) σ) : Do c σ (compareOp .LtE (.int a t) (.int b u)) K := ⟨fun h _ _ _ _ _ _ S q => by with_reducible exact PySem.P.le_int (q _ σ h _ k S)⟩
theorem Do.gti (k : K (.bool (decide (a > b))) σ) : Do c σ (compareOp .Gt (.int a t) (.int b u)) K := ⟨fun h _ _ _ _ _ _ S q => by with_reducible exact PySem.P.gt_int (q _ σ h _ k S)⟩
theorem Do.gei (k : K (.bool (decide (a ≥ b))) σ) : Do c σ (compareOp .GtE (.int a t) (.int b u)) K := ⟨fun h _ _ _ _ _ _ S q => by with_reducible exact PySem.P.ge_int (q _ σ h _ k S)⟩
theorem Do.eqs {x y : Str} (k : K (.bool (x == y)) σ) : Do c σ (compareOp .Eq (.str x t) (.str y u)) K := ⟨fun h _ _ _ _ _ _ S q => by with_reducible exact PySem.P.eq_str (by rw [str_beq]; exact q _ σ h _ k S)⟩
theorem Do.nes {x y : Str} (k : K (.bool (x != y)) σ) : Do c σ (compareOp .NotEq (.str x t) (.str y u)) K := ⟨fun h _ _ _ _ _ _ S q => by
  have : (x.cps.toList != y.cps.toList) = (x != y) := congrArg (!·) (str_beq x y)
  with_reducible refine PySem.P.ne_str ?_
  rw [this]; exact q _ σ h _ k S⟩
theorem Do.is_ {x y : Value} (hp : plainIs x y = true) (k : K (.bool (x == y)) σ) : Do c σ (compareOp .Is x y) K := ⟨fun h _ _ _ _ _ _ S q => by with_reducible exact wpAny_is_plain hp (q _ σ h _ k S)⟩
noncomputable abbrev DoL (c : Cx) (σ : Sg) (p : Pos) (es : List Expr) (K : List Value → Sg → Prop) : Prop := Do c σ (spliced (backTo p (starEach es c.env))) K
theorem DoL.nil {p : Pos} {K : List Value → Sg → Prop} (k : K [] σ) : DoL c σ p [] K := Do.pure k
theorem DoL.cons {p : Pos} {e : Expr} {es : List Expr} {K : List Value → Sg → Prop} (x : Do c σ (eval e c.env) fun v σ' => DoL c σ' p es fun vs σ'' => K (v :: vs) σ'')
    (he : starEach (e :: es) c.env = (false, eval e c.env) :: starEach es c.env := by rfl) : DoL c σ p (e :: es) K := by
  unfold DoL
  rw [he]
  show Do c σ (spliced ((false, eval e c.env) :: backTo p (starEach es c.env))) K
  rw [spliced]
  refine Do.bind (x.mono fun v σ' y => ?_)
  exact Do.bind (Do.pure (Do.bind (Do.holding (Do.mono y fun vs σ'' k => Do.pure k))))
theorem Do.listD {es : List Expr} {p : Pos} (x : DoL c σ p es fun vs σ' => Do c σ' (newList vs) K) : Do c σ (eval (.List es p) c.env) K := by
  rw [arm_eval_List]; exact Do.bind (Do.standAt (Do.bind x))
theorem Do.tupleD {es : List Expr} {j : Nat} {p : Pos} (x : DoL c σ p es fun vs σ' => Do c σ' (newTuple vs) K) : Do c σ (eval (.Tuple es j p) c.env) K := by
  rw [arm_eval_Tuple]; exact Do.bind (Do.standAt (Do.bind x))
noncomputable abbrev lobj (vs : List Value) (n : Nat := 0) : Obj := { cls := .type "list", data := .seq vs.toArray n }
noncomputable abbrev tobj (vs : List Value) (n : Nat := 0) : Obj := { cls := .type "tuple", data := .seq vs.toArray n }
theorem Do.newListG {vs : List Value} (hz : vs.length ≤ sizeLine) (k : ∀ a, K (.ref a) ⟨σ.vs, gadd σ.G a (lobj vs), σ.mu⟩) : Do c σ (newList vs) K :=
  ⟨fun h _ _ _ _ _ _ S q => wpAny_newObj_type (q _ _ _ _ (k h.objs.size) (St.pushG S _ rfl)) (by show vs.toArray.size ≤ sizeLine; rw [List.size_toArray]; exact hz)⟩
theorem Do.newTupG {vs : List Value} (hz : vs.length ≤ sizeLine) (k : ∀ a, K (.ref a) ⟨σ.vs, gadd σ.G a (tobj vs), σ.mu⟩) : Do c σ (newTuple vs) K :=
  ⟨fun h _ _ _ _ _ _ S q => wpAny_newObj_type (q _ _ _ _ (k h.objs.size) (St.pushG S _ rfl)) (by show vs.toArray.size ≤ sizeLine; rw [List.size_toArray]; exact hz)⟩
variable {mg mb : Str → Option Value} {n : Nat}
theorem St.inK {hB : Heap} {w : World} {e : Ent} {G : Gh} {m : Str → Option Value} {mu : Led} {h : Heap} (B : Base w hB mg mb) (S : Mine.St hB e G m mu h) : (H.K w.params).In h := B.K.keeps (St.keepB S)
theorem Cx.Ok.inK' {h : Heap} {g : Array GenState} {d : Drawn} {t : Nat} {os : OsState} (o : c.Ok mg mb n) (S : c.St σ h) : (H.K c.w.params).In (Shared.mk h g d t os).heap := St.inK o.B S
theorem Do.byContract₀ {F : Addr} {args : List Value} {ex fp : Led} {P : Value → Gh → Led → Prop} (o : c.Ok mg mb n) (C : Calls c.w c.hB n F args σ.G fp P) (hmu : σ.mu = ex ++ fp)
    (k : ∀ r G' fp', (∀ a o, σ.G a o → G' a o) → P r G' fp' → K r ⟨σ.vs, G', ex ++ fp'⟩) : Do c σ (call (.ref F) args) K := ⟨fun h g d t os Q E S q => by
  have S' : Mine.St c.hB c.e σ.G (fm c.ks σ.vs) ((c.hid ++ ex) ++ fp) h := St.perm (show Mine.St c.hB c.e σ.G (fm c.ks σ.vs) (σ.mu ++ c.hid) h from S) (by rw [hmu, List.append_assoc, List.append_assoc]; exact (List.perm_append_comm (l₁ := ex ++ fp) (l₂ := c.hid)).symm.symm |> fun p => by simpa [List.append_assoc] using p)
  refine wpAny_call (C c.A ⟨h, g, d, t, os⟩ _ o.R (St.toHS S') fun r G' fp' h' tk' X p => ?_)
  exact q r ⟨σ.vs, G', ex ++ fp'⟩ h' tk' (k r G' fp' X.le p) (St.perm (St.after S' X) (by simpa [List.append_assoc] using List.perm_append_comm (l₁ := c.hid) (l₂ := ex ++ fp')))⟩
noncomputable def mkQ (K : Value → Sg → Prop) (vs : List (Option Value)) (ex : Led) (r : Value) (G' : Gh) (fp' : Led) : Prop := K r ⟨vs, G', ex ++ fp'⟩
theorem Do.byContract {vs : List (Option Value)} {G : Gh} {mu : Led} {F : Addr} {args : List Value} {ex fp : Led} {P : Value → Gh → Led → Prop} (o : c.Ok mg mb n) (C : Calls c.w c.hB n F args G fp P) (hmu : mu = ex ++ fp)
    (k : let QM := mkQ K vs ex; ∀ r G' fp', (∀ a o, G a o → G' a o) → P r G' fp' → QM r G' fp') : Do c ⟨vs, G, mu⟩ (call (.ref F) args) K :=
  Do.byContract₀ (σ := ⟨vs, G, mu⟩) o C hmu k
theorem Do.callWith_args {f : Value} {first : List Value} {e : Expr} {es : List Expr} {p : Pos} (o : c.Ok mg mb n) (hk : keepIn (H.K c.w.params) f = true)
    (x : DoL c σ p (e :: es) fun vs σ' => Do c σ' (call f (first ++ vs)) K)
    (he : starEach (e :: es) c.env = (false, eval e c.env) :: starEach es c.env := by rfl) (hplain : (backTo p (starEach es c.env)).any (·.1) = false := by rfl) :
    Do c σ (callWith p f first (backTo p (starEach (e :: es) c.env)) []) K := ⟨fun h g d t os Q E S q => by
  with_reducible refine callWith_K o.B.K hk (x.run h g d t os _ E S fun vs σ' h' t' y S' => ⟨o.inK' S', y.run h' g d t' os Q E S' q⟩) he hplain⟩
theorem Do.callWith_none {f : Value} {first : List Value} {p : Pos} (o : c.Ok mg mb n) (hk : keepIn (H.K c.w.params) f = true)
    (x : Do c σ (call f (first ++ [])) K) : Do c σ (callWith p f first (backTo p (starEach [] c.env)) []) K := ⟨fun h g d t os Q E S q => by
  with_reducible exact callWith_K0 (o.inK' S) hk (x.run h g d t os Q E S q)⟩
theorem Do.callG {f : Str} {np p : Pos} {es : List Expr} (x : Do c σ (eval (.Name f np) c.env) fun v σ' => Do c σ' (callWith p v [] (backTo p (starEach es c.env)) []) K) :
    Do c σ (eval (.Call (.Name f np) es [] p) c.env) K := by
  have e : eval (.Call (.Name f np) es [] p) c.env = (do callWith p (← eval (.Name f np) c.env) [] (backTo p (starEach es c.env)) (backToKw p (keywordEach [] c.env))) := rfl
  rw [e]
  exact Do.bind x
end
noncomputable def retv : Flow → Value
  | .ret v => v
  | _ => .none
noncomputable def gall (G : Gh) (ex : Led) : Gh := fun a o => G a o ∨ (a, o) ∈ ex
theorem St.freezeAll {hB : Heap} {e : Ent} {G : Gh} {m : Str → Option Value} {ex fp : Led} {h : Heap} (S : Mine.St hB e G m (ex ++ fp) h) (hfa : fp.ads = e.fa) : Mine.St hB e (gall G ex) m fp h := by
  have nd := (List.nodup_cons.mp S.nd).2
  rw [ads_append] at nd
  have mem : ∀ {p : Addr × Obj}, p ∈ ex → p ∈ ex ++ fp := fun hp => List.mem_append_left _ hp
  exact { S with
    bs := fun a x g => .inl (S.bs a x g)
    sub := fun a x g => g.elim (S.sub a x) fun hp => S.own (a, x) (mem hp)
    own := fun p hp => S.own p (List.mem_append_right _ hp)
    gL := fun x g => g.elim (S.gL x) fun hp => S.neL (mem hp) rfl
    gmu := fun p hp x g => g.elim (S.gmu p (List.mem_append_right _ hp) x) fun hq => (List.nodup_append.mp nd).2.2 _ (mem_ads hq) _ (mem_ads hp) rfl
    nd := by
      refine List.nodup_cons.mpr ⟨fun q => (List.nodup_cons.mp S.nd).1 ?_, (List.nodup_append.mp nd).2.1⟩
      rw [ads_append]; exact List.mem_append_right _ q
    le := fun a x g => .inl (S.le a x g)
    new := fun a x g => by
      rcases g with g | hp
      · exact S.new a x g
      · rcases S.amu _ (mem hp) with q | q
        · rw [← hfa] at q
          exact absurd rfl ((List.nodup_append.mp nd).2.2 _ (mem_ads hp) _ q)
        · exact .inr q
    amu := fun p hp => S.amu p (List.mem_append_right _ hp) }
structure Left (fp : Led) (P : Value → Gh → Led → Prop) (fl : Flow) (σ : Sg) : Prop where of ::
  all : (E2 fun ex fp' => A3 (σ.mu = ex ++ fp') (fp'.ads = fp.ads) (P (retv fl) σ.G fp' ∨ P (retv fl) (gall σ.G ex) fp'))
theorem Left.mk {fp : Led} {P : Value → Gh → Led → Prop} {fl : Flow} {σ : Sg} (ex fp' : Led) (h1 : σ.mu = ex ++ fp') (h2 : fp'.ads = fp.ads) (h3 : P (retv fl) σ.G fp') : Left fp P fl σ := ⟨⟨ex, fp', h1, h2, .inl h3⟩⟩
theorem Left.mkF {fp : Led} {P : Value → Gh → Led → Prop} {fl : Flow} {σ : Sg} (ex fp' : Led) (h1 : σ.mu = ex ++ fp') (h2 : fp'.ads = fp.ads) (h3 : P (retv fl) (gall σ.G ex) fp') : Left fp P fl σ := ⟨⟨ex, fp', h1, h2, .inr h3⟩⟩
theorem Left.out {hB : Heap} {e : Ent} {m : Str → Option Value} {fp : Led} {P : Value → Gh → Led → Prop} {fl : Flow} {σ : Sg} {h : Heap} (x : Left fp P fl σ) (hfa : e.fa = fp.ads) (S : Mine.St hB e σ.G m σ.mu h) : (E3 fun G' ex fp' => A3 (Mine.St hB e G' m (ex ++ fp') h) (fp'.ads = fp.ads) (P (retv fl) G' fp')) := by
  obtain ⟨⟨ex, fp', h1, h2, h3⟩⟩ := x
  rw [h1] at S
  rcases h3 with h3 | h3
  · exact ⟨σ.G, ex, fp', S, h2, h3⟩
  · exact ⟨_, [], fp', S.freezeAll (h2.trans hfa.symm), h2, h3⟩
theorem enterD {w : World} {hB : Heap} {mg mb : Str → Option Value} {n : Nat} {F : Addr} {args bs : List Value} {G : Gh} {fp : Led} {P : Value → Gh → Led → Prop} {fo : Obj} {fd : FuncData} {ps rest gs : List Str} {body : List Stmt}
    (Bs : Base w hB mg mb) (hF : (H.K w.params).lookup F = some fo) (hd : fo.data = .func fd) (I : FnOk fd ps rest gs body) (hcd : codeIn (H.K w.params) fd.code fd.qualname = true)
    (hbind : ∀ h g d t os, (∀ a o, hB.get? a = some o → h.get? a = some o) → BindsTo ⟨h, g, d, t, os⟩ fd ⟨args, []⟩ (ps.zip bs)) (hl : ps.length = bs.length)
    (k : ∀ A env e, (⟨w, hB, A, env, e, ps ++ rest, gs, []⟩ : Cx).Ok mg mb n → Do ⟨w, hB, A, env, e, ps ++ rest, gs, []⟩ ⟨bs.map some ++ List.replicate rest.length none, G, fp⟩ (execs body env) (Left fp P)) : Calls w hB (n + 1) F args G fp P := by
  refine enter Bs (Bs.K _ _ hF) hd I (codeRec_of Bs.K hcd) hbind hl fun A e env h t g d os R hfa hG X Z => ?_
  refine (k A env e ⟨X, Bs, R⟩).run h g d t os _ _ (show Mine.St _ _ _ _ (fp ++ []) _ from (List.append_nil fp).symm ▸ Z) ?_
  rintro fl ⟨vs, G₁, mu⟩ h' t' hL Z'
  replace Z' : Mine.St hB e G₁ (fm (ps ++ rest) vs) mu h' := List.append_nil mu ▸ (show Mine.St hB e G₁ (fm (ps ++ rest) vs) (mu ++ []) h' from Z')
  obtain ⟨G', ex, fp', Z2, h2, h3⟩ := Left.out hL hfa Z'
  refine ⟨G', _, ex, fp', Z2, h2.trans hfa.symm, ?_, rfl, rfl, rfl⟩
  cases fl <;> exact h3
end Mine
end
section
namespace Mine
open PySem PySem.W PyProof.Rows PySem.Calls
noncomputable def Sg.has (σ : Sg) (a : Addr) (o : Obj) : Prop := σ.G a o ∨ (a, o) ∈ σ.mu
theorem Cx.St.has {c : Cx} {σ : Sg} {h : Heap} (S : c.St σ h) {a : Addr} {o : Obj} (x : σ.has a o) : h.get? a = some o := x.elim (S.sub a o) fun m => S.own (a, o) (List.mem_append_left _ m)
noncomputable def allBut (h : Heap) (a L : Addr) : Led := (List.range h.objs.size).filterMap fun b => if b = a ∨ b = L then none else (h.get? b).map (b, ·)
theorem mem_allBut {h : Heap} {a L : Addr} {p : Addr × Obj} : p ∈ allBut h a L ↔ h.get? p.1 = some p.2 ∧ p.1 ≠ a ∧ p.1 ≠ L := by
  unfold allBut
  rw [List.mem_filterMap]
  constructor
  · rintro ⟨b, _, e⟩
    split at e
    · cases e
    · rename_i n
      obtain ⟨o, ho, rfl⟩ := Option.map_eq_some_iff.mp e
      exact ⟨ho, fun q => n (.inl q), fun q => n (.inr q)⟩
  · rintro ⟨h1, h2, h3⟩
    refine ⟨p.1, List.mem_range.mpr (Heap.lt_size h1), ?_⟩
    rw [if_neg (by rintro (q | q); exact h2 q; exact h3 q), h1]; rfl
noncomputable def h00 : Heap := { objs := #[] }
theorem h00_get (a : Addr) : h00.get? a = none := by
  cases q : h00.get? a with
  | none => rfl
  | some o => exact absurd (Heap.lt_size q) (Nat.not_lt_zero _)
section
variable {hB h h' : Heap} {e : Ent} {G G' : Gh} {m m' : Str → Option Value} {mu fp fp' ex : Led} {o o' : Obj} {a : Addr}
theorem St.fr (S : St hB e G m mu h) : Fr h00 e.L h m := ⟨S.ns, fun b o x => absurd ((h00_get b).symm.trans x) nofun, Nat.zero_le _⟩
theorem St.news (S : St hB e G m (ex ++ (a, o) :: fp) h) : News h00 e.L h ([] ++ (a, o) :: allBut h a e.L) := fun p hp => by
  rcases List.mem_cons.mp hp with rfl | hp
  · exact ⟨S.own _ (List.mem_append_right _ (.head _)), S.neL (List.mem_append_right _ (.head _)), h00_get _⟩
  · exact ⟨(mem_allBut.mp hp).1, (mem_allBut.mp hp).2.2, h00_get _⟩
theorem allBut_ne {L : Addr} : ∀ p ∈ allBut h a L, p.1 ≠ a := fun _ hp => (mem_allBut.mp hp).2.1
theorem St.back  (S : St hB e G m (ex ++ (a, o) :: fp) h) (F : Fr h00 e.L h' m) (N : News h00 e.L h' ([] ++ (a, o') :: allBut h a e.L)) : St hB e G m (ex ++ (a, o') :: fp) h' := by
  have hm : (a, o) ∈ ex ++ (a, o) :: fp := List.mem_append_right _ (.head _)
  have hads : (ex ++ (a, o') :: fp).ads = (ex ++ (a, o) :: fp).ads := by simp [Led.ads]
  have nd : (ex ++ (a, o) :: fp).ads.Nodup := (List.nodup_cons.mp S.nd).2
  have hx : ∀ p ∈ ex, p.1 ≠ a := fun p hp q => by
    rw [ads_append] at nd
    exact (List.nodup_append.mp nd).2.2 _ (mem_ads hp) _ (.head _) q
  have hf : ∀ p ∈ fp, p.1 ≠ a := fun p hp q => by
    rw [ads_append] at nd
    exact (List.nodup_cons.mp (List.nodup_append.mp nd).2.1).1 (by show a ∈ fp.ads; rw [← q]; exact mem_ads hp)
  have keep : ∀ b x, b ≠ a → b ≠ e.L → h.get? b = some x → h'.get? b = some x := fun b x h1 h2 h3 => (N (b, x) (.tail _ (mem_allBut.mpr ⟨h3, h1, h2⟩))).1
  refine { bs := S.bs, ns := F.ns, sub := fun b x g => keep b x (fun q => S.gmu _ hm x (q ▸ g)) (fun q => S.gL x (q ▸ g)) (S.sub b x g), own := fun p hp => ?_, gL := S.gL, gmu := fun p hp x g => ?_, nd := ?_,
           base := fun b x g n => ?_, le := S.le, new := S.new, aL := S.aL, amu := fun p hp => ?_, size := Nat.le_of_lt (Nat.lt_of_le_of_lt S.aL F.ns.lt) }
  · rcases List.mem_append.mp hp with hp | hp
    · exact keep _ _ (hx p hp) (S.neL (List.mem_append_left _ hp)) (S.own p (List.mem_append_left _ hp))
    · rcases List.mem_cons.mp hp with rfl | hp
      · exact (N _ (.head _)).1
      · exact keep _ _ (hf p hp) (S.neL (List.mem_append_right _ (.tail _ hp))) (S.own p (List.mem_append_right _ (.tail _ hp)))
  · have : p.1 ∈ (ex ++ (a, o) :: fp).ads := hads ▸ mem_ads hp
    obtain ⟨p', hp', q⟩ := List.mem_map.mp this
    exact S.gmu p' hp' x (q ▸ g)
  · rw [hads]; exact S.nd
  · refine keep b x (fun q => ?_) (fun q => ?_) (S.base b x g n)
    · rcases S.amu _ hm with y | y
      · exact n (q ▸ y)
      · have := Heap.lt_size g; rw [q] at this; exact absurd this (Nat.not_lt.mpr y)
    · have := Heap.lt_size g; rw [q] at this; exact absurd this (Nat.not_lt.mpr S.aL)
  · have : p.1 ∈ (ex ++ (a, o) :: fp).ads := hads ▸ mem_ads hp
    obtain ⟨p', hp', q⟩ := List.mem_map.mp this
    exact q ▸ S.amu p' hp'
end
noncomputable def attrIn (K : Frag) (C : Addr) (name : Str) : Bool := plainGet K C name && hasDictIn K C && (findIn K (.ref C) name == some none)
noncomputable def methIn (K : Frag) (C : Addr) (name : Str) (f : Addr) : Bool := plainGet K C name && (findIn K (.ref C) name == some (some (.ref f))) && isFn K (.ref f)
noncomputable def storeIn (K : Frag) (C : Addr) (name : Str) : Bool := (findIn K (.ref C) "__setattr__" == some (some (.builtin "object.__setattr__"))) && plainOver K C && (takerIn K C name == some none) && (clsIn K C).any (·.hasDict)
section
variable {c : Cx} {σ : Sg} {mg mb : Str → Option Value} {k : Nat} {x dx C f : Addr} {es : List DictEntry} {n : Nat} {name : Str} {v : Value}
theorem Do.attr {value : Expr} {attr : Str} {pos : Pos} {K : Value → Sg → Prop} (y : Do c σ (eval value c.env) fun o σ' => Do c σ' (getAttr o attr true) K) (hb : attributeBase value attr c.env (eval value c.env) = eval value c.env := by rfl) :
    Do c σ (eval (.Attribute value attr pos) c.env) K := by
  rw [arm_eval_Attribute, hb]
  exact Do.bind (y.mono fun o σ' z => Do.bind (Do.standAt (Do.bind (Do.holding (z.mono fun r σ'' q => Do.bind (Do.letGo (Do.pure q)))))))
theorem inst {h : Heap} (S : c.St σ h) (hx : σ.has x (instObj C dx)) (hd : σ.has dx (dictOf es n)) : InstAt h x (instObj C dx) C (some (dictOf es n)) := ⟨S.has hx, rfl, rfl, S.has hd⟩
theorem Do.getD {K : Value → Sg → Prop} {ex : Bool} (o : c.Ok mg mb k) (hx : σ.has x (instObj C dx)) (hd : σ.has dx (dictOf es n)) (hc : attrIn (H.K c.w.params) C name = true) (hl : getL name es = some (some v)) (hh : handedIn v = true) (q : K v σ) :
    Do c σ (getAttr (.ref x) name ex) K := ⟨fun h g d t os Q E S qq => by
  obtain ⟨hc1, hc2⟩ := Bool.and_eq_true_iff.mp hc
  obtain ⟨hc3, hc4⟩ := Bool.and_eq_true_iff.mp hc1
  exact get_value (o.inK' S) (inst S hx hd) (plainGet_of hc3).1 (findObj_own hc4 (beq_iff_eq.mp hc2) rfl (by rw [lookIn_dict]; exact hl)) hh (qq _ _ h _ q S)⟩
theorem Do.methD {K : Value × List Value → Sg → Prop} {pl : Sem Bool} (o : c.Ok mg mb k) (hx : σ.has x (instObj C dx)) (hd : σ.has dx (dictOf es n)) (hc : methIn (H.K c.w.params) C name f = true) (hl : getL name es = some none) (q : K (.ref f, [.ref x]) σ) :
    Do c σ (getMethod (.ref x) name pl) K := ⟨fun h g d t os Q E S qq => by
  obtain ⟨hc1, hc2⟩ := Bool.and_eq_true_iff.mp hc
  obtain ⟨hc3, hc4⟩ := Bool.and_eq_true_iff.mp hc1
  exact method_fn (o.inK' S) (inst S hx hd) (plainGet_of hc3).1 (plainGet_of hc3).2 (beq_iff_eq.mp hc4) (beq_iff_eq.mp hc2) (by show (lookIn name (dictOf es n)).map _ = _; rw [lookIn_dict, hl]; rfl) (qq _ _ h _ q S)⟩
theorem Do.setD {K : Unit → Sg → Prop} {ex fp : Led} (o : c.Ok mg mb k) (hx : σ.has x (instObj C dx)) (hmu : σ.mu = ex ++ (dx, dictOf es n) :: fp) (hc : storeIn (H.K c.w.params) C name = true) (hl : (getL name es).isSome = true)
    (hz : ∀ t, (putL name (PyData.keyHash c.w.params name) (.str name t) v es).length ≤ 1000)
    (q : ∀ t, K () ⟨σ.vs, σ.G, ex ++ (dx, dictOf (putL name (PyData.keyHash c.w.params name) (.str name t) v es) (putN name es n)) :: fp⟩) : Do c σ (setAttr (.ref x) name v) K := ⟨fun h g d t os Q E S qq => by
  simp only [storeIn, Bool.and_eq_true, beq_iff_eq] at hc
  obtain ⟨⟨⟨c1, c2⟩, c3⟩, c4⟩ := hc
  have S' := S.mid hmu
  have I : InstAt h x (instObj C dx) C (some (dictOf es n)) := inst S hx (.inr (hmu ▸ List.mem_append_right _ (.head _)))
  refine set_plain (o.inK' S) I c1 ?_
  refine osa_dict (pre := []) (post := allBut h dx c.e.L) (s := ⟨h, g, d, t + 1, os⟩) S'.fr S'.news (o.inK' S) I rfl c2 c3 c4 (by rw [lookIn_dict]; exact hl) (by simp) allBut_ne (putName_dict _ _ _ _ _ _) rfl (hz _) fun h' F N => ?_
  exact qq () _ h' _ (q (t + 1)) (Cx.St.unmid (S'.back F N))⟩
theorem Do.methodCall {K : Value → Sg → Prop} {ob : Expr} {apos pos : Pos} {args : List Expr} {pl : Sem Bool}
    (y : Do c σ (eval ob c.env) fun ov σ₁ => Do c σ₁ (getMethod ov name pl) fun fx σ₂ => Do c σ₂ (callWith pos fx.1 fx.2 (backTo pos (starEach args c.env)) []) K)
    (he : eval (.Call (.Attribute ob name apos) args [] pos) c.env = (do
      let ov ← eval ob c.env
      PySem.standAt apos.atName
      let (f, first) ← PySem.holding [ov] (getMethod ov name pl)
      callWith pos f first (backTo pos (starEach args c.env)) []) := by rfl) :
    Do c σ (eval (.Call (.Attribute ob name apos) args [] pos) c.env) K := by
  rw [he]
  exact Do.bind (y.mono fun ov σ₁ z => Do.bind (Do.standAt (Do.bind (Do.holding (z.mono fun fx σ₂ q => q)))))
theorem Do.subscr {value slice : Expr} {pos : Pos} {K : Value → Sg → Prop} (y : Do c σ (eval value c.env) fun b σ₁ => Do c σ₁ (eval slice c.env) fun i σ₂ => Do c σ₂ (subscriptTail value slice b i) K) : Do c σ (eval (.Subscript value slice pos) c.env) K := by
  rw [arm_eval_Subscript]
  exact Do.bind (y.mono fun b σ₁ z => Do.bind (Do.holding (z.mono fun i σ₂ q => Do.bind (Do.standAt q))))
theorem Do.assign_sub {b i e : Expr} {p' p : Pos} {K : Flow → Sg → Prop} (hs : swapsWith e (some (.Subscript b i p')) p.line c.env = Pure.pure false)
    (y : Do c σ (eval e c.env) fun v σ₁ => Do c σ₁ (eval b c.env) fun ov σ₂ => Do c σ₂ (eval i c.env) fun iv σ₃ => Do c σ₃ (setItem ov iv v) fun _ σ₄ => K .next σ₄) : Do c σ (exec (.Assign [.Subscript b i p'] e p) c.env) K := by
  rw [exec_Assign_Subscript _ _ _ _ _ hs]
  refine Do.bind (Do.standAt (Do.bind (y.mono fun v σ₁ z => ?_)))
  rw [assign_Subscript]
  exact Do.bind (Do.bind (Do.holding (z.mono fun ov σ₂ z2 => Do.bind (Do.holding (z2.mono fun iv σ₃ z3 => Do.bind (Do.standAt (Do.bind (Do.holding (z3.mono fun _ σ₄ q => Do.release (Do.pure q))))))))))
theorem exec_Assign_Attr {env : Env} {b e : Expr} {a : Str} {p' p : Pos} (hs : swapsWith e (some (.Attribute b a p')) p.line env = Pure.pure false) :
    exec (.Assign [.Attribute b a p'] e p) env = (do PySem.standAt p; let v ← eval e env; assign (.Attribute b a p') env v; Pure.pure .next) := by
  have e : exec (.Assign [.Attribute b a p'] e p) env = (do
      PySem.standAt p
      if ← swapsWith e (some (.Attribute b a p')) p.line env then
        evalThenUse e env (assign (.Attribute b a p') env)
        return .next
      let v ← eval e env
      assign (.Attribute b a p') env v
      Pure.pure .next) := rfl
  rw [e, hs]; rfl
theorem assign_Attr (b : Expr) (a : Str) (p : Pos) (env : Env) (v : Value) : assign (.Attribute b a p) env v = (do
      let ov ← PySem.holding [v] (eval b env)
      PySem.standAt p.atName
      PySem.holding [v, ov] (setAttr ov a v)
      PySem.release [v, ov] []) := rfl
theorem Do.assign_attr {b e : Expr} {a : Str} {p' p : Pos} {K : Flow → Sg → Prop} (hs : swapsWith e (some (.Attribute b a p')) p.line c.env = Pure.pure false)
    (y : Do c σ (eval e c.env) fun v σ₁ => Do c σ₁ (eval b c.env) fun ov σ₂ => Do c σ₂ (setAttr ov a v) fun _ σ₄ => K .next σ₄) : Do c σ (exec (.Assign [.Attribute b a p'] e p) c.env) K := by
  rw [exec_Assign_Attr hs]
  refine Do.bind (Do.standAt (Do.bind (y.mono fun v σ₁ z => ?_)))
  rw [assign_Attr]
  exact Do.bind (Do.bind (Do.holding (z.mono fun ov σ₂ z2 => Do.bind (Do.standAt (Do.bind (Do.holding (z2.mono fun _ σ₄ q => Do.release (Do.pure q))))))))
theorem Do.aug_attr {b e : Expr} {a : Str} {op : Operator} {p' p : Pos} {K : Flow → Sg → Prop}
    (y : Do c σ (eval b c.env) fun ov σ₁ => Do c σ₁ (getAttr ov a true) fun old σ₂ => Do c σ₂ (eval e c.env) fun v σ₃ => Do c σ₃ (inplaceOp op old v) fun r σ₄ => Do c σ₄ (setAttr ov a r) fun _ σ₅ => K .next σ₅) :
    Do c σ (exec (.AugAssign (.Attribute b a p') op e p) c.env) K := by
  rw [arm_exec_AugAssign_2]
  exact Do.bind (Do.standAt (Do.bind (y.mono fun ov σ₁ z => Do.bind (Do.holding (Do.bind (Do.standAt (Do.bind (z.mono fun old σ₂ z2 => Do.bind (Do.holding (z2.mono fun v σ₃ z3 => Do.bind (Do.standAt (Do.operate (z3.mono fun r σ₄ z4 =>
    Do.bind (Do.standAt (Do.bind (Do.holding (z4.mono fun _ σ₅ q => Do.bind (Do.release (Do.pure q)))))))))))))))))))
theorem Do.loadName (o : c.Ok mg mb k) (i : Nat) {x : Str} {v : Value} {K : Value → Sg → Prop} (hx : c.ks[i]? = some x) (hv : σ.vs[i]? = some (some v)) (q : K v σ) : Do c σ (loadName c.env x) K := ⟨fun h g d t os Q E S qq => by
  obtain ⟨hl, hd⟩ := o.X.lk i x hx
  exact wpAny_loadName_local o.X.kind hl (m := fm c.ks σ.vs) (by show h.Ns c.env.locals _; rw [o.X.loc]; exact S.ns) (fm_at o.X.nd hx hv) (qq v σ h t q S)⟩
theorem Do.aug_name (o : c.Ok mg mb k) (i : Nat) {x : Str} {e : Expr} {op : Operator} {p' p : Pos} {old : Value} {K : Flow → Sg → Prop} (hx : c.ks[i]? = some x) (hv : σ.vs[i]? = some (some old))
    (y : Do c σ (eval e c.env) fun v σ₁ => Do c σ₁ (inplaceOp op old v) fun r σ₂ => i < σ₂.vs.length ∧ K .next ⟨σ₂.vs.set i (some r), σ₂.G, σ₂.mu⟩) : Do c σ (exec (.AugAssign (.Name x p') op e p) c.env) K := by
  rw [arm_exec_AugAssign]
  exact Do.bind (Do.standAt (Do.bind (Do.loadName o i hx hv (Do.bind (Do.holding (y.mono fun v σ₁ z => Do.bind (Do.standAt (Do.bind (Do.operate (z.mono fun r σ₂ w => Do.bind (Do.standAt (Do.bind (Do.bindName o i hx w.1 (Do.pure w.2))))))))))))))
theorem Room.make {A : Around} {n : Nat} {C : Addr} {vals : List Value} (R : Room A (n + 1)) : Room (A.under (.builtin "type.__call__" ⟨.ref C :: vals, []⟩)) n :=
  ⟨R.handled, by show A.depth + 1 + n < _; have := R.depth; lia, by
    have e : (Code.builtin "type.__call__" ⟨.ref C :: vals, []⟩).cUnits ≤ 32 := Nat.le_of_ble_eq_true rfl
    show A.units + _ + 32 * n < _
    have := R.units; lia⟩
noncomputable def madeIn (K : Frag) (C fI : Addr) : Bool := makesIn K C && (findIn K (.ref C) "__init__" == some (some (.ref fI))) && (typeIn K (.ref fI) == some (.type "function"))
theorem Do.make {C fI : Addr} {args : List Value} {k : Nat} {K : Value → Sg → Prop} {P : Addr → Addr → Gh → Led → Prop} (o : c.Ok mg mb (k + 1)) (hm : madeIn (H.K c.w.params) C fI = true)
    (hc : ∀ x dx, Calls c.w c.hB k fI (.ref x :: args) (gadd σ.G x (instObj C dx)) [(dx, emptyDict)] (fun r G' fp' => r = .none ∧ P x dx G' fp'))
    (q : ∀ x dx G' od, c.e.h₀.objs.size ≤ dx → (∀ a o, gadd σ.G x (instObj C dx) a o → G' a o) → P x dx G' [(dx, od)] → K (.ref x) ⟨σ.vs, G', (dx, od) :: σ.mu⟩) : Do c σ (call (.ref C) args) K := ⟨fun h g d t os Q E S qq => by
  simp only [madeIn, Bool.and_eq_true, beq_iff_eq] at hm
  obtain ⟨⟨h1, h2⟩, h3⟩ := hm
  have X := o.inK' (g := g) (d := d) (t := t) (os := os) S
  refine wpAny_call (make_core (makes_of X h1) (looks_findIn X h2) (fun self => bind_fn X self h3) (.inl rfl) ?_)
  have S1 := S.pushMu emptyDict rfl
  have S2 := S1.pushG (instObj C h.objs.size) rfl
  rw [Heap.size_push] at S2
  have S3 : Mine.St c.hB c.e (gadd σ.G (h.objs.size + 1) (instObj C h.objs.size)) (fm c.ks σ.vs) ((σ.mu ++ c.hid) ++ [(h.objs.size, emptyDict)]) _ := St.perm S2 (by simpa using List.perm_append_comm (l₁ := [(h.objs.size, emptyDict)]) (l₂ := σ.mu ++ c.hid))
  refine hc (h.objs.size + 1) h.objs.size _ ⟨_, g, d, t, os⟩ _ o.R.make S3.toHS fun r G' fp' h' tk' X' p => ?_
  obtain ⟨rfl, p⟩ := p
  refine ⟨rfl, ?_⟩
  have had := X'.adr
  obtain ⟨⟨b, od⟩, rfl⟩ : ∃ p, fp' = [p] := by
    have hl : fp'.length = 1 := by simpa [Led.ads] using congrArg List.length had
    exact List.length_eq_one_iff.mp hl
  obtain rfl : b = h.objs.size := by simpa [Led.ads] using had
  refine qq (.ref (h.objs.size + 1)) ⟨σ.vs, G', (h.objs.size, od) :: σ.mu⟩ h' tk' (q _ h.objs.size G' od S.size X'.le p) ?_
  exact St.perm (S3.after X') (by simpa using List.perm_append_comm (l₁ := σ.mu ++ c.hid) (l₂ := [(h.objs.size, od)]))⟩
end
end Mine
end
section
namespace Mine
open PySem PySem.W PyProof.Rows PySem.Calls
section
variable {c : Cx} {σ : Sg} {mg mb : Str → Option Value} {k k' : Nat} {a b : Addr} {vs ws : List Value} {n n' : Nat} {x v : Value} {ex fp : Led}
theorem Cx.St.lst {h : Heap} (S : c.St σ h) (hx : σ.has a (lobj vs n)) : h.IsList a vs.toArray := ⟨_, S.has hx, rfl, n, rfl⟩
theorem Cx.St.tup {h : Heap} (S : c.St σ h) (hx : σ.has a (tobj vs n)) : IsTup h a vs.toArray := ⟨_, S.has hx, rfl, n, rfl⟩
theorem Cx.St.tupT {h : Heap} (S : c.St σ h) (hx : σ.has a (tobj vs n)) : h.IsTuple a vs.toArray := ⟨_, S.has hx, rfl, n, rfl⟩
theorem Do.methB {T : String} {name : Str} {id : String} {o : Obj} {K : Value × List Value → Sg → Prop} {pl : Sem Bool} (hx : σ.has a o) (hc : o.cls = .type T) (hd : o.dict = none) (pa : PlainAttrs T) (sl : Slot T name id) (ty : typeOf (.builtin id) = Pure.pure (.type "method_descriptor"))
    (q : K (.builtin id, [.ref a]) σ) : Do c σ (getMethod (.ref a) name pl) K := ⟨fun h g d t os Q E S qq =>
  getMethod_builtin ⟨o, S.has hx, hc⟩ pa sl ty (fun a' e => by injection e with e; subst e; exact ⟨o, S.has hx, hd⟩) (qq _ _ h t q S)⟩
theorem Do.mAppend {K : Value × List Value → Sg → Prop} {pl : Sem Bool} (hx : σ.has a (lobj vs n)) (q : K (.builtin "list.append", [.ref a]) σ) : Do c σ (getMethod (.ref a) "append" pl) K := Do.methB hx rfl rfl F.plainAttrs_list slot_list_append type_list_append q
theorem Do.mPop {K : Value × List Value → Sg → Prop} {pl : Sem Bool} (hx : σ.has a (lobj vs n)) (q : K (.builtin "list.pop", [.ref a]) σ) : Do c σ (getMethod (.ref a) "pop" pl) K := Do.methB hx rfl rfl F.plainAttrs_list F.slot_list_pop F.type_list_pop q
theorem Do.mReverse {K : Value × List Value → Sg → Prop} {pl : Sem Bool} (hx : σ.has a (lobj vs n)) (q : K (.builtin "list.reverse", [.ref a]) σ) : Do c σ (getMethod (.ref a) "reverse" pl) K := Do.methB hx rfl rfl F.plainAttrs_list F.slot_list_reverse F.type_list_reverse q
theorem Do.callWith_b1 {id : String} {first : List Value} {e : Expr} {es : List Expr} {p : Pos} {K : Value → Sg → Prop}
    (y : DoL c σ p (e :: es) fun vs σ' => Do c σ' (call (.builtin id) (first ++ vs)) K)
    (he : starEach (e :: es) c.env = (false, eval e c.env) :: starEach es c.env := by rfl) (hplain : (backTo p (starEach es c.env)).any (·.1) = false := by rfl) :
    Do c σ (callWith p (.builtin id) first (backTo p (starEach (e :: es) c.env)) []) K := ⟨fun h g d t os Q E S q => by
  with_reducible refine callWith_method1 (y.run h g d t os _ E S fun vs σ' h' t' z S' => z.run h' g d t' os Q E S' q) he hplain⟩
theorem Do.callWith_t1 {T : String} {e : Expr} {es : List Expr} {p : Pos} {K : Value → Sg → Prop}
    (y : DoL c σ p (e :: es) fun vs σ' => Do c σ' (call (.type T) vs) K)
    (he : starEach (e :: es) c.env = (false, eval e c.env) :: starEach es c.env := by rfl) (hplain : (backTo p (starEach es c.env)).any (·.1) = false := by rfl) :
    Do c σ (callWith p (.type T) [] (backTo p (starEach (e :: es) c.env)) []) K := ⟨fun h g d t os Q E S q => by
  with_reducible refine PyProof.Rows.callWith_type1 (y.run h g d t os _ E S fun vs σ' h' t' z S' => z.run h' g d t' os Q E S' q) he hplain⟩
theorem zline {l : List Value} (h : l.length ≤ 1000000) : l.toArray.size ≤ sizeLine := by rw [List.size_toArray, sizeLine_eq]; lia
theorem Do.append {K : Value → Sg → Prop} (hmu : σ.mu = ex ++ (a, lobj vs n) :: fp) (hz : vs.length ≤ 1000000) (q : K .none ⟨σ.vs, σ.G, ex ++ (a, lobj (vs ++ [x]) (n + 1)) :: fp⟩) : Do c σ (call (.builtin "list.append") [.ref a, x]) K :=
  ⟨fun h g d t os Q E S qq => append_at (hsz := zline hz) ((S.mid hmu).own (a, lobj vs n) (List.mem_append_right _ (.head _))) fun h' hs ho => by
    rw [List.push_toArray] at ho
    exact qq _ _ h' t q (Cx.St.unmid (St.same (S.mid hmu) hs ho))⟩
theorem Do.pop {p : Pos} {K : Value → Sg → Prop} (hmu : σ.mu = ex ++ (a, lobj (vs ++ [x]) n) :: fp) (hz : vs.length ≤ 1000000) (q : K x ⟨σ.vs, σ.G, ex ++ (a, lobj vs (n + 1)) :: fp⟩) : Do c σ (callWith p (.builtin "list.pop") [.ref a] [] []) K :=
  ⟨fun h g d t os Q E S qq => by
    have L : IsL h a (vs ++ [x]).toArray n := (S.mid hmu).own (a, lobj (vs ++ [x]) n) (List.mem_append_right _ (.head _))
    refine P.pop_list (y := x) L (by simp) ?_ (by rw [List.size_toArray, sizeLine_eq]; simp; lia)
    refine qq _ _ _ t q (Cx.St.unmid (St.same (S.mid hmu) (Heap.SameBut.update ..) ?_))
    rw [L.update]
    have e : (vs ++ [x]).eraseIdx vs.length = vs := by rw [List.eraseIdx_append_of_length_le (Nat.le_refl _)]; simp
    simp [lobj, e]⟩
theorem Do.reverse {p : Pos} {K : Value → Sg → Prop} (hmu : σ.mu = ex ++ (a, lobj vs n) :: fp) (hz : vs.length ≤ 1000000) (q : K .none ⟨σ.vs, σ.G, ex ++ (a, lobj vs.reverse n) :: fp⟩) : Do c σ (callWith p (.builtin "list.reverse") [.ref a] [] []) K :=
  ⟨fun h g d t os Q E S qq => by
    have L : IsL h a vs.toArray n := (S.mid hmu).own (a, lobj vs n) (List.mem_append_right _ (.head _))
    refine P.reverse_list L ?_ (zline hz)
    refine qq _ _ _ t q (Cx.St.unmid (St.same (S.mid hmu) (Heap.SameBut.update ..) ?_))
    rw [L.update]
    simp [lobj]⟩
theorem Do.itemL {value slice : Expr} {j : Int} {u : Tok} {K : Value → Sg → Prop} (hx : σ.has a (lobj vs n)) (h0 : 0 ≤ j) (h1 : j < 2 ^ 63) (hv : vs[j.toNat]? = some v) (q : K v σ)
    (hs : subscripted slice false (.ref a) (.int j u) = PySem.operate [.ref a, .int j u] (getItem (.ref a) (.int j u)) := by with_unfolding_all rfl) : Do c σ (subscriptTail value slice (.ref a) (.int j u)) K :=
  ⟨fun h g d t os Q E S qq => tail_any (S.lst hx).typeIs slot_list_getitem.lookup (wpAny_getItem_list (S.lst hx) h0 h1 (by simpa using hv) (qq _ _ h t q S)) hs⟩
theorem Do.itemT {value slice : Expr} {j : Int} {u : Tok} {i : Nat} {K : Value → Sg → Prop} (hx : σ.has a (tobj vs n)) (h0 : -(2 ^ 63) ≤ j) (h1 : j < 2 ^ 63) (hi : seqIndex? j vs.length = some i) (hv : vs[i]? = some v) (q : K v σ)
    (hs : subscripted slice false (.ref a) (.int j u) = PySem.operate [.ref a, .int j u] (getItem (.ref a) (.int j u)) := by with_unfolding_all rfl) : Do c σ (subscriptTail value slice (.ref a) (.int j u)) K :=
  ⟨fun h g d t os Q E S qq => item_tupleT (S.tup hx) h0 h1 hi hv (qq _ _ h t q S) hs⟩
theorem Do.lenL {K : Value → Sg → Prop} (hx : σ.has a (lobj vs n)) (hz : vs.length ≤ 1000000) (q : ∀ t, K (.int vs.length t) σ) : Do c σ (call (.builtin "len") [.ref a]) K :=
  ⟨fun h g d t os Q E S qq => call_len_list (S.lst hx) (by rw [List.size_toArray]; lia) (by rw [List.size_toArray]; exact qq _ _ h _ (q _) S)⟩
theorem Do.lenT {K : Value → Sg → Prop} (hx : σ.has a (tobj vs n)) (hz : vs.length ≤ 1000000) (q : ∀ t, K (.int vs.length t) σ) : Do c σ (call (.builtin "len") [.ref a]) K :=
  ⟨fun h g d t os Q E S qq => len_tuple (S.tup hx) (by rw [List.size_toArray]; lia) (by rw [List.size_toArray]; exact qq _ _ h _ (q _) S)⟩
noncomputable def eqI (a : Int) : Value → Option Bool
  | .int y _ => some (a == y)
  | .str _ _ => some false
  | .none => some false
  | _ => none
noncomputable def eqS (a : Str) : Value → Option Bool
  | .str y _ => some (a == y)
  | .int _ _ => some false
  | _ => none
noncomputable def eqN : Value → Option Bool
  | .int _ _ => some false
  | .none => some true
  | _ => none
noncomputable def eqB : Value → Value → Option Bool
  | .int x _, v => eqI x v
  | .str x _, v => eqS x v
  | .none, v => eqN v
  | _, _ => none
theorem eqB_at {A : Around} {s : Shared} {y x : Value} {r : Bool} (e : eqB y x = some r) : SeqAt.EqAt A s y x r := by
  cases y with
  | int a t =>
    cases x with
    | int b u => cases e; exact SeqAt.EqAt.int_int a t b u
    | str b u => cases e; exact SeqAt.EqAt.int_str a t b u
    | none => cases e; exact SeqAt.EqAt.int_none a t
    | _ => cases e
  | str a t =>
    cases x with
    | str b u => cases e; exact SeqAt.EqAt.str_str a t b u
    | int b u => cases e; exact SeqAt.EqAt.str_int a t b u
    | _ => cases e
  | none =>
    cases x with
    | int b u => cases e; exact SeqAt.EqAt.none_int b u
    | none => cases e; exact SeqAt.EqAt.same .none
    | _ => cases e
  | _ => cases e
theorem any_arr {e : Value → Bool} : vs.toArray.any e = vs.any e := by simp
theorem Do.inL {K : Value → Sg → Prop} (e : Value → Bool) (hx : σ.has a (lobj vs n)) (he : ∀ y ∈ vs, eqB y x = some (e y)) (q : K (.bool (vs.any e)) σ) : Do c σ (compareOp .In x (.ref a)) K :=
  ⟨fun h g d t os Q E S qq => SeqAt.in_listAt e (S.lst hx) (fun y hy => eqB_at (he y (by simpa using hy))) (by rw [any_arr]; exact qq _ _ h t q S)⟩
theorem Do.notInL {K : Value → Sg → Prop} (e : Value → Bool) (hx : σ.has a (lobj vs n)) (he : ∀ y ∈ vs, eqB y x = some (e y)) (q : K (.bool (!vs.any e)) σ) : Do c σ (compareOp .NotIn x (.ref a)) K :=
  ⟨fun h g d t os Q E S qq => SeqAt.notIn_listAt e (S.lst hx) (fun y hy => eqB_at (he y (by simpa using hy))) (by rw [any_arr]; exact qq _ _ h t q S)⟩
theorem Do.inT {K : Value → Sg → Prop} (e : Value → Bool) (hx : σ.has a (tobj vs n)) (he : ∀ y ∈ vs, eqB y x = some (e y)) (q : K (.bool (vs.any e)) σ) : Do c σ (compareOp .In x (.ref a)) K :=
  ⟨fun h g d t os Q E S qq => SeqAt.in_tupleAt e (S.tupT hx) (fun y hy => eqB_at (he y (by simpa using hy))) (by rw [any_arr]; exact qq _ _ h t q S)⟩
theorem Do.notInT {K : Value → Sg → Prop} (e : Value → Bool) (hx : σ.has a (tobj vs n)) (he : ∀ y ∈ vs, eqB y x = some (e y)) (q : K (.bool (!vs.any e)) σ) : Do c σ (compareOp .NotIn x (.ref a)) K :=
  ⟨fun h g d t os Q E S qq => SeqAt.notIn_tupleAt e (S.tupT hx) (fun y hy => eqB_at (he y (by simpa using hy))) (by rw [any_arr]; exact qq _ _ h t q S)⟩
theorem Do.addL {K : Value → Sg → Prop} (hx : σ.has a (lobj vs n)) (hy : σ.has b (lobj ws n')) (hz : vs.length + ws.length ≤ 1000000) (q : ∀ r, K (.ref r) ⟨σ.vs, gadd σ.G r (lobj (vs ++ ws)), σ.mu⟩) : Do c σ (binaryOp .Add (.ref a) (.ref b)) K :=
  ⟨fun h g d t os Q E S qq => P.add_list (S.has hx) (S.has hy) (by
    rw [List.append_toArray]
    exact qq _ _ _ t (q h.objs.size) (St.pushG S _ rfl)) (by rw [List.size_toArray, List.size_toArray, sizeLine_eq]; lia)⟩
theorem low {w : World} {hB : Heap} (B : Base w hB mg mb) : ∃ o, hB.get? sysModules = some o := by
  have e : ((H.K w.params).lookup sysModules).isSome = true := by kernel_rfl
  obtain ⟨o, ho⟩ := Option.isSome_iff_exists.mp e
  exact ⟨o, B.K _ _ ho⟩
theorem Cx.Ok.low {h : Heap} {d : Addr} {o : Obj} (ok : c.Ok mg mb k) (S : c.St σ h) (hx : (d, o) ∈ σ.mu) : (d == sysModules) = false := by
  obtain ⟨o', ho⟩ := Mine.low ok.B
  rw [beq_eq_false_iff_ne]
  rintro rfl
  exact S.gmu _ (List.mem_append_left _ hx) o' (S.bs _ _ ho)
variable {K : Type} [DecidableEq K] {knd : KeyKind H.rw_.prog c.w K} {kvs : List (K × Value)} {o : Obj} {d : Addr} {key : Value} {kk : K}
theorem Cx.St.dct {h : Heap} (S : c.St σ h) (hx : σ.has d o) (hd : o.IsDictOf knd kvs) : h.DictOf knd d kvs := Heap.dictOf_iff.mpr ⟨o, S.has hx, hd⟩
theorem Do.dgetI {P : Value → Sg → Prop} (hx : σ.has d o) (hd : o.IsDictOf knd kvs) (hk : knd.is kk key = true) (hv : valueAt kvs kk = some v) (q : P v σ) : Do c σ (getItem (.ref d) key) P :=
  ⟨fun h g d' t os Q E S qq => wpAny_getItem_of hk (S.dct hx hd).mapOf hv (qq _ _ h _ q S)⟩
theorem Do.dget {value slice : Expr} {P : Value → Sg → Prop} (hx : σ.has d o) (hd : o.IsDictOf knd kvs) (hk : knd.is kk key = true) (hv : valueAt kvs kk = some v) (q : P v σ)
    (hs : subscripted slice false (.ref d) key = PySem.operate [.ref d, key] (getItem (.ref d) key) := by with_unfolding_all rfl) : Do c σ (subscriptTail value slice (.ref d) key) P :=
  ⟨fun h g d' t os Q E S qq => tail_any (S.dct hx hd).typeIs slot_dict_getitem.lookup ((Do.dgetI hx hd hk hv q).run h g d' t os Q E S qq) hs⟩
theorem Do.dset {P : Unit → Sg → Prop} (hmu : σ.mu = ex ++ (d, o) :: fp) (hd : o.IsDictOf knd kvs) (hk : knd.is kk key = true) (hz : kvs.length ≤ 1000000) (q : ∀ o' : Obj, o'.IsDictOf knd (stored kvs kk v) → P () ⟨σ.vs, σ.G, ex ++ (d, o') :: fp⟩) :
    Do c σ (setItem (.ref d) key v) P :=
  ⟨fun h g d' t os Q E S qq => wpAny_setItem_pairs (hsz := by rw [sizeLine_eq]; lia) hk (S.dct (.inr (hmu ▸ List.mem_append_right _ (.head _))) hd) fun h' hd' hs => by
    obtain ⟨o', ho', hdo⟩ := Heap.dictOf_iff.mp hd'
    exact qq _ _ h' _ (q o' hdo) (Cx.St.unmid (St.same (S.mid hmu) hs ho'))⟩
theorem Do.din {P : Value → Sg → Prop} (ok : c.Ok mg mb k') (hx : (d, o) ∈ σ.mu) (hd : o.IsDictOf knd kvs) (hk : knd.is kk key = true) (q : P (.bool (valueAt kvs kk).isSome) σ) : Do c σ (compareOp .In key (.ref d)) P :=
  ⟨fun h g d' t os Q E S qq => wpAny_in_of hk (ok.low S hx) (S.dct (.inr hx) hd).mapOf (qq _ _ h _ q S)⟩
theorem Do.dnotIn {P : Value → Sg → Prop} (ok : c.Ok mg mb k') (hx : (d, o) ∈ σ.mu) (hd : o.IsDictOf knd kvs) (hk : knd.is kk key = true) (q : P (.bool (!(valueAt kvs kk).isSome)) σ) : Do c σ (compareOp .NotIn key (.ref d)) P :=
  ⟨fun h g d' t os Q E S qq => wpAny_notIn_of hk (ok.low S hx) (S.dct (.inr hx) hd).mapOf (qq _ _ h _ q S)⟩
theorem empty_dict : emptyDict.IsDictOf knd [] := by
  have h := Heap.DictOf.new (knd := knd) h00
  obtain ⟨o, ho, hd⟩ := Heap.dictOf_iff.mp h
  rw [Heap.get?_push_size _ rfl] at ho
  cases ho
  exact hd
theorem Do.newDict {pos : Pos} {P : Value → Sg → Prop} (q : ∀ a, P (.ref a) ⟨σ.vs, σ.G, (a, emptyDict) :: σ.mu⟩) : Do c σ (eval (.Dict [] [] pos) c.env) P :=
  ⟨fun h g d t os Q E S qq => wpAny_Dict_empty (qq _ _ _ t (q h.objs.size) (St.pushMu S _ rfl))⟩
noncomputable def pairsOf (pos : Pos) (env : Env) : List (Option Expr) → List Expr → List (Sem Value × Sem Value)
  | some k :: ks, v :: vs => (eval k env, do let x ← eval v env; PySem.standAt pos; Pure.pure x) :: pairsOf pos env ks vs
  | _, _ => []
noncomputable def keyed : List (Option Expr) → List Expr → Bool
  | [], [] => true
  | some _ :: ks, _ :: vs => keyed ks vs
  | _, _ => false
theorem pairsOf_shape (pos : Pos) (env : Env) : ∀ (ks : List (Option Expr)) (vs : List Expr), keyed ks vs = true →
    (evalEachOpt ks env).zip ((evalEach vs env).map fun v => do let x ← v; PySem.standAt pos; Pure.pure x) = (pairsOf pos env ks vs).map fun p => (some p.1, p.2)
  | [], [], _ => rfl
  | some k :: ks, v :: vs, e => by
    have ih := pairsOf_shape pos env ks vs e
    have e1 : evalEachOpt (some k :: ks) env = some (eval k env) :: evalEachOpt ks env := rfl
    have e2 : evalEach (v :: vs) env = eval v env :: evalEach vs env := rfl
    rw [e1, e2, List.map_cons, List.zip_cons_cons, ih]; rfl
  | none :: _, _, e => by simp [keyed] at e
  | some _ :: _, [], e => by simp [keyed] at e
  | [], _ :: _, e => by simp [keyed] at e
theorem Do.pairs_nil {pos : Pos} {P : List (Value × Value) → Sg → Prop} (q : P [] σ) : Do c σ (evalPairs (pairsOf pos c.env [] [])) P := Do.pure q
theorem Do.pairs_cons {pos : Pos} {ke ve : Expr} {ks : List (Option Expr)} {vs : List Expr} {P : List (Value × Value) → Sg → Prop}
    (y : Do c σ (eval ke c.env) fun kv σ₁ => Do c σ₁ (eval ve c.env) fun vv σ₂ => Do c σ₂ (evalPairs (pairsOf pos c.env ks vs)) fun l σ₃ => P ((kv, vv) :: l) σ₃) : Do c σ (evalPairs (pairsOf pos c.env (some ke :: ks) (ve :: vs))) P := by
  rw [pairsOf, evalPairs]
  exact Do.bind (y.mono fun kv σ₁ z => Do.bind (Do.holding (Do.bind (z.mono fun vv σ₂ z2 => Do.bind (Do.standAt (Do.pure (Do.bind (Do.holding (z2.mono fun l σ₃ q => Do.pure q)))))))))
theorem Do.dictD {keys : List (Option Expr)} {values : List Expr} {pos : Pos} {P : Value → Sg → Prop} (knd : KeyKind H.rw_.prog c.w K) (hk : (keyed keys values && (values.length ≤ 15) && !values.isEmpty) = true)
    (y : ∀ a, Do c ⟨σ.vs, σ.G, (a, emptyDict) :: σ.mu⟩ (evalPairs (pairsOf pos c.env keys values)) fun l σ₁ => (E3 fun ex mu₁ kvs => A3 (σ₁.mu = ex ++ (a, emptyDict) :: mu₁) (Carries knd l kvs) (∀ o' : Obj, o'.IsDictOf knd (merged [] kvs) → P (.ref a) ⟨σ₁.vs, σ₁.G, ex ++ (a, o') :: mu₁⟩))) :
    Do c σ (eval (.Dict keys values pos) c.env) P := ⟨fun h g d t os Q E S qq => by
  simp only [Bool.and_eq_true, decide_eq_true_eq, Bool.not_eq_true', List.isEmpty_eq_false_iff] at hk
  obtain ⟨⟨hk1, hk2⟩, hk3⟩ := hk
  have hlen : ∀ (ks : List (Option Expr)) (vs : List Expr), keyed ks vs = true → (pairsOf pos c.env ks vs).length = vs.length := by
    intro ks vs
    induction vs generalizing ks with
    | nil => intro e; cases ks with | nil => rfl | cons k ks => cases k <;> simp [keyed] at e
    | cons v vs ih => intro e; cases ks with | nil => simp [keyed] at e | cons k ks => cases k with | none => simp [keyed] at e | some k => simp [pairsOf, ih ks e]
  refine wpAny_Dict_pairs (knd := knd) (pairsOf_shape pos c.env keys values hk1) (fun e => hk3 (List.length_eq_zero_iff.mp (by rw [← hlen _ _ hk1, e]; rfl))) (by rw [hlen _ _ hk1]; exact hk2) ?_
  refine (y h.objs.size).run _ g d t os _ E (St.pushMu S _ rfl) fun l σ₁ h' t' z S' => ?_
  obtain ⟨ex, mu₁, kvs, e, hc, q⟩ := z
  have S2 := Cx.St.mid S' e
  refine ⟨kvs, hc, Heap.dictOf_iff.mpr ⟨emptyDict, S2.own _ (List.mem_append_right _ (.head _)), empty_dict⟩, fun h'' hd hs => ?_⟩
  obtain ⟨o', ho', hdo⟩ := Heap.dictOf_iff.mp hd
  exact qq _ _ h'' _ (q o' hdo) (Cx.St.unmid (St.same S2 hs ho'))⟩
end
end Mine
end
section
namespace Mine
open PySem PySem.W PyProof.Rows PySem.Calls
section
variable {hB h h' : Heap} {e : Ent} {G G' : Gh} {m m' : Str → Option Value} {mu fp fp' ex : Led} {o o' : Obj} {a : Addr}
theorem St.turnDrop (S : St hB e G m (ex ++ (a, o) :: fp) h) (hk : ∀ b x, b ≠ a → h.get? b = some x → h'.get? b = some x) : St hB e G m (ex ++ fp) h' := by
  have hm : (a, o) ∈ ex ++ (a, o) :: fp := List.mem_append_right _ (.head _)
  have S' : St hB e G m ((a, o) :: (ex ++ fp)) h := S.perm List.perm_middle
  have n1 := List.nodup_cons.mp S'.nd
  have n2 := List.nodup_cons.mp n1.2
  have hne : ∀ p ∈ ex ++ fp, p.1 ≠ a := fun p hp q => n2.1 (by show a ∈ (ex ++ fp).ads; rw [← q]; exact mem_ads hp)
  have ns' : h'.Ns e.L m := S.ns.at' fun x q => hk _ x (S.neL hm).symm q
  exact { bs := S.bs, ns := ns', sub := fun b x g => hk b x (fun q => S.gmu _ hm x (q ▸ g)) (S.sub b x g), own := fun p hp => hk _ _ (hne p hp) (S'.own p (.tail _ hp)), gL := S.gL,
          gmu := fun p hp => S'.gmu p (.tail _ hp), nd := List.nodup_cons.mpr ⟨fun q => n1.1 (.tail _ q), n2.2⟩,
          base := fun b x g n => hk b x (fun q => by
            rcases S.amu _ hm with y | y
            · exact n (q ▸ y)
            · have := Heap.lt_size g; rw [q] at this; exact absurd this (Nat.not_lt.mpr y)) (S.base b x g n),
          le := S.le, new := S.new, aL := S.aL, amu := fun p hp => S'.amu p (.tail _ hp), size := Nat.le_of_lt (Nat.lt_of_le_of_lt S.aL ns'.lt) }
theorem St.turn (S : St hB e G m (ex ++ (a, o) :: fp) h) (hk : ∀ b x, b ≠ a → h.get? b = some x → h'.get? b = some x) (ho : h'.get? a = some o') : St hB e G m (ex ++ (a, o') :: fp) h' := by
  have hm : (a, o) ∈ ex ++ (a, o) :: fp := List.mem_append_right _ (.head _)
  refine S.back ⟨S.ns.at' fun x q => hk _ x (S.neL hm).symm q, fun b x q => absurd ((h00_get b).symm.trans q) nofun, Nat.zero_le _⟩ fun p hp => ?_
  rcases List.mem_cons.mp hp with rfl | hp
  · exact ⟨ho, S.neL (p := (a, o)) hm, h00_get _⟩
  · obtain ⟨h1, h2, h3⟩ := mem_allBut.mp hp
    exact ⟨hk _ _ h2 h1, h3, h00_get _⟩
end
noncomputable def LoopK (J : Nat → Sg → Prop) (i : Nat) (K : Flow → Sg → Prop) : Flow → Sg → Prop
  | .next, σ => J (i + 1) σ
  | .cont, σ => J (i + 1) σ
  | .brk, σ => K .next σ
  | .ret v, σ => K (.ret v) σ
noncomputable abbrev Cx.hide (c : Cx) (p : Addr × Obj) : Cx := ⟨c.w, c.hB, c.A, c.env, c.e, c.ks, c.gs, p :: c.hid⟩
theorem Cx.Ok.hide {c : Cx} {mg mb : Str → Option Value} {k : Nat} (o : c.Ok mg mb k) (p : Addr × Obj) : (c.hide p).Ok mg mb k := ⟨o.X, o.B, o.R⟩
section
variable {c : Cx} {σ : Sg} {mg mb : Str → Option Value} {k : Nat}
theorem loopCore {target : Expr} {body : List Stmt} {I : Addr} {fp : List Addr} {n : Nat} {P : Nat → Value → Prop} {T : Nat → Heap → Prop} {J : Nat → Sg → Prop} {K : Flow → Sg → Prop}
    (W : Walks H.rw_.prog c.w c.A I (I :: fp) [I] n P T) (hob : ∀ i h, T i h → ∃ o, h.get? I = some o) (hfp : ∀ b ∈ fp, ∃ o, ∀ i σ', J i σ' → σ'.has b o)
    (hgo : ∀ i (s : Shared) v (Q : Unit → Shared → Prop) E, T i s.heap → Q () s → wpAny (Md c.w) c.A (letOwnedTupleGo target (.ref I) v) Q E s)
    (step : ∀ i v p σ', i < n → P i v → J i σ' → Do (c.hide p) σ' (assign target c.env v) fun _ σ'' => Do (c.hide p) σ'' (execs body c.env) (LoopK J i K))
    (done : ∀ σ', J n σ' → K .next σ') {h : Heap} {g : Array GenState} {d : Drawn} {t : Nat} {os : OsState} {Q : Flow → Shared → Prop} {E : Value → Shared → Prop}
    (q : ∀ a σ' h' t', K a σ' → c.St σ' h' → Q a ⟨h', g, d, t', os⟩) (h0 : J 0 σ) {o₀ : Obj} (S : (c.hide (I, o₀)).St σ h) (hT : T 0 h) :
    codeAny (Md c.w) c.A (.forLoop target (.ref I) body [] c.env) (fun r s' => match r with | .ok f => Q f s' | .error e => E e s') ⟨h, g, d, t, os⟩ := by
  refine codeAny_forLoop_any (fun m s => (E5 fun i σ' o h tk => A5 (m + i = n) (s = ⟨h, g, d, tk, os⟩) (J i σ') (T i h) ((c.hide (I, o)).St σ' h))) (fun m s hI => ?_) n ⟨0, σ, o₀, h, t, rfl, rfl, h0, hT, S⟩
  obtain ⟨i, σ', o, h, tk, hm, rfl, hJ, hT, S⟩ := hI
  have drop : ∀ {σ : Sg} {h : Heap} {o : Obj}, (c.hide (I, o)).St σ h → c.St σ h := fun S => St.turnDrop S (fun _ _ _ e => e)
  by_cases hlt : i < n
  · refine W.item i _ _ _ hlt hT fun v h' tk' hP hT' hk => ?_
    obtain ⟨o', ho'⟩ := hob _ _ hT'
    have S' : (c.hide (I, o')).St σ' h' := St.turn S (fun b x hb e => hk b x (by simpa using hb) e) ho'
    refine hgo (i + 1) _ v _ _ hT' ?_
    refine (step i v (I, o') σ' hlt hP hJ).run h' g d tk' os _ _ S' fun _ σ2 h2 t2 y S2 => ?_
    refine y.run h2 g d t2 os _ _ S2 fun fl σ3 h3 t3 z S3 => ?_
    have next : J (i + 1) σ3 → ∃ m', m' < m ∧ (E5 fun i σ' o h tk => A5 (m' + i = n) ((⟨h3, g, d, t3, os⟩ : Shared) = ⟨h, g, d, tk, os⟩) (J i σ') (T i h) ((c.hide (I, o)).St σ' h)) := fun j => by
      refine ⟨m - 1, by lia, i + 1, σ3, o', h3, t3, by lia, rfl, j, W.frame _ h' _ hT' (fun b hb x hx => ?_), S3⟩
      have own : h3.get? I = some o' := S3.own (I, o') (List.mem_append_right _ (.head _))
      rcases List.mem_cons.mp hb with rfl | hb
      · rw [ho'] at hx; cases hx; exact own
      · obtain ⟨ob, hob'⟩ := hfp b hb
        have e1 := S'.has (hob' _ _ hJ)
        rw [hx] at e1; cases e1
        exact S3.has (hob' _ _ j)
    cases fl with
    | next => exact next z
    | cont => exact next z
    | brk => exact q _ _ _ _ z (drop S3)
    | ret v => exact q _ _ _ _ z (drop S3)
  · obtain rfl : i = n := by lia
    refine W.done _ _ _ hT fun h' tk' hk => ?_
    show wpAny _ _ (Pure.pure Flow.next : Sem Flow) _ _ _
    exact wpAny_pure (q _ _ _ _ (done _ hJ) (St.turnDrop S (fun b x hb e => hk b x (by simpa using hb) e)))
theorem letGo_field {E : Value → Shared → Prop} {target : Expr} {I : Addr} {s : Shared} {v : Value} {Q : Unit → Shared → Prop} {M : Model} {A : Around} {o : Obj} {T : String} {fs : Array Value} (ho : s.heap.get? I = some o) (hc : o.cls = .type T) (hd : o.data = .fields fs)
    (hT : ["enumerate", "zip", "dict_itemiterator", "dict_reverseitemiterator", "odict_iterator", "itertools.zip_longest", "itertools.pairwise"].contains T = false) (h : Q () s) : wpAny M A (letOwnedTupleGo target (.ref I) v) Q E s := by
  unfold letOwnedTupleGo
  cases target <;> first
    | exact wpAny_pure h
    | (cases v <;> first
        | exact wpAny_pure h
        | (refine wpAny_bind (wpAny_load ho ?_)
           rw [hc, hd]
           dsimp only
           rw [hT]
           exact wpAny_pure h))
theorem Do.forL {target iter : Expr} {body : List Stmt} {pos : Pos} {K : Flow → Sg → Prop} (ok : c.Ok mg mb k) (hs : ∀ x, foldedSetIterable iter c.env x = Pure.pure x)
    (y : Do c σ (eval iter c.env) fun x σ₁ => (E4 fun a vs n J => A5 (x = .ref a) (∀ i σ', J i σ' → σ'.has a (lobj vs n)) (J 0 σ₁) (∀ i v p σ', vs[i]? = some v → J i σ' → Do (c.hide p) σ' (assign target c.env v) fun _ σ'' => Do (c.hide p) σ'' (execs body c.env) (LoopK J i K)) (∀ σ', J vs.length σ' → K .next σ'))) :
    Do c σ (exec (.For target iter body [] pos) c.env) K := ⟨fun h g d t os Q E S q => by
  refine wpAny_For (y.run h g d t os _ E S fun x σ₁ h' t' z S' => ?_) hs
  obtain ⟨a, vs, n, J, rfl, hJ, h0, step, done⟩ := z
  refine wpAny_pyIter_list (S'.lst (hJ 0 _ h0)) ?_
  have hlt : a < h'.objs.size := Heap.lt_size (S'.has (hJ 0 _ h0))
  have W := Walks.list (prog := H.rw_.prog) (w := c.w) ok.R.handled h'.objs.size a (Nat.ne_of_lt hlt) vs.toArray
  rw [(List.size_toArray : vs.toArray.size = vs.length)] at W
  refine loopCore W (fun i h ⟨⟨o, ho, _⟩, _⟩ => ⟨o, ho⟩) (fun b hb => ⟨_, fun i σ' hj => (List.mem_singleton.mp hb).symm ▸ hJ i σ' hj⟩) (fun i s v Q E hT hq => ?_) (fun i v p σ' hi hP hj => step i v p σ' (by simpa using hP) hj) done q h0
    (o₀ := { cls := .type "list_iterator", data := .fields #[.ref a, .int 0 0] }) (St.perm (St.pushMu S' _ rfl) List.perm_middle.symm) ⟨⟨_, Heap.get?_push_size _ rfl, rfl, rfl⟩, (S'.lst (hJ 0 _ h0)).at fun o e => Heap.get?_push_of_some _ e⟩
  obtain ⟨⟨o, ho, hc, hd⟩, _⟩ := hT
  exact letGo_field ho hc hd (by decide) hq⟩
theorem Do.forT {target iter : Expr} {body : List Stmt} {pos : Pos} {K : Flow → Sg → Prop} (ok : c.Ok mg mb k) (hs : ∀ x, foldedSetIterable iter c.env x = Pure.pure x)
    (y : Do c σ (eval iter c.env) fun x σ₁ => (E4 fun a vs n J => A5 (x = .ref a) (∀ i σ', J i σ' → σ'.has a (tobj vs n)) (J 0 σ₁) (∀ i v p σ', vs[i]? = some v → J i σ' → Do (c.hide p) σ' (assign target c.env v) fun _ σ'' => Do (c.hide p) σ'' (execs body c.env) (LoopK J i K)) (∀ σ', J vs.length σ' → K .next σ'))) :
    Do c σ (exec (.For target iter body [] pos) c.env) K := ⟨fun h g d t os Q E S q => by
  refine wpAny_For (y.run h g d t os _ E S fun x σ₁ h' t' z S' => ?_) hs
  obtain ⟨a, vs, n, J, rfl, hJ, h0, step, done⟩ := z
  refine wpAny_pyIter_tuple (S'.tupT (hJ 0 _ h0)) ?_
  have hlt : a < h'.objs.size := Heap.lt_size (S'.has (hJ 0 _ h0))
  have W := Walks.tuple (prog := H.rw_.prog) (w := c.w) ok.R.handled h'.objs.size a (Nat.ne_of_lt hlt) vs.toArray
  rw [(List.size_toArray : vs.toArray.size = vs.length)] at W
  refine loopCore W (fun i h ⟨⟨o, ho, _⟩, _⟩ => ⟨o, ho⟩) (fun b hb => ⟨_, fun i σ' hj => (List.mem_singleton.mp hb).symm ▸ hJ i σ' hj⟩) (fun i s v Q E hT hq => ?_) (fun i v p σ' hi hP hj => step i v p σ' (by simpa using hP) hj) done q h0
    (o₀ := { cls := .type "tuple_iterator", data := .fields #[.ref a, .int 0 0] }) (St.perm (St.pushMu S' _ rfl) List.perm_middle.symm) ⟨⟨_, Heap.get?_push_size _ rfl, rfl, rfl⟩, (S'.tupT (hJ 0 _ h0)).at fun o e => Heap.get?_push_of_some _ e⟩
  obtain ⟨⟨o, ho, hc, hd⟩, _⟩ := hT
  exact letGo_field ho hc hd (by decide) hq⟩
noncomputable abbrev robj (m : Int) (t u v : Tok) : Obj := { cls := .type "range", data := .fields #[.int 0 t, .int m u, .int 1 v] }
theorem Do.range1 {m : Int} {u : Tok} {K : Value → Sg → Prop} (q : ∀ r t v, K (.ref r) ⟨σ.vs, gadd σ.G r (robj m t u v), σ.mu⟩) : Do c σ (call (.type "range") [.int m u]) K :=
  ⟨fun h g d t os Q E S qq => call_range_1 (qq _ _ _ _ (q _ _ _) (St.pushG S _ rfl))⟩
theorem Do.forR {target iter : Expr} {body : List Stmt} {pos : Pos} {K : Flow → Sg → Prop} (ok : c.Ok mg mb k) (hs : ∀ x, foldedSetIterable iter c.env x = Pure.pure x)
    (y : Do c σ (eval iter c.env) fun x σ₁ => (E6 fun a m t u v J => A7 (x = .ref a) (σ₁.has a (robj m t u v)) (-1000000 ≤ m) (m ≤ 1000000) (J 0 σ₁) (∀ (i : Nat) t p σ', (i : Int) < m → J i σ' → Do (c.hide p) σ' (assign target c.env (.int i t)) fun _ σ'' => Do (c.hide p) σ'' (execs body c.env) (LoopK J i K)) (∀ σ', J m.toNat σ' → K .next σ'))) :
    Do c σ (exec (.For target iter body [] pos) c.env) K := ⟨fun h g d t os Q E S q => by
  refine wpAny_For (y.run h g d t os _ E S fun x σ₁ h' t' z S' => ?_) hs
  obtain ⟨a, m, t, u, v, J, rfl, hr, hm0, hm, h0, step, done⟩ := z
  by_cases hneg : 0 ≤ m
  · obtain ⟨n, rfl⟩ := Int.eq_ofNat_of_zero_le hneg
    have hsz : Builtin.Range.rangeSize 0 (n : Int) 1 = n := by rw [rangeSize_one]; split <;> lia
    refine wpAny_pyIter_range (S'.has hr) (small_one (by decide) (by decide) (by lia) (by lia)) ?_
    rw [hsz]
    have W := Walks.range (prog := H.rw_.prog) (w := c.w) ok.R.handled h'.objs.size 0 1 n
    refine loopCore W (fun i h hT => ⟨_, hT⟩) (fun b hb => by cases hb) (fun i s v Q E hT hq => ?_) (fun i v p σ' hi hP hj => ?_) done q h0
      (o₀ := { cls := .type "range_iterator", data := .fields #[rawInt 0, rawInt n, rawInt 1] }) (St.perm (St.pushMu S' _ rfl) List.perm_middle.symm) ?_
    · exact letGo_field hT rfl rfl (by decide) hq
    · obtain ⟨t, rfl⟩ := hP
      have := step i t p σ' (by lia) hj
      simpa using this
    · have := Heap.get?_push_size h' (o := { cls := .type "range_iterator", data := .fields #[rawInt 0, rawInt n, rawInt 1] }) rfl
      simpa [IsRangeIter] using this
  · have hsz : Builtin.Range.rangeSize 0 m 1 = 0 := by rw [rangeSize_one]; split <;> lia
    refine wpAny_pyIter_range (S'.has hr) (small_one (by decide) (by decide) (by lia) (by lia)) ?_
    rw [hsz]
    have W := Walks.range (prog := H.rw_.prog) (w := c.w) ok.R.handled h'.objs.size 0 1 0
    have e0 : m.toNat = 0 := by lia
    rw [e0] at done
    refine loopCore W (fun i h hT => ⟨_, hT⟩) (fun b hb => by cases hb) (fun i s v Q E hT hq => ?_) (fun i v p σ' hi hP hj => absurd hi (Nat.not_lt_zero _)) done q h0
      (o₀ := { cls := .type "range_iterator", data := .fields #[rawInt 0, rawInt 0, rawInt 1] }) (St.perm (St.pushMu S' _ rfl) List.perm_middle.symm) ?_
    · exact letGo_field hT rfl rfl (by decide) hq
    · have := Heap.get?_push_size h' (o := { cls := .type "range_iterator", data := .fields #[rawInt 0, rawInt 0, rawInt 1] }) rfl
      simpa [IsRangeIter] using this⟩
variable {K₁ : Type} [DecidableEq K₁] {knd : KeyKind H.rw_.prog c.w K₁}
theorem Do.forD {target iter : Expr} {body : List Stmt} {pos : Pos} {K : Flow → Sg → Prop} (ok : c.Ok mg mb k) (knd : KeyKind H.rw_.prog c.w K₁) (hs : ∀ x, foldedSetIterable iter c.env x = Pure.pure x)
    (y : Do c σ (eval iter c.env) fun x σ₁ => (E4 fun a o kvs J => A6 (x = .ref a) (o.IsDictOf knd kvs) (∀ i σ', J i σ' → (a, o) ∈ σ'.mu) (J 0 σ₁) (∀ i kk x v p σ', kvs[i]? = some (kk, x) → knd.is kk v = true → J i σ' → Do (c.hide p) σ' (assign target c.env v) fun _ σ'' => Do (c.hide p) σ'' (execs body c.env) (LoopK J i K)) (∀ σ', J kvs.length σ' → K .next σ'))) :
    Do c σ (exec (.For target iter body [] pos) c.env) K := ⟨fun h g d t os Q E S q => by
  refine wpAny_For (y.run h g d t os _ E S fun x σ₁ h' t' z S' => ?_) hs
  obtain ⟨a, o, kvs, J, rfl, hd, hJ, h0, step, done⟩ := z
  obtain ⟨es, ep, r⟩ := hd
  have ha : h'.get? a = some o := S'.has (.inr (hJ 0 _ h0))
  have hD : h'.DictAt knd a kvs ep := ⟨o, es, ha, r⟩
  refine wpAny_pyIter_dict (ok.low S' (hJ 0 _ h0)) hD ?_
  have W := Walks.dictKeys (prog := H.rw_.prog) (w := c.w) (knd := knd) ok.R.handled h'.objs.size a (Nat.ne_of_lt (Heap.lt_size ha)) kvs ep
  refine loopCore W (fun i h ⟨⟨o, ho, _⟩, _⟩ => ⟨o, ho⟩) (fun b hb => ⟨o, fun i σ' hj => (List.mem_singleton.mp hb).symm ▸ .inr (hJ i σ' hj)⟩) (fun i s v Q E hT hq => ?_) (fun i v p σ' hi hP hj => ?_) done q h0
    (o₀ := { cls := .type "dict_keyiterator", data := .fields #[.ref a, .int 0 0, .int kvs.length 0, .int ep 0] }) (St.perm (St.pushMu S' _ rfl) List.perm_middle.symm) ⟨⟨_, Heap.get?_push_size _ rfl, rfl, rfl⟩, ⟨o, es, Heap.get?_push_of_some _ ha, r⟩⟩
  · obtain ⟨⟨o, ho, hc, hd⟩, _⟩ := hT
    exact letGo_field ho hc hd (by decide) hq
  · obtain ⟨kk, x, h1, h2⟩ := hP
    exact step i kk x v p σ' h1 h2 hj⟩
end
end Mine
end
section
namespace Mine
open PySem PySem.W PyProof.Rows PySem.Calls
section
variable {hB h h' : Heap} {e : Ent} {G G' : Gh} {m m' : Str → Option Value} {mu fp fp' ex : Led} {o o' : Obj} {a : Addr}
theorem St.grown (S : St hB e G m mu h) (hk : ∀ b x, h.get? b = some x → h'.get? b = some x) : St hB e G m mu h' :=
  have ns' : h'.Ns e.L m := S.ns.at' fun x q => hk _ x q
  { S with ns := ns', sub := fun b x g => hk b x (S.sub b x g), own := fun p hp => hk _ _ (S.own p hp), base := fun b x g n => hk b x (S.base b x g n), size := Nat.le_of_lt (Nat.lt_of_le_of_lt S.aL ns'.lt) }
theorem St.extBut (S : St hB e G m mu h) (x : Heap.ExtBut h.objs.size h h') : St hB e G m mu h' :=
  S.grown fun b o q => x b o (Nat.ne_of_lt (Heap.lt_size q)) q
end
section
variable {c : Cx} {σ : Sg} {mg mb : Str → Option Value} {k : Nat} {a b : Addr} {vs : List Value} {n : Nat}
theorem Do.isTrue_other {x : Expr} {K : Bool → Sg → Prop} (y : Do c σ (eval x c.env) fun v σ' => Do c σ' (truthy v) K)
    (he : isTrue x c.env (eval x c.env) = (do let v ← eval x c.env; PySem.standAt x.pos; PySem.holding [v] (truthy v)) := by rfl) : Do c σ (isTrue x c.env (eval x c.env)) K := by
  rw [he]
  exact Do.bind (y.mono fun v σ' z => Do.bind (Do.standAt (Do.holding z)))
theorem Do.compareE {l r : Expr} {op : CmpOp} {p : Pos} {K : Value → Sg → Prop} (hm : lastMarks [op] [r] = false)
    (y : Do c σ (eval l c.env) fun a σ₀ => Do c σ₀ (eval r c.env) fun b σ₁ => Do c σ₁ (compareOp op a b) K) : Do c σ (eval (.Compare l [op] [r] p) c.env) K := by
  rw [arm_eval_Compare]
  refine Do.bind (y.mono fun a σ₀ z => ?_)
  rw [markedEach_of_false _ _ _ hm]
  unfold compareChain
  exact Do.bind (Do.holding (z.mono fun b σ₁ w => Do.bind (Do.standAt (Do.operate w))))
theorem Do.boolop_one {op : BoolOp} {p : Pos} {e : Expr} {K : Value → Sg → Prop} (x : Do c σ (eval e c.env) K) : Do c σ (boolOp p op (evalEach [e] c.env)) K := x
theorem Do.boolop_and {p : Pos} {e e2 : Expr} {es : List Expr} {K : Value → Sg → Prop}
    (x : Do c σ (eval e c.env) fun v σ₁ => Do c σ₁ (truthy v) fun b σ₂ => IfB b (Do c σ₂ (boolOp p .And (evalEach (e2 :: es) c.env)) K) (K v σ₂)) : Do c σ (boolOp p .And (evalEach (e :: e2 :: es) c.env)) K := by
  have e1 : evalEach (e :: e2 :: es) c.env = eval e c.env :: eval e2 c.env :: evalEach es c.env := rfl
  have e2' : evalEach (e2 :: es) c.env = eval e2 c.env :: evalEach es c.env := rfl
  rw [e1, boolOp]
  · refine Do.bind (x.mono fun v σ₁ y => Do.bind (Do.standAt (Do.bind (Do.holding (y.mono fun b σ₂ z => ?_)))))
    cases b
    · exact Do.pure (z.f rfl)
    · exact z.t rfl
  · intro h; cases h
theorem Do.unary {x : Expr} {op : UnaryOp} {p : Pos} {K : Value → Sg → Prop} (y : Do c σ (eval x c.env) fun v σ₁ => Do c σ₁ (unaryOp op v) K) : Do c σ (eval (.UnaryOp op x p) c.env) K := by
  rw [arm_eval_UnaryOp]
  exact Do.bind (y.mono fun v σ₁ z => Do.bind (Do.standAt (Do.holding z)))
theorem Do.cont {p : Pos} {K : Flow → Sg → Prop} (q : K .cont σ) : Do c σ (exec (.Continue p) c.env) K := Do.bind (Do.standAt (Do.pure q))
theorem Do.assignName (o : c.Ok mg mb k) (i : Nat) {x : Str} {p : Pos} {v : Value} {K : Unit → Sg → Prop} (hx : c.ks[i]? = some x) (hi : i < σ.vs.length) (q : K () ⟨σ.vs.set i (some v), σ.G, σ.mu⟩) : Do c σ (assign (.Name x p) c.env v) K := by
  have e : assign (.Name x p) c.env v = (do PySem.standAt p; PySem.bindName c.env x v) := rfl
  rw [e]
  exact Do.bind (Do.standAt (Do.bindName o i hx hi q))
theorem Do.inOrder_nil {K : Unit → Sg → Prop} {l : List Value} (q : K () σ) : Do c σ (assignInOrder [] l) K := by
  have e : assignInOrder [] l = Pure.pure () := by cases l <;> rfl
  rw [e]; exact Do.pure q
theorem Do.inOrder_cons {t : Value → Sem Unit} {ts : List (Value → Sem Unit)} {x : Value} {xs : List Value} {K : Unit → Sg → Prop} (y : Do c σ (t x) fun _ σ' => Do c σ' (assignInOrder ts xs) K) : Do c σ (assignInOrder (t :: ts) (x :: xs)) K := by
  rw [assignInOrder]
  exact Do.bind (Do.holding y)
theorem Do.unpackT (o : c.Ok mg mb k) {targets : List (Bool × (Value → Sem Unit))} {K : Unit → Sg → Prop} (hx : σ.has a (tobj vs n)) (hn : targets.length = vs.length) (hs : targets.findIdx? (·.1) = none)
    (y : Do c σ (assignInOrder (targets.map (·.2)) vs) K) : Do c σ (unpack (.ref a) targets) K := ⟨fun h g d t os Q E S q =>
  unpack_tuple o.R.handled (S.tup hx) (by rw [hn, List.size_toArray]) hs fun h' e => y.run h' g d t os Q E (St.extBut S e) q⟩
theorem draw_list {prog : Program} {w : World} {A : Around} {E : Value → Shared → Prop} {it l : Addr} {items : Array Value} (hne : l ≠ it) : ∀ (n i : Nat) (s : Shared) (Q : List Value → Shared → Prop), s.heap.IsListIter it l i → s.heap.IsList l items → i + n ≤ items.size →
    (∀ h', h'.IsListIter it l (i + n) → Heap.SameBut it s.heap h' → Q ((items.toList.drop i).take n) { s with heap := h' }) → wpAny (model prog w) A (draw (.ref it) n) Q E s
  | 0, i, s, Q, hit, hl, hle, hq => wpAny_pure (by
      have := hq s.heap hit ⟨rfl, fun _ _ => rfl⟩
      simpa using this)
  | n + 1, i, s, Q, hit, hl, hle, hq => by
    have hlt : i < items.size := by lia
    show wpAny _ _ (pyNext (.ref it) >>= _) Q E s
    refine wpAny_bind (wpAny_pyNext_list_item hit hl (x := items[i]) (by simp [hlt]) fun h₁ hit₁ hs₁ => ?_)
    refine wpAny_bind (wpAny_holding (draw_list hne n (i + 1) _ _ hit₁ (hl.extBut hs₁.extBut hne) (by lia) fun h₂ hit₂ hs₂ => wpAny_pure ?_))
    have hd : items.toList.drop i = items[i] :: items.toList.drop (i + 1) := by simp [List.drop_eq_getElem_cons, hlt]
    have := hq h₂ (by rw [show i + (n + 1) = i + 1 + n by lia]; exact hit₂) (hs₁.trans hs₂)
    rw [hd, List.take_succ_cons] at this
    exact this
theorem unpackItems_list {prog : Program} {w : World} {A : Around} {E : Value → Shared → Prop} {s : Shared} {l : Addr} {items : Array Value} {Q : List Value → Shared → Prop} (hh : A.handled = none) (hl : s.heap.IsList l items)
    (hq : ∀ h', Heap.ExtBut s.heap.objs.size s.heap h' → Q items.toList { s with heap := h' }) : wpAny (model prog w) A (unpackItems (.ref l) items.size none) Q E s := by
  have hlt : l ≠ s.heap.objs.size := by obtain ⟨o, ho, _⟩ := hl; exact Nat.ne_of_lt (Heap.lt_size ho)
  unfold unpackItems
  refine wpAny_bind ?_
  unfold notIterableAtAll
  refine wpAny_bind (wpAny_specialOf hl.typeIs slot_list_iter.lookup ?_)
  refine wpAny_pure ?_
  simp only [Bool.false_eq_true, if_false]
  refine wpAny_bind (wpAny_holding (wpAny_pyIter_list hl ?_))
  refine wpAny_bind (wpAny_holding (draw_list hlt items.size 0 _ _ ⟨_, Heap.get?_push_size _ rfl, rfl, rfl⟩ (hl.push _) (by lia) fun h₁ hit₁ hs₁ => ?_))
  have hall : List.take items.size (List.drop 0 items.toList) = items.toList := by
    rw [List.drop_zero]; exact List.take_of_length_le (by simp)
  rw [hall]
  rw [if_neg (by simp)]
  have hl₁ : h₁.IsList l items := (hl.push _).extBut hs₁.extBut hlt
  refine wpAny_bind (wpAny_holding (wpAny_pyNext_list_end hh hit₁ hl₁ (by simp) fun h₂ he₂ => ?_))
  simp only [Option.isSome_none, Bool.false_eq_true, if_false]
  exact wpAny_pure (hq h₂ fun b o hb e => he₂ b o hb (hs₁.extBut b o hb (Heap.get?_push_of_some _ e)))
theorem Do.unpackL (o : c.Ok mg mb k) {targets : List (Bool × (Value → Sem Unit))} {K : Unit → Sg → Prop} (hx : σ.has a (lobj vs n)) (hn : targets.length = vs.length) (hs : targets.findIdx? (·.1) = none)
    (y : Do c σ (assignInOrder (targets.map (·.2)) vs) K) : Do c σ (unpack (.ref a) targets) K := ⟨fun h g d t os Q E S q => by
  unfold unpack
  rw [hs, show targets.length = vs.toArray.size by rw [hn, List.size_toArray]]
  exact wpAny_bind (wpAny_holding (unpackItems_list o.R.handled (S.lst hx) fun h' e => y.run h' g d t os Q E (St.extBut S e) q))⟩
theorem Do.assignTuple {elts : List Expr} {x1 : Nat} {p : Pos} {v : Value} {K : Unit → Sg → Prop} (y : Do c σ (unpack v (assignEach elts c.env)) K) : Do c σ (assign (.Tuple elts x1 p) c.env v) K := by
  have e : assign (.Tuple elts x1 p) c.env v = (do PySem.standAt p; unpack v (assignEach elts c.env)) := rfl
  rw [e]
  exact Do.bind (Do.standAt y)
theorem Do.assign_tuple {elts : List Expr} {x1 : Nat} {e : Expr} {p' p : Pos} {K : Flow → Sg → Prop} (hs : swapsWith e (some (.Tuple elts x1 p')) p.line c.env = Pure.pure false) (hn : swappedStores [.Tuple elts x1 p'] e c.env = Pure.pure none)
    (y : Do c σ (eval e c.env) fun v σ₁ => Do c σ₁ (assign (.Tuple elts x1 p') c.env v) fun _ σ₂ => K .next σ₂) : Do c σ (exec (.Assign [.Tuple elts x1 p'] e p) c.env) K := by
  rw [arm_exec_Assign]
  have e1 : swapsWithSole [.Tuple elts x1 p'] e p.line c.env = Pure.pure false := hs
  rw [e1]
  refine Do.bind (Do.standAt (Do.bind (Do.pure ?_)))
  simp only [Bool.false_eq_true, if_false]
  refine Do.bind (y.mono fun v σ₁ z => ?_)
  rw [hn]
  refine Do.bind (Do.pure ?_)
  show Do c σ₁ (assignAll v [assign (.Tuple elts x1 p') c.env] >>= fun _ => Pure.pure .next) K
  exact Do.bind (z.mono fun _ σ₂ q => Do.pure q)
theorem Do.assign_swap (o : c.Ok mg mb k) {elts : List Expr} {x1 : Nat} {e : Expr} {p' p : Pos} {names : List Str} {K : Flow → Sg → Prop} (hs : swapsWith e (some (.Tuple elts x1 p')) p.line c.env = Pure.pure false) (hn : swappedStores [.Tuple elts x1 p'] e c.env = Pure.pure (some names))
    (y : Do c σ (eval e c.env) fun v σ₁ => (E3 fun a vs n => A4 (v = .ref a) (σ₁.has a (tobj vs n)) (names.length = vs.length) (Do c σ₁ (assignInOrder (names.reverse.map fun n => PySem.bindName c.env n) vs.reverse) fun _ σ₂ => K .next σ₂))) : Do c σ (exec (.Assign [.Tuple elts x1 p'] e p) c.env) K := by
  rw [arm_exec_Assign]
  have e1 : swapsWithSole [.Tuple elts x1 p'] e p.line c.env = Pure.pure false := hs
  rw [e1]
  refine Do.bind (Do.standAt (Do.bind (Do.pure ?_)))
  simp only [Bool.false_eq_true, if_false]
  refine Do.bind (y.mono fun v σ₁ z => ?_)
  rw [hn]
  refine Do.bind (Do.pure ?_)
  obtain ⟨a, vs, n, rfl, hx, hl, z⟩ := z
  show Do c σ₁ (PySem.rule "assign.swapped-stores" >>= fun _ => unpackItems (.ref a) names.length none >>= fun items => assignInOrder (names.reverse.map fun n => PySem.bindName c.env n) items.reverse >>= fun _ => Pure.pure .next) K
  refine Do.bind (Do.rule (Do.bind ⟨fun h g d t os Q E S q => ?_⟩))
  rw [show names.length = vs.toArray.size by rw [hl, List.size_toArray]]
  refine unpackItems_tuple o.R.handled (S.tup hx) fun h' e => ?_
  exact q _ _ h' t (Do.bind (z.mono fun _ σ₂ q => Do.pure q)) (St.extBut S e)
end
end Mine
end
section
namespace Mine
open PySem PySem.W PyProof.Rows PySem.Calls
theorem Do.globalK {c : Cx} {σ : Sg} {mg mb : Str → Option Value} {n : Nat} (o : c.Ok mg mb n) (i : Nat) {x : Str} {p : Pos} {v : Value} {K : Value → Sg → Prop} (hx : c.gs[i]? = some x) (hv : nsIn (H.K c.w.params) mainGlobals x = some (some v)) (k : K v σ) : Do c σ (eval (.Name x p) c.env) K :=
  Do.global o i hx (mg_of o.B.K o.B.g hv) k
theorem Do.gK {c : Cx} {σ : Sg} {mg mb : Str → Option Value} {n : Nat} (o : c.Ok mg mb n) (i : Nat) {x : Str} {p : Pos} (a : Addr) {K : Value → Sg → Prop} (k : K (.ref a) σ) (hx : c.gs[i]? = some x := by rfl) (hv : nsIn (H.K c.w.params) mainGlobals x = some (some (.ref a)) := by kernel_rfl) : Do c σ (eval (.Name x p) c.env) K :=
  Do.globalK o i hx hv k
theorem Do.builtinK {c : Cx} {σ : Sg} {mg mb : Str → Option Value} {n : Nat} (o : c.Ok mg mb n) (i : Nat) {x : Str} {p : Pos} {v : Value} {K : Value → Sg → Prop} (hx : c.gs[i]? = some x) (hv : nsIn (H.K c.w.params) mainGlobals x = some none) (hn : (x != "__name__") = true) (hb : bootBuiltins x = some v) (k : K v σ) : Do c σ (eval (.Name x p) c.env) K :=
  Do.builtin o i hx (mg_none_of o.B.K o.B.g hv) (by simpa using hn) hb k
theorem has_hd {vs : List (Option Value)} {G : Gh} {mu : Led} {a : Addr} {o : Obj} : (⟨vs, G, (a, o) :: mu⟩ : Sg).has a o := .inr (.head _)
theorem mm {l : Led} (i : Nat) {p : Addr × Obj} (h : l[i]? = some p) : p ∈ l := List.mem_of_getElem? h
theorem getL_at {es : List DictEntry} {name : Str} (i : Nat) {hh : Int} {kk v : Value} (hf : es.findIdx? (·.key.isStr name) = some i) (he : es[i]? = some ⟨hh, kk, v⟩) : getL name es = some (some v) := by
  have h1 := List.findIdx?_eq_some_iff_getElem.mp hf
  obtain ⟨hlt, hp, hn⟩ := h1
  have h2 : es.find? (·.key.isStr name) = some es[i] := List.find?_eq_some_iff_getElem.mpr ⟨hp, i, hlt, rfl, fun j hj => by simpa using hn j hj⟩
  have h3 : es[i] = ⟨hh, kk, v⟩ := by rw [List.getElem?_eq_getElem hlt] at he; exact Option.some.inj he
  unfold getL
  rw [h2, h3]
section
variable {c : Cx} {σ : Sg} {mg mb : Str → Option Value} {k : Nat} {x dx C : Addr} {es : List DictEntry} {n : Nat} {name : Str} {v : Value} {ex fp : Led}
theorem Do.getA {K : Value → Sg → Prop} {b : Bool} (o : c.Ok mg mb k) (hx : σ.has x (instObj C dx)) (hd : σ.has dx (dictOf es n)) (i : Nat) {hh : Int} {kk : Value} (hf : es.findIdx? (·.key.isStr name) = some i) (he : es[i]? = some ⟨hh, kk, v⟩)
    (hc : attrIn (H.K c.w.params) C name = true) (hv : handedIn v = true) (q : K v σ) : Do c σ (getAttr (.ref x) name b) K := Do.getD o hx hd hc (getL_at i hf he) hv q
theorem putL_old {hsh : Int} {key : Value} : ∀ {es : List DictEntry} {i : Nat} {hh : Int} {kk old : Value}, es.findIdx? (·.key.isStr name) = some i → es[i]? = some ⟨hh, kk, old⟩ → putL name hsh key v es = es.set i ⟨hh, kk, v⟩
  | [], _, _, _, _, h, _ => by simp at h
  | e :: r, i, hh, kk, old, h, he => by
    rw [List.findIdx?_cons] at h
    unfold putL
    cases hb : e.key.isStr name with
    | true =>
      rw [hb] at h; simp at h; subst h
      simp at he; subst he
      simp
    | false =>
      rw [hb] at h; simp at h
      obtain ⟨j, hj, rfl⟩ := h
      rw [List.getElem?_cons_succ] at he
      simp [putL_old hj he]
theorem putL_new {hsh : Int} {key : Value} : ∀ {es : List DictEntry}, es.findIdx? (·.key.isStr name) = none → putL name hsh key v es = es ++ [⟨hsh, key, v⟩]
  | [], _ => rfl
  | e :: r, h => by
    rw [List.findIdx?_cons] at h
    unfold putL
    cases hb : e.key.isStr name with
    | true => rw [hb] at h; simp at h
    | false =>
      rw [hb] at h
      simp at h
      simp [putL_new (es := r) (by simpa using h)]
theorem any_findIdx {es : List DictEntry} : es.any (·.key.isStr name) = (es.findIdx? (·.key.isStr name)).isSome := (any_of_findIdx name es).symm
theorem Do.setOld {K : Unit → Sg → Prop} (o : c.Ok mg mb k) (hx : σ.has x (instObj C dx)) (hmu : σ.mu = ex ++ (dx, dictOf es n) :: fp) (i : Nat) {hh : Int} {kk old : Value} (hf : es.findIdx? (·.key.isStr name) = some i) (he : es[i]? = some ⟨hh, kk, old⟩)
    (hc : storeIn (H.K c.w.params) C name = true) (hz : es.length ≤ 1000) (q : K () ⟨σ.vs, σ.G, ex ++ (dx, dictOf (es.set i ⟨hh, kk, v⟩) n) :: fp⟩) : Do c σ (setAttr (.ref x) name v) K := by
  refine Do.setD o hx hmu hc ?_ (fun t => ?_) fun t => ?_
  · rw [getL_at i hf he]; rfl
  · rw [putL_old hf he]; simpa using hz
  · rw [putL_old hf he]
    have : putN name es n = n := by unfold putN; rw [any_findIdx, hf]; rfl
    rw [this]; exact q
theorem Do.setNew {K : Unit → Sg → Prop} (o : c.Ok mg mb k) (hx : σ.has x (instObj C dx)) (hmu : σ.mu = ex ++ (dx, dictOf es n) :: fp) (hf : es.findIdx? (·.key.isStr name) = none) (hr : es.any (·.refKey) = false)
    (hc : storeIn (H.K c.w.params) C name = true) (hz : es.length ≤ 999) (q : ∀ t, K () ⟨σ.vs, σ.G, ex ++ (dx, dictOf (es ++ [⟨PyData.keyHash c.w.params name, .str name t, v⟩]) (n + 1)) :: fp⟩) : Do c σ (setAttr (.ref x) name v) K := by
  refine Do.setD o hx hmu hc ?_ (fun t => ?_) fun t => ?_
  · have h0 : es.find? (·.key.isStr name) = none := by
      rw [List.find?_eq_none]
      intro e he
      have := List.findIdx?_eq_none_iff.mp hf e he
      simpa using this
    unfold getL; rw [h0, hr]; rfl
  · rw [putL_new hf]; simp; lia
  · rw [putL_new hf]
    have : putN name es n = n + 1 := by unfold putN; rw [any_findIdx, hf]; rfl
    rw [this]; exact q t
end
theorem ite_t {r : Bool} {A B : Prop} (h : r = true) (a : A) : IfB r A B := ⟨fun _ => a, fun e => nomatch h.symm.trans e⟩
theorem if1 {r : Bool} {A B : Prop} (a : A) (h : r = true := by kernel_rfl) : IfB r A B := ite_t h a
theorem ite_f {r : Bool} {A B : Prop} (h : r = false) (b : B) : IfB r A B := ⟨fun e => (nomatch h.symm.trans e), fun _ => b⟩
theorem if0 {r : Bool} {A B : Prop} (b : B) (h : r = false := by kernel_rfl) : IfB r A B := ite_f h b
noncomputable def eqv (x y : Value) : Bool := (eqB y x).getD false
theorem eqv_ok {x : Value} {vs : List Value} (h : (vs.all fun y => (eqB y x).isSome) = true) : ∀ y ∈ vs, eqB y x = some (eqv x y) := fun y hy => by
  obtain ⟨b, hb⟩ := Option.isSome_iff_exists.mp (List.all_eq_true.mp h y hy)
  rw [eqv, hb]; rfl
section
variable {c : Cx} {σ : Sg} {a : Addr} {x : Value} {vs : List Value} {n : Nat} {K : Value → Sg → Prop}
theorem Do.inL' (hx : σ.has a (lobj vs n)) (he : (vs.all fun y => (eqB y x).isSome) = true) (q : K (.bool (vs.any (eqv x))) σ) : Do c σ (compareOp .In x (.ref a)) K := Do.inL _ hx (eqv_ok he) q
theorem Do.notInL' (hx : σ.has a (lobj vs n)) (he : (vs.all fun y => (eqB y x).isSome) = true) (q : K (.bool (!vs.any (eqv x))) σ) : Do c σ (compareOp .NotIn x (.ref a)) K := Do.notInL _ hx (eqv_ok he) q
theorem Do.inT' (hx : σ.has a (tobj vs n)) (he : (vs.all fun y => (eqB y x).isSome) = true) (q : K (.bool (vs.any (eqv x))) σ) : Do c σ (compareOp .In x (.ref a)) K := Do.inT _ hx (eqv_ok he) q
theorem Do.notInT' (hx : σ.has a (tobj vs n)) (he : (vs.all fun y => (eqB y x).isSome) = true) (q : K (.bool (!vs.any (eqv x))) σ) : Do c σ (compareOp .NotIn x (.ref a)) K := Do.notInT _ hx (eqv_ok he) q
end
end Mine
end
section
namespace Mine
open PySem PySem.W PyProof.Rows PySem.Calls
noncomputable abbrev KI := Int ⊕ Str
noncomputable def mixIs : KI → Value → Bool
  | .inl n, v => Value.isInt n v
  | .inr x, v => Value.isStrOf x v
noncomputable def mixHash (w : World) : KI → Int
  | .inl n => hashInt n
  | .inr x => hashStr w x
noncomputable def mixKind (prog : Program) (w : World) : KeyKind prog w KI where
  is := mixIs
  hash := mixHash w
  inj := fun v a b ha hb => by
    cases a <;> cases b
    · rw [Value.isInt_inj v _ _ ha hb]
    · obtain ⟨t, rfl⟩ := Value.isInt_shape ha
      exact absurd hb (by simp [mixIs, Value.isStrOf])
    · obtain ⟨t, rfl⟩ := Value.isStrOf_shape ha
      exact absurd hb (by simp [mixIs, Value.isInt])
    · rw [Value.isStrOf_inj v _ _ ha hb]
  byValue := fun k v h => by
    cases k
    · obtain ⟨t, rfl⟩ := Value.isInt_shape h; rfl
    · obtain ⟨t, rfl⟩ := Value.isStrOf_shape h; rfl
  pyHash := fun {A E s k v Q} hv h => by
    cases k
    · obtain ⟨t, rfl⟩ := Value.isInt_shape hv; exact wpAny_pyHash_int h
    · obtain ⟨t, rfl⟩ := Value.isStrOf_shape hv; exact wpAny_pyHash_str h
  eqBool := fun {A E s a b u v Q} hu hv h => by
    cases a <;> cases b
    · obtain ⟨t, rfl⟩ := Value.isInt_shape hu
      obtain ⟨t', rfl⟩ := Value.isInt_shape hv
      refine wpAny_eqBool_int ?_
      rename_i x y
      have : (x == y) = decide ((Sum.inl x : KI) = Sum.inl y) := by
        by_cases e : x = y
        · subst e; simp
        · simp [e]
      rw [this]; exact h
    · obtain ⟨t, rfl⟩ := Value.isInt_shape hu
      obtain ⟨t', rfl⟩ := Value.isStrOf_shape hv
      exact SeqAt.EqAt.int_str _ _ _ _ _ _ _ _ (by simpa using h)
    · obtain ⟨t, rfl⟩ := Value.isStrOf_shape hu
      obtain ⟨t', rfl⟩ := Value.isInt_shape hv
      exact SeqAt.EqAt.str_int _ _ _ _ _ _ _ _ (by simpa using h)
    · obtain ⟨t, rfl⟩ := Value.isStrOf_shape hu
      obtain ⟨t', rfl⟩ := Value.isStrOf_shape hv
      refine wpAny_eqBool_str ?_
      rename_i x y
      have : decide (x = y) = decide ((Sum.inr x : KI) = Sum.inr y) := by
        by_cases e : x = y
        · subst e; simp
        · simp [e]
      exact this ▸ h
  «strs» := fun k x t v h => by
    cases k
    · simp [mixIs, Value.isInt] at h
    · exact (strKind prog w).«strs» _ x t v h
noncomputable abbrev tkd (w : World) : HeapKind H.rw_.prog w (List KI) := tupleKind (mixKind H.rw_.prog w)
noncomputable def HObj (w : World) (xs : List (List KI × Addr × Value)) (o : Obj) : Prop := (E2 fun es ep => A4 o.ExactDict (o.data = .dict es ep) (es.toList = xs.map (entryOfKey (tkd w))) ((xs.map (·.1)).Nodup))
noncomputable def KeyG (w : World) (G : Gh) (ks : List KI) (a : Addr) : Prop := (E2 fun vs n => (G a (tobj vs n)) ∧ ItemsAre (mixKind H.rw_.prog w) ks vs)
theorem HObj.nil {w : World} : HObj w [] emptyDict := ⟨#[], 0, ⟨rfl, rfl, rfl⟩, rfl, rfl, List.nodup_nil⟩
section
variable {c : Cx} {σ : Sg} {mg mb : Str → Option Value} {k : Nat} {d a : Addr} {xs : List (List KI × Addr × Value)} {o : Obj} {ks : List KI} {ex fp : Led} {v : Value}
theorem keyIs {h : Heap} (S : c.St σ h) (hk : KeyG c.w σ.G ks a) : (tkd c.w).is h ks a := by
  obtain ⟨vs, n, hg, hi⟩ := hk
  exact ⟨_, _, _, S.get hg, rfl, rfl, by simpa using hi⟩
theorem dictH {h : Heap} (S : c.St σ h) (hx : (d, o) ∈ σ.mu) (hd : HObj c.w xs o) (hkeys : ∀ x ∈ xs, KeyG c.w σ.G x.1 x.2.1) : h.DictOfH (tkd c.w) d xs := by
  obtain ⟨es, ep, h1, h2, h3, h4⟩ := hd
  exact ⟨o, es, ep, S.has (.inr hx), h1, h2, h3, fun x hx => keyIs S (hkeys x hx), h4⟩
theorem roomH (ok : c.Ok mg mb (k + 1)) : (tkd c.w).room c.A.in1 := by
  show c.A.units + 1 < cLine
  have := ok.R.units; lia
theorem Do.hnotIn {K : Value → Sg → Prop} (ok : c.Ok mg mb (k + 1)) (hx : (d, o) ∈ σ.mu) (hd : HObj c.w xs o) (hkeys : ∀ x ∈ xs, KeyG c.w σ.G x.1 x.2.1) (hk : KeyG c.w σ.G ks a) (q : K (.bool (!(atKey xs ks).isSome)) σ) : Do c σ (compareOp .NotIn (.ref a) (.ref d)) K :=
  ⟨fun h g d' t os Q E S qq => wpAny_notIn_heap (roomH ok) (keyIs S hk) (ok.low S hx) (dictH S hx hd hkeys) (qq _ _ h _ q S)⟩
theorem Do.hget {value slice : Expr} {K : Value → Sg → Prop} {p : Addr × Value} (ok : c.Ok mg mb (k + 1)) (hx : (d, o) ∈ σ.mu) (hd : HObj c.w xs o) (hkeys : ∀ x ∈ xs, KeyG c.w σ.G x.1 x.2.1) (hk : KeyG c.w σ.G ks a) (hp : atKey xs ks = some p) (q : K p.2 σ)
    (hs : subscripted slice false (.ref d) (.ref a) = PySem.operate [.ref d, .ref a] (getItem (.ref d) (.ref a)) := by with_unfolding_all rfl) : Do c σ (subscriptTail value slice (.ref d) (.ref a)) K :=
  ⟨fun h g d' t os Q E S qq => tail_any (dictH S hx hd hkeys).typeIs slot_dict_getitem.lookup (wpAny_getItem_heap (roomH ok) (keyIs S hk) (dictH S hx hd hkeys) hp (qq _ _ h _ q S)) hs⟩
theorem Do.hset {K : Unit → Sg → Prop} (ok : c.Ok mg mb (k + 1)) (hmu : σ.mu = ex ++ (d, o) :: fp) (hd : HObj c.w xs o) (hkeys : ∀ x ∈ xs, KeyG c.w σ.G x.1 x.2.1) (hk : KeyG c.w σ.G ks a) (hz : xs.length ≤ 1000000)
    (q : ∀ o', HObj c.w (storedH xs ks a v) o' → K () ⟨σ.vs, σ.G, ex ++ (d, o') :: fp⟩) : Do c σ (setItem (.ref d) (.ref a) v) K :=
  ⟨fun h g d' t os Q E S qq => wpAny_setItem_heap (hsz := by rw [sizeLine_eq]; lia) (roomH ok) (keyIs S hk) (dictH S (by rw [hmu]; exact List.mem_append_right _ (.head _)) hd hkeys) fun h' hd' hs => by
    obtain ⟨o', es, ep, ho, h1, h2, h3, _, h5⟩ := hd'
    exact qq _ _ h' _ (q o' ⟨es, ep, h1, h2, h3, h5⟩) (Cx.St.unmid (St.same (S.mid hmu) hs ho))⟩
end
end Mine
end
section
namespace Mine
open PySem PySem.W PyProof.Rows PySem.Calls
noncomputable abbrev sKd (w : World) : KeyKind H.rw_.prog w Str := strKind H.rw_.prog w
noncomputable def strPairs : List (Value × Value) → List (Str × Value)
  | (.str k _, v) :: l => (k, v) :: strPairs l
  | _ => []
noncomputable def allStr : List (Value × Value) → Bool
  | [] => true
  | (.str _ _, _) :: l => allStr l
  | _ => false
theorem carries_str {w : World} : ∀ {l : List (Value × Value)}, allStr l = true → Carries (sKd w) l (strPairs l)
  | [], _ => trivial
  | (k, v) :: l, h => by cases k <;> first | (simp [allStr] at h; done) | exact ⟨strKind_is _ _ _ _, rfl, carries_str h⟩
theorem dictEnd {w : World} {σ₁ : Sg} {a : Addr} {P : Value → Sg → Prop} {l : List (Value × Value)} {ex mu₁ : Led} (hmu : σ₁.mu = ex ++ (a, emptyDict) :: mu₁) (hs : (allStr l && decide ((strPairs l).map (·.1)).Nodup) = true)
    (q : ∀ o' : Obj, o'.IsDictOf (sKd w) (strPairs l) → P (.ref a) ⟨σ₁.vs, σ₁.G, ex ++ (a, o') :: mu₁⟩) :
    (E3 fun ex mu₁ kvs => A3 (σ₁.mu = ex ++ (a, emptyDict) :: mu₁) (Carries (sKd w) l kvs) (∀ o' : Obj, o'.IsDictOf (sKd w) (merged [] kvs) → P (.ref a) ⟨σ₁.vs, σ₁.G, ex ++ (a, o') :: mu₁⟩)) := by
  obtain ⟨h1, h2⟩ := Bool.and_eq_true_iff.mp hs
  refine ⟨ex, mu₁, strPairs l, hmu, carries_str h1, fun o' h => q o' ?_⟩
  rw [merged_nil_of_nodup _ (of_decide_eq_true h2)] at h
  exact h
theorem valueAt_at {K : Type} [DecidableEq K] {kvs : List (K × Value)} {k k' : K} (i : Nat) {v : Value} (hf : kvs.findIdx? (fun p => decide (p.1 = k)) = some i) (he : kvs[i]? = some (k', v)) : valueAt kvs k = some v := by
  obtain ⟨hlt, hp, hn⟩ := List.findIdx?_eq_some_iff_getElem.mp hf
  have h2 : kvs.find? (fun p => decide (p.1 = k)) = some kvs[i] := List.find?_eq_some_iff_getElem.mpr ⟨hp, i, hlt, rfl, fun j hj => by simpa using hn j hj⟩
  have h3 : kvs[i] = (k', v) := by rw [List.getElem?_eq_getElem hlt] at he; exact Option.some.inj he
  unfold valueAt
  rw [h2, h3]; rfl
section
variable {c : Cx} {σ : Sg} {mg mb : Str → Option Value} {k : Nat} {d : Addr} {o : Obj} {kvs : List (Str × Value)} {x x' : Str} {t : Tok} {v : Value}
theorem Do.dgetS {value slice : Expr} {P : Value → Sg → Prop} (hx : σ.has d o) (hd : o.IsDictOf (sKd c.w) kvs) (i : Nat) (hf : kvs.findIdx? (fun p => decide (p.1 = x)) = some i) (he : kvs[i]? = some (x', v)) (q : P v σ)
    (hs : subscripted slice false (.ref d) (.str x t) = PySem.operate [.ref d, .str x t] (getItem (.ref d) (.str x t)) := by with_unfolding_all rfl) : Do c σ (subscriptTail value slice (.ref d) (.str x t)) P :=
  Do.dget hx hd (strKind_is _ _ x t) (valueAt_at i hf he) q hs
theorem Do.dinS {P : Value → Sg → Prop} (ok : c.Ok mg mb k) (hx : (d, o) ∈ σ.mu) (hd : o.IsDictOf (sKd c.w) kvs) {b : Bool} (hb : (kvs.findIdx? (fun p => decide (p.1 = x))).isSome = b) (q : P (.bool b) σ) : Do c σ (compareOp .In (.str x t) (.ref d)) P := by
  refine Do.din ok hx hd (strKind_is _ _ x t) ?_
  have : (valueAt kvs x).isSome = b := by
    rw [← hb]
    unfold valueAt
    rw [Option.isSome_map, List.findIdx?_isSome, Bool.eq_iff_iff, List.find?_isSome, List.any_eq_true]
  rw [this]; exact q
noncomputable def DictEnd (w : World) (P : Value → Sg → Prop) (a : Addr) (l : List (Value × Value)) (σ₁ : Sg) : Prop := (E2 fun ex mu₁ => A3 (σ₁.mu = ex ++ (a, emptyDict) :: mu₁) ((allStr l && decide ((strPairs l).map (·.1)).Nodup) = true) (∀ o' : Obj, o'.IsDictOf (sKd w) (strPairs l) → P (.ref a) ⟨σ₁.vs, σ₁.G, ex ++ (a, o') :: mu₁⟩))
theorem DictEnd.mk {w : World} {P : Value → Sg → Prop} {a : Addr} {l : List (Value × Value)} {σ₁ : Sg} {mu₁ : Led} (ex : Led) (hmu : σ₁.mu = ex ++ (a, emptyDict) :: mu₁) (hs : (allStr l && decide ((strPairs l).map (·.1)).Nodup) = true)
    (q : ∀ o' : Obj, o'.IsDictOf (sKd w) (strPairs l) → P (.ref a) ⟨σ₁.vs, σ₁.G, ex ++ (a, o') :: mu₁⟩) : DictEnd w P a l σ₁ := ⟨ex, mu₁, hmu, hs, q⟩
theorem Do.dictS {keys : List (Option Expr)} {values : List Expr} {pos : Pos} {P : Value → Sg → Prop} (hk : (keyed keys values && (values.length ≤ 15) && !values.isEmpty) = true)
    (y : ∀ a, Do c ⟨σ.vs, σ.G, (a, emptyDict) :: σ.mu⟩ (evalPairs (pairsOf pos c.env keys values)) (DictEnd c.w P a)) : Do c σ (eval (.Dict keys values pos) c.env) P :=
  Do.dictD (sKd c.w) hk fun a => (y a).mono fun l σ₁ ⟨ex, mu₁, hmu, hs, q⟩ => dictEnd hmu hs q
end
end Mine
end
section
namespace Mine
open PySem PySem.W PyProof.Rows PySem.Calls
noncomputable def AttrG (G : Gh) (a : Addr) (C : Addr) (name : Str) (v : Value) : Prop := (E3 fun dx es n => A3 (G a (instObj C dx)) (G dx (dictOf es n)) (getL name es = some (some v)))
theorem AttrG.mono {G G' : Gh} {a C : Addr} {name : Str} {v : Value} (x : AttrG G a C name v) (h : ∀ a o, G a o → G' a o) : AttrG G' a C name v := let ⟨dx, es, n, h1, h2, h3⟩ := x; ⟨dx, es, n, h _ _ h1, h _ _ h2, h3⟩
theorem Do.getP {c : Cx} {σ : Sg} {mg mb : Str → Option Value} {k : Nat} {x C : Addr} {name : Str} {v : Value} {K : Value → Sg → Prop} {b : Bool} (o : c.Ok mg mb k) (h : AttrG σ.G x C name v) (hc : attrIn (H.K c.w.params) C name = true) (hv : handedIn v = true) (q : K v σ) :
    Do c σ (getAttr (.ref x) name b) K := by
  obtain ⟨dx, es, n, h1, h2, h3⟩ := h
  exact Do.getD o (.inl h1) (.inl h2) hc h3 hv q
theorem Do.gP {c : Cx} {σ : Sg} {mg mb : Str → Option Value} {k : Nat} {x C : Addr} {name : Str} {v : Value} {K : Value → Sg → Prop} {b : Bool} (o : c.Ok mg mb k) (h : AttrG σ.G x C name v) (q : K v σ) (hc : attrIn (H.K c.w.params) C name = true := by kernel_rfl) (hv : handedIn v = true := by first | rfl | assumption) :
    Do c σ (getAttr (.ref x) name b) K := Do.getP o h hc hv q
end Mine
end
section
namespace Mine
open PySem PySem.W PyProof.Rows PySem.Calls
open PyProof.Rows.LCg (NsObj ns_obj)
section
variable {hB h h' : Heap} {e : Ent} {G G' : Gh} {m m' : Str → Option Value} {mu fp fp' ex : Led} {o o' : Obj} {a C : Addr}
theorem St.swapF {oC : Obj} (S : St hB e G m (ex ++ (C, oC) :: fp) h) (ho : NsObj oC m') (hC : e.h₀.objs.size ≤ C) : ∃ oL, NsObj oL m ∧ St hB ⟨e.h₀, e.G₀, e.fa, C⟩ G m' (ex ++ (e.L, oL) :: fp) h := by
  obtain ⟨oL, hL, hoL⟩ := ns_obj S.ns
  have hm : (C, oC) ∈ ex ++ (C, oC) :: fp := List.mem_append_right _ (.head _)
  refine ⟨oL, hoL, ?_⟩
  have pr : ∀ p ∈ ex ++ (e.L, oL) :: fp, p = (e.L, oL) ∨ p ∈ ex ++ (C, oC) :: fp := fun p hp => by
    rcases List.mem_append.mp hp with hp | hp
    · exact .inr (List.mem_append_left _ hp)
    · rcases List.mem_cons.mp hp with rfl | hp
      · exact .inl rfl
      · exact .inr (List.mem_append_right _ (.tail _ hp))
  exact {
    bs := S.bs
    ns := ho.ns (S.own _ hm)
    sub := S.sub
    own := fun p hp => by
      rcases pr p hp with rfl | hp
      · exact hL
      · exact S.own p hp
    gL := fun o g => S.gmu _ hm o g
    gmu := fun p hp x g => by
      rcases pr p hp with rfl | hp
      · exact S.gL x g
      · exact S.gmu p hp x g
    nd := by
      have h1 : (e.L :: (ex ++ (C, oC) :: fp).ads).Nodup := S.nd
      show (C :: (ex ++ (e.L, oL) :: fp).ads).Nodup
      rw [ads_append] at h1 ⊢
      have e1 : (Led.ads ((C, oC) :: fp)) = C :: fp.ads := rfl
      have e2 : (Led.ads ((e.L, oL) :: fp)) = e.L :: fp.ads := rfl
      rw [e1] at h1; rw [e2]
      have p : (e.L :: (ex.ads ++ C :: fp.ads)).Perm (C :: (ex.ads ++ e.L :: fp.ads)) := by
        refine (List.Perm.cons _ List.perm_middle).trans ?_
        refine (List.Perm.swap _ _ _).trans ?_
        exact List.Perm.cons _ List.perm_middle.symm
      exact p.nodup_iff.mp h1
    base := S.base
    le := S.le
    new := S.new
    aL := hC
    amu := fun p hp => by
      rcases pr p hp with rfl | hp
      · exact .inr S.aL
      · exact S.amu p hp
    size := S.size }
end
structure CellOK (env : Env) (cs : List (Str × Addr)) : Prop where
  ok : ∀ (i : Nat) (x : Str) (a : Addr), cs[i]? = some (x, a) → env.kindOf x = some .cell ∧ env.cells.lookup x = some a ∧ (x == ("__debug__" : Str)) = false
theorem CellOK.nil {env : Env} : CellOK env [] := ⟨fun i x a h => by simp at h⟩
noncomputable def CellG (G : Gh) (a : Addr) (v : Value) : Prop := ∃ o, G a o ∧ o.data = .cell (some v)
theorem CellG.mono {G G' : Gh} {a : Addr} {v : Value} (x : CellG G a v) (h : ∀ a o, G a o → G' a o) : CellG G' a v := let ⟨o, h1, h2⟩ := x; ⟨o, h _ _ h1, h2⟩
noncomputable def clOf (cs : List (Str × Addr)) : List (Str × NameKind) → List (Str × Addr) → List (Str × Addr)
  | [], acc => acc
  | (n, k) :: r, acc => if k == .free then (match cs.lookup n with | some a => clOf cs r ((n, a) :: acc) | none => clOf cs r acc) else clOf cs r acc
noncomputable def freeOK (cs : List (Str × Addr)) (names : List (Str × NameKind)) : Bool := names.all fun x => x.2 != .free || (cs.lookup x.1).isSome
theorem lookup_mem {α : Type} {l : List (Str × α)} {n : Str} {c : α} (h : l.lookup n = some c) : ∃ i : Nat, l[i]? = some (n, c) := List.mem_iff_getElem?.mp (mem_of_lookup h)
theorem closure_go {env : Env} {cs : List (Str × Addr)} (C : CellOK env cs) (f : Str × NameKind → List (Str × Addr) → Sem (ForInStep (List (Str × Addr))))
    (hf : ∀ n k r, f (n, k) r = if k == NameKind.free then (do let a ← cellOf env n; Pure.pure (ForInStep.yield ((n, a) :: r))) else Pure.pure (ForInStep.yield r)) : ∀ (names : List (Str × NameKind)) (acc : List (Str × Addr)), freeOK cs names = true →
    forIn names acc f = (Pure.pure (clOf cs names acc) : Sem _)
  | [], acc, _ => by rw [List.forIn_nil]; rfl
  | (n, k) :: r, acc, h => by
    have h1 := List.all_eq_true.mp h (n, k) List.mem_cons_self
    have h2 : freeOK cs r = true := List.all_eq_true.mpr fun x hx => List.all_eq_true.mp h x (List.mem_cons_of_mem _ hx)
    rw [List.forIn_cons, hf]
    unfold clOf
    cases hk : k == NameKind.free with
    | true =>
      simp only [if_true]
      have hs : (cs.lookup n).isSome = true := by
        rcases Bool.or_eq_true_iff.mp h1 with q | q
        · simp only [bne, hk, Bool.not_true] at q; cases q
        · exact q
      obtain ⟨a, ha⟩ := Option.isSome_iff_exists.mp hs
      obtain ⟨i, hi⟩ := lookup_mem ha
      obtain ⟨_, hc, _⟩ := C.ok i n a hi
      rw [ha]
      have e : cellOf env n = (Pure.pure a : Sem Addr) := by unfold cellOf; rw [hc]
      rw [e]
      exact closure_go C f hf r _ h2
    | false =>
      simp only [Bool.false_eq_true, if_false]
      exact closure_go C f hf r _ h2
theorem closure_of {env : Env} {cs : List (Str × Addr)} {scope : Scope} (C : CellOK env cs) (h : freeOK cs scope.names = true) : closureFor scope env = (Pure.pure (clOf cs scope.names []) : Sem _) := by
  unfold closureFor
  show (forIn scope.names [] _ >>= fun r => Pure.pure r : Sem _) = _
  refine Eq.trans (congrArg (· >>= fun r => Pure.pure r) (closure_go C _ (fun n k r => ?_) scope.names [] h)) ?_
  · rfl
  · rfl
noncomputable def compOK (scope : Scope) (x : Str) (cs : List (Str × Addr)) (gs : List Str) : Bool :=
  scope.kind == .function && (scope.names.lookup x == some .local) && (x != "__debug__") && (gs.all fun y => scope.names.lookup y == some .globalImplicit && y != "__debug__") && freeOK cs scope.names
    && (scope.names.all fun p => p.2 != .cell && scope.names.lookup p.1 == some p.2)
theorem lookup_relabel {env : Env} {k : NameKind} (hk : (k == NameKind.free) = false) : ∀ {names : List (Str × NameKind)} {x : Str}, names.lookup x = some k →
    (names.map fun (n, k) => if (k == NameKind.free && env.scope.kind == .function && env.kindOf n == some .cell) then (n, NameKind.cell) else (n, k)).lookup x = some k
  | [], _, h => by simp at h
  | (n, k') :: r, x, h => by
    have ih := @lookup_relabel env k hk r x
    show List.lookup x ((if (k' == NameKind.free && env.scope.kind == .function && env.kindOf n == some .cell) = true then (n, NameKind.cell) else (n, k')) :: _) = _
    cases hx : x == n with
    | true =>
      simp only [List.lookup_cons, hx] at h
      cases h
      simp [List.lookup_cons, hx, hk]
    | false =>
      simp only [List.lookup_cons, hx] at h
      by_cases hc : (k' == NameKind.free && env.scope.kind == .function && env.kindOf n == some .cell) = true
      · rw [if_pos hc]; simp only [List.lookup_cons, hx]; exact ih h
      · rw [if_neg hc]; simp only [List.lookup_cons, hx]; exact ih h
theorem lookup_relabel_free {env : Env} (hf : env.scope.kind = .function) : ∀ {names : List (Str × NameKind)} {x : Str}, names.lookup x = some .free → env.kindOf x = some .cell →
    (names.map fun (n, k) => if (k == NameKind.free && env.scope.kind == .function && env.kindOf n == some .cell) then (n, NameKind.cell) else (n, k)).lookup x = some .cell
  | [], _, h, _ => by simp at h
  | (n, k') :: r, x, h, hc => by
    have ih := @lookup_relabel_free env hf r x
    show List.lookup x ((if (k' == NameKind.free && env.scope.kind == .function && env.kindOf n == some .cell) = true then (n, NameKind.cell) else (n, k')) :: _) = _
    cases hx : x == n with
    | true =>
      simp only [List.lookup_cons, hx] at h
      cases h
      have e : x = n := by simpa using hx
      subst e
      simp [List.lookup_cons, hf, hc]
    | false =>
      simp only [List.lookup_cons, hx] at h
      by_cases hc' : (k' == NameKind.free && env.scope.kind == .function && env.kindOf n == some .cell) = true
      · rw [if_pos hc']; simp only [List.lookup_cons, hx]; exact ih h hc
      · rw [if_neg hc']; simp only [List.lookup_cons, hx]; exact ih h hc
theorem clOf_mem {cs : List (Str × Addr)} : ∀ {names : List (Str × NameKind)} {acc : List (Str × Addr)} {p : Str × Addr}, p ∈ clOf cs names acc → p ∈ acc ∨ ((p.1, NameKind.free) ∈ names ∧ cs.lookup p.1 = some p.2)
  | [], _, _, h => .inl h
  | (n, k) :: r, acc, p, h => by
    unfold clOf at h
    cases hk : k == NameKind.free with
    | true =>
      rw [hk] at h
      simp only [if_true] at h
      have e : k = .free := by simpa using hk
      subst e
      cases ha : cs.lookup n with
      | none =>
        rw [ha] at h
        rcases clOf_mem h with q | ⟨q1, q2⟩
        · exact .inl q
        · exact .inr ⟨List.mem_cons_of_mem _ q1, q2⟩
      | some a =>
        rw [ha] at h
        rcases clOf_mem h with q | ⟨q1, q2⟩
        · rcases List.mem_cons.mp q with rfl | q
          · exact .inr ⟨List.mem_cons_self, ha⟩
          · exact .inl q
        · exact .inr ⟨List.mem_cons_of_mem _ q1, q2⟩
    | false =>
      rw [hk] at h
      simp only [Bool.false_eq_true, if_false] at h
      rcases clOf_mem h with q | ⟨q1, q2⟩
      · exact .inl q
      · exact .inr ⟨List.mem_cons_of_mem _ q1, q2⟩
theorem lookup_some_of_mem {α : Type} : ∀ {l : List (Str × α)} {x : Str} {a : α}, (x, a) ∈ l → ∃ b, l.lookup x = some b
  | (k, v) :: r, x, a, h => by
    rw [List.lookup_cons]
    cases hb : x == k with
    | true => exact ⟨v, rfl⟩
    | false =>
      rcases List.mem_cons.mp h with q | q
      · cases q; simp at hb
      · exact lookup_some_of_mem q
theorem comp_cells {env : Env} {cs : List (Str × Addr)} {scope : Scope} {x : Str} {gs : List Str} {Cc : Addr} (hf : env.scope.kind = .function) (C : CellOK env cs) (h : compOK scope x cs gs = true) : CellOK (compEnvC scope (clOf cs scope.names []) Cc env) (clOf cs scope.names []) := ⟨fun i y a hy => by
  simp only [compOK, Bool.and_eq_true] at h
  obtain ⟨⟨_, _⟩, h6⟩ := h
  have hm := List.mem_of_getElem? hy
  rcases clOf_mem hm with q | ⟨q1, q2⟩
  · cases q
  · obtain ⟨j, hj⟩ := lookup_mem q2
    obtain ⟨c1, c2, c3⟩ := C.ok j y a hj
    have h7 := List.all_eq_true.mp h6 _ q1
    simp only [Bool.and_eq_true, beq_iff_eq] at h7
    refine ⟨lookup_relabel_free hf h7.2 c1, ?_, c3⟩
    show (clOf cs scope.names []).lookup y = some a
    obtain ⟨b, hb⟩ := lookup_some_of_mem hm
    rcases clOf_mem (mem_of_lookup hb) with q | ⟨_, q3⟩
    · cases q
    · rw [hb, ← q3]; exact q2⟩
theorem comp_env {env : Env} {ks gs' : List Str} {L : Addr} {cs : List (Str × Addr)} {scope : Scope} {x : Str} {gs : List Str} {cl : List (Str × Addr)} {Cc : Addr} (X : EnvOK env ks gs' L) (h : compOK scope x cs gs = true) : EnvOK (compEnvC scope cl Cc env) [x] gs Cc := by
  simp only [compOK, Bool.and_eq_true, beq_iff_eq, bne_iff_ne] at h
  obtain ⟨⟨⟨⟨⟨h1, h2⟩, h3⟩, h4⟩, _⟩, _⟩ := h
  exact {
    kind := h1
    loc := rfl
    glob := X.glob
    blt := X.blt
    lk := fun i y hy => by
      obtain rfl : y = x := by simpa using List.mem_of_getElem? hy
      exact ⟨lookup_relabel (by rfl) h2, h3⟩
    gk := fun i y hy => by
      have := List.all_eq_true.mp h4 y (List.mem_of_getElem? hy)
      simp only [Bool.and_eq_true, beq_iff_eq, bne_iff_ne] at this
      exact ⟨lookup_relabel (by rfl) this.1, this.2⟩
    nd := by simp }
noncomputable abbrev Cx.comp (c : Cx) (env : Env) (C : Addr) (x : Str) (gs : List Str) (hid : Led) : Cx := ⟨c.w, c.hB, c.A, env, ⟨c.e.h₀, c.e.G₀, c.e.fa, C⟩, [x], gs, hid ++ c.hid⟩
noncomputable def lsto (ys : List Value) : Obj := lobj ys ys.length
noncomputable abbrev testsOf (ifs : List Expr) (env : Env) : Sem Bool := forIn ifs true fun c r => if r = true then do let ok ← isTrue c env (eval c env); Pure.pure (ForInStep.yield ok) else Pure.pure (ForInStep.yield r)
noncomputable abbrev CompJ := Nat → List Value → Gh → Led → Prop
noncomputable def CompStep (c : Cx) (mg mb : Str → Option Value) (k : Nat) (elt : Expr) (ifs : List Expr) (x : Str) (gs : List Str) (cl : List (Str × Addr)) (n : Nat) (P : Nat → Value → Prop) (J : CompJ) : Prop :=
  ∀ i v ys G mu env C hid, i < n → P i v → J i ys G mu → CellOK env cl → (c.comp env C x gs hid).Ok mg mb k →
    Do (c.comp env C x gs hid) ⟨[some v], G, mu⟩ (testsOf ifs env) fun ok σ' => IfB ok (Do (c.comp env C x gs hid) σ' (eval elt env) fun y σ'' => J (i + 1) (ys ++ [y]) σ''.G σ''.mu) (J (i + 1) ys σ'.G σ'.mu)
theorem comp_vs {c' : Cx} {x : Str} (hk : c'.ks = [x]) {σ : Sg} {h : Heap} (S : c'.St σ h) : ∃ u, c'.St ⟨[u], σ.G, σ.mu⟩ h := by
  obtain ⟨vs, G, mu⟩ := σ
  unfold Cx.St at S ⊢
  dsimp only at S ⊢
  rw [hk] at S ⊢
  cases vs with
  | nil => exact ⟨none, by
      have e : fm [x] [] = fm [x] [none] := by funext y; simp [fm, List.lookup_cons]; cases y == x <;> rfl
      rw [← e]; exact S⟩
  | cons a r => exact ⟨a, by
      have e : fm [x] (a :: r) = fm [x] [a] := by funext y; simp [fm]
      rw [← e]; exact S⟩
section
variable {c : Cx} {vs : List (Option Value)} {G : Gh} {mu : Led} {mg mb : Str → Option Value} {k : Nat}
theorem compCore {elt iter : Expr} {x : Str} {px : Pos} {ifs : List Expr} {scope : Scope} {cs : List (Str × Addr)} {gs : List Str} {pos : Pos} {I : Addr} {fp : List Addr} {n : Nat} {P : Nat → Value → Prop} {T : Nat → Heap → Prop} {J : CompJ}
    (ok : c.Ok mg mb k) (CE : CellOK c.env cs) (hc : compOK scope x cs gs = true)
    (W : Walks H.rw_.prog c.w c.A I (I :: fp) [I] n P T) (hob : ∀ i h, T i h → ∃ o, h.get? I = some o) (hfp : ∀ b ∈ fp, ∃ o, ∀ i ys G mu, J i ys G mu → G b o ∨ (b, o) ∈ mu) (hsz : n ≤ 1000000)
    (step : CompStep c mg mb k elt ifs x gs (clOf cs scope.names []) n P J) (h0 : J 0 [] G mu) {o₀ : Obj} {s₂ : Shared} {E : Value → Shared → Prop} {RR : Value → Addr → Result → Shared → Prop}
    (S : (c.hide (I, o₀)).St ⟨vs, G, mu⟩ s₂.heap) (hT : T 0 s₂.heap)
    (fin : ∀ ys G' mu' D C oC m' h' tk, J n ys G' mu' → c.e.h₀.objs.size ≤ D → NsObj oC m' → (c.hide (C, oC)).St ⟨vs, G', (D, lsto ys) :: mu'⟩ h' → RR (.ref D) C (.ok .next) { s₂ with heap := h', toks := tk }) :
    wpAny (Md c.w) c.A (newList []) (fun acc s₃ => wpAny (Md c.w) c.A (newFunctionEnv scope c.env.globals (clOf cs scope.names []) [] c.env.qual none .none (some c.env)) (fun cenv s₄ =>
      codeAny (Md c.w) c.A (.compStart (.ListComp elt [⟨.Name x px, iter, ifs, 0⟩] scope pos) 0 (.ref I) acc { cenv with scope := relabel scope c.env }) (RR acc cenv.locals) s₄) E s₃) E s₂ := by
  have hcopy := hc
  simp only [compOK, Bool.and_eq_true, beq_iff_eq, bne_iff_ne] at hcopy
  obtain ⟨⟨⟨⟨⟨h1, h2⟩, h3⟩, h4⟩, h5⟩, h6⟩ := hcopy
  have hcell : ∀ y ∈ scope.names, y.2 ≠ .cell := fun y hy => by
    have := List.all_eq_true.mp h6 y hy
    simp only [Bool.and_eq_true, bne_iff_ne] at this
    exact this.1
  refine wpAny_newObj_type (wpAny_newFunctionEnv hcell (by intro y hy; simp at hy) (fun h₁ hns₁ hsb₁ => ?_) h1)
  dsimp only at hns₁ hsb₁ ⊢
  have S1 := St.pushMu S (lsto []) rfl
  have hDz : c.e.h₀.objs.size ≤ s₂.heap.objs.size := S.size
  generalize hH2 : s₂.heap.push { cls := .type "list", dict := none, data := .seq ([] : List Value).toArray } = H2 at hns₁ hsb₁ ⊢
  have hHH : s₂.heap.push (lsto []) = H2 := hH2
  rw [hHH] at S1
  have S2 := S1.pushMu { cls := .type "dict", data := .dict #[] } rfl
  obtain ⟨oC, hoC, hnC⟩ := ns_obj hns₁
  have S3 := St.same (ex := []) S2 hsb₁ hoC
  have hCz : c.e.h₀.objs.size ≤ H2.objs.size := S1.size
  obtain ⟨oL, hoL, S4⟩ := St.swapF (ex := []) S3 hnC hCz
  have X' : EnvOK (compEnvC scope (clOf cs scope.names []) H2.objs.size c.env) [x] gs H2.objs.size := comp_env ok.X hc
  have CE' := comp_cells (Cc := H2.objs.size) ok.X.kind CE hc
  have hT₁ : T 0 h₁ := W.frame _ _ _ hT fun b _ o e => by
    have e2 : H2.get? b = some o := hH2 ▸ Heap.get?_push_of_some _ e
    exact hsb₁.extBut b o (Nat.ne_of_lt (Heap.lt_size e2)) (Heap.get?_push_of_some _ e2)
  generalize hD : s₂.heap.objs.size = D at S4 hDz ⊢
  generalize H2.objs.size = C at S4 X' CE' hCz
  have hm0 : (fun y => List.lookup y ([] : List (Str × Value)).reverse) = fm [x] [none] := by
    funext y; simp [fm, List.lookup_cons]; cases y == x <;> rfl
  rw [hm0] at S4
  have loop : ∀ tk, codeAny (Md c.w) c.A (.compLoop (.ListComp elt [⟨.Name x px, iter, ifs, 0⟩] scope pos) 0 (.ref I) (.ref D) (compEnvC scope (clOf cs scope.names []) C c.env)) (RR (.ref D) C) { s₂ with heap := h₁, toks := tk } := by
    intro tk
    generalize compEnvC scope (clOf cs scope.names []) C c.env = env at X' CE'
    obtain ⟨I8, hI8⟩ : ∃ I8 : Nat → Shared → Prop, ∀ kk s', I8 kk s' ↔ (E8 fun h' tk i ys G' mu' oI u => A7 (s' = { s₂ with heap := h', toks := tk }) (i ≤ n) (kk = n + 1 - i) (ys.length ≤ i) (J i ys G' mu') (T i h') ((c.comp env C x gs [(I, oI), (c.e.L, oL), (D, lsto ys)]).St ⟨[u], G', mu'⟩ h')) := ⟨_, fun _ _ => Iff.rfl⟩
    refine codeAny_compLoop_tests I8 ?_ (n + 1) ((hI8 _ _).2 ⟨h₁, tk, 0, [], G, mu, o₀, none, rfl, Nat.zero_le _, rfl, Nat.le_refl _, h0, hT₁, St.perm S4 ?_⟩)
    · intro kk s' hI
      obtain ⟨h', tk, i, ys, G', mu', oI, u, rfl, hi, rfl, hyl, hJ, hT', S'⟩ := (hI8 _ _).1 hI
      by_cases hlt : i < n
      · refine W.item i _ _ _ hlt hT' fun v h₂ tk₂ hPv hT₂ hk₂ => ?_
        obtain ⟨oI₂, hI₂⟩ := hob _ _ hT₂
        have S₂ : (c.comp env C x gs [(I, oI₂), (c.e.L, oL), (D, lsto ys)]).St ⟨[u], G', mu'⟩ h₂ := St.turn S' (fun b o hb e => hk₂ b o (by simpa using hb) e) hI₂
        have OK : (c.comp env C x gs [(I, oI₂), (c.e.L, oL), (D, lsto ys)]).Ok mg mb k := ⟨X', ok.B, ok.R⟩
        refine (Do.assignName (c := c.comp env C x gs [(I, oI₂), (c.e.L, oL), (D, lsto ys)]) (σ := ⟨[u], G', mu'⟩) (K := fun _ σ' => σ' = ⟨[some v], G', mu'⟩) OK 0 rfl (Nat.zero_lt_one) rfl).run h₂ _ _ tk₂ _ _ _ S₂ fun _ σ₃ h₃ tk₃ e₃ S₃ => ?_
        subst e₃
        refine (step i v ys G' mu' env C [(I, oI₂), (c.e.L, oL), (D, lsto ys)] hlt hPv hJ CE' OK).run h₃ _ _ tk₃ _ _ _ S₃ fun okk σ₄ h₄ tk₄ z S₄ => ?_
        have memI : ∀ {mu : Led} {p : Addr × Obj} {ll : Led}, p ∈ ll → p ∈ mu ++ (ll ++ c.hid) := fun hp => List.mem_append_right _ (List.mem_append_left _ hp)
        have hT' : ∀ {G₅ : Gh} {mu₅ : Led} {ys' : List Value} {h₅ : Heap} {vs₅ : List (Option Value)}, J (i + 1) ys' G₅ mu₅ → (c.comp env C x gs [(I, oI₂), (c.e.L, oL), (D, lsto ys)]).St ⟨vs₅, G₅, mu₅⟩ h₅ → T (i + 1) h₅ := fun {G₅ mu₅ ys' h₅ vs₅} j S₅ => by
          refine W.frame _ h₂ _ hT₂ fun b hb o e => ?_
          rcases List.mem_cons.mp hb with rfl | hb
          · rw [hI₂] at e; cases e; exact S₅.own (b, oI₂) (memI (.head _))
          · obtain ⟨ob, hob'⟩ := hfp b hb
            have e1 : h₂.get? b = some ob := Cx.St.has S₂ (σ := ⟨[u], G', mu'⟩) (hob' _ _ _ _ hJ)
            rw [e1] at e; cases e
            exact Cx.St.has S₅ (hob' _ _ _ _ j)
        cases okk with
        | false =>
          replace z := z.f rfl
          simp only [Bool.false_eq_true, if_false]
          have hvs := comp_vs (c' := c.comp env C x gs [(I, oI₂), (c.e.L, oL), (D, lsto ys)]) rfl S₄
          obtain ⟨u', S₅⟩ := hvs
          exact ⟨n + 1 - (i + 1), by lia, (hI8 _ _).2 ⟨h₄, tk₄, i + 1, ys, σ₄.G, σ₄.mu, oI₂, u', rfl, hlt, rfl, by lia, z, hT' z S₅, S₅⟩⟩
        | true =>
          replace z := z.t rfl
          simp only [if_true] at z ⊢
          refine z.run h₄ _ _ tk₄ _ _ _ S₄ fun y σ₅ h₅ tk₅ z₅ S₅ => ?_
          have mD : (D, lsto ys) ∈ σ₅.mu ++ ([(I, oI₂), (c.e.L, oL), (D, lsto ys)] ++ c.hid) := memI (.tail _ (.tail _ (.head _)))
          refine append_at (hsz := by show ys.toArray.size ≤ sizeLine; rw [List.size_toArray, sizeLine_eq]; lia) (S₅.own _ mD) fun h₆ hs₆ hD₆ => ?_
          have eD : ({ cls := .type "list", data := .seq (ys.toArray.push y) (ys.length + 1) } : Obj) = lsto (ys ++ [y]) := by
            show ({ cls := .type "list", data := .seq (ys.toArray.push y) (ys.length + 1) } : Obj) = { cls := .type "list", data := .seq (ys ++ [y]).toArray (ys ++ [y]).length }
            rw [List.length_append, List.length_singleton, List.push_toArray]
          rw [eD] at hD₆
          have hvs := comp_vs (c' := c.comp env C x gs [(I, oI₂), (c.e.L, oL), (D, lsto ys)]) rfl S₅
          obtain ⟨u', S₅'⟩ := hvs
          have S₆ : (c.comp env C x gs [(I, oI₂), (c.e.L, oL), (D, lsto (ys ++ [y]))]).St ⟨[u'], σ₅.G, σ₅.mu⟩ h₆ := by
            have q : Mine.St c.hB ⟨c.e.h₀, c.e.G₀, c.e.fa, C⟩ σ₅.G (fm [x] [u']) ((σ₅.mu ++ [(I, oI₂), (c.e.L, oL)]) ++ (D, lsto ys) :: c.hid) h₅ := by
              have := S₅'
              unfold Cx.St at this
              simpa [List.append_assoc] using this
            have q2 := St.same q hs₆ hD₆
            unfold Cx.St
            simpa [List.append_assoc] using q2
          have hTn : T (i + 1) h₆ := by
            refine W.frame _ h₂ _ hT₂ fun b hb o e => ?_
            rcases List.mem_cons.mp hb with rfl | hb
            · rw [hI₂] at e; cases e; exact S₆.own (b, oI₂) (memI (.head _))
            · obtain ⟨ob, hob'⟩ := hfp b hb
              have e1 : h₂.get? b = some ob := Cx.St.has S₂ (σ := ⟨[u], G', mu'⟩) (hob' _ _ _ _ hJ)
              rw [e1] at e; cases e
              exact Cx.St.has S₆ (hob' _ _ _ _ z₅)
          exact ⟨n + 1 - (i + 1), by lia, (hI8 _ _).2 ⟨h₆, tk₅, i + 1, ys ++ [y], σ₅.G, σ₅.mu, oI₂, u', rfl, hlt, rfl, by simp; lia, z₅, hTn, S₆⟩⟩
      · obtain rfl : i = n := by lia
        refine W.done _ _ _ hT' fun h₂ tk₂ hk₂ => ?_
        have q0 : Mine.St c.hB ⟨c.e.h₀, c.e.G₀, c.e.fa, C⟩ G' (fm [x] [u]) (mu' ++ (I, oI) :: ((c.e.L, oL) :: (D, lsto ys) :: c.hid)) h' := S'
        have q1 := St.turnDrop q0 (fun b o hb e => hk₂ b o (by simpa using hb) e)
        obtain ⟨oC', hoC', q2⟩ := St.swapF q1 hoL S.aL
        refine fin ys G' mu' D C oC' _ h₂ tk₂ hJ hDz hoC' ?_
        refine St.perm q2 ?_
        show (mu' ++ (C, oC') :: (D, lsto ys) :: c.hid).Perm (((D, lsto ys) :: mu') ++ (C, oC') :: c.hid)
        refine List.perm_middle.trans ?_
        refine (List.Perm.cons _ List.perm_middle).trans ?_
        refine (List.Perm.swap _ _ _).trans ?_
        rw [List.cons_append]
        exact List.Perm.cons _ List.perm_middle.symm
    · show ([] ++ (c.e.L, oL) :: (D, lsto []) :: (mu ++ (I, o₀) :: c.hid)).Perm (mu ++ ((I, o₀) :: (c.e.L, oL) :: (D, lsto []) :: c.hid))
      rw [List.nil_append]
      have p1 : ((c.e.L, oL) :: (D, lsto []) :: (mu ++ (I, o₀) :: c.hid)).Perm ((c.e.L, oL) :: (D, lsto []) :: (I, o₀) :: (mu ++ c.hid)) := List.Perm.cons _ (List.Perm.cons _ List.perm_middle)
      have p2 : ((c.e.L, oL) :: (D, lsto []) :: (I, o₀) :: (mu ++ c.hid)).Perm ((I, o₀) :: (c.e.L, oL) :: (D, lsto []) :: (mu ++ c.hid)) := by
        exact (List.Perm.cons _ (List.Perm.swap _ _ _)).trans (List.Perm.swap _ _ _)
      refine (p1.trans p2).trans ?_
      exact (List.perm_append_comm (l₁ := [(I, o₀), (c.e.L, oL), (D, lsto [])]) (l₂ := mu)).append_right c.hid |> fun p => by simpa [List.append_assoc] using p
  exact codeAny_compStart_list (loop _) (W.self 0 _ _ _ hT₁ (loop _))
end
end Mine
end
section
namespace Mine
open PySem PySem.W PyProof.Rows PySem.Calls
open PyProof.Rows.LCg (NsObj ns_obj)
theorem eraseIdx_perm {α : Type} : ∀ {l : List α} {i : Nat} {a : α}, l[i]? = some a → l.Perm (a :: l.eraseIdx i)
  | x :: l, 0, a, h => by simp at h; subst h; exact List.Perm.refl _
  | x :: l, i + 1, a, h => by
    have := eraseIdx_perm (l := l) (i := i) (a := a) (by simpa using h)
    exact (List.Perm.cons x this).trans (List.Perm.swap _ _ _)
  | [], i, a, h => by simp at h
section
variable {c : Cx} {σ : Sg} {mg mb : Str → Option Value} {k : Nat}
noncomputable def CompSrc (c : Cx) (mg mb : Str → Option Value) (k : Nat) (elt : Expr) (ifs : List Expr) (x : Str) (gs : List Str) (cl : List (Str × Addr)) (xv : Value) (σ₁ : Sg) (fin : Addr → List Value → Gh → Led → Prop) : Prop :=
  ((E4 fun a vs n J => A6 (xv = .ref a) (∀ i ys G mu, J i ys G mu → G a (lobj vs n) ∨ (a, lobj vs n) ∈ mu) (vs.length ≤ 1000000) (J 0 [] σ₁.G σ₁.mu) (CompStep c mg mb k elt ifs x gs cl vs.length (fun i v => vs[i]? = some v) J) (∀ ys G mu D, J vs.length ys G mu → c.e.h₀.objs.size ≤ D → fin D ys G mu))) ∨
  ((E6 fun a m t u v J => A7 (xv = .ref a) (σ₁.has a (robj m t u v)) (0 ≤ m) (m ≤ 1000000) (J 0 [] σ₁.G σ₁.mu) (CompStep c mg mb k elt ifs x gs cl m.toNat (fun i v => ∃ t, v = .int i t) J) (∀ ys G mu D, J m.toNat ys G mu → c.e.h₀.objs.size ≤ D → fin D ys G mu)))
theorem CompSrc.list {elt : Expr} {ifs : List Expr} {x : Str} {gs : List Str} {cl : List (Str × Addr)} {σ₁ : Sg} {fin : Addr → List Value → Gh → Led → Prop} {a : Addr} {vs : List Value} {n : Nat} (J : CompJ)
    (h1 : ∀ i ys G mu, J i ys G mu → G a (lobj vs n) ∨ (a, lobj vs n) ∈ mu) (h2 : vs.length ≤ 1000000) (h3 : J 0 [] σ₁.G σ₁.mu) (h4 : CompStep c mg mb k elt ifs x gs cl vs.length (fun i v => vs[i]? = some v) J) (h5 : ∀ ys G mu D, J vs.length ys G mu → c.e.h₀.objs.size ≤ D → fin D ys G mu) :
    CompSrc c mg mb k elt ifs x gs cl (.ref a) σ₁ fin := .inl ⟨a, vs, n, J, rfl, h1, h2, h3, h4, h5⟩
theorem CompSrc.range {elt : Expr} {ifs : List Expr} {x : Str} {gs : List Str} {cl : List (Str × Addr)} {σ₁ : Sg} {fin : Addr → List Value → Gh → Led → Prop} {a : Addr} {m : Int} {t u v : Tok} (J : CompJ)
    (h1 : σ₁.has a (robj m t u v)) (h2 : 0 ≤ m) (h2' : m ≤ 1000000) (h3 : J 0 [] σ₁.G σ₁.mu) (h4 : CompStep c mg mb k elt ifs x gs cl m.toNat (fun i v => ∃ t, v = .int i t) J) (h5 : ∀ ys G mu D, J m.toNat ys G mu → c.e.h₀.objs.size ≤ D → fin D ys G mu) :
    CompSrc c mg mb k elt ifs x gs cl (.ref a) σ₁ fin := .inr ⟨a, m, t, u, v, J, rfl, h1, h2, h2', h3, h4, h5⟩
theorem comp_go {elt iter : Expr} {x : Str} {px : Pos} {ifs : List Expr} {scope : Scope} {cs : List (Str × Addr)} {gs : List Str} {pos : Pos} {use : Option (Value → Sem Unit)} {Q : Value → Shared → Prop} {E : Value → Shared → Prop} {h : Heap} {g : Array GenState} {d : Drawn} {t : Nat} {os : OsState} {fin : Addr → List Value → Gh → Led → Prop} {vs₀ : List (Option Value)}
    (ok : c.Ok mg mb k) (CE : CellOK c.env cs) (hc : compOK scope x cs gs = true) (hs : ∀ x, foldedSetIterable iter c.env x = Pure.pure x) (S : c.St σ h)
    (y : Do c σ (eval iter c.env) fun xv σ₁ => σ₁.vs = vs₀ ∧ CompSrc c mg mb k elt ifs x gs (clOf cs scope.names []) xv σ₁ fin)
    (q : ∀ ys G' mu' D C oC m' h' tk, fin D ys G' mu' → NsObj oC m' → (c.hide (C, oC)).St ⟨vs₀, G', (D, lsto ys) :: mu'⟩ h' → compPost (Md c.w) c.A E use Q (.ref D) C (.ok .next) ⟨h', g, d, tk, os⟩) :
    wpAny (Md c.w) c.A (comprehension (.ListComp elt [⟨.Name x px, iter, ifs, 0⟩] scope pos) scope c.env (firstIterPos [⟨.Name x px, iter, ifs, 0⟩] pos) (newList []) false (eval iter c.env) use) Q E ⟨h, g, d, t, os⟩ := by
  have hcopy := hc
  simp only [compOK, Bool.and_eq_true, beq_iff_eq, bne_iff_ne] at hcopy
  obtain ⟨⟨⟨⟨⟨h1, h2⟩, h3⟩, h4⟩, h5⟩, h6⟩ := hcopy
  have hnames : ∀ y ∈ scope.names, y.2 = .local → scope.names.lookup y.1 = some .local := fun y hy e => by
    have := List.all_eq_true.mp h6 y hy
    simp only [Bool.and_eq_true, bne_iff_ne, beq_iff_eq] at this
    rw [this.2, e]
  refine wpAny_comprehension_free rfl hs (closure_of CE h5) h1 hnames (y.run h g d t os _ E S fun xv σ₁ h' t' z S' => ?_)
  obtain ⟨hvs, z⟩ := z
  obtain ⟨vs₁, G₁, mu₁⟩ := σ₁
  subst hvs
  rcases z with ⟨a, vs, n, J, rfl, hJ, hsz, h0, step, done⟩ | ⟨a, m, t₁, u, v, J, rfl, hr, hm0, hm, h0, step, done⟩
  · refine wpAny_pyIter_list (S'.lst (σ := ⟨vs₁, G₁, mu₁⟩) (hJ 0 _ _ _ h0)) ?_
    have hlt : a < h'.objs.size := Heap.lt_size (S'.has (σ := ⟨vs₁, G₁, mu₁⟩) (hJ 0 _ _ _ h0))
    have W := Walks.list (prog := H.rw_.prog) (w := c.w) ok.R.handled h'.objs.size a (Nat.ne_of_lt hlt) vs.toArray
    rw [(List.size_toArray : vs.toArray.size = vs.length)] at W
    refine compCore (RR := fun acc C => compPost (Md c.w) c.A E use Q acc C) (vs := vs₁) ok CE hc W (fun i h ⟨⟨o, ho, _⟩, _⟩ => ⟨o, ho⟩) (fun b hb => ⟨_, fun i ys G mu hj => (List.mem_singleton.mp hb).symm ▸ hJ i ys G mu hj⟩) hsz ?_ h0
      (o₀ := { cls := .type "list_iterator", data := .fields #[.ref a, .int 0 0] }) (St.perm (St.pushMu S' _ rfl) List.perm_middle.symm) ⟨⟨_, Heap.get?_push_size _ rfl, rfl, rfl⟩, (S'.lst (σ := ⟨vs₁, G₁, mu₁⟩) (hJ 0 _ _ _ h0)).at fun o e => Heap.get?_push_of_some _ e⟩ ?_
    · intro i v ys G mu env C hid hi hP hj
      exact step i v ys G mu env C hid hi (by simpa using hP) hj
    · intro ys G' mu' D C oC m' h'' tk hj hz ho S''
      exact q ys G' mu' D C oC m' h'' tk (done _ _ _ _ hj hz) ho S''
  · obtain ⟨n, rfl⟩ := Int.eq_ofNat_of_zero_le hm0
    have hsz : Builtin.Range.rangeSize 0 (n : Int) 1 = n := by rw [rangeSize_one]; split <;> lia
    refine wpAny_pyIter_range (S'.has hr) (small_one (by decide) (by decide) (by lia) (by lia)) ?_
    rw [hsz]
    have W := Walks.range (prog := H.rw_.prog) (w := c.w) ok.R.handled h'.objs.size 0 1 n
    refine compCore (RR := fun acc C => compPost (Md c.w) c.A E use Q acc C) (vs := vs₁) ok CE hc W (fun i h hT => ⟨_, hT⟩) (fun b hb => by cases hb) (by lia) ?_ h0
      (o₀ := { cls := .type "range_iterator", data := .fields #[rawInt 0, rawInt n, rawInt 1] }) (St.perm (St.pushMu S' _ rfl) List.perm_middle.symm) ?_ ?_
    · intro i v ys G mu env C hid hi hP hj
      obtain ⟨t, rfl⟩ := hP
      exact step i _ ys G mu env C hid hi ⟨t, by simp⟩ hj
    · have := Heap.get?_push_size h' (o := { cls := .type "range_iterator", data := .fields #[rawInt 0, rawInt n, rawInt 1] }) rfl
      simpa [IsRangeIter] using this
    · intro ys G' mu' D C oC m' h'' tk hj hz ho S''
      exact q ys G' mu' D C oC m' h'' tk (done _ _ _ _ hj hz) ho S''
theorem Do.listComp {elt iter : Expr} {x : Str} {px : Pos} {ifs : List Expr} {scope : Scope} {cs : List (Str × Addr)} {pos : Pos} {K : Value → Sg → Prop} (gs : List Str)
    (ok : c.Ok mg mb k) (CE : CellOK c.env cs) (hc : compOK scope x cs gs = true)
    (y : Do c σ (eval iter c.env) fun xv σ₁ => σ₁.vs = σ.vs ∧ CompSrc c mg mb k elt ifs x gs (clOf cs scope.names []) xv σ₁ fun D ys G mu => K (.ref D) ⟨σ.vs, G, (D, lsto ys) :: mu⟩)
    (hs : ∀ x, foldedSetIterable iter c.env x = Pure.pure x := by intro _; rfl) : Do c σ (eval (.ListComp elt [⟨.Name x px, iter, ifs, 0⟩] scope pos) c.env) K := ⟨fun h g d t os Q E S qq => by
  rw [eval_ListComp]
  refine comp_go (use := none) ok CE hc hs S y fun ys G' mu' D C oC m' h' tk f ho S' => ?_
  refine ⟨m', ho.ns (S'.own (C, oC) (List.mem_append_right _ (.head _))), fun h'' hs'' => ?_⟩
  exact qq _ _ h'' tk f (St.turnDrop S' fun b o hb e => hs''.extBut b o hb e)⟩
theorem Do.assign_listComp {elt iter : Expr} {x y : Str} {px py : Pos} {ifs : List Expr} {scope : Scope} {cs : List (Str × Addr)} {pos spos : Pos} {K : Flow → Sg → Prop} (gs : List Str)
    (ok : c.Ok mg mb k) (CE : CellOK c.env cs) (hc : compOK scope x cs gs = true) (j : Nat) (hy : c.ks[j]? = some y) (hj : j < σ.vs.length)
    (hl : (py.line == pos.line && !(scope.names.any fun p => p.1 == y && (p.2 == .local || p.2 == .cell))) = true)
    (z : Do c σ (eval iter c.env) fun xv σ₁ => σ₁.vs = σ.vs ∧ CompSrc c mg mb k elt ifs x gs (clOf cs scope.names []) xv σ₁ fun D ys G mu => K .next ⟨σ.vs.set j (some (.ref D)), G, (D, lsto ys) :: mu⟩)
    (hs : ∀ x, foldedSetIterable iter c.env x = Pure.pure x := by intro _; rfl) : Do c σ (exec (.Assign [.Name y py] (.ListComp elt [⟨.Name x px, iter, ifs, 0⟩] scope pos) spos) c.env) K := ⟨fun h g d t os Q E S qq => by
  have hb : c.env.blockKind = .function := by unfold Env.blockKind; rw [ok.X.kind]; rfl
  have hsw : swapsWith (.ListComp elt [⟨.Name x px, iter, ifs, 0⟩] scope pos) (some (.Name y py)) spos.line c.env = Pure.pure true := by
    show (Pure.pure (c.env.blockKind == .function && c.env.kindOf y == some .local && py.line == pos.line && !(scope.names.any fun (n, k) => n == y && (k == .local || k == .cell))) : Sem Bool) = _
    rw [hb, (ok.X.lk j y hy).1]
    have : (py.line == pos.line && !(scope.names.any fun (n, k) => n == y && (k == .local || k == .cell))) = true := hl
    rw [show (ScopeKind.function == ScopeKind.function && (some NameKind.local == some NameKind.local)) = true from rfl, Bool.true_and, this]
  rw [exec_Assign_Name_used _ _ _ _ hsw]
  refine wpAny_bind (wpAny_standAt (wpAny_bind ?_))
  show wpAny _ c.A (do let _ ← comprehension (.ListComp elt [⟨.Name x px, iter, ifs, 0⟩] scope pos) scope c.env _ (newList []) false (eval iter c.env) (some (assign (.Name y py) c.env))) _ _ _
  refine wpAny_bind (wpAny_mono (comp_go (use := some (assign (.Name y py) c.env)) (Q := fun _ s' => Q .next s') ok CE hc hs S z fun ys G' mu' D C oC m' h' tk f ho S' => ?_) (fun _ s' hq => wpAny_pure (wpAny_pure hq)) fun _ _ e => e)
  show wpAny _ c.A (assign (.Name y py) c.env (.ref D)) _ _ _
  refine (Do.assignName (c := c.hide (C, oC)) (σ := ⟨σ.vs, G', (D, lsto ys) :: mu'⟩) (K := fun _ σ' => σ' = ⟨σ.vs.set j (some (.ref D)), G', (D, lsto ys) :: mu'⟩) (ok.hide _) j hy hj rfl).run _ _ _ _ _ _ _ S' fun _ σ₂ h₂ t₂ e₂ S₂ => ?_
  subst e₂
  refine ⟨m', ho.ns (S₂.own (C, oC) (List.mem_append_right _ (.head _))), fun h'' hs'' => ?_⟩
  exact qq _ _ h'' _ f (St.turnDrop S₂ fun b o hb e => hs''.extBut b o hb e)⟩
theorem Do.tests_nil {env : Env} {K : Bool → Sg → Prop} (q : K true σ) : Do c σ (testsOf [] env) K := by
  have e : testsOf [] env = (Pure.pure true : Sem Bool) := by unfold testsOf; rw [List.forIn_nil]
  rw [e]; exact Do.pure q
theorem Do.tests_one {t : Expr} {K : Bool → Sg → Prop} (q : Do c σ (isTrue t c.env (eval t c.env)) K) : Do c σ (testsOf [t] c.env) K := by
  unfold testsOf
  rw [List.forIn_cons]
  simp only [if_true]
  refine Do.bind (Do.bind (q.mono fun b σ' z => Do.pure ?_))
  exact Do.pure z
theorem Do.cell {cs : List (Str × Addr)} (ok : c.Ok mg mb k) (CE : CellOK c.env cs) (i : Nat) {x : Str} {a : Addr} {v : Value} {p : Pos} {K : Value → Sg → Prop} (hx : cs[i]? = some (x, a)) (hv : CellG σ.G a v) (q : K v σ) : Do c σ (eval (.Name x p) c.env) K := ⟨fun h g d t os Q E S qq => by
  obtain ⟨o, ho, hd⟩ := hv
  obtain ⟨h1, h2, h3⟩ := CE.ok i x a hx
  exact wpAny_Name (wpAny_loadName_cell ok.X.kind h1 h2 ⟨o, S.get ho, hd⟩ (qq _ _ h t q S)) h3⟩
theorem Do.storeCell {cs : List (Str × Addr)} {ex fp : Led} {o : Obj} {v₀ : Option Value} (ok : c.Ok mg mb k) (CE : CellOK c.env cs) (i : Nat) {x : Str} {a : Addr} {v : Value} {K : Unit → Sg → Prop} (hx : cs[i]? = some (x, a)) (hmu : σ.mu = ex ++ (a, o) :: fp) (ho : o.data = .cell v₀)
    (q : ∀ o', o'.data = .cell (some v) → K () ⟨σ.vs, σ.G, ex ++ (a, o') :: fp⟩) : Do c σ (storeName c.env x v) K := ⟨fun h g d t os Q E S qq => by
  obtain ⟨h1, h2, h3⟩ := CE.ok i x a hx
  have S' := S.mid hmu
  refine wpAny_storeName_cell ok.X.kind h1 h2 ⟨o, S'.own _ (List.mem_append_right _ (.head _)), ho⟩ fun h' hc hs => ?_
  obtain ⟨o', ho', hd'⟩ := hc
  exact qq _ _ h' _ (q o' hd') (Cx.St.unmid (St.same S' hs ho'))⟩
theorem Do.assign_cell {cs : List (Str × Addr)} (ok : c.Ok mg mb k) (CE : CellOK c.env cs) (i : Nat) {x : Str} {a : Addr} {e : Expr} {p q : Pos} {K : Flow → Sg → Prop} (hx : cs[i]? = some (x, a)) (hs : swapsWith e (some (.Name x q)) p.line c.env = Pure.pure false)
    (y : Do c σ (eval e c.env) fun v σ' => (E4 fun ex fp o v₀ => A3 (σ'.mu = ex ++ (a, o) :: fp) (o.data = .cell v₀) (∀ o', o'.data = .cell (some v) → K .next ⟨σ'.vs, σ'.G, ex ++ (a, o') :: fp⟩))) : Do c σ (exec (.Assign [.Name x q] e p) c.env) K := by
  rw [exec_Assign_Name _ _ _ _ _ hs]
  refine Do.bind (Do.standAt (Do.bind (y.mono fun v σ' k => ?_)))
  obtain ⟨ex, fp, o, v₀, hmu, ho, k⟩ := k
  refine Do.bind (Do.standAt (Do.bind ?_))
  unfold PySem.bindName
  exact Do.bind (Do.holding (Do.point (Do.bind (Do.storeCell ok CE i hx hmu ho fun o' ho' => Do.point (Do.pure (k o' ho'))))))
theorem Do.freeze {α : Type} {tr : Sem α} {K : α → Sg → Prop} (i : Nat) {a : Addr} {o : Obj} {mu' : Led} (hmu : σ.mu[i]? = some (a, o)) (hmu' : σ.mu.eraseIdx i = mu') (ha : c.e.h₀.objs.size ≤ a) (x : Do c ⟨σ.vs, gadd σ.G a o, mu'⟩ tr K) : Do c σ tr K := ⟨fun h g d t os Q E S q => by
  refine x.run h g d t os Q E ?_ q
  have p : (σ.mu ++ c.hid).Perm ((a, o) :: (mu' ++ c.hid)) := by
    subst hmu'
    exact (List.Perm.append_right c.hid (eraseIdx_perm hmu))
  exact St.freeze (St.perm S p) ha⟩
theorem Do.drop {α : Type} {tr : Sem α} {K : α → Sg → Prop} (i : Nat) {a : Addr} {o : Obj} {mu' : Led} (hmu : σ.mu[i]? = some (a, o)) (hmu' : σ.mu.eraseIdx i = mu') (x : Do c ⟨σ.vs, σ.G, mu'⟩ tr K) : Do c σ tr K := ⟨fun h g d t os Q E S q => by
  refine x.run h g d t os Q E ?_ q
  have p : (σ.mu ++ c.hid).Perm ((a, o) :: (mu' ++ c.hid)) := by
    subst hmu'
    exact (List.Perm.append_right c.hid (eraseIdx_perm hmu))
  exact St.drop (St.perm S p)⟩
theorem Do.freezeF {α : Type} {tr : Sem α} {K : α → Sg → Prop} (hfa : c.e.fa = []) (i : Nat) {a : Addr} {o : Obj} {mu' : Led} (hmu : σ.mu[i]? = some (a, o)) (hmu' : σ.mu.eraseIdx i = mu') (x : Do c ⟨σ.vs, gadd σ.G a o, mu'⟩ tr K) : Do c σ tr K := ⟨fun h g d t os Q E S q => by
  refine (Do.freeze i hmu hmu' ?_ x).run h g d t os Q E S q
  rcases S.amu (a, o) (List.mem_append_left _ (List.mem_of_getElem? hmu)) with q | q
  · rw [hfa] at q; cases q
  · exact q⟩
end
end Mine
end
section
namespace Mine
open PySem PySem.W PyProof.Rows PySem.Calls
open PyProof.Rows.LCg (NsObj ns_obj)
theorem bindL_eq {k : Str → Option NameKind} : ∀ (binds : List (Str × Value)) (m : Str → Option Value) (x : Str), bindL k binds m x = (((binds.filter fun p => k p.1 == some .local).reverse.lookup x).or (m x))
  | [], m, x => rfl
  | (n, v) :: r, m, x => by
    unfold bindL
    rw [bindL_eq r]
    by_cases h : k n = some .local
    · have hb : (k n == some NameKind.local) = true := by rw [h]; rfl
      rw [if_pos h, List.filter_cons, hb]
      simp only [if_true, List.reverse_cons]
      cases q : (r.filter fun p => k p.1 == some .local).reverse.lookup x with
      | some u => rw [lookup_append_some q]; rfl
      | none =>
        rw [lookup_append_none q]
        by_cases e : x = n
        · subst e; simp [List.lookup_cons]
        · have : (x == n) = false := beq_eq_false_iff_ne.mpr e
          simp [List.lookup_cons, this, e]
    · have hb : (k n == some NameKind.local) = false := by simpa using h
      rw [if_neg h, List.filter_cons, hb]
      simp
theorem bindC_eq {k : Str → Option NameKind} : ∀ (binds : List (Str × Value)) (m : Str → Option Value) (x : Str), bindC k binds m x = (((binds.filter fun p => !(k p.1 == some .local)).reverse.lookup x).or (m x))
  | [], m, x => rfl
  | (n, v) :: r, m, x => by
    unfold bindC
    rw [bindC_eq r]
    by_cases h : k n = some .local
    · have hb : (k n == some NameKind.local) = true := by rw [h]; rfl
      rw [if_pos h, List.filter_cons, hb]
      simp
    · have hb : (k n == some NameKind.local) = false := by simpa using h
      rw [if_neg h, List.filter_cons, hb]
      simp only [Bool.not_false, if_true, List.reverse_cons]
      cases q : (r.filter fun p => !(k p.1 == some .local)).reverse.lookup x with
      | some u => rw [lookup_append_some q]; rfl
      | none =>
        rw [lookup_append_none q]
        by_cases e : x = n
        · subst e; simp [List.lookup_cons]
        · have : (x == n) = false := beq_eq_false_iff_ne.mpr e
          simp [List.lookup_cons, this, e]
theorem cellsFrom_keys : ∀ (names : List (Str × NameKind)) (n n' : Nat) (acc acc' : List (Str × Addr)), acc.map (·.1) = acc'.map (·.1) → (cellsFrom n names acc).map (·.1) = (cellsFrom n' names acc').map (·.1)
  | [], n, n', acc, acc', h => h
  | (nm, k) :: r, n, n', acc, acc', h => by
    unfold cellsFrom
    split
    · exact cellsFrom_keys r _ _ _ _ (by simp [h])
    · exact cellsFrom_keys r _ _ _ _ h
structure FnOkC (fd : FuncData) (ks gs cns : List Str) (body : List Stmt) : Prop where
  body : fd.body = .stmts body
  kind : fd.scope.kind = .function
  gen : fd.scope.isGenerator = false
  co : fd.scope.isCoroutine = false
  clo : fd.closure = []
  cells : (cellsFrom 0 fd.scope.names []).map (·.1) = cns
  lk : (ks.all fun x => fd.scope.names.lookup x == some .local && x != "__debug__") = true
  gk : (gs.all fun x => fd.scope.names.lookup x == some .globalImplicit && x != "__debug__") = true
  ck : (cns.all fun x => fd.scope.names.lookup x == some .cell && x != "__debug__") = true
  nd : decide (ks.Nodup) = true
  ndc : decide (cns.Nodup) = true
  glob : fd.globals = mainGlobals
  blt : fd.builtins = builtinsNs
theorem lookup_of_nodup {α : Type} : ∀ {l : List (Str × α)} {i : Nat} {x : Str} {a : α}, (l.map (·.1)).Nodup → l[i]? = some (x, a) → l.lookup x = some a
  | (k, v) :: r, 0, x, a, _, h => by simp at h; obtain ⟨rfl, rfl⟩ := h; simp [List.lookup_cons]
  | (k, v) :: r, i + 1, x, a, nd, h => by
    have n1 := List.nodup_cons.mp nd
    have h' : r[i]? = some (x, a) := by simpa using h
    have hne : (x == k) = false := by
      rw [beq_eq_false_iff_ne]; rintro rfl
      exact n1.1 (List.mem_map_of_mem (f := (·.1)) (List.mem_of_getElem? h'))
    rw [List.lookup_cons, hne]
    exact lookup_of_nodup n1.2 h'
  | [], i, x, a, _, h => by simp at h
noncomputable def gcells (G : Gh) (h : Heap) (cs : List (Str × Addr)) : Gh := fun a o => G a o ∨ ((∃ p ∈ cs, p.2 = a) ∧ h.get? a = some o)
theorem enterC {w : World} {hB : Heap} {mg mb : Str → Option Value} {n : Nat} {F : Addr} {args lbs cvs : List Value} {G : Gh} {fp : Led} {P : Value → Gh → Led → Prop} {fo : Obj} {fd : FuncData} {ps lps rest gs cns : List Str} {body : List Stmt}
    (Bs : Base w hB mg mb) (hF : (H.K w.params).lookup F = some fo) (hd : fo.data = .func fd) (I : FnOkC fd (lps ++ rest) gs cns body) (hcd : codeIn (H.K w.params) fd.code fd.qualname = true)
    (hbind : bindArgs fd ⟨args, []⟩ = Pure.pure (ps.zip args))
    (hpk : (ps.all fun x => fd.scope.names.lookup x == some .local || (fd.scope.names.lookup x == some .cell && (cns.contains x))) = true)
    (hlb : ((ps.zip args).filter fun p => fd.scope.names.lookup p.1 == some .local) = lps.zip lbs) (hll : lps.length = lbs.length)
    (hcb : cns.map (fun x => ((ps.zip args).filter fun p => !(fd.scope.names.lookup p.1 == some .local)).reverse.lookup x) = cvs.map some)
    (k : ∀ A env e G' (as : List Addr), as.length = cns.length → (∀ a o, G a o → G' a o) → CellOK env (cns.zip as) → (∀ (i : Nat) a v, as[i]? = some a → cvs[i]? = some v → CellG G' a v) →
      (⟨w, hB, A, env, e, lps ++ rest, gs, []⟩ : Cx).Ok mg mb n → Do ⟨w, hB, A, env, e, lps ++ rest, gs, []⟩ ⟨lbs.map some ++ List.replicate rest.length none, G', fp⟩ (execs body env) (Left fp P)) : Calls w hB (n + 1) F args G fp P := by
  intro A s Q R Hs ret
  obtain ⟨h, g, d, t, os⟩ := s
  have kp : ∀ a o, hB.get? a = some o → h.get? a = some o := fun a o x => Hs.sub a o (Hs.bs a o x)
  have hcd' : hB.CodeRec fd.code fd.qualname := codeRec_of Bs.K hcd
  have keys : ∀ m, (cellsFrom m fd.scope.names []).map (·.1) = cns := fun m => (cellsFrom_keys _ _ 0 _ [] rfl).trans I.cells
  refine codeAny_call_cells (fd := fd) (body := body) (binds := ps.zip args) R.lt (kp _ _ (Bs.K _ _ hF)) hd (Bs.nolimit.keeps kp) (hcd'.keeps kp) I.body hbind I.clo (fun x hx => ?_) (fun s₁ X => ?_) I.co I.gen I.kind
  · have hm := (List.of_mem_zip hx).1
    have := List.all_eq_true.mp hpk x.1 hm
    rcases Bool.or_eq_true_iff.mp this with q | q
    · exact .inl (by simpa using q)
    · obtain ⟨q1, q2⟩ := Bool.and_eq_true_iff.mp q
      refine .inr ⟨by simpa using q1, ?_⟩
      have hmem : x.1 ∈ (cellsFrom (h.objs.size + 1) fd.scope.names []).map (·.1) := by rw [keys]; simpa using q2
      obtain ⟨p, hp, e⟩ := List.mem_map.mp hmem
      obtain ⟨b, hb⟩ := lookup_some_of_mem (x := p.1) (a := p.2) hp
      rw [e] at hb
      exact Option.isSome_iff_exists.mpr ⟨b, hb⟩
  · generalize henv : callEnvC fd (Shared.heap ⟨h, g, d, t, os⟩).objs.size F = env at X ⊢
    have hL : env.locals = h.objs.size := by rw [← henv]; rfl
    have hcells : env.cells = cellsFrom (h.objs.size + 1) fd.scope.names [] := by rw [← henv]; rfl
    have hkind : ∀ x, env.kindOf x = fd.scope.names.lookup x := fun x => by rw [← henv]; rfl
    have hsc : env.scope = fd.scope := by rw [← henv]; rfl
    have hgl : env.globals = fd.globals := by rw [← henv]; rfl
    have hbl : env.builtins = fd.builtins := by rw [← henv]; rfl
    clear henv
    obtain ⟨h₁, tk, rfl⟩ := X.toInCall.same
    have keep := X.toInCall.keep
    have hns := X.toInCall.ns
    have hcell := X.cell
    have habove := X.above
    dsimp only at keep hns hcell
    have hck : env.cells.map (·.1) = cns := by rw [hcells]; exact keys _
    have hz : env.cells = cns.zip (env.cells.map (·.2)) := by
      rw [← hck]
      generalize env.cells = l
      induction l with
      | nil => rfl
      | cons p l ih => simpa using ih
    have hfm : (bindL env.kindOf (ps.zip args) fun _ => none) = fm (lps ++ rest) (lbs.map some ++ List.replicate rest.length none) := by
      funext x
      rw [bindL_eq]
      have e : ((ps.zip args).filter fun p => env.kindOf p.1 == some .local) = lps.zip lbs := by
        rw [← hlb]; congr 1; funext p; rw [hkind]
      rw [e]
      rw [fm_binds lps rest lbs (of_decide_eq_true I.nd) hll]
      cases fm (lps ++ rest) (lbs.map some ++ List.replicate rest.length none) x <;> rfl
    rw [hfm] at hns
    rw [hL] at hns
    have size : h.objs.size ≤ h₁.objs.size := Nat.le_of_lt hns.lt
    have cge : ∀ p ∈ env.cells, h.objs.size < p.2 := fun p hp => by have := habove p.1 p.2 hp; rw [hL] at this; exact this
    have S : St hB ⟨h, G, fp.ads, h.objs.size⟩ (gcells G h₁ env.cells) (fm (lps ++ rest) (lbs.map some ++ List.replicate rest.length none)) fp h₁ :=
      { bs := fun a o x => .inl (Hs.bs a o x), ns := hns
        sub := fun a o x => by
          rcases x with x | ⟨_, x⟩
          · exact keep a o (Hs.sub a o x)
          · exact x
        own := fun p hp => keep _ _ (Hs.own p hp)
        gL := fun o x => by
          rcases x with x | ⟨⟨p, hp, e⟩, _⟩
          · exact absurd (Heap.lt_size (Hs.sub _ _ x)) (Nat.lt_irrefl _)
          · have := cge p hp; rw [e] at this; exact Nat.lt_irrefl _ this
        gmu := fun p hp o x => by
          rcases x with x | ⟨⟨q, hq, e⟩, _⟩
          · exact Hs.gmu p hp o x
          · have l1 := cge q hq
            have l2 := Heap.lt_size (Hs.own p hp)
            rw [e] at l1
            exact Nat.lt_asymm l1 l2
        nd := List.nodup_cons.mpr ⟨fun q => by
          obtain ⟨p, hp, eq⟩ := List.mem_map.mp q
          exact absurd (Heap.lt_size (Hs.own p hp)) (by rw [eq]; exact Nat.lt_irrefl _), Hs.nd⟩
        base := fun a o x _ => keep a o x
        le := fun _ _ x => .inl x
        new := fun a o x => by
          rcases x with x | ⟨⟨p, hp, e⟩, _⟩
          · exact .inl x
          · exact .inr (e ▸ Nat.le_of_lt (cge p hp))
        aL := Nat.le_refl _
        amu := fun p hp => .inl (mem_ads hp)
        size := size }
    have CE : CellOK env (cns.zip (env.cells.map (·.2))) := ⟨fun i x a hx => by
      rw [← hz] at hx
      have hm : x ∈ cns := by rw [← hck]; exact List.mem_map_of_mem (f := (·.1)) (List.mem_of_getElem? hx)
      have := List.all_eq_true.mp I.ck x hm
      simp only [Bool.and_eq_true, beq_iff_eq, bne_iff_ne] at this
      refine ⟨(hkind x).trans this.1, lookup_of_nodup (by rw [hck]; exact of_decide_eq_true I.ndc) hx, beq_eq_false_iff_ne.mpr this.2⟩⟩
    have CG : ∀ (i : Nat) a v, (env.cells.map (·.2))[i]? = some a → cvs[i]? = some v → CellG (gcells G h₁ env.cells) a v := fun i a v ha hv => by
      rw [List.getElem?_map] at ha
      obtain ⟨p, hp, rfl⟩ := Option.map_eq_some_iff.mp ha
      have hl := lookup_of_nodup (l := env.cells) (x := p.1) (a := p.2) (by rw [hck]; exact of_decide_eq_true I.ndc) hp
      obtain ⟨o, ho, hod⟩ := hcell p.1 p.2 hl
      refine ⟨o, .inr ⟨⟨p, List.mem_of_getElem? hp, rfl⟩, ho⟩, ?_⟩
      rw [hod]
      have hi : cns[i]? = some p.1 := by rw [← hck, List.getElem?_map, hp]; rfl
      have e1 := congrArg (fun l => l[i]?) hcb
      simp only [List.getElem?_map, hi, hv, Option.map_some] at e1
      have e2 : bindC env.kindOf (ps.zip args) (fun _ => none) p.1 = some v := by
        rw [bindC_eq]
        have e : ((ps.zip args).filter fun p => !(env.kindOf p.1 == some .local)) = (ps.zip args).filter fun p => !(fd.scope.names.lookup p.1 == some .local) := by congr 1; funext p; rw [hkind]
        rw [e, Option.some.inj e1]; rfl
      rw [e2]
    have X' : EnvOK env (lps ++ rest) gs h.objs.size :=
      { kind := by rw [hsc]; exact I.kind
        loc := hL
        glob := hgl.trans I.glob
        blt := hbl.trans I.blt
        lk := fun i x hx => by
          have := List.all_eq_true.mp I.lk x (List.mem_of_getElem? hx)
          simp only [Bool.and_eq_true, beq_iff_eq, bne_iff_ne] at this
          exact ⟨(hkind x).trans this.1, this.2⟩
        gk := fun i x hx => by
          have := List.all_eq_true.mp I.gk x (List.mem_of_getElem? hx)
          simp only [Bool.and_eq_true, beq_iff_eq, bne_iff_ne] at this
          exact ⟨(hkind x).trans this.1, this.2⟩
        nd := of_decide_eq_true I.nd }
    have OK : (⟨w, hB, A.deeper env, env, ⟨h, G, fp.ads, h.objs.size⟩, lps ++ rest, gs, []⟩ : Cx).Ok mg mb n := ⟨X', Bs, R.deeper⟩
    have key := (k (A.deeper env) env ⟨h, G, fp.ads, h.objs.size⟩ (gcells G h₁ env.cells) (env.cells.map (·.2)) (by rw [← hck]; simp) (fun a o x => .inl x) CE CG OK).run h₁ g d tk os
      (fun f s' => Q (.ok (.ret (match f with | .ret v => v | _ => .none))) s') (fun e s' => wpAny (Md w) (A.deeper env) (leaving env e) (fun _ s'' => Q (.error e) s'') (fun e' s'' => Q (.error e') s'') s')
      (show Mine.St _ _ _ _ (fp ++ []) _ from (List.append_nil fp).symm ▸ S) ?_
    · exact key
    · rintro fl ⟨vs, G₁, mu⟩ h' t' hL Z'
      replace Z' : Mine.St hB ⟨h, G, fp.ads, h.objs.size⟩ G₁ (fm (lps ++ rest) vs) mu h' := List.append_nil mu ▸ (show Mine.St hB _ G₁ (fm (lps ++ rest) vs) (mu ++ []) h' from Z')
      obtain ⟨G', ex, fp', Z2, e2, e3⟩ := Left.out hL rfl Z'
      have := ret (retv fl) G' fp' h' t' (Z2.toEff rfl e2 (fun _ _ x => x) rfl) e3
      cases fl <;> exact this
theorem Do.byContract0₀ {c : Cx} {σ : Sg} {mg mb : Str → Option Value} {n : Nat} {K : Value → Sg → Prop} {F : Addr} {args : List Value} {P : Value → Gh → Prop} (o : c.Ok mg mb n) (C : Calls c.w c.hB n F args σ.G [] fun v G' fp' => fp' = [] ∧ P v G')
    (k : ∀ r G', (∀ a o, σ.G a o → G' a o) → P r G' → K r ⟨σ.vs, G', σ.mu⟩) : Do c σ (call (.ref F) args) K :=
  Do.byContract₀ o C (List.append_nil σ.mu).symm fun r G' fp' hG ⟨e, p⟩ => by subst e; rw [List.append_nil]; exact k r G' hG p
noncomputable def mkQ0 (K : Value → Sg → Prop) (vs : List (Option Value)) (mu : Led) (r : Value) (G' : Gh) : Prop := K r ⟨vs, G', mu⟩
theorem Do.byContract0 {c : Cx} {vs : List (Option Value)} {G : Gh} {mu : Led} {mg mb : Str → Option Value} {n : Nat} {K : Value → Sg → Prop} {F : Addr} {args : List Value} {P : Value → Gh → Prop} (o : c.Ok mg mb n) (C : Calls c.w c.hB n F args G [] fun v G' fp' => fp' = [] ∧ P v G')
    (k : let QM := mkQ0 K vs mu; ∀ r G', (∀ a o, G a o → G' a o) → P r G' → QM r G') : Do c ⟨vs, G, mu⟩ (call (.ref F) args) K :=
  Do.byContract0₀ (σ := ⟨vs, G, mu⟩) o C k
noncomputable def SwapEnd (i j : Nat) (K : Flow → Sg → Prop) (v : Value) (σ₁ : Sg) : Prop := (E4 fun a v1 v2 n => A5 (v = .ref a) (σ₁.has a (tobj [v1, v2] n)) (i < σ₁.vs.length) (j < σ₁.vs.length) (K .next ⟨(σ₁.vs.set j (some v2)).set i (some v1), σ₁.G, σ₁.mu⟩))
theorem SwapEnd.mk {i j : Nat} {K : Flow → Sg → Prop} {σ₁ : Sg} {a : Addr} {v1 v2 : Value} {n : Nat} (h : σ₁.has a (tobj [v1, v2] n)) (hi : i < σ₁.vs.length) (hj : j < σ₁.vs.length) (q : K .next ⟨(σ₁.vs.set j (some v2)).set i (some v1), σ₁.G, σ₁.mu⟩) : SwapEnd i j K (.ref a) σ₁ := ⟨a, v1, v2, n, rfl, h, hi, hj, q⟩
noncomputable def envS (x y : Str) : Env := { scope := { kind := .function, names := [(x, .local), (y, .local)], isGenerator := false, isCoroutine := false }, locals := 0, globals := 0, code := .none, cells := [] }
theorem swapped_same {env env' : Env} {x y : Str} {px py : Pos} {k k' : Nat} {e1 e2 : Expr} {p' p'' : Pos} (hb : env.blockKind = env'.blockKind) (h1 : env.kindOf x = env'.kindOf x) (h2 : env.kindOf y = env'.kindOf y) :
    swappedStores [.Tuple [.Name x px, .Name y py] k p'] (.Tuple [e1, e2] k' p'') env = swappedStores [.Tuple [.Name x px, .Name y py] k p'] (.Tuple [e1, e2] k' p'') env' := by
  unfold swappedStores
  simp only [hb, List.filterMap_cons, h1, h2]
  rfl
theorem Do.assign_swap2 {c : Cx} {σ : Sg} {mg mb : Str → Option Value} {n : Nat} (o : c.Ok mg mb n) {x y : Str} {px py : Pos} {k k' : Nat} {e1 e2 : Expr} {p' p'' p : Pos} {K : Flow → Sg → Prop} (i j : Nat) (hx : c.ks[i]? = some x) (hy : c.ks[j]? = some y) (hxy : (envS x y).kindOf y = some .local)
    (hc : swappedStores [.Tuple [.Name x px, .Name y py] k p'] (.Tuple [e1, e2] k' p'') (envS x y) = Pure.pure (some [x, y]))
    (z : Do c σ (eval (.Tuple [e1, e2] k' p'') c.env) (SwapEnd i j K)) : Do c σ (exec (.Assign [.Tuple [.Name x px, .Name y py] k p'] (.Tuple [e1, e2] k' p'') p) c.env) K := by
  have hl1 := (o.X.lk i x hx).1
  have hl2 := (o.X.lk j y hy).1
  have hb : c.env.blockKind = .function := by unfold Env.blockKind; rw [o.X.kind]; rfl
  refine Do.assign_swap o (names := [x, y]) rfl ?_ (z.mono fun v σ₁ ⟨a, v1, v2, n, hv, hh, hi, hj, q⟩ => ⟨a, [v1, v2], n, hv, hh, rfl, ?_⟩)
  · refine (swapped_same (env' := envS x y) hb ?_ ?_).trans hc
    · rw [hl1]; simp [envS, Env.kindOf, List.lookup_cons]
    · rw [hl2, hxy]
  · refine Do.inOrder_cons (Do.bindName o j hy hj ?_)
    refine Do.inOrder_cons (Do.bindName o i hx (by simpa using hi) ?_)
    exact Do.inOrder_nil q
end Mine
end
section
namespace Mine
open PySem PySem.W PyProof.Rows PySem.Calls
noncomputable def All2 {α β : Type} (R : α → β → Prop) : List α → List β → Prop
  | [], [] => True
  | a :: as, b :: bs => R a b ∧ All2 R as bs
  | _, _ => False
theorem All2.mono {α β : Type} {R R' : α → β → Prop} (h : ∀ a b, R a b → R' a b) : ∀ {as : List α} {bs : List β}, All2 R as bs → All2 R' as bs
  | [], [], _ => trivial
  | _ :: _, _ :: _, ⟨x, y⟩ => ⟨h _ _ x, All2.mono h y⟩
  | [], _ :: _, x => x.elim
  | _ :: _, [], x => x.elim
theorem All2.length {α β : Type} {R : α → β → Prop} : ∀ {as : List α} {bs : List β}, All2 R as bs → as.length = bs.length
  | [], [], _ => rfl
  | _ :: _, _ :: _, ⟨_, y⟩ => congrArg (· + 1) (All2.length y)
  | [], _ :: _, x => x.elim
  | _ :: _, [], x => x.elim
theorem All2.append {α β : Type} {R : α → β → Prop} : ∀ {as : List α} {bs : List β} {cs : List α} {ds : List β}, All2 R as bs → All2 R cs ds → All2 R (as ++ cs) (bs ++ ds)
  | [], [], _, _, _, z => z
  | _ :: _, _ :: _, _, _, ⟨x, y⟩, z => ⟨x, All2.append y z⟩
  | [], _ :: _, _, _, x, _ => x.elim
  | _ :: _, [], _, _, x, _ => x.elim
theorem All2.get {α β : Type} {R : α → β → Prop} : ∀ {as : List α} {bs : List β} {i : Nat} {a : α}, All2 R as bs → as[i]? = some a → ∃ b, bs[i]? = some b ∧ R a b
  | a :: as, b :: bs, 0, _, ⟨x, y⟩, h => by simp at h; subst h; exact ⟨b, rfl, x⟩
  | a :: as, b :: bs, i + 1, _, ⟨x, y⟩, h => by simpa using All2.get y (by simpa using h)
  | [], [], _, _, _, h => by simp at h
  | [], _ :: _, _, _, x, _ => x.elim
  | _ :: _, [], _, _, x, _ => x.elim
theorem All2.get' {α β : Type} {R : α → β → Prop} : ∀ {as : List α} {bs : List β} {i : Nat} {b : β}, All2 R as bs → bs[i]? = some b → ∃ a, as[i]? = some a ∧ R a b
  | a :: as, b :: bs, 0, _, ⟨x, y⟩, h => by simp at h; subst h; exact ⟨a, rfl, x⟩
  | a :: as, b :: bs, i + 1, _, ⟨x, y⟩, h => by simpa using All2.get' y (by simpa using h)
  | [], [], _, _, _, h => by simp at h
  | [], _ :: _, _, _, x, _ => x.elim
  | _ :: _, [], _, _, x, _ => x.elim
structure EffN (G : Gh) (fp : Led) (h : Heap) (G' : Gh) (nw fp' : Led) (h' : Heap) : Prop where
  eff : Eff G fp h G' fp' h'
  own : ∀ p ∈ nw, h'.get? p.1 = some p.2
  fresh : ∀ p ∈ nw, h.objs.size ≤ p.1
  gm : ∀ p ∈ nw, ∀ o, ¬ G' p.1 o
  nd : nw.ads.Nodup
noncomputable def CallsN (w : World) (hB : Heap) (n : Nat) (F : Addr) (args : List Value) (G : Gh) (fp : Led) (P : Value → Gh → Led → Led → Prop) : Prop :=
  ∀ (A : Around) (s : Shared) (R : Result → Shared → Prop), Room A n → HS hB G fp s.heap →
    (∀ r G' nw fp' h' tk', EffN G fp s.heap G' nw fp' h' → P r G' nw fp' → R (.ok (.ret r)) { s with heap := h', toks := tk' }) → codeAny (Md w) A (.call (.ref F) ⟨args, []⟩) R s
theorem CallsN.le {w : World} {hB : Heap} {n m : Nat} {F : Addr} {args : List Value} {G : Gh} {fp : Led} {P : Value → Gh → Led → Led → Prop} (C : CallsN w hB n F args G fp P) (h : n ≤ m) : CallsN w hB m F args G fp P := fun A s R r => C A s R (r.le h)
section
variable {hB h h' : Heap} {e : Ent} {G G' : Gh} {m m' : Str → Option Value} {mu fp fp' ex nw : Led} {o o' : Obj} {a : Addr}
theorem St.addMu (S : St hB e G m mu h) (own : ∀ p ∈ nw, h.get? p.1 = some p.2) (gm : ∀ p ∈ nw, ∀ o, ¬ G p.1 o) (nd : nw.ads.Nodup) (k : Nat) (hk : e.h₀.objs.size ≤ k) (fresh : ∀ p ∈ nw, k ≤ p.1) (old : ∀ a ∈ e.L :: mu.ads, a < k) : St hB e G m (nw ++ mu) h :=
  { S with
    own := fun p hp => (List.mem_append.mp hp).elim (own p) (S.own p)
    gmu := fun p hp => (List.mem_append.mp hp).elim (gm p) (S.gmu p)
    nd := by
      have n1 := List.nodup_cons.mp S.nd
      refine List.nodup_cons.mpr ⟨fun q => ?_, ?_⟩
      · rw [ads_append] at q
        rcases List.mem_append.mp q with q | q
        · obtain ⟨p, hp, e1⟩ := List.mem_map.mp q
          have h1 := fresh p hp
          have h2 := old e.L (.head _)
          rw [e1] at h1; exact absurd h2 (Nat.not_lt.mpr h1)
        · exact n1.1 q
      · rw [ads_append]
        refine List.nodup_append.mpr ⟨nd, n1.2, fun x hx y hy exy => ?_⟩
        obtain ⟨p, hp, e1⟩ := List.mem_map.mp hx
        have h1 := fresh p hp
        have h2 := old y (.tail _ hy)
        rw [e1] at h1; subst exy; exact absurd h2 (Nat.not_lt.mpr h1)
    amu := fun p hp => (List.mem_append.mp hp).elim (fun hp => .inr (Nat.le_trans hk (fresh p hp))) (S.amu p) }
theorem St.afterN (S : St hB e G m (ex ++ fp) h) (X : EffN G fp h G' nw fp' h') : St hB e G' m (nw ++ (ex ++ fp')) h' := by
  refine St.addMu (St.after S X.eff) X.own X.gm X.nd h.objs.size S.size X.fresh fun a ha => ?_
  rcases List.mem_cons.mp ha with rfl | ha
  · exact S.ltL
  · have hads : (ex ++ fp').ads = (ex ++ fp).ads := by rw [ads_append, ads_append, X.eff.adr]
    rw [hads] at ha
    obtain ⟨p, hp, rfl⟩ := List.mem_map.mp ha
    exact Heap.lt_size (S.own p hp)
theorem St.toEffN {fp₀ : Led} (S : St hB e G m (ex ++ (nw ++ fp)) h) (hfa : e.fa = fp₀.ads) (had : fp.ads = fp₀.ads) (hk : ∀ a o, h'.get? a = some o → e.h₀.get? a = some o) (hz : h'.objs.size = e.h₀.objs.size) : EffN e.G₀ fp₀ h' G nw fp h := by
  have S' : St hB e G m ((ex ++ nw) ++ fp) h := by rw [List.append_assoc]; exact S
  have mem : ∀ p ∈ nw, p ∈ ex ++ (nw ++ fp) := fun p hp => List.mem_append_right _ (List.mem_append_left _ hp)
  have nd := (List.nodup_cons.mp S.nd).2
  rw [ads_append, ads_append] at nd
  have nd2 := (List.nodup_append.mp nd).2.1
  refine ⟨S'.toEff hfa had hk hz, fun p hp => S.own p (mem p hp), fun p hp => ?_, fun p hp => S.gmu p (mem p hp), (List.nodup_append.mp nd2).1⟩
  rw [hz]
  rcases S.amu p (mem p hp) with q | q
  · rw [hfa, ← had] at q
    exact absurd rfl ((List.nodup_append.mp nd2).2.2 _ (mem_ads hp) _ q)
  · exact q
end
structure LeftN (fp : Led) (P : Value → Gh → Led → Led → Prop) (fl : Flow) (σ : Sg) : Prop where of ::
  all : (E3 fun ex nw fp' => A3 (σ.mu = ex ++ (nw ++ fp')) (fp'.ads = fp.ads) (P (retv fl) σ.G nw fp'))
theorem LeftN.mk {fp : Led} {P : Value → Gh → Led → Led → Prop} {fl : Flow} {σ : Sg} (ex nw fp' : Led) (h1 : σ.mu = ex ++ (nw ++ fp')) (h2 : fp'.ads = fp.ads) (h3 : P (retv fl) σ.G nw fp') : LeftN fp P fl σ := ⟨⟨ex, nw, fp', h1, h2, h3⟩⟩
theorem enterN {w : World} {hB : Heap} {mg mb : Str → Option Value} {n : Nat} {F : Addr} {args bs : List Value} {G : Gh} {fp : Led} {P : Value → Gh → Led → Led → Prop} {fo : Obj} {fd : FuncData} {ps rest gs : List Str} {body : List Stmt}
    (Bs : Base w hB mg mb) (hF : (H.K w.params).lookup F = some fo) (hd : fo.data = .func fd) (I : FnOk fd ps rest gs body) (hcd : codeIn (H.K w.params) fd.code fd.qualname = true)
    (hbind : ∀ h g d t os, (∀ a o, hB.get? a = some o → h.get? a = some o) → BindsTo ⟨h, g, d, t, os⟩ fd ⟨args, []⟩ (ps.zip bs)) (hl : ps.length = bs.length)
    (k : ∀ A env e, (⟨w, hB, A, env, e, ps ++ rest, gs, []⟩ : Cx).Ok mg mb n → Do ⟨w, hB, A, env, e, ps ++ rest, gs, []⟩ ⟨bs.map some ++ List.replicate rest.length none, G, fp⟩ (execs body env) (LeftN fp P)) : CallsN w hB (n + 1) F args G fp P := by
  intro A s Q R Hs ret
  obtain ⟨h, g, d, t, os⟩ := s
  have kp : ∀ a o, hB.get? a = some o → h.get? a = some o := fun a o x => Hs.sub a o (Hs.bs a o x)
  have hcd' : hB.CodeRec fd.code fd.qualname := codeRec_of Bs.K hcd
  refine codeAny_call_def (fd := fd) (body := body) (binds := ps.zip bs) R.lt (kp _ _ (Bs.K _ _ hF)) hd (Bs.nolimit.keeps kp) (hcd'.keeps kp) I.body (hbind h g d t os kp) (fun x hx => ?_) (fun x hx => ?_) (fun h₀ hns hk => ?_) I.co I.gen I.kind
  · have := List.all_eq_true.mp I.cells x hx
    simpa using this
  · have hm := (List.of_mem_zip hx).1
    have := List.all_eq_true.mp I.lk x.1 (List.mem_append_left _ hm)
    simp only [Bool.and_eq_true, beq_iff_eq] at this
    exact this.1
  · have ndk : (ps ++ rest).Nodup := of_decide_eq_true I.nd
    have e : (fun x => (ps.zip bs).reverse.lookup x) = fm (ps ++ rest) (bs.map some ++ List.replicate rest.length none) := funext fun x => fm_binds ps rest bs ndk hl _ x
    rw [e] at hns
    have S : St hB ⟨h, G, fp.ads, h.objs.size⟩ G (fm (ps ++ rest) (bs.map some ++ List.replicate rest.length none)) fp h₀ :=
      { bs := Hs.bs, ns := hns, sub := fun a o x => hk a o (Hs.sub a o x), own := fun p hp => hk _ _ (Hs.own p hp), gL := fun o x => absurd (Heap.lt_size (Hs.sub _ _ x)) (Nat.lt_irrefl _), gmu := Hs.gmu,
        nd := List.nodup_cons.mpr ⟨fun q => by
          obtain ⟨p, hp, eq⟩ := List.mem_map.mp q
          exact absurd (Heap.lt_size (Hs.own p hp)) (by rw [eq]; exact Nat.lt_irrefl _), Hs.nd⟩,
        base := fun a o x _ => hk a o x, le := fun _ _ x => x, new := fun _ _ x => .inl x, aL := Nat.le_refl _, amu := fun p hp => .inl (mem_ads hp), size := Nat.le_of_lt hns.lt }
    refine ((k _ _ ⟨h, G, fp.ads, h.objs.size⟩ ⟨envOK I _ _, Bs, R.deeper⟩).run h₀ g d (t + (ps.zip bs).length) os _ _ (show Mine.St _ _ _ _ (fp ++ []) _ from (List.append_nil fp).symm ▸ S) ?_)
    rintro fl ⟨vs, G', mu⟩ h' t' ⟨ex, nw, fp', h1, h2, h3⟩ Z'
    dsimp only at h1 h3
    subst h1
    replace Z' : Mine.St hB ⟨h, G, fp.ads, h.objs.size⟩ G' (fm (ps ++ rest) vs) (ex ++ (nw ++ fp')) h' := List.append_nil (ex ++ (nw ++ fp')) ▸ (show Mine.St hB _ G' (fm (ps ++ rest) vs) ((ex ++ (nw ++ fp')) ++ []) h' from Z')
    have := ret (retv fl) G' nw fp' h' t' (Z'.toEffN rfl h2 (fun _ _ x => x) rfl) h3
    cases fl <;> exact this
section
variable {c : Cx} {σ : Sg} {mg mb : Str → Option Value} {n : Nat} {K : Value → Sg → Prop}
theorem Do.byContractN {F : Addr} {args : List Value} {ex fp : Led} {P : Value → Gh → Led → Led → Prop} (o : c.Ok mg mb n) (C : CallsN c.w c.hB n F args σ.G fp P) (hmu : σ.mu = ex ++ fp)
    (k : ∀ r G' nw fp', (∀ a o, σ.G a o → G' a o) → P r G' nw fp' → (∀ p ∈ nw, c.e.h₀.objs.size ≤ p.1) → K r ⟨σ.vs, G', nw ++ (ex ++ fp')⟩) : Do c σ (call (.ref F) args) K := ⟨fun h g d t os Q E S q => by
  have S' : Mine.St c.hB c.e σ.G (fm c.ks σ.vs) ((c.hid ++ ex) ++ fp) h := St.perm (show Mine.St c.hB c.e σ.G (fm c.ks σ.vs) (σ.mu ++ c.hid) h from S) (by rw [hmu, List.append_assoc, List.append_assoc]; exact (List.perm_append_comm (l₁ := ex ++ fp) (l₂ := c.hid)).symm.symm |> fun p => by simpa [List.append_assoc] using p)
  refine wpAny_call (C c.A ⟨h, g, d, t, os⟩ _ o.R (St.toHS S') fun r G' nw fp' h' tk' X p => ?_)
  refine q r ⟨σ.vs, G', nw ++ (ex ++ fp')⟩ h' tk' (k r G' nw fp' X.eff.le p fun p hp => Nat.le_trans S.size (X.fresh p hp)) (St.perm (St.afterN S' X) ?_)
  show (nw ++ (c.hid ++ ex ++ fp')).Perm ((nw ++ (ex ++ fp')) ++ c.hid)
  rw [List.append_assoc nw]
  refine List.Perm.append_left nw ?_
  simpa [List.append_assoc] using List.perm_append_comm (l₁ := c.hid) (l₂ := ex ++ fp')⟩
theorem Do.makeN {C fI : Addr} {args : List Value} {k : Nat} {P : Addr → Addr → Gh → Led → Led → Prop} (o : c.Ok mg mb (k + 1)) (hm : madeIn (H.K c.w.params) C fI = true)
    (hc : ∀ x dx, CallsN c.w c.hB k fI (.ref x :: args) (gadd σ.G x (instObj C dx)) [(dx, emptyDict)] (fun r G' nw fp' => r = .none ∧ P x dx G' nw fp'))
    (q : ∀ x dx G' nw od, c.e.h₀.objs.size ≤ dx → (∀ p ∈ nw, c.e.h₀.objs.size ≤ p.1) → (∀ a o, gadd σ.G x (instObj C dx) a o → G' a o) → P x dx G' nw [(dx, od)] → K (.ref x) ⟨σ.vs, G', (dx, od) :: (nw ++ σ.mu)⟩) : Do c σ (call (.ref C) args) K := ⟨fun h g d t os Q E S qq => by
  simp only [madeIn, Bool.and_eq_true, beq_iff_eq] at hm
  obtain ⟨⟨h1, h2⟩, h3⟩ := hm
  have X := o.inK' (g := g) (d := d) (t := t) (os := os) S
  refine wpAny_call (make_core (makes_of X h1) (looks_findIn X h2) (fun self => bind_fn X self h3) (.inl rfl) ?_)
  have S1 := S.pushMu emptyDict rfl
  have S2 := S1.pushG (instObj C h.objs.size) rfl
  rw [Heap.size_push] at S2
  have S3 : Mine.St c.hB c.e (gadd σ.G (h.objs.size + 1) (instObj C h.objs.size)) (fm c.ks σ.vs) ((σ.mu ++ c.hid) ++ [(h.objs.size, emptyDict)]) _ := St.perm S2 (by simpa using List.perm_append_comm (l₁ := [(h.objs.size, emptyDict)]) (l₂ := σ.mu ++ c.hid))
  refine hc (h.objs.size + 1) h.objs.size _ ⟨_, g, d, t, os⟩ _ o.R.make S3.toHS fun r G' nw fp' h' tk' X' p => ?_
  obtain ⟨rfl, p⟩ := p
  refine ⟨rfl, ?_⟩
  have had := X'.eff.adr
  obtain ⟨⟨b, od⟩, rfl⟩ : ∃ p, fp' = [p] := by
    have hl : fp'.length = 1 := by simpa [Led.ads] using congrArg List.length had
    exact List.length_eq_one_iff.mp hl
  obtain rfl : b = h.objs.size := by simpa [Led.ads] using had
  refine qq (.ref (h.objs.size + 1)) ⟨σ.vs, G', (h.objs.size, od) :: (nw ++ σ.mu)⟩ h' tk' (q _ h.objs.size G' nw od S.size (fun p hp => Nat.le_trans S3.size (X'.fresh p hp)) X'.eff.le p) ?_
  refine St.perm (S3.afterN X') ?_
  show (nw ++ ((σ.mu ++ c.hid) ++ [(h.objs.size, od)])).Perm (((h.objs.size, od) :: (nw ++ σ.mu)) ++ c.hid)
  rw [← List.append_assoc]
  refine (List.perm_append_comm (l₁ := nw ++ (σ.mu ++ c.hid)) (l₂ := [(h.objs.size, od)])).trans ?_
  simp [List.append_assoc]⟩
theorem Do.makeG {C fI : Addr} {args : List Value} {k : Nat} {P : Addr → Addr → Gh → Led → Prop} (o : c.Ok mg mb (k + 1)) (hm : madeIn (H.K c.w.params) C fI = true)
    (hc : ∀ x dx, Calls c.w c.hB k fI (.ref x :: args) (gadd σ.G x (instObj C dx)) [(dx, emptyDict)] (fun r G' fp' => r = .none ∧ P x dx G' fp'))
    (q : ∀ x dx G' od, (∀ a o, gadd σ.G x (instObj C dx) a o → G' a o) → P x dx G' [(dx, od)] → K (.ref x) ⟨σ.vs, gadd G' dx od, σ.mu⟩) : Do c σ (call (.ref C) args) K := ⟨fun h g d t os Q E S qq =>
  (Do.make (K := fun v σ' => (E4 fun x dx G' od => A5 (v = .ref x) (σ' = ⟨σ.vs, G', (dx, od) :: σ.mu⟩) (c.e.h₀.objs.size ≤ dx) (∀ a o, gadd σ.G x (instObj C dx) a o → G' a o) (P x dx G' [(dx, od)]))) o hm hc
    (fun x dx G' od h1 h2 h3 => ⟨x, dx, G', od, rfl, rfl, h1, h2, h3⟩)).run h g d t os Q E S fun a σ' h' t' ⟨x, dx, G', od, e1, e2, h1, h2, h3⟩ S' => by
      subst e1 e2
      exact qq _ _ h' t' (q x dx G' od h2 h3) (St.freeze S' h1)⟩
theorem Do.newListS {vs : List Value} (hz : vs.length ≤ sizeLine) (k : ∀ a, c.e.h₀.objs.size ≤ a → K (.ref a) ⟨σ.vs, σ.G, (a, lobj vs) :: σ.mu⟩) : Do c σ (newList vs) K :=
  ⟨fun h _ _ _ _ _ _ S q => wpAny_newObj_type (q _ _ _ _ (k h.objs.size S.size) (St.pushMu S _ rfl)) (by show vs.toArray.size ≤ sizeLine; rw [List.size_toArray]; exact hz)⟩
end
end Mine
end
section
namespace Mine
open PySem PySem.W PyProof.Rows PySem.Calls
section
variable {hB h h' : Heap} {e : Ent} {G G' : Gh} {m m' : Str → Option Value} {mu fp fp' ex nw : Led} {o o' : Obj} {a : Addr}
theorem St.newsAll (S : St hB e G m mu h) : News h00 e.L h (allBut h e.L e.L) := fun p hp => ⟨(mem_allBut.mp hp).1, (mem_allBut.mp hp).2.2, h00_get _⟩
theorem St.kept (S : St hB e G m mu h) (hn : h'.Ns e.L m) (hk : ∀ b x, b ≠ e.L → h.get? b = some x → h'.get? b = some x) : St hB e G m mu h' :=
  { S with ns := hn, sub := fun b x g => hk b x (fun q => S.gL x (q ▸ g)) (S.sub b x g), own := fun p hp => hk _ _ (S.neL hp) (S.own p hp)
           base := fun b x g n => hk b x (fun q => by have := Heap.lt_size g; rw [q] at this; exact absurd this (Nat.not_lt.mpr S.aL)) (S.base b x g n), size := Nat.le_of_lt (Nat.lt_of_le_of_lt S.aL hn.lt) }
theorem St.addG (S : St hB e G m mu h) (k : Nat) (ha : h.get? a = some o) (hk : k ≤ a) (h0 : e.h₀.objs.size ≤ k) (old : ∀ b x, G b x → b < k) (ol : e.L < k) (om : ∀ p ∈ mu, p.1 < k) : St hB e (gadd G a o) m mu h :=
  { S with
    bs := fun b x g => .inl (S.bs b x g)
    sub := fun b x g => by
      rcases g with g | ⟨rfl, rfl⟩
      · exact S.sub b x g
      · exact ha
    gL := fun x g => by
      rcases g with g | ⟨q, _⟩
      · exact S.gL x g
      · exact absurd (q ▸ ol) (Nat.not_lt.mpr hk)
    gmu := fun p hp x g => by
      rcases g with g | ⟨q, _⟩
      · exact S.gmu p hp x g
      · have := om p hp; rw [q] at this; exact absurd this (Nat.not_lt.mpr hk)
    le := fun b x g => .inl (S.le b x g)
    new := fun b x g => by
      rcases g with g | ⟨rfl, rfl⟩
      · exact S.new b x g
      · exact .inr (Nat.le_trans h0 hk) }
theorem St.madeG (S : St hB e G m mu h) (F : Fr h00 e.L h' m) (N : News h00 e.L h' ((a, o) :: allBut h e.L e.L)) (ha : h.objs.size ≤ a) : St hB e (gadd G a o) m mu h' := by
  have S' := S.kept F.ns fun b x hb hx => (N (b, x) (.tail _ (mem_allBut.mpr ⟨hx, hb, hb⟩))).1
  exact S'.addG h.objs.size (N _ (.head _)).1 ha S.size (fun b x g => Heap.lt_size (S.sub b x g)) S.ltL fun p hp => Heap.lt_size (S.own p hp)
theorem St.madeMu (S : St hB e G m mu h) (F : Fr h00 e.L h' m) (N : News h00 e.L h' ((a, o) :: allBut h e.L e.L)) (ha : h.objs.size ≤ a) : St hB e G m ((a, o) :: mu) h' := by
  have S' := S.kept F.ns fun b x hb hx => (N (b, x) (.tail _ (mem_allBut.mpr ⟨hx, hb, hb⟩))).1
  have := S'.addMu (nw := [(a, o)]) (fun p hp => by rw [List.mem_singleton.mp hp]; exact (N _ (.head _)).1) (fun p hp x g => by
    rw [List.mem_singleton.mp hp] at g
    exact absurd (Heap.lt_size (S.sub _ _ g)) (Nat.not_lt.mpr ha)) (by simp [Led.ads]) h.objs.size S.size (fun p hp => by rw [List.mem_singleton.mp hp]; exact ha) fun b hb => by
      rcases List.mem_cons.mp hb with rfl | hb
      · exact S.ltL
      · obtain ⟨p, hp, rfl⟩ := List.mem_map.mp hb
        exact Heap.lt_size (S.own p hp)
  exact this
end
theorem units1 {c : Cx} {mg mb : Str → Option Value} {k : Nat} (ok : c.Ok mg mb (k + 1)) : c.A.units < cLine := by have := ok.R.units; lia
section
variable {c : Cx} {σ : Sg} {mg mb : Str → Option Value} {k : Nat} {a b : Addr} {vs ws : List Value} {n n' : Nat} {x v : Value} {ex fp : Led} {K : Value → Sg → Prop}
theorem Do.addT (hx : σ.has a (tobj vs n)) (hy : σ.has b (tobj ws n')) (h1 : vs ≠ []) (h2 : ws ≠ []) (hz : vs.length + ws.length ≤ 1000000) (q : ∀ r, K (.ref r) ⟨σ.vs, gadd σ.G r (tobj (vs ++ ws)), σ.mu⟩) : Do c σ (binaryOp .Add (.ref a) (.ref b)) K :=
  ⟨fun h g d t os Q E S qq => by
    refine add_tuples (h₀ := h00) (L := c.e.L) (m := fm c.ks σ.vs) (news := allBut h c.e.L c.e.L) (St.fr S) (St.newsAll S) (S.tup hx) (S.tup hy) (fun e => absurd e h1) (fun _ e => absurd e h2) (fun _ _ h' F' N' => ?_) (by rw [sizeLine_eq]; lia)
    exact qq _ _ h' t (q _) (St.madeG S F' N' (Nat.le_refl _))⟩
theorem Do.isInt {i : Int} {t : Tok} (q : K (.bool true) σ) : Do c σ (call (.builtin "isinstance") [.int i t, .type "int"]) K :=
  ⟨fun h g d tk os Q E S qq => IsiPair.int_int (qq _ _ h tk q S)⟩
theorem Do.isBool {i : Int} {t : Tok} (q : K (.bool false) σ) : Do c σ (call (.builtin "isinstance") [.int i t, .type "bool"]) K :=
  ⟨fun h g d tk os Q E S qq => IsiPair.int_bool (qq _ _ h _ q S)⟩
theorem Do.abs {i : Int} {t : Tok} (q : ∀ t, K (.int (if i < 0 then -i else i) t) σ) : Do c σ (call (.builtin "abs") [.int i t]) K :=
  ⟨fun h g d tk os Q E S qq => call_abs_int fun u tk' => qq _ _ h tk' (q u) S⟩
theorem Do.slice {lower upper : Option Expr} {p : Pos} (y : Do c σ (evalPart lower c.env) fun l σ₁ => Do c σ₁ (evalPart upper c.env) fun u σ₂ => ∀ r, K (.ref r) ⟨σ₂.vs, gadd σ₂.G r { cls := .type "slice", data := .fields #[l, u, .none] }, σ₂.mu⟩) : Do c σ (eval (.Slice lower upper none p) c.env) K :=
  ⟨fun h g d t os Q E S qq => wpAny_Slice (y.run h g d t os _ E S fun l σ₁ h₁ t₁ z S₁ => z.run h₁ g d t₁ os _ E S₁ fun u σ₂ h₂ t₂ z₂ S₂ => by
    rw [evalPart_none]
    exact wpAny_pure (qq _ _ _ t₂ (z₂ h₂.objs.size) (St.pushG S₂ _ rfl)))⟩
theorem Do.part_none {σ : Sg} (q : K .none σ) : Do c σ (evalPart none c.env) K := by rw [evalPart_none]; exact Do.pure q
theorem Do.part_some {σ : Sg} {e : Expr} (q : Do c σ (eval e c.env) K) : Do c σ (evalPart (some e) c.env) K := by rw [evalPart_some]; exact q
theorem Cx.St.slc {h : Heap} {r : Addr} {l u : Value} {σ : Sg} (S : c.St σ h) (hr : σ.has r { cls := .type "slice", data := .fields #[l, u, .none] }) : h.IsSliceOf r l u .none := ⟨_, S.has hr, rfl, rfl⟩
theorem Do.sliceUpto {value slice : Expr} {r : Addr} {i : Nat} {t : Tok} (hx : σ.has a (lobj vs n)) (hr : σ.has r { cls := .type "slice", data := .fields #[.none, .int i t, .none] }) (hz : vs.length ≤ 1000000)
    (q : ∀ r', c.e.h₀.objs.size ≤ r' → K (.ref r') ⟨σ.vs, σ.G, (r', lobj (vs.take i)) :: σ.mu⟩)
    (hs : subscripted slice false (.ref a) (.ref r) = PySem.operate [.ref r, .ref a] (getItem (.ref a) (.ref r)) := by with_unfolding_all rfl)
    (ht : ∀ r, letTemporaryGo value (.ref a) r = Pure.pure () := by intro _; with_unfolding_all rfl) : Do c σ (subscriptTail value slice (.ref a) (.ref r)) K :=
  ⟨fun h g d tk os Q E S qq => by
    refine subscriptTail_ops (Heap.IsList.typeIs (s := ⟨h, g, d, tk, os⟩) (S.lst hx)) list_getitem_lookup
      (wpAny_getItem_list_slice (S.lst hx) (S.slc hr) .none (.int i t) .none (by simp) ?_ (by rw [List.size_toArray, sizeLine_eq]; lia)) hs ht
    rw [slicePick_upto' vs.toArray i]
    have e : vs.toArray.toList.take i = vs.take i := by simp
    rw [e]
    exact qq _ _ _ tk (q h.objs.size S.size) (St.pushMu S _ rfl)⟩
theorem Do.sliceFrom {value slice : Expr} {r : Addr} {i : Nat} {t : Tok} (hx : σ.has a (tobj vs n)) (hr : σ.has r { cls := .type "slice", data := .fields #[.int i t, .none, .none] }) (h1 : 1 ≤ i) (h2 : i ≤ vs.length) (hz : vs.length ≤ 1000000)
    (q : ∀ r', K (.ref r') ⟨σ.vs, gadd σ.G r' (tobj (vs.drop i)), σ.mu⟩)
    (hs : subscripted slice false (.ref a) (.ref r) = PySem.operate [.ref r, .ref a] (getItem (.ref a) (.ref r)) := by with_unfolding_all rfl)
    (ht : ∀ r, letTemporaryGo value (.ref a) r = Pure.pure () := by intro _; with_unfolding_all rfl) : Do c σ (subscriptTail value slice (.ref a) (.ref r)) K :=
  ⟨fun h g d tk os Q E S qq => by
    refine subscriptTail_ops (s := ⟨h, g, d, tk, os⟩) (S.tup hx).typeIs slot_tuple_getitem.lookup
      (getItem_tuple_from (S.tup hx) (S.slc hr) h1 (by rw [List.size_toArray]; exact h2) ?_ (by rw [List.size_toArray, sizeLine_eq]; lia)) hs ht
    have e : vs.toArray.toList.drop i = vs.drop i := by simp
    rw [e]
    exact qq _ _ _ tk (q h.objs.size) (St.pushG S _ rfl)⟩
theorem eqL_true {A : Around} {s : Shared} (h : All2 (fun x y => eqB x y = some true) vs ws) : ∀ j (h1 : j < vs.toArray.size) (h2 : j < ws.toArray.size), SeqAt.EqAt A s vs.toArray[j] ws.toArray[j] true := fun j h1 h2 => by
  have h1' : j < vs.length := by simpa using h1
  have h2' : j < ws.length := by simpa using h2
  obtain ⟨y, hy, e⟩ := h.get (List.getElem?_eq_getElem h1')
  rw [List.getElem?_eq_getElem h2'] at hy
  cases hy
  simpa using eqB_at e
theorem Do.neL_same (ok : c.Ok mg mb (k + 1)) (hx : σ.has a (lobj vs n)) (hy : σ.has b (lobj ws n')) (h : All2 (fun x y => eqB x y = some true) vs ws) (q : K (.bool false) σ) : Do c σ (compareOp .NotEq (.ref a) (.ref b)) K :=
  ⟨fun hh g d t os Q E S qq => by
    refine SeqAt.RcNeAt.lists (e := fun _ => true) (S.lst hx) (S.lst hy) (by rw [List.size_toArray, List.size_toArray]; exact h.length) (units1 ok) (eqL_true h) _ _ E Q ?_
    have : (!(List.range vs.toArray.size).all fun _ => true) = false := by simp
    rw [this]
    exact qq _ _ hh t q S⟩
theorem Do.neL_len (ok : c.Ok mg mb (k + 1)) (hx : σ.has a (lobj vs n)) (hy : σ.has b (lobj ws n')) (h : vs.length ≠ ws.length) (q : K (.bool true) σ) : Do c σ (compareOp .NotEq (.ref a) (.ref b)) K :=
  ⟨fun hh g d t os Q E S qq => SeqAt.RcNeAt.lists_lengths (S.lst hx) (S.lst hy) (by rw [List.size_toArray, List.size_toArray, bne_iff_ne]; exact h) (units1 ok) _ _ E Q (qq _ _ hh t q S)⟩
theorem Do.sortedS {ss : List Str} (hx : σ.has a (lobj vs n)) (hS : StrsAre vs ss) (h64 : vs.length < 64)
    (q : ∀ r vs' ss' e, StrsAre vs' ss' → ss'.Perm ss → PyProof.Rows.sortedS ss' = true → K (.ref r) ⟨σ.vs, gadd σ.G r (lobj vs' e), σ.mu⟩) : Do c σ (call (.builtin "sorted") [.ref a]) K :=
  ⟨fun h g d t os Q E S qq => by
    refine sorted_N_str (h₀ := h00) (L := c.e.L) (m := fm c.ks σ.vs) (news := allBut h c.e.L c.e.L) (St.fr S) (St.newsAll S) (S.lst hx) hS h64 fun h' vs' ss' e F' N' a1 a2 a3 => ?_
    exact qq _ _ h' t (q _ vs' ss' e a1 a2 a3) (St.madeG S F' N' (Nat.le_succ _))⟩
theorem Do.mulL {i : Int} {t : Tok} (hx : σ.has a (lobj [v] n)) (h0 : 0 ≤ i) (hi : i ≤ 1000000) (q : ∀ r, c.e.h₀.objs.size ≤ r → K (.ref r) ⟨σ.vs, σ.G, (r, lobj (List.replicate i.toNat v)) :: σ.mu⟩) : Do c σ (binaryOp .Mult (.ref a) (.int i t)) K :=
  ⟨fun h g d tk os Q E S qq => by
    refine mul_list (h₀ := h00) (L := c.e.L) (m := fm c.ks σ.vs) (news := allBut h c.e.L c.e.L) (St.fr S) (St.newsAll S) (items := [v].toArray) (S.has hx) (by lia) (by lia) (by simp; lia) fun h' F' N' => ?_
    have e : (List.foldl (fun x1 x2 => x1 ++ x2) #[] (List.replicate (if ([v].toArray).isEmpty = true then 0 else i.toNat) [v].toArray) : Array Value) = (List.replicate i.toNat v).toArray := by
      have e1 : (([v].toArray).isEmpty = true) = False := by simp
      rw [if_neg (by rw [e1]; exact id)]
      have : ∀ (n : Nat) (acc : Array Value), List.foldl (fun x1 x2 => x1 ++ x2) acc (List.replicate n [v].toArray) = acc ++ (List.replicate n v).toArray := by
        intro n
        induction n with
        | zero => intro acc; simp
        | succ n ih => intro acc; rw [List.replicate_succ, List.foldl_cons, ih, List.replicate_succ]; simp only [← Array.toList_inj, Array.toList_append]; simp
      rw [this]; simp
    rw [e] at N'
    exact qq _ _ h' tk (q _ S.size) (St.madeMu S F' N' (Nat.le_refl _))⟩
theorem Do.setL {i : Int} {t : Tok} {P : Unit → Sg → Prop} (hmu : σ.mu = ex ++ (a, lobj vs n) :: fp) (h0 : 0 ≤ i) (h1 : i < vs.length) (hz : vs.length ≤ 1000000) (q : P () ⟨σ.vs, σ.G, ex ++ (a, lobj (vs.set i.toNat v) n) :: fp⟩) : Do c σ (setItem (.ref a) (.int i t) v) P :=
  ⟨fun h g d tk os Q E S qq => by
    have S' := S.mid hmu
    have hl : h.IsList a vs.toArray := S.lst (.inr (hmu ▸ List.mem_append_right _ (.head _)))
    have L : IsL h a vs.toArray n := S'.own (a, lobj vs n) (List.mem_append_right _ (.head _))
    have hT : (Shared.mk h g d tk os).TypeIs (.ref a) "list" := hl.typeIs
    unfold setItem
    try with_reducible refine wpAny_holding ?_
    first | refine wpAny_bind (wpAny_pure ?_) | skip
    refine wpAny_bind (wpAny_sequenceKey hT (by decide) ?_)
    refine wpAny_bind (wpAny_callSpecial?_slot (name := Str.ofString "__setitem__") hT slot_list_setitem
      (wpAny_call_entry slot_list_setitem hT entry_list_setitem ?_ (args_list_setitem _ _ _)))
    show wpAny _ _ (Builtin.List.listSubscript? (.int i t) >>= _) _ _ _
    refine wpAny_bind (wpAny_listSubscript_int (fitsIndex_of h0 (by lia)) ?_)
    obtain ⟨j, rfl⟩ := Int.eq_ofNat_of_zero_le h0
    have hj : j < vs.toArray.size := by rw [List.size_toArray]; lia
    have hx' : vs.toArray[j]? = some vs.toArray[j] := Array.getElem?_eq_getElem hj
    show wpAny _ _ ((seqItemAt a j >>= fun r => Pure.pure (r.map (j, ·))) >>= _) _ _ _
    refine wpAny_bind (wpAny_bind (wpAny_seqItemAt L rfl (wpAny_pure ?_)))
    rw [hx']
    show wpAny _ _ (setSeqItemAt a j v >>= _) _ _ _
    refine wpAny_bind (wpAny_setSeqItemAt L rfl ?_)
    have fin : Q () ⟨h.update a (Obj.mapSeq (·.setIfInBounds j v)), g, d, tk, os⟩ := by
      refine qq _ _ _ tk q (Cx.St.unmid (St.same S' (Heap.SameBut.update ..) ?_))
      have := L.update (·.setIfInBounds j v)
      rw [this]
      simp [lobj]
    first
      | exact wpAny_bind (wpAny_pure (wpAny_pure ⟨.none, rfl, wpAny_pure fin⟩))
      | exact wpAny_pure ⟨.none, rfl, wpAny_pure fin⟩⟩
end
section
variable {c : Cx} {σ : Sg} {mg mb : Str → Option Value} {k : Nat} {a d : Addr} {o : Obj} {K : Value → Sg → Prop} {T : Type} [DecidableEq T] {knd : KeyKind H.rw_.prog c.w T} {kvs : List (T × Value)}
theorem Do.dictCopy (ok : c.Ok mg mb k) (hx : (d, o) ∈ σ.mu) (hd : o.IsDictOf knd kvs) (hz : kvs.length ≤ 1000000) (q : ∀ r o', c.e.h₀.objs.size ≤ r → o'.IsDictOf knd kvs → K (.ref r) ⟨σ.vs, σ.G, (r, o') :: σ.mu⟩) : Do c σ (call (.type "dict") [.ref d]) K :=
  ⟨fun h g dr t os Q E S qq => kt_call_dict (ok.low S hx) (S.dct (.inr hx) hd) (by rw [sizeLine_eq]; lia) fun h' hD hs => by
    obtain ⟨o', ho', hdo⟩ := Heap.dictOf_iff.mp hD
    have S1 := St.pushMu S { cls := .type "dict", data := .dict #[] } rfl
    exact qq _ _ h' t (q _ o' S.size hdo) (St.same (ex := []) S1 hs ho')⟩
theorem Do.lenD (ok : c.Ok mg mb k) (hx : (d, o) ∈ σ.mu) (hd : o.IsDictOf knd kvs) (hz : kvs.length ≤ 1000000) (q : ∀ t, K (.int kvs.length t) σ) : Do c σ (call (.builtin "len") [.ref d]) K :=
  ⟨fun h g dr t os Q E S qq => call_len_dict (ok.low S hx) (S.dct (.inr hx) hd) (by lia) (qq _ _ h _ (q _) S)⟩
end
section
variable {c : Cx} {σ : Sg} {mg mb : Str → Option Value} {k : Nat} {d : Addr} {o : Obj} {K : Value → Sg → Prop}
noncomputable abbrev iKd (w : World) : KeyKind H.rw_.prog w Int := intKind H.rw_.prog w
theorem Do.maxD {kvs : List (Int × Value)} (ok : c.Ok mg mb k) (hx : (d, o) ∈ σ.mu) (hd : o.IsDictOf (iKd c.w) kvs) (hk : kvs.map (·.1) = (List.range kvs.length).map (fun (i : Nat) => (i : Int))) (h0 : 0 < kvs.length) (q : ∀ t, K (.int (kvs.length - 1 : Nat) t) σ) : Do c σ (call (.builtin "max") [.ref d]) K :=
  ⟨fun h g dr tk os Q E S qq => by
    obtain ⟨es, ep, r⟩ := id hd
    have ha : h.get? d = some o := S.has (.inr hx)
    have hD : h.DictAt (iKd c.w) d kvs ep := ⟨o, es, ha, r⟩
    refine PySem.call_max_walk ?_
    refine wpAny_pyIter_dict (ok.low S hx) hD ?_
    have W := Walks.dictKeys (prog := H.rw_.prog) (w := c.w) (A := c.A.in1) (knd := iKd c.w) ok.R.handled h.objs.size d (Nat.ne_of_lt (Heap.lt_size ha)) kvs ep
    have hval : ∀ (i : Nat) v, (∃ kk x, kvs[i]? = some (kk, x) ∧ (iKd c.w).is kk v = true) → ∃ t, v = .int ((fun (i : Nat) => (i : Int)) i) t := fun i v ⟨kk, x, h1, h2⟩ => by
      have e1 : (kvs.map (·.1))[i]? = some kk := by rw [List.getElem?_map, h1]; rfl
      rw [hk, List.getElem?_map] at e1
      obtain ⟨j, hj, rfl⟩ := Option.map_eq_some_iff.mp e1
      obtain ⟨hj1, hj2⟩ := List.getElem?_eq_some_iff.mp hj
      rw [List.getElem_range] at hj2
      subst hj2
      exact Value.isInt_shape h2
    refine ⟨_, _, _, _, _, _, _, rfl, W, ⟨⟨_, Heap.get?_push_size _ rfl, rfl, rfl⟩, ⟨o, es, Heap.get?_push_of_some _ ha, r⟩⟩, ?_, h0, CmpOf.ints_gt (fun i => (i : Int)) hval, fun v h' tk' hP hk' => ?_⟩
    · intro b hb
      show b < (h.push _).objs.size
      rw [Heap.size_push]
      rcases List.mem_cons.mp hb with rfl | hb
      · exact Nat.lt_succ_self _
      · rw [List.mem_singleton.mp hb]; exact Nat.lt_succ_of_lt (Heap.lt_size ha)
    · have best : ∀ n, argBest (fun i j => decide ((i : Int) > (j : Int))) n = n := by
        intro n
        induction n with
        | zero => rfl
        | succ n ih => unfold argBest; rw [ih, if_pos (decide_eq_true (show ((n : Nat) : Int) < ((n + 1 : Nat) : Int) by lia))]
      rw [best] at hP
      obtain ⟨t, rfl⟩ := hval _ _ hP
      exact qq _ _ h' tk' (q t) (St.grown S fun b x hb => hk' b x (by simpa using Nat.ne_of_lt (Heap.lt_size hb)) (Heap.get?_push_of_some _ hb))⟩
end
end Mine
end
section
namespace Mine
open PySem PySem.W PyProof.Rows PySem.Calls H
noncomputable def fnOkB (sc : Scope) (ps rest gs : List Str) : Bool := decide (sc.kind = .function) && (!sc.isGenerator && (!sc.isCoroutine && ((sc.names.all fun x => x.2 != .cell) && (((ps ++ rest).all fun x => sc.names.lookup x == some .local && x != "__debug__") && ((gs.all fun x => sc.names.lookup x == some .globalImplicit && x != "__debug__") && decide ((ps ++ rest).Nodup))))))
theorem fnOk {d : DF} {ps rest gs : List Str} {nm ql : Str} {dv kv doc pm code ct : Value} (h : fnOkB d.2.2 ps rest gs = true) : FnOk (mkF d nm ql mainGlobals dv kv doc pm code ct builtinsNs) ps rest gs d.2.1 := by
  obtain ⟨h1, h⟩ := Bool.and_eq_true_iff.mp h
  obtain ⟨h2, h⟩ := Bool.and_eq_true_iff.mp h
  obtain ⟨h3, h⟩ := Bool.and_eq_true_iff.mp h
  obtain ⟨h4, h⟩ := Bool.and_eq_true_iff.mp h
  obtain ⟨h5, h⟩ := Bool.and_eq_true_iff.mp h
  obtain ⟨h6, h7⟩ := Bool.and_eq_true_iff.mp h
  exact ⟨rfl, of_decide_eq_true h1, by simpa [mkF] using h2, by simpa [mkF] using h3, h4, h5, h6, h7, rfl, rfl⟩
noncomputable abbrev StK (w : World) (hB : Heap) (mg mb : Str → Option Value) (n : Nat) (ks gs : List Str) (vs : List (Option Value)) (G : Gh) (fp : Led) (body : List Stmt) (P : Value → Gh → Led → Prop) : Prop :=
  ∀ A env e, let cx : Cx := ⟨w, hB, A, env, e, ks, gs, []⟩; cx.Ok mg mb n → ∀ KK : Flow → Sg → Prop, (∀ {fl σ'}, Left fp P fl σ' → KK fl σ') → Do cx ⟨vs, G, fp⟩ (execs body cx.env) KK
theorem stK {w : World} {hB : Heap} {mg mb : Str → Option Value} {n : Nat} {ks gs : List Str} {vs : List (Option Value)} {G : Gh} {fp : Led} {body : List Stmt} {P : Value → Gh → Led → Prop} (k : StK w hB mg mb n ks gs vs G fp body P) :
    ∀ A env e, (⟨w, hB, A, env, e, ks, gs, []⟩ : Cx).Ok mg mb n → Do ⟨w, hB, A, env, e, ks, gs, []⟩ ⟨vs, G, fp⟩ (execs body env) (Left fp P) := fun A env e o => k A env e o _ fun h => h
noncomputable def fdO (o : PySem.Obj) : FuncData := match o.data with
  | .func f => f
  | _ => mkF default (S "") (S "") 0 .none .none .none .none .none .none 0
section
variable {w : World} {hB : Heap} {mg mb : Str → Option Value} {n : Nat} {G : Gh} {fp : Led} {P : Value → Gh → Led → Prop}
theorem enS {N : Addr} {args bs : List Value} {fo : PySem.Obj} {fd : FuncData} {ps rest gs : List Str} {body : List Stmt} (B : Base w hB mg mb) (I : FnOk fd ps rest gs body) (k : StK w hB mg mb n (ps ++ rest) gs (bs.map some ++ List.replicate rest.length none) G fp body P) (hF : (H.K w.params).lookup N = some fo := by kernel_rfl)
    (hd : fo.data = .func fd := by rfl) (hcd : codeIn (H.K w.params) fd.code fd.qualname = true := by kernel_rfl) (hb : bindArgs fd ⟨args, []⟩ = pure (ps.zip bs) := by kernel_rfl) (hl : ps.length = bs.length := by rfl) : Calls w hB (n + 1) N args G fp P :=
  enterD (fo := fo) (fd := fd) (bs := bs) B hF hd I hcd (fun _ _ _ _ _ _ => BindsTo.of_eq hb) hl (stK k)
noncomputable def fd28 : FuncData := fdO o28
theorem ok28 : FnOk fd28 [S "self", S "rows", S "inputs", S "outputs"] [] [] (dM 2 0).2.1 := fnOk (d := dM 2 0) (by kernel_rfl)
theorem start28 (B : Base w hB mg mb) (a0 a1 a2 a3 : Value) (k : StK w hB mg mb n [S "self", S "rows", S "inputs", S "outputs"] [] [some a0, some a1, some a2, some a3] G fp (dM 2 0).2.1 P) :
    Calls w hB (n + 1) 28 [a0, a1, a2, a3] G fp P := enS (fo := o28) (bs := [a0, a1, a2, a3]) B ok28 k
noncomputable def fd49 : FuncData := fdO o49
theorem ok49 : FnOk fd49 [S "self"] [] [] (dM 3 0).2.1 := fnOk (d := dM 3 0) (by kernel_rfl)
noncomputable def fd56 : FuncData := fdO o56
theorem ok56 : FnOk fd56 [S "self", S "op", S "x", S "y"] [S "register"] [] (dM 3 1).2.1 := fnOk (d := dM 3 1) (by kernel_rfl)
theorem start56 (B : Base w hB mg mb) (a0 a1 a2 a3 : Value) (k : StK w hB mg mb n [S "self", S "op", S "x", S "y", S "register"] [] [some a0, some a1, some a2, some a3, none] G fp (dM 3 1).2.1 P) :
    Calls w hB (n + 1) 56 [a0, a1, a2, a3] G fp P := enS (fo := o56) (bs := [a0, a1, a2, a3]) B ok56 k
noncomputable def fd63 : FuncData := fdO o63
theorem ok63 : FnOk fd63 [S "self", S "n"] [] [] (dM 3 2).2.1 := fnOk (d := dM 3 2) (by kernel_rfl)
theorem start63 (B : Base w hB mg mb) (a0 a1 : Value) (k : StK w hB mg mb n [S "self", S "n"] [] [some a0, some a1] G fp (dM 3 2).2.1 P) :
    Calls w hB (n + 1) 63 [a0, a1] G fp P := enS (fo := o63) (bs := [a0, a1]) B ok63 k
noncomputable def fd70 : FuncData := fdO o70
theorem ok70 : FnOk fd70 [S "self", S "obj"] [S "key"] [S "variable_key", S "len"] (dM 3 3).2.1 := fnOk (d := dM 3 3) (by kernel_rfl)
theorem start70 (B : Base w hB mg mb) (a0 a1 : Value) (k : StK w hB mg mb n [S "self", S "obj", S "key"] [S "variable_key", S "len"] [some a0, some a1, none] G fp (dM 3 3).2.1 P) :
    Calls w hB (n + 1) 70 [a0, a1] G fp P := enS (fo := o70) (bs := [a0, a1]) B ok70 k
noncomputable def fd75 : FuncData := fdO o75
theorem ok75 : FnOk fd75 [S "self", S "obj", S "register"] [S "key"] [S "variable_key"] (dM 3 4).2.1 := fnOk (d := dM 3 4) (by kernel_rfl)
theorem start75 (B : Base w hB mg mb) (a0 a1 a2 : Value) (k : StK w hB mg mb n [S "self", S "obj", S "register", S "key"] [S "variable_key"] [some a0, some a1, some a2, none] G fp (dM 3 4).2.1 P) :
    Calls w hB (n + 1) 75 [a0, a1, a2] G fp P := enS (fo := o75) (bs := [a0, a1, a2]) B ok75 k
noncomputable def fd89 : FuncData := fdO o89
theorem ok89 : FnOk fd89 [S "obj"] [] [S "str"] (dF 4).2.1 := fnOk (d := dF 4) (by kernel_rfl)
theorem start89 (B : Base w hB mg mb) (a0 : Value) (k : StK w hB mg mb n [S "obj"] [S "str"] [some a0] G fp (dF 4).2.1 P) :
    Calls w hB (n + 1) 89 [a0] G fp P := enS (fo := o89) (bs := [a0]) B ok89 k
noncomputable def fd96 : FuncData := fdO o96
theorem ok96 : FnOk fd96 [S "t"] [] [] (dF 5).2.1 := fnOk (d := dF 5) (by kernel_rfl)
theorem start96 (B : Base w hB mg mb) (a0 : Value) (k : StK w hB mg mb n [S "t"] [] [some a0] G fp (dF 5).2.1 P) :
    Calls w hB (n + 1) 96 [a0] G fp P := enS (fo := o96) (bs := [a0]) B ok96 k
noncomputable def fd103 : FuncData := fdO o103
theorem ok103 : FnOk fd103 [S "node"] [] [S "is_word"] (dF 6).2.1 := fnOk (d := dF 6) (by kernel_rfl)
theorem start103 (B : Base w hB mg mb) (a0 : Value) (k : StK w hB mg mb n [S "node"] [S "is_word"] [some a0] G fp (dF 6).2.1 P) :
    Calls w hB (n + 1) 103 [a0] G fp P := enS (fo := o103) (bs := [a0]) B ok103 k
noncomputable def fd110 : FuncData := fdO o110
theorem ok110 : FnOk fd110 [S "op"] [S "rows"] [] (dF 7).2.1 := fnOk (d := dF 7) (by kernel_rfl)
theorem start110 (B : Base w hB mg mb) (a0 : Value) (k : StK w hB mg mb n [S "op", S "rows"] [] [some a0, none] G fp (dF 7).2.1 P) :
    Calls w hB (n + 1) 110 [a0] G fp P := enS (fo := o110) (bs := [a0]) B ok110 k
noncomputable def fd117 : FuncData := fdO o117
theorem ok117 : FnOk fd117 [S "maker", S "register"] [] [] (dF 8).2.1 := fnOk (d := dF 8) (by kernel_rfl)
theorem start117 (B : Base w hB mg mb) (a0 a1 : Value) (k : StK w hB mg mb n [S "maker", S "register"] [] [some a0, some a1] G fp (dF 8).2.1 P) :
    Calls w hB (n + 1) 117 [a0, a1] G fp P := enS (fo := o117) (bs := [a0, a1]) B ok117 k
noncomputable def fd124 : FuncData := fdO o124
theorem ok124 : FnOk fd124 [S "maker", S "node", S "x", S "y"] [S "name", S "exchanged", S "opposite", S "found"] [S "relation_row", S "turned"] (dF 9).2.1 := fnOk (d := dF 9) (by kernel_rfl)
theorem start124 (B : Base w hB mg mb) (a0 a1 a2 a3 : Value) (k : StK w hB mg mb n [S "maker", S "node", S "x", S "y", S "name", S "exchanged", S "opposite", S "found"] [S "relation_row", S "turned"] [some a0, some a1, some a2, some a3, none, none, none, none] G fp (dF 9).2.1 P) :
    Calls w hB (n + 1) 124 [a0, a1, a2, a3] G fp P := enS (fo := o124) (bs := [a0, a1, a2, a3]) B ok124 k
noncomputable def fd131 : FuncData := fdO o131
theorem ok131 : FnOk fd131 [S "maker", S "x", S "y"] [S "away"] [S "FULL"] (dF 10).2.1 := fnOk (d := dF 10) (by kernel_rfl)
theorem start131 (B : Base w hB mg mb) (a0 a1 a2 : Value) (k : StK w hB mg mb n [S "maker", S "x", S "y", S "away"] [S "FULL"] [some a0, some a1, some a2, none] G fp (dF 10).2.1 P) :
    Calls w hB (n + 1) 131 [a0, a1, a2] G fp P := enS (fo := o131) (bs := [a0, a1, a2]) B ok131 k
noncomputable def fd138 : FuncData := fdO o138
theorem ok138 : FnOk fd138 [S "maker", S "node", S "x", S "y"] [S "op", S "names"] [S "FULL", S "lowered_subset", S "lowered_relation"] (dF 11).2.1 := fnOk (d := dF 11) (by kernel_rfl)
theorem start138 (B : Base w hB mg mb) (a0 a1 a2 a3 : Value) (k : StK w hB mg mb n [S "maker", S "node", S "x", S "y", S "op", S "names"] [S "FULL", S "lowered_subset", S "lowered_relation"] [some a0, some a1, some a2, some a3, none, none] G fp (dF 11).2.1 P) :
    Calls w hB (n + 1) 138 [a0, a1, a2, a3] G fp P := enS (fo := o138) (bs := [a0, a1, a2, a3]) B ok138 k
noncomputable def fd145 : FuncData := fdO o145
theorem ok145 : FnOk fd145 [S "maker", S "x"] [S "sign"] [] (dF 12).2.1 := fnOk (d := dF 12) (by kernel_rfl)
theorem start145 (B : Base w hB mg mb) (a0 a1 : Value) (k : StK w hB mg mb n [S "maker", S "x", S "sign"] [] [some a0, some a1, none] G fp (dF 12).2.1 P) :
    Calls w hB (n + 1) 145 [a0, a1] G fp P := enS (fo := o145) (bs := [a0, a1]) B ok145 k
noncomputable def fd152 : FuncData := fdO o152
theorem ok152 : FnOk fd152 [S "maker", S "t", S "x"] [] [] (dF 13).2.1 := fnOk (d := dF 13) (by kernel_rfl)
theorem start152 (B : Base w hB mg mb) (a0 a1 a2 : Value) (k : StK w hB mg mb n [S "maker", S "t", S "x"] [] [some a0, some a1, some a2] G fp (dF 13).2.1 P) :
    Calls w hB (n + 1) 152 [a0, a1, a2] G fp P := enS (fo := o152) (bs := [a0, a1, a2]) B ok152 k
noncomputable def fd164 : FuncData := fdO o164
theorem ok164 : FnOk fd164 [S "maker", S "node"] [S "total", S "kid", S "element"] [S "lowered"] (dF 15).2.1 := fnOk (d := dF 15) (by kernel_rfl)
theorem start164 (B : Base w hB mg mb) (a0 a1 : Value) (k : StK w hB mg mb n [S "maker", S "node", S "total", S "kid", S "element"] [S "lowered"] [some a0, some a1, none, none, none] G fp (dF 15).2.1 P) :
    Calls w hB (n + 1) 164 [a0, a1] G fp P := enS (fo := o164) (bs := [a0, a1]) B ok164 k
noncomputable def fd171 : FuncData := fdO o171
theorem ok171 : FnOk fd171 [S "maker", S "node"] [S "op", S "found", S "kid"] [S "is_word", S "is_plain_variable", S "lowered_std", S "lowered_set", S "len", S "lowered", S "turned", S "FULL", S "lowered_pair"] (dF 16).2.1 := fnOk (d := dF 16) (by kernel_rfl)
theorem start171 (B : Base w hB mg mb) (a0 a1 : Value) (k : StK w hB mg mb n [S "maker", S "node", S "op", S "found", S "kid"] [S "is_word", S "is_plain_variable", S "lowered_std", S "lowered_set", S "len", S "lowered", S "turned", S "FULL", S "lowered_pair"] [some a0, some a1, none, none, none] G fp (dF 16).2.1 P) :
    Calls w hB (n + 1) 171 [a0, a1] G fp P := enS (fo := o171) (bs := [a0, a1]) B ok171 k
noncomputable def fd178 : FuncData := fdO o178
theorem ok178 : FnOk fd178 [S "maker", S "node"] [S "left", S "right", S "found"] [S "is_plain_variable", S "lowered"] (dF 17).2.1 := fnOk (d := dF 17) (by kernel_rfl)
theorem start178 (B : Base w hB mg mb) (a0 a1 : Value) (k : StK w hB mg mb n [S "maker", S "node", S "left", S "right", S "found"] [S "is_plain_variable", S "lowered"] [some a0, some a1, none, none, none] G fp (dF 17).2.1 P) :
    Calls w hB (n + 1) 178 [a0, a1] G fp P := enS (fo := o178) (bs := [a0, a1]) B ok178 k
noncomputable def fd185 : FuncData := fdO o185
theorem ok185 : FnOk fd185 [S "maker", S "node"] [S "x", S "old", S "made", S "bit"] [S "is_plain_variable", S "lowered", S "FULL"] (dF 18).2.1 := fnOk (d := dF 18) (by kernel_rfl)
theorem start185 (B : Base w hB mg mb) (a0 a1 : Value) (k : StK w hB mg mb n [S "maker", S "node", S "x", S "old", S "made", S "bit"] [S "is_plain_variable", S "lowered", S "FULL"] [some a0, some a1, none, none, none, none] G fp (dF 18).2.1 P) :
    Calls w hB (n + 1) 185 [a0, a1] G fp P := enS (fo := o185) (bs := [a0, a1]) B ok185 k
noncomputable def fd192 : FuncData := fdO o192
theorem ok192 : FnOk fd192 [S "maker", S "node"] [S "kid"] [S "lowered_statement", S "lowered_assign", S "lowered_change"] (dF 19).2.1 := fnOk (d := dF 19) (by kernel_rfl)
theorem start192 (B : Base w hB mg mb) (a0 a1 : Value) (k : StK w hB mg mb n [S "maker", S "node", S "kid"] [S "lowered_statement", S "lowered_assign", S "lowered_change"] [some a0, some a1, none] G fp (dF 19).2.1 P) :
    Calls w hB (n + 1) 192 [a0, a1] G fp P := enS (fo := o192) (bs := [a0, a1]) B ok192 k
noncomputable def fd199 : FuncData := fdO o199
theorem ok199 : FnOk fd199 [S "node"] [S "maker", S "number", S "obj"] [S "RowMaker", S "lowered_statement", S "range", S "len", S "variable_key", S "Lowered"] (dF 20).2.1 := fnOk (d := dF 20) (by kernel_rfl)
theorem start199 (B : Base w hB mg mb) (a0 : Value) (k : StK w hB mg mb n [S "node", S "maker", S "number", S "obj"] [S "RowMaker", S "lowered_statement", S "range", S "len", S "variable_key", S "Lowered"] [some a0, none, none, none] G fp (dF 20).2.1 P) :
    Calls w hB (n + 1) 199 [a0] G fp P := enS (fo := o199) (bs := [a0]) B ok199 k
noncomputable def fd206 : FuncData := fdO o206
theorem ok206 : FnOk fd206 [S "node"] [S "maker", S "found"] [S "RowMaker", S "lowered", S "Lowered"] (dF 21).2.1 := fnOk (d := dF 21) (by kernel_rfl)
theorem start206 (B : Base w hB mg mb) (a0 : Value) (k : StK w hB mg mb n [S "node", S "maker", S "found"] [S "RowMaker", S "lowered", S "Lowered"] [some a0, none, none] G fp (dF 21).2.1 P) :
    Calls w hB (n + 1) 206 [a0] G fp P := enS (fo := o206) (bs := [a0]) B ok206 k
noncomputable def fd221 : FuncData := fdO o221
theorem ok221 : FnOk fd221 [S "self", S "op", S "place", S "type_of", S "kids", S "value"] [] [] (dM 23 0).2.1 := fnOk (d := dM 23 0) (by kernel_rfl)
theorem start221 (B : Base w hB mg mb) (a0 a1 a2 a3 a4 a5 : Value) (k : StK w hB mg mb n [S "self", S "op", S "place", S "type_of", S "kids", S "value"] [] [some a0, some a1, some a2, some a3, some a4, some a5] G fp (dM 23 0).2.1 P) :
    Calls w hB (n + 1) 221 [a0, a1, a2, a3, a4, a5] G fp P := enterD (fo := o221) (fd := fd221) (bs := [a0, a1, a2, a3, a4, a5]) B (by kernel_rfl) rfl ok221 (by kernel_rfl) (fun _ _ _ _ _ hk => binds_K (o := o214) (B.K.keeps hk) rfl (by kernel_rfl) rfl rfl rfl) rfl (stK k)
noncomputable def fd235 : FuncData := fdO o235
theorem ok235 : FnOk fd235 [S "t", S "value", S "place"] [] [S "Node"] (dF 24).2.1 := fnOk (d := dF 24) (by kernel_rfl)
theorem start235 (B : Base w hB mg mb) (a0 a1 a2 : Value) (k : StK w hB mg mb n [S "t", S "value", S "place"] [S "Node"] [some a0, some a1, some a2] G fp (dF 24).2.1 P) :
    Calls w hB (n + 1) 235 [a0, a1, a2] G fp P := enS (fo := o235) (bs := [a0, a1, a2]) B ok235 k
noncomputable def fd249 : FuncData := fdO o249
theorem ok249 : FnOk fd249 [S "self", S "number", S "form", S "size"] [] [] (dM 26 0).2.1 := fnOk (d := dM 26 0) (by kernel_rfl)
theorem start249 (B : Base w hB mg mb) (a0 a1 a2 a3 : Value) (k : StK w hB mg mb n [S "self", S "number", S "form", S "size"] [] [some a0, some a1, some a2, some a3] G fp (dM 26 0).2.1 P) :
    Calls w hB (n + 1) 249 [a0, a1, a2, a3] G fp P := enS (fo := o249) (bs := [a0, a1, a2, a3]) B ok249 k
noncomputable def fd270 : FuncData := fdO o270
theorem ok270 : FnOk fd270 [S "self", S "name", S "kind", S "type_of", S "place"] [] [] (dM 27 0).2.1 := fnOk (d := dM 27 0) (by kernel_rfl)
theorem start270 (B : Base w hB mg mb) (a0 a1 a2 a3 a4 : Value) (k : StK w hB mg mb n [S "self", S "name", S "kind", S "type_of", S "place"] [] [some a0, some a1, some a2, some a3, some a4] G fp (dM 27 0).2.1 P) :
    Calls w hB (n + 1) 270 [a0, a1, a2, a3, a4] G fp P := enS (fo := o270) (bs := [a0, a1, a2, a3, a4]) B ok270 k
noncomputable def fd291 : FuncData := fdO o291
theorem ok291 : FnOk fd291 [S "self"] [] [] (dM 28 0).2.1 := fnOk (d := dM 28 0) (by kernel_rfl)
theorem start291 (B : Base w hB mg mb) (a0 : Value) (k : StK w hB mg mb n [S "self"] [] [some a0] G fp (dM 28 0).2.1 P) :
    Calls w hB (n + 1) 291 [a0] G fp P := enS (fo := o291) (bs := [a0]) B ok291 k
noncomputable def fd299 : FuncData := fdO o299
theorem ok299 : FnOk fd299 [S "self", S "form", S "size", S "module", S "label"] [S "made"] [S "Type"] (dM 28 1).2.1 := fnOk (d := dM 28 1) (by kernel_rfl)
theorem start299d (B : Base w hB mg mb) (a0 a1 a2 : Value) (k : StK w hB mg mb n [S "self", S "form", S "size", S "module", S "label", S "made"] [S "Type"] [some a0, some a1, some a2, some (v "" 617), some (v "" 618), none] G fp (dM 28 1).2.1 P) :
    Calls w hB (n + 1) 299 [a0, a1, a2] G fp P := enterD (fo := o299) (fd := fd299) (bs := [a0, a1, a2, (v "" 617), (v "" 618)]) B (by kernel_rfl) rfl ok299 (by kernel_rfl) (fun _ _ _ _ _ hk => binds_K (o := o292) (B.K.keeps hk) rfl (by kernel_rfl) rfl rfl rfl) rfl (stK k)
noncomputable def fd320 : FuncData := fdO o320
theorem ok320 : FnOk fd320 [] [] [] (dF 31).2.1 := fnOk (d := dF 31) (by kernel_rfl)
theorem start320 (B : Base w hB mg mb) (k : StK w hB mg mb n [] [] [] G fp (dF 31).2.1 P) :
    Calls w hB (n + 1) 320 [] G fp P := enS (fo := o320) (bs := []) B ok320 k
noncomputable def fd327 : FuncData := fdO o327
theorem ok327 : FnOk fd327 [S "row"] [] [] (dF 32).2.1 := fnOk (d := dF 32) (by kernel_rfl)
theorem start327 (B : Base w hB mg mb) (a0 : Value) (k : StK w hB mg mb n [S "row"] [] [some a0] G fp (dF 32).2.1 P) :
    Calls w hB (n + 1) 327 [a0] G fp P := enS (fo := o327) (bs := [a0]) B ok327 k
noncomputable def fd334 : FuncData := fdO o334
theorem ok334 : FnOk fd334 [S "row"] [] [S "two_operand_names"] (dF 33).2.1 := fnOk (d := dF 33) (by kernel_rfl)
theorem start334 (B : Base w hB mg mb) (a0 : Value) (k : StK w hB mg mb n [S "row"] [S "two_operand_names"] [some a0] G fp (dF 33).2.1 P) :
    Calls w hB (n + 1) 334 [a0] G fp P := enS (fo := o334) (bs := [a0]) B ok334 k
noncomputable def fd341 : FuncData := fdO o341
theorem ok341 : FnOk fd341 [S "row", S "known"] [S "field", S "v"] [S "len", S "two_operand_names", S "isinstance", S "int", S "bool", S "WORD", S "used"] (dF 34).2.1 := fnOk (d := dF 34) (by kernel_rfl)
theorem start341 (B : Base w hB mg mb) (a0 a1 : Value) (k : StK w hB mg mb n [S "row", S "known", S "field", S "v"] [S "len", S "two_operand_names", S "isinstance", S "int", S "bool", S "WORD", S "used"] [some a0, some a1, none, none] G fp (dF 34).2.1 P) :
    Calls w hB (n + 1) 341 [a0, a1] G fp P := enS (fo := o341) (bs := [a0, a1]) B ok341 k
noncomputable def fd348 : FuncData := fdO o348
theorem ok348 : FnOk fd348 [S "rows"] [S "known", S "found", S "index", S "problem"] [S "range", S "len", S "row_problem", S "defined"] (dF 35).2.1 := fnOk (d := dF 35) (by kernel_rfl)
theorem start348 (B : Base w hB mg mb) (a0 : Value) (k : StK w hB mg mb n [S "rows", S "known", S "found", S "index", S "problem"] [S "range", S "len", S "row_problem", S "defined"] [some a0, none, none, none, none] G fp (dF 35).2.1 P) :
    Calls w hB (n + 1) 348 [a0] G fp P := enS (fo := o348) (bs := [a0]) B ok348 k
noncomputable def fd355 : FuncData := fdO o355
theorem ok355 : FnOk fd355 [S "x"] [] [S "WORD"] (dF 36).2.1 := fnOk (d := dF 36) (by kernel_rfl)
theorem start355 (B : Base w hB mg mb) (a0 : Value) (k : StK w hB mg mb n [S "x"] [S "WORD"] [some a0] G fp (dF 36).2.1 P) :
    Calls w hB (n + 1) 355 [a0] G fp P := enS (fo := o355) (bs := [a0]) B ok355 k
noncomputable def fd362 : FuncData := fdO o362
theorem ok362 : FnOk fd362 [S "op", S "x", S "y"] [] [S "WORD", S "signed_word"] (dF 37).2.1 := fnOk (d := dF 37) (by kernel_rfl)
theorem start362 (B : Base w hB mg mb) (a0 a1 a2 : Value) (k : StK w hB mg mb n [S "op", S "x", S "y"] [S "WORD", S "signed_word"] [some a0, some a1, some a2] G fp (dF 37).2.1 P) :
    Calls w hB (n + 1) 362 [a0, a1, a2] G fp P := enS (fo := o362) (bs := [a0, a1, a2]) B ok362 k
noncomputable def fd369 : FuncData := fdO o369
theorem ok369 : FnOk fd369 [S "rows", S "inputs"] [S "values", S "outputs", S "op", S "d", S "a", S "b", S "found", S "k"] [S "WORD", S "len", S "two_operand_value", S "max"] (dF 38).2.1 := fnOk (d := dF 38) (by kernel_rfl)
theorem start369 (B : Base w hB mg mb) (a0 a1 : Value) (k : StK w hB mg mb n [S "rows", S "inputs", S "values", S "outputs", S "op", S "d", S "a", S "b", S "found", S "k"] [S "WORD", S "len", S "two_operand_value", S "max"] [some a0, some a1, none, none, none, none, none, none, none, none] G fp (dF 38).2.1 P) :
    Calls w hB (n + 1) 369 [a0, a1] G fp P := enS (fo := o369) (bs := [a0, a1]) B ok369 k
noncomputable def fd376 : FuncData := fdO o376
theorem ok376 : FnOk fd376 [S "script"] [S "figures", S "cell", S "left_over", S "lap"] [S "range"] (dF 40).2.1 := fnOk (d := dF 40) (by kernel_rfl)
noncomputable def fd383 : FuncData := fdO o383
theorem ok383 : FnOk fd383 [S "pool", S "bound_at"] [] [] (dF 41).2.1 := fnOk (d := dF 41) (by kernel_rfl)
theorem start383 (B : Base w hB mg mb) (a0 a1 : Value) (k : StK w hB mg mb n [S "pool", S "bound_at"] [] [some a0, some a1] G fp (dF 41).2.1 P) :
    Calls w hB (n + 1) 383 [a0, a1] G fp P := enS (fo := o383) (bs := [a0, a1]) B ok383 k
noncomputable def fd391 : FuncData := fdO o391
theorem ok391 : FnOk fd391 [S "op", S "t", S "kids", S "value_at"] [] [S "Node"] (dF 42).2.1 := fnOk (d := dF 42) (by kernel_rfl)
theorem start391 (B : Base w hB mg mb) (a0 a1 a2 a3 : Value) (k : StK w hB mg mb n [S "op", S "t", S "kids", S "value_at"] [S "Node"] [some a0, some a1, some a2, some a3] G fp (dF 42).2.1 P) :
    Calls w hB (n + 1) 391 [a0, a1, a2, a3] G fp P := enterD (fo := o391) (fd := fd391) (bs := [a0, a1, a2, a3]) B (by kernel_rfl) rfl ok391 (by kernel_rfl) (fun _ _ _ _ _ hk => binds_K (o := o214) (B.K.keeps hk) rfl (by kernel_rfl) rfl rfl rfl) rfl (stK k)
theorem start391d (B : Base w hB mg mb) (a0 a1 a2 : Value) (k : StK w hB mg mb n [S "op", S "t", S "kids", S "value_at"] [S "Node"] [some a0, some a1, some a2, some .none] G fp (dF 42).2.1 P) :
    Calls w hB (n + 1) 391 [a0, a1, a2] G fp P := enterD (fo := o391) (fd := fd391) (bs := [a0, a1, a2, .none]) B (by kernel_rfl) rfl ok391 (by kernel_rfl) (fun _ _ _ _ _ hk => binds_K (o := o214) (B.K.keeps hk) rfl (by kernel_rfl) rfl rfl rfl) rfl (stK k)
noncomputable def fd403 : FuncData := fdO o403
theorem ok403 : FnOk fd403 [S "book", S "pool", S "deep"] [S "draw", S "whole_type", S "op", S "count"] [S "_law_draw", S "_law_leaf", S "_law_make", S "_law_whole", S "const", S "_law_mask", S "_law_truth"] (dF 44).2.1 := fnOk (d := dF 44) (by kernel_rfl)
theorem start403 (B : Base w hB mg mb) (a0 a1 a2 : Value) (k : StK w hB mg mb n [S "book", S "pool", S "deep", S "draw", S "whole_type", S "op", S "count"] [S "_law_draw", S "_law_leaf", S "_law_make", S "_law_whole", S "const", S "_law_mask", S "_law_truth"] [some a0, some a1, some a2, none, none, none, none] G fp (dF 44).2.1 P) :
    Calls w hB (n + 1) 403 [a0, a1, a2] G fp P := enS (fo := o403) (bs := [a0, a1, a2]) B ok403 k
noncomputable def fd410 : FuncData := fdO o410
theorem ok410 : FnOk fd410 [S "book", S "pool", S "deep"] [S "draw", S "mask_type", S "op", S "kids", S "lap", S "element"] [S "_law_draw", S "_law_leaf", S "_law_make", S "_law_mask", S "range", S "const"] (dF 45).2.1 := fnOk (d := dF 45) (by kernel_rfl)
theorem start410 (B : Base w hB mg mb) (a0 a1 a2 : Value) (k : StK w hB mg mb n [S "book", S "pool", S "deep", S "draw", S "mask_type", S "op", S "kids", S "lap", S "element"] [S "_law_draw", S "_law_leaf", S "_law_make", S "_law_mask", S "range", S "const"] [some a0, some a1, some a2, none, none, none, none, none, none] G fp (dF 45).2.1 P) :
    Calls w hB (n + 1) 410 [a0, a1, a2] G fp P := enS (fo := o410) (bs := [a0, a1, a2]) B ok410 k
noncomputable def fd417 : FuncData := fdO o417
theorem ok417 : FnOk fd417 [S "book", S "pool", S "deep"] [S "draw", S "truth_type", S "op", S "element"] [S "_law_draw", S "_law_leaf", S "_law_make", S "_law_truth", S "_law_mask", S "const", S "_law_whole"] (dF 46).2.1 := fnOk (d := dF 46) (by kernel_rfl)
theorem start417 (B : Base w hB mg mb) (a0 a1 a2 : Value) (k : StK w hB mg mb n [S "book", S "pool", S "deep", S "draw", S "truth_type", S "op", S "element"] [S "_law_draw", S "_law_leaf", S "_law_make", S "_law_truth", S "_law_mask", S "const", S "_law_whole"] [some a0, some a1, some a2, none, none, none, none] G fp (dF 46).2.1 P) :
    Calls w hB (n + 1) 417 [a0, a1, a2] G fp P := enS (fo := o417) (bs := [a0, a1, a2]) B ok417 k
noncomputable def fd424 : FuncData := fdO o424
theorem ok424 : FnOk fd424 [S "book", S "pool", S "form"] [] [S "_law_whole", S "_law_mask", S "_law_truth", S "_law_leaf"] (dF 47).2.1 := fnOk (d := dF 47) (by kernel_rfl)
theorem start424 (B : Base w hB mg mb) (a0 a1 a2 : Value) (k : StK w hB mg mb n [S "book", S "pool", S "form"] [S "_law_whole", S "_law_mask", S "_law_truth", S "_law_leaf"] [some a0, some a1, some a2] G fp (dF 47).2.1 P) :
    Calls w hB (n + 1) 424 [a0, a1, a2] G fp P := enS (fo := o424) (bs := [a0, a1, a2]) B ok424 k
noncomputable def fd431 : FuncData := fdO o431
theorem ok431 : FnOk fd431 [S "book", S "pool"] [S "obj", S "left", S "draw", S "element"] [S "_law_draw", S "_law_make", S "_law_whole", S "const", S "_law_by_form"] (dF 48).2.1 := fnOk (d := dF 48) (by kernel_rfl)
theorem start431 (B : Base w hB mg mb) (a0 a1 : Value) (k : StK w hB mg mb n [S "book", S "pool", S "obj", S "left", S "draw", S "element"] [S "_law_draw", S "_law_make", S "_law_whole", S "const", S "_law_by_form"] [some a0, some a1, none, none, none, none] G fp (dF 48).2.1 P) :
    Calls w hB (n + 1) 431 [a0, a1] G fp P := enS (fo := o431) (bs := [a0, a1]) B ok431 k
noncomputable def fd438 : FuncData := fdO o438
theorem ok438 : FnOk fd438 [S "word"] [] [] (dF 49).2.1 := fnOk (d := dF 49) (by kernel_rfl)
theorem start438 (B : Base w hB mg mb) (a0 : Value) (k : StK w hB mg mb n [S "word"] [] [some a0] G fp (dF 49).2.1 P) :
    Calls w hB (n + 1) 438 [a0] G fp P := enS (fo := o438) (bs := [a0]) B ok438 k
noncomputable def fd445 : FuncData := fdO o445
theorem ok445 : FnOk fd445 [S "node", S "told"] [S "word"] [S "abs", S "_law_signed"] (dF 50).2.1 := fnOk (d := dF 50) (by kernel_rfl)
theorem start445 (B : Base w hB mg mb) (a0 a1 : Value) (k : StK w hB mg mb n [S "node", S "told", S "word"] [S "abs", S "_law_signed"] [some a0, some a1, none] G fp (dF 50).2.1 P) :
    Calls w hB (n + 1) 445 [a0, a1] G fp P := enS (fo := o445) (bs := [a0, a1]) B ok445 k
noncomputable def fd452 : FuncData := fdO o452
theorem ok452 : FnOk fd452 [S "op", S "left", S "right"] [S "total", S "spot", S "a", S "b", S "holds_now"] [S "range"] (dF 51).2.1 := fnOk (d := dF 51) (by kernel_rfl)
theorem start452 (B : Base w hB mg mb) (a0 a1 a2 : Value) (k : StK w hB mg mb n [S "op", S "left", S "right", S "total", S "spot", S "a", S "b", S "holds_now"] [S "range"] [some a0, some a1, some a2, none, none, none, none, none] G fp (dF 51).2.1 P) :
    Calls w hB (n + 1) 452 [a0, a1, a2] G fp P := enS (fo := o452) (bs := [a0, a1, a2]) B ok452 k
noncomputable def fd459 : FuncData := fdO o459
theorem ok459 : FnOk fd459 [S "node", S "left", S "right"] [S "op", S "low", S "high", S "found"] [S "_law_bits", S "_law_signed"] (dF 52).2.1 := fnOk (d := dF 52) (by kernel_rfl)
theorem start459 (B : Base w hB mg mb) (a0 a1 a2 : Value) (k : StK w hB mg mb n [S "node", S "left", S "right", S "op", S "low", S "high", S "found"] [S "_law_bits", S "_law_signed"] [some a0, some a1, some a2, none, none, none, none] G fp (dF 52).2.1 P) :
    Calls w hB (n + 1) 459 [a0, a1, a2] G fp P := enS (fo := o459) (bs := [a0, a1, a2]) B ok459 k
noncomputable def fd471 : FuncData := fdO o471
theorem ok471 : FnOk fd471 [S "node", S "words", S "used_first", S "stored_now"] [S "label", S "word", S "old", S "power_at", S "there"] [S "_law_word"] (dF 54).2.1 := fnOk (d := dF 54) (by kernel_rfl)
theorem start471 (B : Base w hB mg mb) (a0 a1 a2 a3 : Value) (k : StK w hB mg mb n [S "node", S "words", S "used_first", S "stored_now", S "label", S "word", S "old", S "power_at", S "there"] [S "_law_word"] [some a0, some a1, some a2, some a3, none, none, none, none, none] G fp (dF 54).2.1 P) :
    Calls w hB (n + 1) 471 [a0, a1, a2, a3] G fp P := enS (fo := o471) (bs := [a0, a1, a2, a3]) B ok471 k
end
end Mine
end
section
namespace Mine
open PySem PySem.W PyProof.Rows PySem.Calls H
noncomputable def fd157 : FuncData := mkF (dF 14) (S "lowered_std") (S "lowered_std") 3 .none .none .none (v "moduleyard.lower" 187) (.ref 156) .none 0
theorem ok157 : FnOkC fd157 ([S "node"] ++ [S "name", S "found"]) [S "lowered_absolute", S "lowered_bits"] [S "maker"] (dF 14).2.1 := ⟨by kernel_rfl, by kernel_rfl, by kernel_rfl, by kernel_rfl, by kernel_rfl, by kernel_rfl, by kernel_rfl, by kernel_rfl, by kernel_rfl, by kernel_rfl, by kernel_rfl, by kernel_rfl, by kernel_rfl⟩
theorem start157 {w : World} {hB : Heap} {mg mb : Str → Option Value} (B : Base w hB mg mb) (a0 a1 : Value) {n : Nat} {G : Gh} {fp : Led} {P : Value → Gh → Led → Prop}
    (k : ∀ A env e G' c0, (∀ a o, G a o → G' a o) → CellOK env [(S "maker", c0)] → CellG G' c0 a0 → let cx : Cx := ⟨w, hB, A, env, e, [S "node", S "name", S "found"], [S "lowered_absolute", S "lowered_bits"], []⟩; cx.Ok mg mb n → ∀ KK : Flow → Sg → Prop, (∀ {fl σ'}, Left fp P fl σ' → KK fl σ') → Do cx ⟨[some a1, none, none], G', fp⟩ (execs (dF 14).2.1 cx.env) KK) :
    Calls w hB (n + 1) 157 [a0, a1] G fp P := enterC (fo := o157) (fd := fd157) (ps := [S "maker", S "node"]) (lbs := [a1]) (cvs := [a0]) B (by kernel_rfl) rfl ok157 (by kernel_rfl) (by kernel_rfl) (by kernel_rfl) (by kernel_rfl) rfl (by kernel_rfl)
  fun A env e G' as hl hG CE CG ok => match as, hl with | [c0], _ => k A env e G' c0 hG CE (CG 0 c0 a0 rfl rfl) ok _ fun h => h
noncomputable def fd396 : FuncData := mkF (dF 43) (S "_law_leaf") (S "_law_leaf") 3 .none .none .none (v "law_pb0359_01" 734) (.ref 395) .none 0
theorem ok396 : FnOkC fd396 ([S "book", S "pool"] ++ [S "draw", S "obj", S "fitting"]) [S "_law_draw", S "const", S "len", S "_law_make"] [S "form"] (dF 43).2.1 := ⟨by kernel_rfl, by kernel_rfl, by kernel_rfl, by kernel_rfl, by kernel_rfl, by kernel_rfl, by kernel_rfl, by kernel_rfl, by kernel_rfl, by kernel_rfl, by kernel_rfl, by kernel_rfl, by kernel_rfl⟩
theorem start396 {w : World} {hB : Heap} {mg mb : Str → Option Value} (B : Base w hB mg mb) (a0 a1 a2 : Value) {n : Nat} {G : Gh} {fp : Led} {P : Value → Gh → Led → Prop}
    (k : ∀ A env e G' c0, (∀ a o, G a o → G' a o) → CellOK env [(S "form", c0)] → CellG G' c0 a2 → let cx : Cx := ⟨w, hB, A, env, e, [S "book", S "pool", S "draw", S "obj", S "fitting"], [S "_law_draw", S "const", S "len", S "_law_make"], []⟩; cx.Ok mg mb n → ∀ KK : Flow → Sg → Prop, (∀ {fl σ'}, Left fp P fl σ' → KK fl σ') → Do cx ⟨[some a0, some a1, none, none, none], G', fp⟩ (execs (dF 43).2.1 cx.env) KK) :
    Calls w hB (n + 1) 396 [a0, a1, a2] G fp P := enterC (fo := o396) (fd := fd396) (ps := [S "book", S "pool", S "form"]) (lbs := [a0, a1]) (cvs := [a2]) B (by kernel_rfl) rfl ok396 (by kernel_rfl) (by kernel_rfl) (by kernel_rfl) (by kernel_rfl) rfl (by kernel_rfl)
  fun A env e G' as hl hG CE CG ok => match as, hl with | [c0], _ => k A env e G' c0 hG CE (CG 0 c0 a2 rfl rfl) ok _ fun h => h
noncomputable def fd464 : FuncData := mkF (dF 53) (S "_law_word") (S "_law_word") 3 .none .none .none (v "law_pb0359_01" 734) (.ref 463) .none 0
theorem ok464 : FnOkC fd464 ([S "node"] ++ [S "label", S "told", S "total", S "one"]) [S "_law_std", S "_law_pair"] [S "stored_now", S "used_first", S "words"] (dF 53).2.1 := ⟨by kernel_rfl, by kernel_rfl, by kernel_rfl, by kernel_rfl, by kernel_rfl, by kernel_rfl, by kernel_rfl, by kernel_rfl, by kernel_rfl, by kernel_rfl, by kernel_rfl, by kernel_rfl, by kernel_rfl⟩
theorem start464 {w : World} {hB : Heap} {mg mb : Str → Option Value} (B : Base w hB mg mb) (a0 a1 a2 a3 : Value) {n : Nat} {G : Gh} {fp : Led} {P : Value → Gh → Led → Prop}
    (k : ∀ A env e G' c0 c1 c2, (∀ a o, G a o → G' a o) → CellOK env [(S "stored_now", c0), (S "used_first", c1), (S "words", c2)] → CellG G' c0 a3 → CellG G' c1 a2 → CellG G' c2 a1 → let cx : Cx := ⟨w, hB, A, env, e, [S "node", S "label", S "told", S "total", S "one"], [S "_law_std", S "_law_pair"], []⟩; cx.Ok mg mb n → ∀ KK : Flow → Sg → Prop, (∀ {fl σ'}, Left fp P fl σ' → KK fl σ') → Do cx ⟨[some a0, none, none, none, none], G', fp⟩ (execs (dF 53).2.1 cx.env) KK) :
    Calls w hB (n + 1) 464 [a0, a1, a2, a3] G fp P := enterC (fo := o464) (fd := fd464) (ps := [S "node", S "words", S "used_first", S "stored_now"]) (lbs := [a0]) (cvs := [a3, a2, a1]) B (by kernel_rfl) rfl ok464 (by kernel_rfl) (by kernel_rfl) (by kernel_rfl) (by kernel_rfl) rfl (by kernel_rfl)
  fun A env e G' as hl hG CE CG ok => match as, hl with | [c0, c1, c2], _ => k A env e G' c0 c1 c2 hG CE (CG 0 c0 a3 rfl rfl) (CG 1 c1 a2 rfl rfl) (CG 2 c2 a1 rfl rfl) ok _ fun h => h
end Mine
end
section
namespace Mine
open PySem PySem.W PyProof.Rows PySem.Calls H
inductive NR where
  | loc (i : Nat)
  | ref (j : Nat) (a : Addr)
  | blt (j : Nat) (s : String)
  | typ (j : Nat) (s : String)
noncomputable abbrev Tb := List (Nat × List (Nat × NR))
noncomputable def colAt : List (Nat × NR) → Nat → Option NR
  | [], _ => none
  | (k, r) :: l, x => match Nat.beq k x with
    | true => some r
    | false => colAt l x
noncomputable def Tb.look : Tb → Pos → Option NR
  | [], _ => none
  | (k, r) :: l, p => match Nat.beq k p.line with
    | true => colAt r p.col
    | false => Tb.look l p
noncomputable def getK (A : Prop) (k : Value → Prop) : List (Option Value) → Nat → Prop
  | [], _ => A
  | x :: _, 0 => match x with
    | some v => k v
    | none => A
  | _ :: r, i + 1 => getK A k r i
theorem getK_out {A : Prop} {k : Value → Prop} : ∀ {l : List (Option Value)} {i : Nat}, getK A k l i → A ∨ ∃ v, l[i]? = some (some v) ∧ k v
  | [], _, h => .inl h
  | some v :: _, 0, h => .inr ⟨v, rfl, h⟩
  | none :: _, 0, h => .inl h
  | _ :: r, i + 1, h => by simpa using getK_out (l := r) (i := i) h
noncomputable def setK (v : Option Value) : List (Option Value) → Nat → (List (Option Value) → Prop) → Prop
  | [], _, _ => False
  | _ :: r, 0, k => k (v :: r)
  | x :: r, i + 1, k => setK v r i fun r' => k (x :: r')
theorem setK_out {v : Option Value} : ∀ {l : List (Option Value)} {i : Nat} {k : List (Option Value) → Prop}, setK v l i k → i < l.length ∧ k (l.set i v)
  | [], _, _, h => h.elim
  | _ :: r, 0, k, h => ⟨Nat.succ_pos _, h⟩
  | x :: r, i + 1, k, h => by
    obtain ⟨h1, h2⟩ := setK_out (l := r) (i := i) (k := fun r' => k (x :: r')) h
    exact ⟨Nat.succ_lt_succ h1, h2⟩
inductive EV where
  | int (z : Int) | str (s : Str) | nil | bool (b : Bool) | name (p : Pos) | attr | sub | bin (op : Operator) | cmp (op : CmpOp) | ifx | lst | tup | call (np : Pos) | callx | not | bop (op : BoolOp) | comp | star | oth
noncomputable def view : Expr → EV
  | .Constant (.int z) _ _ => .int z
  | .Constant (.str s) _ _ => .str s
  | .Constant .none _ _ => .nil
  | .Constant (.bool b) _ _ => .bool b
  | .Name _ p => .name p
  | .Attribute _ _ _ => .attr
  | .Subscript _ _ _ => .sub
  | .BinOp _ op _ _ => .bin op
  | .Compare _ [op] [_] _ => .cmp op
  | .IfExp _ _ _ _ => .ifx
  | .List _ _ => .lst
  | .Tuple _ _ _ => .tup
  | .Call (.Name _ np) (_ :: _) [] _ => .call np
  | .Call _ _ _ _ => .callx
  | .UnaryOp .Not _ _ => .not
  | .BoolOp op _ _ => .bop op
  | .ListComp _ _ _ _ => .comp
  | .SetComp _ _ _ _ => .comp
  | .DictComp _ _ _ _ _ => .comp
  | .Starred _ _ => .star
  | _ => .oth
noncomputable def kids : Expr → List Expr
  | .Attribute v _ _ => [v]
  | .Subscript v s _ => [v, s]
  | .BinOp l _ r _ => [l, r]
  | .Compare l _ rs _ => l :: rs
  | .IfExp t b o _ => [t, b, o]
  | .UnaryOp _ x _ => [x]
  | .BoolOp _ es _ => es
  | .List es _ => es
  | .Tuple es _ _ => es
  | .Call _ es _ _ => es
  | _ => []
noncomputable def noE : Expr := .Constant .none 0 ⟨0, 0, 0, 0⟩
noncomputable def hdE : List Expr → Expr
  | e :: _ => e
  | [] => noE
noncomputable def tlE : List Expr → List Expr
  | _ :: r => r
  | [] => []
noncomputable def e1 (e : Expr) : Expr := hdE (kids e)
noncomputable def e2 (e : Expr) : Expr := hdE (tlE (kids e))
noncomputable def e3 (e : Expr) : Expr := hdE (tlE (tlE (kids e)))
noncomputable def nmOf : Expr → Str
  | .Attribute _ a _ => a
  | .Name x _ => x
  | .Call (.Name x _) _ _ _ => x
  | _ => S ""
noncomputable def psOf : Expr → Pos
  | .List _ p => p
  | .Tuple _ _ p => p
  | .Call _ _ _ p => p
  | _ => ⟨0, 0, 0, 0⟩
noncomputable def strOfV : EV → Option Str
  | .str s => some s
  | _ => none
noncomputable def strsOf : Nat → List Expr → Option (List Str)
  | _, [] => some []
  | 0, _ :: _ => none
  | n + 1, e :: r => (strOfV (view e)).bind fun s => (strsOf n r).map (s :: ·)
inductive SV where
  | ifs | ret | ret0 | asgN (q : Pos) | asgA | asgS | ex | pass | cont | brk | oth
noncomputable def viewS : Stmt → SV
  | .If _ _ _ _ => .ifs
  | .Return (some _) _ => .ret
  | .Return none _ => .ret0
  | .Assign [.Name _ q] _ _ => .asgN q
  | .Assign [.Attribute _ _ _] _ _ => .asgA
  | .Assign [.Subscript _ _ _] _ _ => .asgS
  | .Expr _ _ => .ex
  | .Pass _ => .pass
  | .Continue _ => .cont
  | .Break _ => .brk
  | _ => .oth
structure SP where
  val : Expr
  tgt : Expr
  body : List Stmt
  els : List Stmt
noncomputable def sParts : Stmt → SP
  | .If t b o _ => ⟨t, noE, b, o⟩
  | .Return (some e) _ => ⟨e, noE, [], []⟩
  | .Assign ts e _ => ⟨e, hdE ts, [], []⟩
  | .Expr e _ => ⟨e, noE, [], []⟩
  | .For t i b [] _ => ⟨i, t, b, []⟩
  | _ => ⟨noE, noE, [], []⟩
noncomputable def sVal (s : Stmt) : Expr := (sParts s).val
noncomputable def sTgt (s : Stmt) : Expr := (sParts s).tgt
noncomputable def sBody (s : Stmt) : List Stmt := (sParts s).body
noncomputable def sElse (s : Stmt) : List Stmt := (sParts s).els
noncomputable def hdS : List Stmt → Stmt
  | s :: _ => s
  | [] => .Pass ⟨0, 0, 0, 0⟩
noncomputable def tlS : List Stmt → List Stmt
  | _ :: r => r
  | [] => []
structure VCf where
  E : Sg → Expr → (Value → Sg → Prop) → Prop
  L : Sg → Pos → List Expr → (List Value → Sg → Prop) → Prop
  T : Sg → Expr → (Bool → Sg → Prop) → Prop
  A : Sg → BoolOp → List Expr → (Bool → Sg → Prop) → Prop
  S : Sg → List Stmt → (Flow → Sg → Prop) → Prop
structure Ck where
  E : Expr → Bool
  L : List Expr → Bool
  T : Expr → Bool
  A : List Expr → Bool
  S : List Stmt → Bool
section
variable (c : Cx) (T : Tb)
noncomputable def tv (v : Value) (σ : Sg) (K : Bool → Sg → Prop) : Prop := match v with
  | .bool b => K b σ
  | v => Do c σ (truthy v) K
noncomputable def cmpI (op : CmpOp) (x y : Int) (A : Prop) (k : Bool → Prop) : Prop := match op with
  | .Eq => k (x == y)
  | .NotEq => k (x != y)
  | .Lt => k (decide (x < y))
  | .LtE => k (decide (x ≤ y))
  | .Gt => k (decide (x > y))
  | .GtE => k (decide (x ≥ y))
  | _ => A
noncomputable def cmpS (op : CmpOp) (x y : Str) (A : Prop) (k : Bool → Prop) : Prop := match op with
  | .Eq => k (x == y)
  | .NotEq => k (x != y)
  | _ => A
noncomputable def cmpV (op : CmpOp) (a b : Value) (σ : Sg) (K : Value → Sg → Prop) : Prop := match a, b with
  | .int x t, .int y u => cmpI op x y (Do c σ (compareOp op (.int x t) (.int y u)) K) fun r => K (.bool r) σ
  | .str x t, .str y u => cmpS op x y (Do c σ (compareOp op (.str x t) (.str y u)) K) fun r => K (.bool r) σ
  | a, b => Do c σ (compareOp op a b) K
noncomputable def kTv (K : Bool → Sg → Prop) (v : Value) (σ : Sg) : Prop := tv c v σ K
noncomputable def litI (σ : Sg) (op : CmpOp) (y : Int) (K : Bool → Sg → Prop) : Value → Prop
  | .int x t => cmpI op x y (∀ u, Do c σ (compareOp op (.int x t) (.int y u)) (kTv c K)) fun b => K b σ
  | a => ∀ u, Do c σ (compareOp op a (.int y u)) (kTv c K)
noncomputable def litS (σ : Sg) (op : CmpOp) (y : Str) (K : Bool → Sg → Prop) : Value → Prop
  | .str x t => cmpS op x y (∀ u, Do c σ (compareOp op (.str x t) (.str y u)) (kTv c K)) fun b => K b σ
  | a => ∀ u, Do c σ (compareOp op a (.str y u)) (kTv c K)
noncomputable def inS (σ : Sg) (op : CmpOp) (x : Str) (A : Prop) (K : Bool → Sg → Prop) : Option (List Str) → Prop
  | none => A
  | some ss => match op with
    | .In => K (ss.any fun y => y == x) σ
    | .NotIn => K (!ss.any fun y => y == x) σ
    | _ => A
noncomputable def litT (σ : Sg) (op : CmpOp) (es : List Expr) (A : Prop) (K : Bool → Sg → Prop) : Value → Prop
  | .str x _ => inS σ op x A K (strsOf 12 es)
  | _ => A
noncomputable def kCmp2 (op : CmpOp) (a : Value) (K : Value → Sg → Prop) (b : Value) (σ : Sg) : Prop := cmpV c op a b σ K
noncomputable def kLitW (V : VCf) (op : CmpOp) (r : Expr) (K : Bool → Sg → Prop) (a : Value) (σ : Sg) : EV → Prop
  | .int y => litI c σ op y K a
  | .str y => litS c σ op y K a
  | .tup => litT σ op (kids r) (V.E σ r (kCmp2 c op a (kTv c K))) K a
  | _ => V.E σ r (kCmp2 c op a (kTv c K))
noncomputable def kLit (V : VCf) (op : CmpOp) (r : Expr) (K : Bool → Sg → Prop) (a : Value) (σ : Sg) : Prop := kLitW c V op r K a σ (view r)
noncomputable def binI (op : Operator) (x y : Int) (A : Prop) (k : Int → Prop) : Prop := match op with
  | .Add => k (x + y)
  | .Sub => k (x - y)
  | _ => A
noncomputable def binV (op : Operator) (a b : Value) (σ : Sg) (K : Value → Sg → Prop) : Prop := match a, b with
  | .int x t, .int y u => binI op x y (Do c σ (binaryOp op (.int x t) (.int y u)) K) fun z => ∀ t, K (.int z t) σ
  | a, b => Do c σ (binaryOp op a b) K
noncomputable def baseOk (e : Expr) : Bool := match view e with
  | .name _ => true
  | .attr => true
  | .sub => true
  | _ => false
noncomputable def valOk (e : Expr) : Bool := match view e with
  | .comp => false
  | _ => true
noncomputable def testOk (e : Expr) : Bool := match view e with
  | .name _ => true
  | .attr => true
  | .sub => true
  | .call _ => true
  | .callx => true
  | _ => false
noncomputable def notStar (e : Expr) : Bool := match view e with
  | .star => false
  | _ => true
noncomputable def nameK (σ : Sg) (A : Prop) (K : Value → Sg → Prop) : Option NR → Prop
  | none => A
  | some r => match r with
    | .loc i => getK A (fun v => K v σ) σ.vs i
    | .ref _ a => K (.ref a) σ
    | .blt _ s => K (.builtin s) σ
    | .typ _ s => K (.type s) σ
noncomputable def kCall (F : Addr) (K : Value → Sg → Prop) (vs : List Value) (σ : Sg) : Prop := Do c σ (call (.ref F) vs) K
noncomputable def callK (V : VCf) (σ : Sg) (p : Pos) (es : List Expr) (A : Prop) (K : Value → Sg → Prop) : Option NR → Prop
  | none => A
  | some r => match r with
    | .ref _ F => V.L σ p es (kCall c F K)
    | _ => A
noncomputable def setN (A : Prop) (k : Nat → Prop) : Option NR → Prop
  | none => A
  | some r => match r with
    | .loc i => k i
    | _ => A
noncomputable def kSet (i : Nat) (K : Flow → Sg → Prop) (v : Value) : Sg → Prop
  | ⟨vs, G, mu⟩ => setK (some v) vs i fun vs' => K .next ⟨vs', G, mu⟩
noncomputable def kAttr (a : Str) (K : Value → Sg → Prop) (o : Value) (σ : Sg) : Prop := Do c σ (getAttr o a true) K
noncomputable def kSub2 (e : Expr) (b : Value) (K : Value → Sg → Prop) (i : Value) (σ : Sg) : Prop := Do c σ (subscriptTail (e1 e) (e2 e) b i) K
noncomputable def kSub (V : VCf) (e : Expr) (K : Value → Sg → Prop) (b : Value) (σ : Sg) : Prop := V.E σ (e2 e) (kSub2 c e b K)
noncomputable def kBin2 (op : Operator) (a : Value) (K : Value → Sg → Prop) (b : Value) (σ : Sg) : Prop := binV c op a b σ K
noncomputable def kBin (V : VCf) (e : Expr) (op : Operator) (K : Value → Sg → Prop) (a : Value) (σ : Sg) : Prop := V.E σ (e2 e) (kBin2 c op a K)
noncomputable def kCmp (V : VCf) (e : Expr) (op : CmpOp) (K : Value → Sg → Prop) (a : Value) (σ : Sg) : Prop := V.E σ (e2 e) (kCmp2 c op a K)
noncomputable def kIfx (V : VCf) (e : Expr) (K : Value → Sg → Prop) (r : Bool) (σ : Sg) : Prop := IfB r (V.E σ (e2 e) K) (V.E σ (e3 e) K)
noncomputable def kList (K : Value → Sg → Prop) (vs : List Value) (σ : Sg) : Prop := Do c σ (newList vs) K
noncomputable def kTup (K : Value → Sg → Prop) (vs : List Value) (σ : Sg) : Prop := Do c σ (newTuple vs) K
noncomputable def eEW (V : VCf) (σ : Sg) (e : Expr) (K : Value → Sg → Prop) : EV → Prop
  | .int z => ∀ t, K (.int z t) σ
  | .str s => ∀ t, K (.str s t) σ
  | .nil => K .none σ
  | .bool b => K (.bool b) σ
  | .name p => nameK σ (Do c σ (eval e c.env) K) K (T.look p)
  | .attr => cond (baseOk (e1 e)) (V.E σ (e1 e) (kAttr c (nmOf e) K)) (Do c σ (eval e c.env) K)
  | .sub => V.E σ (e1 e) (kSub c V e K)
  | .bin op => V.E σ (e1 e) (kBin c V e op K)
  | .cmp op => V.E σ (e1 e) (kCmp c V e op K)
  | .ifx => V.T σ (e1 e) (kIfx V e K)
  | .lst => V.L σ (psOf e) (kids e) (kList c K)
  | .tup => V.L σ (psOf e) (kids e) (kTup c K)
  | .call np => callK c V σ (psOf e) (kids e) (Do c σ (eval e c.env) K) K (T.look np)
  | _ => Do c σ (eval e c.env) K
noncomputable def eE (V : VCf) (σ : Sg) (e : Expr) (K : Value → Sg → Prop) : Prop := eEW c T V σ e K (view e)
noncomputable def kCons (v : Value) (K : List Value → Sg → Prop) (vs : List Value) (σ : Sg) : Prop := K (v :: vs) σ
noncomputable def kL (V : VCf) (p : Pos) (es : List Expr) (K : List Value → Sg → Prop) (v : Value) (σ : Sg) : Prop := V.L σ p es (kCons v K)
noncomputable def eL (V : VCf) (σ : Sg) (p : Pos) (es : List Expr) (K : List Value → Sg → Prop) : Prop := match es with
  | [] => K [] σ
  | _ :: _ => V.E σ (hdE es) (kL V p (tlE es) K)
noncomputable def kNot (K : Bool → Sg → Prop) (b : Bool) (σ : Sg) : Prop := K (!b) σ
noncomputable def eTW (V : VCf) (σ : Sg) (e : Expr) (K : Bool → Sg → Prop) : EV → Prop
  | .not => V.T σ (e1 e) (kNot K)
  | .bop op => V.A σ op (kids e) K
  | .cmp op => V.E σ (e1 e) (kLit c V op (e2 e) K)
  | _ => cond (testOk e) (V.E σ e (kTv c K)) (Do c σ (isTrue e c.env (eval e c.env)) K)
noncomputable def eT (V : VCf) (σ : Sg) (e : Expr) (K : Bool → Sg → Prop) : Prop := eTW c V σ e K (view e)
noncomputable def kAnd (V : VCf) (es : List Expr) (K : Bool → Sg → Prop) (b : Bool) (σ : Sg) : Prop := IfB b (V.A σ .And es K) (K false σ)
noncomputable def kOr (V : VCf) (es : List Expr) (K : Bool → Sg → Prop) (b : Bool) (σ : Sg) : Prop := IfB b (K true σ) (V.A σ .Or es K)
noncomputable def eA (V : VCf) (σ : Sg) (op : BoolOp) (es : List Expr) (K : Bool → Sg → Prop) : Prop := match es with
  | [] => K (op == .And) σ
  | _ :: _ => (match op with
    | .And => V.T σ (hdE es) (kAnd V (tlE es) K)
    | .Or => V.T σ (hdE es) (kOr V (tlE es) K))
noncomputable def seqK (V : VCf) (rest : List Stmt) (K : Flow → Sg → Prop) (fl : Flow) (σ : Sg) : Prop := match fl with
  | .next => V.S σ rest K
  | f => K f σ
noncomputable def kIfs (V : VCf) (s : Stmt) (K : Flow → Sg → Prop) (r : Bool) (σ : Sg) : Prop := IfB r (V.S σ (sBody s) K) (V.S σ (sElse s) K)
noncomputable def kRet (K : Flow → Sg → Prop) (v : Value) (σ : Sg) : Prop := K (.ret v) σ
noncomputable def kEx (K : Flow → Sg → Prop) (_ : Value) (σ : Sg) : Prop := K .next σ
noncomputable def kUn (K : Flow → Sg → Prop) (_ : Unit) (σ : Sg) : Prop := K .next σ
noncomputable def kSA2 (s : Stmt) (v : Value) (K : Flow → Sg → Prop) (ov : Value) (σ : Sg) : Prop := Do c σ (setAttr ov (nmOf (sTgt s)) v) (kUn K)
noncomputable def kSA (V : VCf) (s : Stmt) (K : Flow → Sg → Prop) (v : Value) (σ : Sg) : Prop := V.E σ (e1 (sTgt s)) (kSA2 c s v K)
noncomputable def kSS3 (v ov : Value) (K : Flow → Sg → Prop) (iv : Value) (σ : Sg) : Prop := Do c σ (setItem ov iv v) (kUn K)
noncomputable def kSS2 (V : VCf) (s : Stmt) (v : Value) (K : Flow → Sg → Prop) (ov : Value) (σ : Sg) : Prop := V.E σ (e2 (sTgt s)) (kSS3 c v ov K)
noncomputable def kSS (V : VCf) (s : Stmt) (K : Flow → Sg → Prop) (v : Value) (σ : Sg) : Prop := V.E σ (e1 (sTgt s)) (kSS2 c V s v K)
noncomputable def eXW (V : VCf) (σ : Sg) (s : Stmt) (K : Flow → Sg → Prop) : SV → Prop
  | .ifs => V.T σ (sVal s) (kIfs V s K)
  | .ret => V.E σ (sVal s) (kRet K)
  | .ret0 => K (.ret .none) σ
  | .asgN q => cond (valOk (sVal s)) (setN (Do c σ (exec s c.env) K) (fun i => V.E σ (sVal s) (kSet i K)) (T.look q)) (Do c σ (exec s c.env) K)
  | .asgA => cond (valOk (sVal s)) (V.E σ (sVal s) (kSA c V s K)) (Do c σ (exec s c.env) K)
  | .asgS => cond (valOk (sVal s)) (V.E σ (sVal s) (kSS c V s K)) (Do c σ (exec s c.env) K)
  | .ex => cond (valOk (sVal s)) (V.E σ (sVal s) (kEx K)) (Do c σ (exec s c.env) K)
  | .pass => K .next σ
  | .cont => K .cont σ
  | .brk => K .brk σ
  | .oth => Do c σ (exec s c.env) K
noncomputable def eX (V : VCf) (σ : Sg) (s : Stmt) (K : Flow → Sg → Prop) : Prop := eXW c T V σ s K (viewS s)
noncomputable def eS (V : VCf) (σ : Sg) (ss : List Stmt) (K : Flow → Sg → Prop) : Prop := match ss with
  | [] => K .next σ
  | _ :: _ => eX c T V σ (hdS ss) (seqK V (tlS ss) K)
noncomputable def vc : Nat → VCf
  | 0 => ⟨fun σ e K => Do c σ (eval e c.env) K, fun σ p es K => DoL c σ p es K, fun σ e K => Do c σ (isTrue e c.env (eval e c.env)) K, fun σ op es K => Do c σ (allTrue op es c.env) K, fun σ ss K => Do c σ (execs ss c.env) K⟩
  | n + 1 => ⟨eE c T (vc n), eL (vc n), eT c (vc n), eA (vc n), eS c T (vc n)⟩
end
section
variable (P : Params) (ks gs : List Str) (T : Tb)
noncomputable def isRefV (a : Addr) : Option (Option Value) → Bool
  | some (some (.ref b)) => Nat.beq a b
  | _ => false
noncomputable def isBlt (s : String) : Option Value → Bool
  | some (.builtin s') => s' == s
  | _ => false
noncomputable def isTyp (s : String) : Option Value → Bool
  | some (.type s') => s' == s
  | _ => false
noncomputable def isNo : Option (Option Value) → Bool
  | some none => true
  | _ => false
noncomputable def ckNR (x : Str) : Option NR → Bool
  | none => true
  | some r => match r with
    | .loc i => ks[i]? == some x
    | .ref j a => gs[j]? == some x && isRefV a (nsIn (H.K P) mainGlobals x)
    | .blt j s => gs[j]? == some x && (x != "__name__" && (isNo (nsIn (H.K P) mainGlobals x) && isBlt s (bootBuiltins x)))
    | .typ j s => gs[j]? == some x && (x != "__name__" && (isNo (nsIn (H.K P) mainGlobals x) && isTyp s (bootBuiltins x)))
noncomputable def ckName (x : Str) (p : Pos) : Bool := ckNR P ks gs x (T.look p)
noncomputable def ckCall (a : Expr) (as : List Expr) : Option NR → Bool
  | none => true
  | some r => match r with
    | .ref _ F => keepIn (H.K P) (.ref F) && (notStar a && as.all notStar)
    | _ => true
noncomputable def cEW (C : Ck) (e : Expr) : EV → Bool
  | .name p => ckName P ks gs T (nmOf e) p
  | .attr => C.E (e1 e)
  | .sub => C.E (e1 e) && C.E (e2 e)
  | .bin _ => C.E (e1 e) && C.E (e2 e)
  | .cmp op => C.E (e1 e) && C.E (e2 e) && !lastMarks [op] [e2 e]
  | .ifx => C.T (e1 e) && C.E (e2 e) && C.E (e3 e)
  | .lst => C.L (kids e)
  | .tup => C.L (kids e)
  | .call np => ckName P ks gs T (nmOf e) np && (C.L (kids e) && ckCall P (hdE (kids e)) (tlE (kids e)) (T.look np))
  | _ => true
noncomputable def cE (C : Ck) (e : Expr) : Bool := cEW P ks gs T C e (view e)
noncomputable def cL (C : Ck) (es : List Expr) : Bool := match es with
  | [] => true
  | e :: es => notStar e && C.E e && C.L es
noncomputable def cTW (C : Ck) (e : Expr) : EV → Bool
  | .not => C.T (e1 e)
  | .bop _ => C.A (kids e)
  | .cmp op => C.E (e1 e) && C.E (e2 e) && !lastMarks [op] [e2 e]
  | _ => C.E e
noncomputable def cT (C : Ck) (e : Expr) : Bool := cTW C e (view e)
noncomputable def cA (C : Ck) (es : List Expr) : Bool := match es with
  | [] => true
  | e :: es => C.T e && C.A es
noncomputable def cXW (C : Ck) (s : Stmt) : SV → Bool
  | .ifs => C.T (sVal s) && C.S (sBody s) && C.S (sElse s)
  | .ret => C.E (sVal s)
  | .asgN q => C.E (sVal s) && ckName P ks gs T (nmOf (sTgt s)) q
  | .asgA => C.E (sVal s) && C.E (e1 (sTgt s))
  | .asgS => C.E (sVal s) && C.E (e1 (sTgt s)) && C.E (e2 (sTgt s))
  | .ex => C.E (sVal s)
  | _ => true
noncomputable def cX (C : Ck) (s : Stmt) : Bool := cXW P ks gs T C s (viewS s)
noncomputable def cS (C : Ck) (ss : List Stmt) : Bool := match ss with
  | [] => true
  | s :: rest => cX P ks gs T C s && C.S rest
noncomputable def ck : Nat → Ck
  | 0 => ⟨fun _ => true, fun _ => true, fun _ => true, fun _ => true, fun _ => true⟩
  | n + 1 => ⟨cE P ks gs T (ck n), cL (ck n), cT (ck n), cA (ck n), cS P ks gs T (ck n)⟩
end
section
variable {c : Cx} {σ : Sg} {mg mb : Str → Option Value} {k : Nat}
theorem St.unG {hB h : Heap} {e : Ent} {G : Gh} {m : Str → Option Value} {mu : Led} {a : Addr} {o : Obj} (hb : ∀ a o, hB.get? a = some o → G a o) (hl : ∀ a o, e.G₀ a o → G a o) (S' : Mine.St hB e (gadd G a o) m mu h) : Mine.St hB e G m mu h :=
  { S' with bs := hb, sub := fun b x g => S'.sub b x (.inl g), gL := fun x g => S'.gL x (.inl g), gmu := fun p hp x g => S'.gmu p hp x (.inl g), le := hl, new := fun b x g => S'.new b x (.inl g) }
theorem Do.withG {α : Type} {tr : Sem α} {K : α → Sg → Prop} (x : (∀ a o, c.hB.get? a = some o → σ.G a o) → (∀ a o, c.e.G₀ a o → σ.G a o) → Do c σ tr K) : Do c σ tr K :=
  ⟨fun h g d t os Q E S q => (x S.bs S.le).run h g d t os Q E S q⟩
theorem Do.weakG {α : Type} {tr : Sem α} {K : α → Sg → Prop} {a : Addr} {o : Obj} (hb : ∀ a o, c.hB.get? a = some o → σ.G a o) (hl : ∀ a o, c.e.G₀ a o → σ.G a o) (x : Do c σ tr K) : Do c ⟨σ.vs, gadd σ.G a o, σ.mu⟩ tr K :=
  ⟨fun h g d t os Q E S q => x.run h g d t os Q E (St.unG hb hl S) q⟩
theorem cond_out {b : Bool} {X A B : Prop} (h : cond b X A) (f : b = true → X → B) (g : A → B) : B := by
  cases b
  · exact g h
  · exact f rfl h
noncomputable def Inv (e : Expr) : EV → Prop
  | .int z => ∃ j p, e = .Constant (.int z) j p
  | .str s => ∃ j p, e = .Constant (.str s) j p
  | .nil => ∃ j p, e = .Constant .none j p
  | .bool b => ∃ j p, e = .Constant (.bool b) j p
  | .name p => ∃ x, e = .Name x p
  | .attr => (E3 fun v a p => e = .Attribute v a p)
  | .sub => (E3 fun v s p => e = .Subscript v s p)
  | .bin op => (E3 fun l r p => e = .BinOp l op r p)
  | .cmp op => (E3 fun l r p => e = .Compare l [op] [r] p)
  | .ifx => (E4 fun t b o p => e = .IfExp t b o p)
  | .lst => ∃ es p, e = .List es p
  | .tup => (E3 fun es j p => e = .Tuple es j p)
  | .call np => (E4 fun f a as p => e = .Call (.Name f np) (a :: as) [] p)
  | .callx => (E4 fun f as kw p => e = .Call f as kw p)
  | .not => ∃ x p, e = .UnaryOp .Not x p
  | .bop op => ∃ es p, e = .BoolOp op es p
  | _ => True
theorem view_inv (e : Expr) : Inv e (view e) := by
  cases e with
  | Constant v j p => cases v <;> first | exact ⟨_, _, rfl⟩ | exact trivial
  | Name x p => exact ⟨_, rfl⟩
  | Attribute v a p => exact ⟨_, _, _, rfl⟩
  | Subscript v s p => exact ⟨_, _, _, rfl⟩
  | BinOp l op r p => exact ⟨_, _, _, rfl⟩
  | Compare l ops rs p => match ops, rs with
    | [op], [r] => exact ⟨_, _, _, rfl⟩
    | [], _ => exact trivial
    | [_], [] => exact trivial
    | [_], _ :: _ :: _ => exact trivial
    | _ :: _ :: _, _ => exact trivial
  | IfExp t b o p => exact ⟨_, _, _, _, rfl⟩
  | List es p => exact ⟨_, _, rfl⟩
  | Tuple es j p => exact ⟨_, _, _, rfl⟩
  | Call f as kw p =>
    cases f with
    | Name f np => match as, kw with
      | a :: as, [] => exact ⟨_, _, _, _, rfl⟩
      | [], _ => exact ⟨_, _, _, _, rfl⟩
      | _ :: _, _ :: _ => exact ⟨_, _, _, _, rfl⟩
    | _ => exact ⟨_, _, _, _, rfl⟩
  | UnaryOp op x p => cases op <;> first | exact ⟨_, _, rfl⟩ | exact trivial
  | BoolOp op es p => exact ⟨_, _, rfl⟩
  | _ => exact trivial
theorem strOfV_some {e : Expr} {s : Str} (h : strOfV (view e) = some s) : ∃ j p, e = .Constant (.str s) j p := by
  have I := view_inv e
  generalize view e = w at h I
  cases w with
  | str s' => cases h; exact I
  | _ => cases h
theorem strsOf_do {p : Pos} {n : Nat} : ∀ {es : List Expr} {ss : List Str} {K : List Value → Sg → Prop}, strsOf n es = some ss → (∀ vs, (∀ x t, (vs.all fun y => (eqB y (.str x t)).isSome) = true ∧ vs.any (eqv (.str x t)) = ss.any fun y => y == x) → vs.length ≤ n → K vs σ) → DoL c σ p es K := by
  induction n with
  | zero =>
    intro es ss K h q
    cases es with
    | nil => cases h; exact DoL.nil (q [] (fun _ _ => ⟨rfl, rfl⟩) (Nat.le_refl _))
    | cons e r => cases h
  | succ n ih =>
    intro es ss K h q
    cases es with
    | nil => cases h; exact DoL.nil (q [] (fun _ _ => ⟨rfl, rfl⟩) (Nat.zero_le _))
    | cons e r =>
      have h' : ((strOfV (view e)).bind fun s => (strsOf n r).map (s :: ·)) = some ss := h
      obtain ⟨s, he, h2⟩ := Option.bind_eq_some_iff.mp h'
      obtain ⟨ss', hr, rfl⟩ := Option.map_eq_some_iff.mp h2
      obtain ⟨j, p', rfl⟩ := strOfV_some he
      refine DoL.cons (Do.const_str fun t => ih hr fun vs hv hl => q _ (fun x u => ?_) (Nat.succ_le_succ hl))
      obtain ⟨h1, h2⟩ := hv x u
      refine ⟨?_, ?_⟩
      · rw [List.all_cons, h1]; rfl
      · rw [List.any_cons, List.any_cons, h2]; rfl
structure VCf.Ok (c : Cx) (V : VCf) (C : Ck) : Prop where
  E : ∀ {σ e K}, C.E e = true → V.E σ e K → Do c σ (eval e c.env) K
  L : ∀ {σ p es K}, C.L es = true → V.L σ p es K → DoL c σ p es K
  T : ∀ {σ e K}, C.T e = true → V.T σ e K → Do c σ (isTrue e c.env (eval e c.env)) K
  A : ∀ {σ op es K}, C.A es = true → V.A σ op es K → Do c σ (allTrue op es c.env) K
  S : ∀ {σ ss K}, C.S ss = true → V.S σ ss K → Do c σ (execs ss c.env) K
theorem tv_ok {v : Value} {K : Bool → Sg → Prop} (h : tv c v σ K) : Do c σ (truthy v) K := by
  cases v with
  | bool b => exact Do.truthy_bool h
  | _ => exact h
theorem cmpI_out {op : CmpOp} {x y : Int} {A : Prop} {k : Bool → Prop} (h : cmpI op x y A k) : A ∨ ∃ b, k b ∧ ∀ (t u : Tok) (K : Value → Sg → Prop) (σ : Sg), K (.bool b) σ → Do c σ (compareOp op (.int x t) (.int y u)) K := by
  cases op with
  | Eq => exact .inr ⟨_, h, fun _ _ _ _ => Do.eqi⟩
  | NotEq => exact .inr ⟨_, h, fun _ _ _ _ => Do.nei⟩
  | Lt => exact .inr ⟨_, h, fun _ _ _ _ => Do.lti⟩
  | LtE => exact .inr ⟨_, h, fun _ _ _ _ => Do.lei⟩
  | Gt => exact .inr ⟨_, h, fun _ _ _ _ => Do.gti⟩
  | GtE => exact .inr ⟨_, h, fun _ _ _ _ => Do.gei⟩
  | _ => exact .inl h
theorem cmpS_out {op : CmpOp} {x y : Str} {A : Prop} {k : Bool → Prop} (h : cmpS op x y A k) : A ∨ ∃ b, k b ∧ ∀ (t u : Tok) (K : Value → Sg → Prop) (σ : Sg), K (.bool b) σ → Do c σ (compareOp op (.str x t) (.str y u)) K := by
  cases op with
  | Eq => exact .inr ⟨_, h, fun _ _ _ _ => Do.eqs⟩
  | NotEq => exact .inr ⟨_, h, fun _ _ _ _ => Do.nes⟩
  | _ => exact .inl h
theorem cmpV_ok {op : CmpOp} {a b : Value} {K : Value → Sg → Prop} (h : cmpV c op a b σ K) : Do c σ (compareOp op a b) K := by
  cases a with
  | int x t =>
    cases b with
    | int y u => exact (cmpI_out (c := c) (op := op) (x := x) (y := y) (A := Do c σ (compareOp op (.int x t) (.int y u)) K) (k := fun r => K (.bool r) σ) h).elim id fun ⟨r, h1, h2⟩ => h2 _ _ _ _ h1
    | _ => exact h
  | str x t =>
    cases b with
    | str y u => exact (cmpS_out (c := c) (op := op) (x := x) (y := y) (A := Do c σ (compareOp op (.str x t) (.str y u)) K) (k := fun r => K (.bool r) σ) h).elim id fun ⟨r, h1, h2⟩ => h2 _ _ _ _ h1
    | _ => exact h
  | _ => exact h
theorem binV_ok {op : Operator} {a b : Value} {K : Value → Sg → Prop} (h : binV c op a b σ K) : Do c σ (binaryOp op a b) K := by
  cases a with
  | int x t =>
    cases b with
    | int y u =>
      cases op with
      | Add => exact Do.add h
      | Sub => exact Do.sub h
      | _ => exact h
    | _ => exact h
  | _ => exact h
theorem litI_ok {op : CmpOp} {a : Value} {y : Int} {j : Nat} {p : Pos} {K : Bool → Sg → Prop} (h : litI c σ op y K a) : Do c σ (eval (.Constant (.int y) j p) c.env) fun b σ₁ => Do c σ₁ (compareOp op a b) fun v σ₂ => Do c σ₂ (truthy v) K := by
  refine Do.const_int fun u => ?_
  cases a with
  | int x t => exact (cmpI_out (c := c) (op := op) (x := x) (y := y) (A := ∀ u, Do c σ (compareOp op (.int x t) (.int y u)) (kTv c K)) (k := fun b => K b σ) h).elim (fun h => (h u).mono fun v σ₂ h => tv_ok h) fun ⟨r, h1, h2⟩ => h2 _ _ _ _ (Do.truthy_bool h1)
  | _ => exact (h u).mono fun v σ₂ h => tv_ok h
theorem litS_ok {op : CmpOp} {a : Value} {y : Str} {j : Nat} {p : Pos} {K : Bool → Sg → Prop} (h : litS c σ op y K a) : Do c σ (eval (.Constant (.str y) j p) c.env) fun b σ₁ => Do c σ₁ (compareOp op a b) fun v σ₂ => Do c σ₂ (truthy v) K := by
  refine Do.const_str fun u => ?_
  cases a with
  | str x t => exact (cmpS_out (c := c) (op := op) (x := x) (y := y) (A := ∀ u, Do c σ (compareOp op (.str x t) (.str y u)) (kTv c K)) (k := fun b => K b σ) h).elim (fun h => (h u).mono fun v σ₂ h => tv_ok h) fun ⟨r, h1, h2⟩ => h2 _ _ _ _ (Do.truthy_bool h1)
  | _ => exact (h u).mono fun v σ₂ h => tv_ok h
theorem inS_ok {op : CmpOp} {x : Str} {t : Tok} {es : List Expr} {j : Nat} {p : Pos} {A : Prop} {K : Bool → Sg → Prop} (h : inS σ op x A K (strsOf 12 es)) : A ∨ Do c σ (eval (.Tuple es j p) c.env) fun b σ₁ => Do c σ₁ (compareOp op (.str x t) b) fun v σ₂ => Do c σ₂ (truthy v) K := by
  cases hs : strsOf 12 es with
  | none => rw [hs] at h; exact .inl h
  | some ss =>
    rw [hs] at h
    cases op with
    | In =>
      refine .inr (Do.withG fun hb hl => Do.tupleD (strsOf_do hs fun vs hv hlen => Do.newTupG (by rw [sizeLine_eq]; lia) fun a => ?_))
      refine Do.inT' (.inl gadd_at) (hv x t).1 (Do.weakG hb hl (Do.truthy_bool ?_))
      rw [(hv x t).2]; exact h
    | NotIn =>
      refine .inr (Do.withG fun hb hl => Do.tupleD (strsOf_do hs fun vs hv hlen => Do.newTupG (by rw [sizeLine_eq]; lia) fun a => ?_))
      refine Do.notInT' (.inl gadd_at) (hv x t).1 (Do.weakG hb hl (Do.truthy_bool ?_))
      rw [(hv x t).2]; exact h
    | _ => exact .inl h
theorem eLit_ok {V : VCf} {C : Ck} (ok : V.Ok c C) {op : CmpOp} {a : Value} {r : Expr} {K : Bool → Sg → Prop} (hr : C.E r = true) (h : kLit c V op r K a σ) :
    Do c σ (eval r c.env) fun b σ₁ => Do c σ₁ (compareOp op a b) fun v σ₂ => Do c σ₂ (truthy v) K := by
  have gen : V.E σ r (kCmp2 c op a (kTv c K)) → Do c σ (eval r c.env) fun b σ₁ => Do c σ₁ (compareOp op a b) fun v σ₂ => Do c σ₂ (truthy v) K :=
    fun h => (ok.E hr h).mono fun b σ₁ h => (cmpV_ok (show cmpV c op a b σ₁ (kTv c K) from h)).mono fun v σ₂ h => tv_ok h
  have I := view_inv r
  replace h : kLitW c V op r K a σ (view r) := h
  generalize view r = w at h I
  cases w with
  | int y => obtain ⟨j, p, rfl⟩ := I; exact litI_ok h
  | str y => obtain ⟨j, p, rfl⟩ := I; exact litS_ok h
  | tup =>
    obtain ⟨es, j, p, rfl⟩ := I
    cases a with
    | str x t => exact (inS_ok h).elim gen id
    | _ => exact gen h
  | _ => exact gen h
theorem ckName_loc {P : Params} {ks gs : List Str} {x : Str} {i : Nat} (h : ckNR P ks gs x (some (.loc i)) = true) : ks[i]? = some x := beq_iff_eq.mp h
theorem ref_ok {mg mb : Str → Option Value} {k : Nat} (o : c.Ok mg mb k) {x : Str} {p : Pos} {j : Nat} {a : Addr} {K : Value → Sg → Prop} (hc : ckNR c.w.params c.ks c.gs x (some (.ref j a)) = true) (h : K (.ref a) σ) : Do c σ (eval (.Name x p) c.env) K := by
  obtain ⟨h1, h2⟩ := Bool.and_eq_true_iff.mp hc
  refine Do.globalK o j (beq_iff_eq.mp h1) (v := .ref a) ?_ h
  cases hn : nsIn (H.K c.w.params) mainGlobals x with
  | none => rw [hn] at h2; cases h2
  | some v =>
    rw [hn] at h2
    cases v with
    | none => cases h2
    | some v =>
      cases v with
      | ref b => rw [Nat.eq_of_beq_eq_true h2]
      | _ => cases h2
theorem no_ok {v : Option (Option Value)} (h : isNo v = true) : v = some none := by
  cases v with
  | none => cases h
  | some v =>
    cases v with
    | none => rfl
    | some v => cases h
theorem nameK_ok {mg mb : Str → Option Value} {k : Nat} (o : c.Ok mg mb k) {x : Str} {p : Pos} {r : Option NR} {K : Value → Sg → Prop} (hc : ckNR c.w.params c.ks c.gs x r = true) (h : nameK σ (Do c σ (eval (.Name x p) c.env) K) K r) : Do c σ (eval (.Name x p) c.env) K := by
  cases r with
  | none => exact h
  | some r =>
    cases r with
    | loc i =>
      rcases getK_out h with h | ⟨v, hv, h⟩
      · exact h
      · exact Do.name o i (ckName_loc hc) hv h
    | ref j a => exact ref_ok o hc h
    | blt j s =>
      obtain ⟨h1, hc⟩ := Bool.and_eq_true_iff.mp hc
      obtain ⟨h2, hc⟩ := Bool.and_eq_true_iff.mp hc
      obtain ⟨h3, h4⟩ := Bool.and_eq_true_iff.mp hc
      refine Do.builtinK o j (beq_iff_eq.mp h1) (no_ok h3) h2 (v := .builtin s) ?_ h
      cases hb : bootBuiltins x with
      | none => rw [hb] at h4; cases h4
      | some v =>
        rw [hb] at h4
        cases v with
        | builtin s' => rw [beq_iff_eq.mp h4]
        | _ => cases h4
    | typ j s =>
      obtain ⟨h1, hc⟩ := Bool.and_eq_true_iff.mp hc
      obtain ⟨h2, hc⟩ := Bool.and_eq_true_iff.mp hc
      obtain ⟨h3, h4⟩ := Bool.and_eq_true_iff.mp hc
      refine Do.builtinK o j (beq_iff_eq.mp h1) (no_ok h3) h2 (v := .type s) ?_ h
      cases hb : bootBuiltins x with
      | none => rw [hb] at h4; cases h4
      | some v =>
        rw [hb] at h4
        cases v with
        | type s' => rw [beq_iff_eq.mp h4]
        | _ => cases h4
theorem base_ok {v : Expr} {a : Str} {env : Env} (h : baseOk v = true) : attributeBase v a env (eval v env) = eval v env := by
  have I := view_inv v
  unfold baseOk at h
  generalize view v = w at h I
  cases w with
  | name p => obtain ⟨x, rfl⟩ := I; rfl
  | attr => obtain ⟨x, y, z, rfl⟩ := I; rfl
  | sub => obtain ⟨x, y, z, rfl⟩ := I; rfl
  | _ => cases h
theorem val_ok {e : Expr} {t : Option Expr} {n : Nat} {env : Env} (h : valOk e = true) : swapsWith e t n env = Pure.pure false := by
  cases e <;> first | rfl | cases h
theorem test_ok {e : Expr} {env : Env} (h : testOk e = true) : isTrue e env (eval e env) = (do let v ← eval e env; PySem.standAt e.pos; PySem.holding [v] (truthy v)) := by
  have I := view_inv e
  unfold testOk at h
  generalize view e = w at h I
  cases w with
  | name p => obtain ⟨x, rfl⟩ := I; rfl
  | attr => obtain ⟨x, y, z, rfl⟩ := I; rfl
  | sub => obtain ⟨x, y, z, rfl⟩ := I; rfl
  | call np => obtain ⟨x, y, z, u, rfl⟩ := I; rfl
  | callx => obtain ⟨x, y, z, u, rfl⟩ := I; rfl
  | _ => cases h
theorem star_ok {e : Expr} {es : List Expr} {env : Env} (h : notStar e = true) : starEach (e :: es) env = (false, eval e env) :: starEach es env := by
  cases e <;> first | rfl | cases h
theorem stars_plain {p : Pos} {env : Env} : ∀ {es : List Expr}, es.all notStar = true → (backTo p (starEach es env)).any (·.1) = false
  | [], _ => rfl
  | e :: es, h => by
    rw [List.all_cons] at h
    obtain ⟨h1, h2⟩ := Bool.and_eq_true_iff.mp h
    rw [star_ok h1]
    have := stars_plain (p := p) (env := env) h2
    simpa [backTo] using this
theorem callK_ok {mg mb : Str → Option Value} {k : Nat} (o : c.Ok mg mb k) {V : VCf} {C : Ck} (ok : V.Ok c C) {f : Str} {np p : Pos} {a : Expr} {as : List Expr} {r : Option NR} {K : Value → Sg → Prop} (h1 : ckNR c.w.params c.ks c.gs f r = true) (h2 : C.L (a :: as) = true) (h3 : ckCall c.w.params a as r = true)
    (h : callK c V σ p (a :: as) (Do c σ (eval (.Call (.Name f np) (a :: as) [] p) c.env) K) K r) : Do c σ (eval (.Call (.Name f np) (a :: as) [] p) c.env) K := by
  cases r with
  | none => exact h
  | some r =>
    cases r with
    | ref j F =>
      obtain ⟨h3, h4⟩ := Bool.and_eq_true_iff.mp h3
      obtain ⟨h4, h5⟩ := Bool.and_eq_true_iff.mp h4
      exact Do.callG (ref_ok o h1 (Do.callWith_args o h3 (ok.L h2 h) (star_ok h4) (stars_plain h5)))
    | _ => exact h
theorem setN_ok {mg mb : Str → Option Value} {k : Nat} (o : c.Ok mg mb k) {V : VCf} {C : Ck} (ok : V.Ok c C) {x : Str} {q p : Pos} {e : Expr} {r : Option NR} {K : Flow → Sg → Prop} (hv : valOk e = true) (h1 : C.E e = true) (h2 : ckNR c.w.params c.ks c.gs x r = true)
    (h : setN (Do c σ (exec (.Assign [.Name x q] e p) c.env) K) (fun i => V.E σ e (kSet i K)) r) : Do c σ (exec (.Assign [.Name x q] e p) c.env) K := by
  cases r with
  | none => exact h
  | some r =>
    cases r with
    | loc i =>
      refine Do.assign_name o i (ckName_loc h2) (val_ok hv) ((ok.E h1 h).mono fun v σ' h => ?_)
      obtain ⟨vs, G, mu⟩ := σ'
      exact setK_out h
    | _ => exact h
theorem and2 {a b : Bool} (h : (a && b) = true) : a = true ∧ b = true := Bool.and_eq_true_iff.mp h
theorem not_ok {a : Bool} (h : (!a) = true) : a = false := by cases a <;> first | rfl | cases h
noncomputable def InvS (s : Stmt) : SV → Prop
  | .ifs => (E4 fun t b e p => s = .If t b e p)
  | .ret => ∃ e p, s = .Return (some e) p
  | .ret0 => ∃ p, s = .Return none p
  | .asgN q => (E3 fun x e p => s = .Assign [.Name x q] e p)
  | .asgA => (E5 fun b a q e p => s = .Assign [.Attribute b a q] e p)
  | .asgS => (E5 fun b i q e p => s = .Assign [.Subscript b i q] e p)
  | .ex => ∃ e p, s = .Expr e p
  | .pass => ∃ p, s = .Pass p
  | .cont => ∃ p, s = .Continue p
  | .brk => ∃ p, s = .Break p
  | .oth => True
theorem viewS_inv (s : Stmt) : InvS s (viewS s) := by
  cases s with
  | «If» t b e p => exact ⟨_, _, _, _, rfl⟩
  | Return v p => cases v <;> first | exact ⟨_, _, rfl⟩ | exact ⟨_, rfl⟩
  | Assign ts e p =>
    cases ts with
    | nil => exact trivial
    | cons t ts =>
      cases ts with
      | cons _ _ => cases t <;> exact trivial
      | nil =>
        cases t with
        | Name x q => exact ⟨_, _, _, rfl⟩
        | Attribute b a q => exact ⟨_, _, _, _, _, rfl⟩
        | Subscript b i q => exact ⟨_, _, _, _, _, rfl⟩
        | _ => exact trivial
  | Expr e p => exact ⟨_, _, rfl⟩
  | Pass p => exact ⟨_, rfl⟩
  | Continue p => exact ⟨_, rfl⟩
  | Break p => exact ⟨_, rfl⟩
  | _ => exact trivial
theorem eX_ok {mg mb : Str → Option Value} {k : Nat} (o : c.Ok mg mb k) {T : Tb} {V : VCf} {C : Ck} (ok : V.Ok c C) {s : Stmt} {K : Flow → Sg → Prop} (hs : cX c.w.params c.ks c.gs T C s = true) (h : eX c T V σ s K) : Do c σ (exec s c.env) K := by
  have I := viewS_inv s
  replace h : eXW c T V σ s K (viewS s) := h
  replace hs : cXW c.w.params c.ks c.gs T C s (viewS s) = true := hs
  generalize viewS s = w at h hs I
  cases w with
  | ifs => obtain ⟨t, b, e, p, rfl⟩ := I; exact Do.if_ ((ok.T (and2 (and2 hs).1).1 h).mono fun r σ₁ h => ⟨fun q => ok.S (and2 (and2 hs).1).2 (h.t q), fun q => ok.S (and2 hs).2 (h.f q)⟩)
  | ret => obtain ⟨e, p, rfl⟩ := I; exact Do.ret (ok.E hs h)
  | ret0 => obtain ⟨p, rfl⟩ := I; exact Do.ret_none h
  | asgN q => obtain ⟨x, e, p, rfl⟩ := I; exact cond_out h (fun hv h => setN_ok o ok hv (and2 hs).1 (and2 hs).2 h) id
  | asgA => obtain ⟨b, a, q, e, p, rfl⟩ := I; exact cond_out h (fun hv h => Do.assign_attr (val_ok hv) ((ok.E (and2 hs).1 h).mono fun v σ₁ h => ok.E (and2 hs).2 h)) id
  | asgS => obtain ⟨b, i, q, e, p, rfl⟩ := I; exact cond_out h (fun hv h => Do.assign_sub (val_ok hv) ((ok.E (and2 (and2 hs).1).1 h).mono fun v σ₁ h => (ok.E (and2 (and2 hs).1).2 h).mono fun ov σ₂ h => ok.E (and2 hs).2 h)) id
  | ex => obtain ⟨e, p, rfl⟩ := I; exact cond_out h (fun hv h => Do.expr o (val_ok hv) (ok.E hs h)) id
  | pass => obtain ⟨p, rfl⟩ := I; exact Do.pass h
  | cont => obtain ⟨p, rfl⟩ := I; exact Do.cont h
  | brk => obtain ⟨p, rfl⟩ := I; exact Do.brk h
  | oth => exact h
theorem vstep_ok {mg mb : Str → Option Value} {k : Nat} (o : c.Ok mg mb k) {T : Tb} {V : VCf} {C : Ck} (ok : V.Ok c C) :
    VCf.Ok c ⟨eE c T V, eL V, eT c V, eA V, eS c T V⟩ ⟨cE c.w.params c.ks c.gs T C, cL C, cT C, cA C, cS c.w.params c.ks c.gs T C⟩ where
  E := by
    intro σ e K hc h
    have I := view_inv e
    replace h : eEW c T V σ e K (view e) := h
    replace hc : cEW c.w.params c.ks c.gs T C e (view e) = true := hc
    generalize hv : view e = w at h hc I
    cases w with
    | int z => obtain ⟨j, p, rfl⟩ := I; exact Do.const_int h
    | str s => obtain ⟨j, p, rfl⟩ := I; exact Do.const_str h
    | nil => obtain ⟨j, p, rfl⟩ := I; exact Do.const_none h
    | bool b => obtain ⟨j, p, rfl⟩ := I; exact Do.const_bool h
    | name p => obtain ⟨x, rfl⟩ := I; exact nameK_ok o hc h
    | attr => obtain ⟨v, a, p, rfl⟩ := I; exact cond_out h (fun hb h => Do.attr (ok.E hc h) (base_ok hb)) id
    | sub => obtain ⟨v, s, p, rfl⟩ := I; exact Do.subscr ((ok.E (and2 hc).1 h).mono fun b σ₁ h => ok.E (and2 hc).2 h)
    | bin op => obtain ⟨l, r, p, rfl⟩ := I; exact Do.binop ((ok.E (and2 hc).1 h).mono fun b σ₁ h => (ok.E (and2 hc).2 h).mono fun b σ₂ h => binV_ok h)
    | cmp op => obtain ⟨l, r, p, rfl⟩ := I; exact Do.compareE (not_ok (and2 hc).2) ((ok.E (and2 (and2 hc).1).1 h).mono fun b σ₁ h => (ok.E (and2 (and2 hc).1).2 h).mono fun b σ₂ h => cmpV_ok h)
    | ifx => obtain ⟨t, b, e, p, rfl⟩ := I; exact Do.ifexp ((ok.T (and2 (and2 hc).1).1 h).mono fun r σ₁ h => ⟨fun q => ok.E (and2 (and2 hc).1).2 (h.t q), fun q => ok.E (and2 hc).2 (h.f q)⟩)
    | lst => obtain ⟨es, p, rfl⟩ := I; exact Do.listD (ok.L hc h)
    | tup => obtain ⟨es, j, p, rfl⟩ := I; exact Do.tupleD (ok.L hc h)
    | call np => obtain ⟨f, a, as, p, rfl⟩ := I; exact callK_ok o ok (and2 hc).1 (and2 (and2 hc).2).1 (and2 (and2 hc).2).2 h
    | _ => exact h
  L := by
    intro σ p es K hc h
    cases es with
    | nil => exact DoL.nil h
    | cons e es => exact DoL.cons ((ok.E (and2 (and2 hc).1).2 h).mono fun v σ' h => ok.L (and2 hc).2 h) (star_ok (and2 (and2 hc).1).1)
  T := by
    intro σ e K hc h
    have I := view_inv e
    replace h : eTW c V σ e K (view e) := h
    replace hc : cTW C e (view e) = true := hc
    have dflt : C.E e = true → cond (testOk e) (V.E σ e (kTv c K)) (Do c σ (isTrue e c.env (eval e c.env)) K) → Do c σ (isTrue e c.env (eval e c.env)) K := fun hc h =>
      cond_out h (fun ht h => Do.isTrue_other ((ok.E hc h).mono fun v σ' h => tv_ok h) (test_ok ht)) id
    generalize view e = w at h hc I
    cases w with
    | not => obtain ⟨x, p, rfl⟩ := I; exact Do.isTrue_not (ok.T hc h)
    | bop op => obtain ⟨es, p, rfl⟩ := I; exact Do.isTrue_bool (ok.A hc h)
    | cmp op => obtain ⟨l, r, p, rfl⟩ := I; exact Do.isTrue_cmp (not_ok (and2 hc).2) ((ok.E (and2 (and2 hc).1).1 h).mono fun b σ₁ h => eLit_ok ok (and2 (and2 hc).1).2 h)
    | _ => exact dflt hc h
  A := by
    intro σ op es K hc h
    cases es with
    | nil => exact Do.allTrue_nil h
    | cons e es =>
      cases op with
      | And => exact Do.allTrue_and ((ok.T (and2 hc).1 h).mono fun b σ₁ h => ⟨fun e => ok.A (and2 hc).2 (h.t e), fun e => h.f e⟩)
      | Or => exact Do.allTrue_or ((ok.T (and2 hc).1 h).mono fun b σ₁ h => ⟨fun e => h.t e, fun e => ok.A (and2 hc).2 (h.f e)⟩)
  S := by
    intro σ ss K hc h
    cases ss with
    | nil => exact Do.execs_nil h
    | cons s rest => exact Do.execs_cons ((eX_ok o ok (and2 hc).1 h).mono fun fl σ' h => by
        cases fl with
        | next => exact ok.S (and2 hc).2 h
        | _ => exact h)
theorem vc_ok {mg mb : Str → Option Value} {k : Nat} (o : c.Ok mg mb k) (T : Tb) (n : Nat) : (vc c T n).Ok c (ck c.w.params c.ks c.gs T n) := by
  induction n with
  | zero => exact ⟨fun _ h => h, fun _ h => h, fun _ h => h, fun _ h => h, fun _ h => h⟩
  | succ n ih => exact vstep_ok o ih
noncomputable def vcOne (c : Cx) (T : Tb) (n : Nat) : VCf := ⟨(vc c T n).E, (vc c T n).L, (vc c T n).T, (vc c T n).A, fun σ ss K => cond ss.isEmpty (K .next σ) (Do c σ (execs ss c.env) K)⟩
noncomputable def ckOne (P : Params) (ks gs : List Str) (T : Tb) (n : Nat) : List Stmt → Bool
  | [] => false
  | s :: _ => cX P ks gs T ⟨(ck P ks gs T n).E, (ck P ks gs T n).L, (ck P ks gs T n).T, (ck P ks gs T n).A, fun _ => true⟩ s
theorem Do.reS1 {mg mb : Str → Option Value} {k : Nat} {ss : List Stmt} {K : Flow → Sg → Prop} (o : c.Ok mg mb k) (T : Tb) (n : Nat) (q : eX c T (vcOne c T n) σ (hdS ss) (seqK (vcOne c T n) (tlS ss) K)) (h : ckOne c.w.params c.ks c.gs T n ss = true := by kernel_rfl) : Do c σ (execs ss c.env) K := by
  have V := vc_ok o T n
  have V1 : (vcOne c T n).Ok c ⟨(ck c.w.params c.ks c.gs T n).E, (ck c.w.params c.ks c.gs T n).L, (ck c.w.params c.ks c.gs T n).T, (ck c.w.params c.ks c.gs T n).A, fun _ => true⟩ := ⟨V.E, V.L, V.T, V.A, fun {_ ss _} _ h => by
    cases ss with
    | nil => exact Do.execs_nil h
    | cons _ _ => exact h⟩
  cases ss with
  | nil => cases h
  | cons s rest => exact Do.execs_cons ((eX_ok o V1 h q).mono fun fl σ' h => by
      cases fl with
      | next => exact V1.S (ss := rest) rfl h
      | _ => exact h)
theorem Do.reS {mg mb : Str → Option Value} {k : Nat} {ss : List Stmt} {K : Flow → Sg → Prop} (o : c.Ok mg mb k) (T : Tb) (n : Nat) (q : (vc c T n).S σ ss K) (h : (ck c.w.params c.ks c.gs T n).S ss = true := by kernel_rfl) : Do c σ (execs ss c.env) K := (vc_ok o T n).S h q
theorem Do.reE {mg mb : Str → Option Value} {k : Nat} {e : Expr} {K : Value → Sg → Prop} (o : c.Ok mg mb k) (T : Tb) (n : Nat) (q : (vc c T n).E σ e K) (h : (ck c.w.params c.ks c.gs T n).E e = true := by kernel_rfl) : Do c σ (eval e c.env) K := (vc_ok o T n).E h q
theorem Do.reL {mg mb : Str → Option Value} {k : Nat} {p : Pos} {es : List Expr} {K : List Value → Sg → Prop} (o : c.Ok mg mb k) (T : Tb) (n : Nat) (q : (vc c T n).L σ p es K) (h : (ck c.w.params c.ks c.gs T n).L es = true := by kernel_rfl) : DoL c σ p es K := (vc_ok o T n).L h q
theorem Do.reT {mg mb : Str → Option Value} {k : Nat} {e : Expr} {K : Bool → Sg → Prop} (o : c.Ok mg mb k) (T : Tb) (n : Nat) (q : (vc c T n).T σ e K) (h : (ck c.w.params c.ks c.gs T n).T e = true := by kernel_rfl) : Do c σ (isTrue e c.env (eval e c.env)) K := (vc_ok o T n).T h q
noncomputable def isFor : Stmt → Bool
  | .For _ _ _ [] _ => true
  | _ => false
theorem isFor_inv {s : Stmt} (h : isFor s = true) : E4 fun t i b p => s = .For t i b [] p := by
  unfold isFor at h
  split at h
  · exact ⟨_, _, _, _, rfl⟩
  · cases h
theorem Do.forLp {s : Stmt} {K : Flow → Sg → Prop} (ok : c.Ok mg mb k) (hs : ∀ x, foldedSetIterable (sVal s) c.env x = Pure.pure x)
    (y : Do c σ (eval (sVal s) c.env) fun x σ₁ => (E4 fun a vs n J => A5 (x = .ref a) (∀ i σ', J i σ' → σ'.has a (lobj vs n)) (J 0 σ₁) (∀ i v p σ', vs[i]? = some v → J i σ' → Do (c.hide p) σ' (assign (sTgt s) c.env v) fun _ σ'' => Do (c.hide p) σ'' (execs (sBody s) c.env) (LoopK J i K)) (∀ σ', J vs.length σ' → K .next σ')))
    (hf : isFor s = true := by kernel_rfl) : Do c σ (exec s c.env) K := by
  obtain ⟨_, _, _, _, rfl⟩ := isFor_inv hf
  exact Do.forL ok hs y
theorem Do.forTp {s : Stmt} {K : Flow → Sg → Prop} (ok : c.Ok mg mb k) (hs : ∀ x, foldedSetIterable (sVal s) c.env x = Pure.pure x)
    (y : Do c σ (eval (sVal s) c.env) fun x σ₁ => (E4 fun a vs n J => A5 (x = .ref a) (∀ i σ', J i σ' → σ'.has a (tobj vs n)) (J 0 σ₁) (∀ i v p σ', vs[i]? = some v → J i σ' → Do (c.hide p) σ' (assign (sTgt s) c.env v) fun _ σ'' => Do (c.hide p) σ'' (execs (sBody s) c.env) (LoopK J i K)) (∀ σ', J vs.length σ' → K .next σ')))
    (hf : isFor s = true := by kernel_rfl) : Do c σ (exec s c.env) K := by
  obtain ⟨_, _, _, _, rfl⟩ := isFor_inv hf
  exact Do.forT ok hs y
theorem Do.forRp {s : Stmt} {K : Flow → Sg → Prop} (ok : c.Ok mg mb k) (hs : ∀ x, foldedSetIterable (sVal s) c.env x = Pure.pure x)
    (y : Do c σ (eval (sVal s) c.env) fun x σ₁ => (E6 fun a m t u v J => A7 (x = .ref a) (σ₁.has a (robj m t u v)) (-1000000 ≤ m) (m ≤ 1000000) (J 0 σ₁) (∀ (i : Nat) t p σ', (i : Int) < m → J i σ' → Do (c.hide p) σ' (assign (sTgt s) c.env (.int i t)) fun _ σ'' => Do (c.hide p) σ'' (execs (sBody s) c.env) (LoopK J i K)) (∀ σ', J m.toNat σ' → K .next σ')))
    (hf : isFor s = true := by kernel_rfl) : Do c σ (exec s c.env) K := by
  obtain ⟨_, _, _, _, rfl⟩ := isFor_inv hf
  exact Do.forR ok hs y
theorem Do.forDp {s : Stmt} {K₁ : Type} [DecidableEq K₁] {K : Flow → Sg → Prop} (ok : c.Ok mg mb k) (knd : KeyKind H.rw_.prog c.w K₁) (hs : ∀ x, foldedSetIterable (sVal s) c.env x = Pure.pure x)
    (y : Do c σ (eval (sVal s) c.env) fun x σ₁ => (E4 fun a o kvs J => A6 (x = .ref a) (o.IsDictOf knd kvs) (∀ i σ', J i σ' → (a, o) ∈ σ'.mu) (J 0 σ₁) (∀ i kk x v p σ', kvs[i]? = some (kk, x) → knd.is kk v = true → J i σ' → Do (c.hide p) σ' (assign (sTgt s) c.env v) fun _ σ'' => Do (c.hide p) σ'' (execs (sBody s) c.env) (LoopK J i K)) (∀ σ', J kvs.length σ' → K .next σ')))
    (hf : isFor s = true := by kernel_rfl) : Do c σ (exec s c.env) K := by
  obtain ⟨_, _, _, _, rfl⟩ := isFor_inv hf
  exact Do.forD ok knd hs y
theorem forL_mk {σ₁ : Sg} {target : Expr} {body : List Stmt} {K : Flow → Sg → Prop} {a : Addr} {vs : List Value} {n : Nat} (J : Nat → Sg → Prop) (h1 : ∀ i σ', J i σ' → σ'.has a (lobj vs n)) (h0 : J 0 σ₁)
    (step : ∀ i v p (KL : Flow → Sg → Prop), (∀ {fl σ'}, LoopK J i K fl σ' → KL fl σ') → ∀ QM : Sg → Prop, (∀ σ', (Do (c.hide p) σ' (assign target c.env v) fun _ σ'' => Do (c.hide p) σ'' (execs body c.env) KL) → QM σ') → ∀ σ', vs[i]? = some v → J i σ' → QM σ')
    (fin : ∀ QM : Sg → Prop, (∀ σ', K .next σ' → QM σ') → ∀ σ', J vs.length σ' → QM σ') : (E4 fun a' vs n J => A5 (Value.ref a = .ref a') (∀ i σ', J i σ' → σ'.has a' (lobj vs n)) (J 0 σ₁) (∀ i v p σ', vs[i]? = some v → J i σ' → Do (c.hide p) σ' (assign target c.env v) fun _ σ'' => Do (c.hide p) σ'' (execs body c.env) (LoopK J i K)) (∀ σ', J vs.length σ' → K .next σ')) :=
  ⟨a, vs, n, J, rfl, h1, h0, fun i v p => step i v p (LoopK J i K) (fun h => h) _ fun _ h => h, fin _ fun _ h => h⟩
theorem forT_mk {σ₁ : Sg} {target : Expr} {body : List Stmt} {K : Flow → Sg → Prop} {a : Addr} {vs : List Value} {n : Nat} (J : Nat → Sg → Prop) (h1 : ∀ i σ', J i σ' → σ'.has a (tobj vs n)) (h0 : J 0 σ₁)
    (step : ∀ i v p (KL : Flow → Sg → Prop), (∀ {fl σ'}, LoopK J i K fl σ' → KL fl σ') → ∀ QM : Sg → Prop, (∀ σ', (Do (c.hide p) σ' (assign target c.env v) fun _ σ'' => Do (c.hide p) σ'' (execs body c.env) KL) → QM σ') → ∀ σ', vs[i]? = some v → J i σ' → QM σ')
    (fin : ∀ QM : Sg → Prop, (∀ σ', K .next σ' → QM σ') → ∀ σ', J vs.length σ' → QM σ') : (E4 fun a' vs n J => A5 (Value.ref a = .ref a') (∀ i σ', J i σ' → σ'.has a' (tobj vs n)) (J 0 σ₁) (∀ i v p σ', vs[i]? = some v → J i σ' → Do (c.hide p) σ' (assign target c.env v) fun _ σ'' => Do (c.hide p) σ'' (execs body c.env) (LoopK J i K)) (∀ σ', J vs.length σ' → K .next σ')) :=
  ⟨a, vs, n, J, rfl, h1, h0, fun i v p => step i v p (LoopK J i K) (fun h => h) _ fun _ h => h, fin _ fun _ h => h⟩
theorem forR_mk {σ₁ : Sg} {target : Expr} {body : List Stmt} {K : Flow → Sg → Prop} {a : Addr} {m : Int} {t u v : Tok} (J : Nat → Sg → Prop) (hr : σ₁.has a (robj m t u v)) (b1 : -1000000 ≤ m) (b2 : m ≤ 1000000) (h0 : J 0 σ₁)
    (step : ∀ (i : Nat) t p (KL : Flow → Sg → Prop), (∀ {fl σ'}, LoopK J i K fl σ' → KL fl σ') → ∀ QM : Sg → Prop, (∀ σ', (Do (c.hide p) σ' (assign target c.env (.int i t)) fun _ σ'' => Do (c.hide p) σ'' (execs body c.env) KL) → QM σ') → ∀ σ', (i : Int) < m → J i σ' → QM σ')
    (fin : ∀ QM : Sg → Prop, (∀ σ', K .next σ' → QM σ') → ∀ σ', J m.toNat σ' → QM σ') : (E6 fun a' m t u v J => A7 (Value.ref a = .ref a') (σ₁.has a' (robj m t u v)) (-1000000 ≤ m) (m ≤ 1000000) (J 0 σ₁) (∀ (i : Nat) t p σ', (i : Int) < m → J i σ' → Do (c.hide p) σ' (assign target c.env (.int i t)) fun _ σ'' => Do (c.hide p) σ'' (execs body c.env) (LoopK J i K)) (∀ σ', J m.toNat σ' → K .next σ')) :=
  ⟨a, m, t, u, v, J, rfl, hr, b1, b2, h0, fun i t p => step i t p (LoopK J i K) (fun h => h) _ fun _ h => h, fin _ fun _ h => h⟩
theorem forD_mk {σ₁ : Sg} {target : Expr} {body : List Stmt} {K : Flow → Sg → Prop} {K₁ : Type} [DecidableEq K₁] {knd : KeyKind H.rw_.prog c.w K₁} {a : Addr} {o : Obj} {kvs : List (K₁ × Value)} (J : Nat → Sg → Prop) (hd : o.IsDictOf knd kvs) (h1 : ∀ i σ', J i σ' → (a, o) ∈ σ'.mu) (h0 : J 0 σ₁)
    (step : ∀ i kk x v p (KL : Flow → Sg → Prop), (∀ {fl σ'}, LoopK J i K fl σ' → KL fl σ') → ∀ QM : Sg → Prop, (∀ σ', (Do (c.hide p) σ' (assign target c.env v) fun _ σ'' => Do (c.hide p) σ'' (execs body c.env) KL) → QM σ') → ∀ σ', kvs[i]? = some (kk, x) → knd.is kk v = true → J i σ' → QM σ')
    (fin : ∀ QM : Sg → Prop, (∀ σ', K .next σ' → QM σ') → ∀ σ', J kvs.length σ' → QM σ') : (E4 fun a' o kvs J => A6 (Value.ref a = .ref a') (o.IsDictOf knd kvs) (∀ i σ', J i σ' → (a', o) ∈ σ'.mu) (J 0 σ₁) (∀ i kk x v p σ', kvs[i]? = some (kk, x) → knd.is kk v = true → J i σ' → Do (c.hide p) σ' (assign target c.env v) fun _ σ'' => Do (c.hide p) σ'' (execs body c.env) (LoopK J i K)) (∀ σ', J kvs.length σ' → K .next σ')) :=
  ⟨a, o, kvs, J, rfl, hd, h1, h0, fun i kk x v p => step i kk x v p (LoopK J i K) (fun h => h) _ fun _ h => h, fin _ fun _ h => h⟩
theorem all2i1 {α : Type} {f : α → Int} {ys : List Value} {r : α} (h : All2 (fun v r => ∃ tk, v = .int (f r) tk) ys [r]) : ∃ tk, ys = [.int (f r) tk] := by
  cases ys with
  | nil => exact h.elim
  | cons v l =>
    cases l with
    | nil => exact h.1.elim fun tk e => ⟨tk, by rw [e]⟩
    | cons _ _ => exact h.2.elim
theorem all2i2 {α : Type} {f : α → Int} {ys : List Value} {r r2 : α} (h : All2 (fun v r => ∃ tk, v = .int (f r) tk) ys [r, r2]) : ∃ tk tk2, ys = [.int (f r) tk, .int (f r2) tk2] := by
  cases ys with
  | nil => exact h.elim
  | cons v l => exact h.1.elim fun tk e => (all2i1 h.2).elim fun tk2 e2 => ⟨tk, tk2, by rw [e, e2]⟩
end
end Mine
end
section
namespace Mine
noncomputable def tb28 : Tb := [(6, [(8, .loc 0), (20, .loc 1)]), (7, [(8, .loc 0), (22, .loc 2)]), (8, [(8, .loc 0), (23, .loc 3)])]
noncomputable def tb49 : Tb := [(12, [(8, .loc 0)]), (13, [(8, .loc 0)]), (14, [(8, .loc 0)]), (15, [(8, .loc 0)]), (16, [(8, .loc 0)])]
noncomputable def tb56 : Tb := [(19, [(8, .loc 4), (19, .loc 0)]), (20, [(8, .loc 0)]), (21, [(8, .loc 0), (26, .loc 1), (30, .loc 4), (40, .loc 2), (43, .loc 3)]), (22, [(15, .loc 4)])]
noncomputable def tb63 : Tb := [(25, [(15, .loc 0), (33, .loc 1)])]
noncomputable def tb70 : Tb := [(28, [(8, .loc 2), (14, .ref 0 89), (27, .loc 1)]), (29, [(11, .loc 2), (22, .loc 0)]), (30, [(12, .loc 0), (22, .loc 2), (29, .loc 0), (44, .blt 1 "len"), (48, .loc 0)]), (31, [(12, .loc 0), (31, .loc 1)]), (32, [(15, .loc 0), (25, .loc 2)])]
noncomputable def tb75 : Tb := [(35, [(8, .loc 3), (14, .ref 0 89), (27, .loc 1)]), (36, [(8, .loc 0), (18, .loc 3), (25, .loc 2)]), (37, [(11, .loc 3), (52, .loc 0)]), (38, [(12, .loc 0), (31, .loc 1)])]
noncomputable def tb89 : Tb := [(40, [(7, .loc 0)]), (41, [(19, .loc 0), (31, .loc 0)]), (42, [(12, .loc 0), (27, .typ 0 "str"), (31, .loc 0)])]
noncomputable def tb96 : Tb := [(44, [(11, .loc 0)])]
noncomputable def tb103 : Tb := [(46, [(11, .loc 0), (32, .loc 0), (61, .ref 0 96), (69, .loc 0)])]
noncomputable def tb110 : Tb := [(48, [(4, .loc 1)]), (49, [(11, .loc 1), (16, .loc 0)])]
noncomputable def tb117 : Tb := [(51, [(11, .loc 0), (28, .loc 1), (38, .loc 0)])]
noncomputable def tb124 : Tb := [(53, [(4, .loc 4), (10, .loc 5), (21, .loc 6), (32, .ref 0 110), (45, .loc 1)]), (54, [(7, .loc 5)]), (55, [(8, .loc 2), (11, .loc 3), (16, .loc 3), (19, .loc 2)]), (56, [(4, .loc 7), (12, .loc 0), (22, .loc 4), (28, .loc 2), (31, .loc 3)]), (57, [(11, .ref 1 117), (18, .loc 0), (25, .loc 7), (35, .loc 6), (49, .loc 7)])]
noncomputable def tb131 : Tb := [(59, [(4, .loc 3), (11, .loc 0), (28, .loc 2), (31, .loc 0)]), (60, [(11, .loc 0), (30, .loc 0), (47, .loc 1), (50, .loc 3), (57, .loc 0)])]
noncomputable def tb138 : Tb := [(62, [(4, .loc 4), (9, .loc 1)]), (63, [(4, .loc 5)]), (64, [(7, .loc 4), (13, .loc 5)]), (65, [(15, .loc 0), (25, .loc 5), (31, .loc 4), (36, .loc 2), (39, .loc 3)]), (66, [(7, .loc 4)]), (67, [(15, .loc 0), (32, .loc 2), (35, .loc 0), (52, .loc 3), (55, .loc 0)]), (68, [(7, .loc 4)]), (69, [(15, .ref 1 131), (30, .loc 0), (37, .loc 2), (40, .loc 3)]), (70, [(7, .loc 4)]), (71, [(15, .ref 1 131), (30, .loc 0), (37, .loc 3), (40, .loc 2)]), (72, [(7, .loc 4)]), (73, [(15, .loc 0), (32, .loc 0), (49, .loc 3), (52, .loc 2), (56, .loc 0)]), (74, [(7, .loc 4)]), (75, [(15, .ref 2 124), (32, .loc 0), (39, .loc 1), (45, .loc 2), (48, .loc 3)])]
noncomputable def tb145 : Tb := [(78, [(4, .loc 2), (11, .loc 0), (28, .loc 1), (31, .loc 0)]), (79, [(11, .loc 0), (28, .loc 0), (45, .loc 1), (48, .loc 2), (55, .loc 2)])]
noncomputable def tb152 : Tb := [(81, [(7, .loc 1)]), (82, [(15, .loc 0), (32, .loc 2), (35, .loc 0)]), (83, [(7, .loc 1), (27, .loc 1)]), (84, [(15, .loc 0), (32, .loc 2), (35, .loc 0)]), (85, [(11, .loc 2)])]
noncomputable def tb157 : Tb := [(87, [(4, .loc 1), (11, .loc 0)]), (88, [(7, .loc 1)]), (90, [(4, .loc 2), (44, .loc 0)]), (91, [(15, .loc 2)]), (93, [(7, .loc 1)]), (94, [(15, .ref 0 145), (39, .loc 2)]), (95, [(7, .loc 1)]), (96, [(32, .loc 2)]), (97, [(7, .loc 1)]), (98, [(15, .ref 1 152), (35, .loc 0), (46, .loc 2)]), (99, [(7, .loc 1), (24, .loc 1)]), (100, [(15, .loc 2)]), (101, [(64, .loc 1), (71, .loc 2), (81, .loc 2)])]
noncomputable def tb164 : Tb := [(103, [(4, .loc 2), (12, .loc 0)]), (104, [(8, .loc 3), (15, .loc 1)]), (105, [(11, .loc 3)]), (107, [(8, .loc 4), (18, .ref 0 171), (26, .loc 0), (33, .loc 3)]), (108, [(11, .loc 4)]), (110, [(8, .loc 2), (16, .loc 0), (32, .loc 2), (39, .loc 0), (56, .loc 0), (73, .loc 4)]), (111, [(11, .loc 2)])]
noncomputable def tb171 : Tb := [(113, [(4, .loc 2), (9, .loc 1)]), (114, [(7, .loc 2)]), (115, [(15, .loc 0), (28, .loc 1), (43, .ref 0 96), (51, .loc 1)]), (116, [(7, .loc 2)]), (117, [(15, .loc 0), (30, .loc 1), (45, .ref 1 103), (63, .loc 1)]), (118, [(7, .loc 2)]), (119, [(15, .ref 2 157), (27, .loc 0), (34, .loc 1)]), (120, [(7, .loc 2)]), (121, [(15, .ref 3 164), (27, .loc 0), (34, .loc 1)]), (122, [(7, .loc 2), (42, .blt 4 "len"), (46, .loc 1)]), (124, [(4, .loc 3)]), (125, [(8, .loc 4), (15, .loc 1)]), (126, [(11, .loc 4), (35, .ref 0 96), (43, .loc 4)]), (128, [(8, .loc 3), (21, .ref 5 171), (29, .loc 0), (36, .loc 4)]), (129, [(15, .loc 3)]), (131, [(7, .loc 2)]), (132, [(15, .loc 0), (32, .loc 0), (49, .loc 3)]), (133, [(7, .loc 2)]), (134, [(15, .ref 6 117), (22, .loc 0), (29, .loc 3)]), (135, [(7, .loc 2)]), (136, [(15, .loc 0), (32, .loc 3), (42, .loc 0)]), (137, [(11, .ref 8 138), (24, .loc 0), (31, .loc 1), (37, .loc 3), (47, .loc 3)])]
noncomputable def tb178 : Tb := [(139, [(4, .loc 2), (10, .loc 3), (18, .loc 1)]), (140, [(11, .ref 0 103), (29, .loc 2)]), (142, [(4, .loc 4), (12, .ref 1 171), (20, .loc 0), (27, .loc 3)]), (143, [(7, .loc 4)]), (145, [(4, .loc 0), (15, .loc 2), (27, .loc 4)])]
noncomputable def tb185 : Tb := [(148, [(7, .loc 1), (63, .ref 0 103), (81, .loc 1)]), (150, [(4, .loc 2), (8, .ref 1 171), (16, .loc 0), (23, .loc 1)]), (151, [(7, .loc 2)]), (153, [(4, .loc 3), (10, .loc 0), (25, .loc 1)]), (154, [(7, .loc 1), (30, .loc 1)]), (155, [(8, .loc 4), (15, .loc 0), (34, .loc 1), (66, .loc 3), (71, .loc 2)]), (157, [(8, .loc 5), (14, .loc 0), (31, .loc 0), (48, .loc 2)]), (158, [(11, .loc 1)]), (159, [(12, .loc 5), (18, .loc 0), (35, .loc 5), (40, .loc 0)]), (160, [(8, .loc 4), (15, .loc 0), (33, .loc 1), (66, .loc 3), (71, .loc 5)]), (161, [(4, .loc 0), (15, .loc 1), (35, .loc 4)])]
noncomputable def tb192 : Tb := [(164, [(7, .loc 1)]), (165, [(12, .loc 2), (19, .loc 1)]), (166, [(19, .ref 0 192), (37, .loc 0), (44, .loc 2)]), (169, [(7, .loc 1)]), (170, [(15, .ref 1 178), (30, .loc 0), (37, .loc 1)]), (171, [(11, .loc 1), (32, .ref 2 185), (47, .loc 0), (54, .loc 1)])]
noncomputable def tb199 : Tb := [(173, [(4, .loc 1), (12, .ref 0 78)]), (174, [(11, .ref 1 192), (29, .loc 1), (36, .loc 0)]), (176, [(8, .loc 2), (18, .typ 2 "range"), (24, .blt 3 "len"), (28, .loc 1)]), (177, [(8, .loc 3), (14, .loc 1), (27, .loc 2)]), (178, [(8, .loc 1), (34, .loc 2), (42, .loc 1), (53, .ref 4 89), (66, .loc 3)]), (179, [(11, .ref 5 31), (19, .loc 1), (31, .loc 1), (45, .loc 1)])]
noncomputable def tb206 : Tb := [(181, [(4, .loc 1), (12, .ref 0 78)]), (182, [(4, .loc 2), (12, .ref 1 171), (20, .loc 1), (27, .loc 0)]), (183, [(7, .loc 2)]), (185, [(4, .loc 1), (33, .loc 2)]), (186, [(11, .ref 2 31), (19, .loc 1), (31, .loc 1)])]
noncomputable def tb221 : Tb := [(191, [(8, .loc 0), (18, .loc 1)]), (192, [(8, .loc 0), (21, .loc 2)]), (193, [(8, .loc 0), (20, .loc 3)]), (194, [(8, .loc 0), (20, .loc 4)]), (195, [(8, .loc 0), (21, .loc 5)]), (196, [(8, .loc 0)])]
noncomputable def tb235 : Tb := [(198, [(11, .ref 0 224), (25, .loc 2), (32, .loc 0), (39, .loc 1)])]
noncomputable def tb249 : Tb := [(203, [(8, .loc 0), (22, .loc 1)]), (204, [(8, .loc 0), (20, .loc 2)]), (205, [(8, .loc 0), (20, .loc 3)]), (206, [(8, .loc 0)]), (207, [(8, .loc 0)]), (208, [(8, .loc 0)]), (209, [(8, .loc 0)]), (210, [(8, .loc 0)]), (211, [(8, .loc 0)]), (212, [(8, .loc 0)]), (213, [(8, .loc 0)]), (214, [(8, .loc 0)])]
noncomputable def tb270 : Tb := [(218, [(8, .loc 0), (20, .loc 1)]), (219, [(8, .loc 0), (20, .loc 2)]), (220, [(8, .loc 0), (20, .loc 3)]), (221, [(8, .loc 0), (21, .loc 4)]), (222, [(8, .loc 0)]), (223, [(8, .loc 0)]), (224, [(8, .loc 0)]), (225, [(8, .loc 0)]), (226, [(8, .loc 0)]), (227, [(8, .loc 0)]), (228, [(8, .loc 0)]), (229, [(8, .loc 0)]), (230, [(8, .loc 0)]), (231, [(8, .loc 0)])]
noncomputable def tb291 : Tb := [(235, [(8, .loc 0)]), (236, [(8, .loc 0)]), (237, [(8, .loc 0), (23, .loc 0)]), (238, [(8, .loc 0), (20, .loc 0)]), (239, [(8, .loc 0), (20, .loc 0)]), (240, [(8, .loc 0), (23, .loc 0)]), (241, [(8, .loc 0), (20, .loc 0)]), (242, [(8, .loc 0), (19, .loc 0)]), (243, [(8, .loc 0), (20, .loc 0)])]
noncomputable def tb299 : Tb := [(246, [(8, .loc 0)]), (247, [(8, .loc 5), (15, .ref 0 252), (20, .loc 0), (34, .loc 1), (40, .loc 2)]), (248, [(8, .loc 5), (22, .loc 3)]), (249, [(8, .loc 5), (21, .loc 4)]), (250, [(11, .loc 4)]), (251, [(12, .loc 0), (23, .loc 3), (31, .loc 4), (40, .loc 5)]), (252, [(15, .loc 5)])]
noncomputable def tb320 : Tb := []
noncomputable def tb327 : Tb := [(264, [(7, .loc 0)]), (266, [(11, .loc 0)])]
noncomputable def tb334 : Tb := [(268, [(7, .loc 0), (17, .ref 0 320)]), (269, [(11, .loc 0), (21, .loc 0)]), (270, [(20, .loc 0)]), (271, [(16, .loc 0), (24, .loc 0)]), (272, [(7, .loc 0), (27, .loc 0)]), (273, [(16, .loc 0)])]
noncomputable def tb341 : Tb := [(276, [(7, .blt 0 "len"), (11, .loc 0), (24, .loc 0), (71, .ref 1 320)]), (278, [(8, .loc 2), (17, .loc 0)]), (279, [(15, .blt 2 "isinstance"), (26, .loc 2), (33, .typ 3 "int"), (41, .blt 2 "isinstance"), (52, .loc 2), (59, .typ 4 "bool")]), (281, [(7, .loc 0), (22, .loc 0), (41, .loc 0)]), (283, [(7, .loc 0), (30, .loc 0), (54, .loc 0)]), (285, [(7, .loc 0), (27, .loc 0), (37, .loc 1)]), (287, [(8, .loc 3), (13, .ref 6 334), (18, .loc 0)]), (288, [(11, .loc 3), (20, .loc 1)])]
noncomputable def tb348 : Tb := [(292, [(4, .loc 1)]), (293, [(4, .loc 2)]), (294, [(8, .loc 3), (17, .typ 0 "range"), (23, .blt 1 "len"), (27, .loc 0)]), (295, [(8, .loc 4), (18, .ref 2 341), (30, .loc 0), (35, .loc 3), (43, .loc 1)]), (296, [(11, .loc 4)]), (297, [(12, .loc 2), (26, .loc 3), (33, .loc 4)]), (298, [(13, .ref 3 327), (21, .loc 0), (26, .loc 3)]), (299, [(12, .loc 1), (18, .ref 3 327), (26, .loc 0), (31, .loc 3)]), (300, [(11, .loc 2)])]
noncomputable def tb355 : Tb := [(302, [(7, .loc 0)]), (303, [(15, .loc 0)]), (304, [(11, .loc 0)])]
noncomputable def tb362 : Tb := [(306, [(7, .loc 0)]), (307, [(16, .loc 1), (20, .loc 2)]), (308, [(7, .loc 0)]), (309, [(16, .loc 1), (20, .loc 2)]), (310, [(7, .loc 0)]), (311, [(15, .loc 1), (19, .loc 2)]), (312, [(7, .loc 0)]), (313, [(15, .loc 1), (19, .loc 2)]), (314, [(7, .loc 0)]), (315, [(15, .loc 1), (19, .loc 2)]), (316, [(7, .loc 0)]), (317, [(15, .loc 1), (19, .loc 2)]), (318, [(7, .loc 0)]), (319, [(16, .loc 1), (21, .loc 2)]), (320, [(7, .loc 0)]), (321, [(16, .ref 1 355), (28, .loc 1), (34, .loc 2)]), (322, [(7, .loc 0)]), (323, [(16, .loc 1), (21, .loc 2), (30, .loc 1), (40, .loc 2)]), (324, [(7, .loc 0)]), (325, [(20, .ref 1 355), (32, .loc 1), (37, .ref 1 355), (49, .loc 2)]), (326, [(16, .loc 1), (21, .loc 2)])]
noncomputable def tb369 : Tb := [(328, [(4, .loc 2)]), (329, [(4, .loc 3)]), (330, [(8, .loc 4), (12, .loc 5), (15, .loc 6), (18, .loc 7), (23, .loc 0)]), (331, [(11, .loc 4)]), (332, [(12, .loc 2), (19, .loc 5), (24, .loc 6)]), (333, [(13, .loc 4)]), (334, [(12, .loc 2), (19, .loc 5), (24, .loc 1), (31, .loc 6), (44, .loc 6), (48, .blt 1 "len"), (52, .loc 1)]), (335, [(13, .loc 4)]), (336, [(12, .loc 2), (19, .loc 5), (24, .loc 2), (31, .loc 6)]), (337, [(13, .loc 4)]), (338, [(12, .loc 3), (20, .loc 5), (25, .loc 2), (32, .loc 6)]), (340, [(12, .loc 2), (19, .loc 5), (24, .ref 2 362), (42, .loc 4), (46, .loc 2), (53, .loc 6), (57, .loc 2), (64, .loc 7)]), (341, [(4, .loc 8), (19, .blt 3 "max"), (23, .loc 3), (39, .blt 1 "len"), (43, .loc 3)]), (342, [(8, .loc 9), (13, .loc 3)]), (343, [(8, .loc 8), (14, .loc 9), (19, .loc 3), (27, .loc 9)]), (344, [(11, .loc 8)])]
noncomputable def tb376 : Tb := [(347, [(4, .loc 1)]), (348, [(8, .loc 2), (16, .loc 0)]), (349, [(8, .loc 3), (20, .loc 2), (28, .loc 2), (51, .loc 2)]), (350, [(12, .loc 4), (19, .typ 0 "range")]), (351, [(12, .loc 1), (27, .loc 3)]), (352, [(12, .loc 3), (24, .loc 3)]), (353, [(15, .loc 3)]), (355, [(4, .loc 1), (14, .loc 1)]), (356, [(4, .loc 1)]), (357, [(11, .loc 1)])]
noncomputable def tb383 : Tb := [(359, [(11, .loc 0), (24, .loc 1), (36, .loc 0)])]
noncomputable def tb391 : Tb := [(361, [(11, .ref 0 224), (16, .loc 0), (23, .loc 1), (26, .loc 2), (32, .loc 3)])]
noncomputable def tb396 : Tb := [(363, [(4, .loc 2), (11, .ref 0 383), (21, .loc 1)]), (364, [(4, .loc 4), (30, .loc 0)]), (365, [(7, .loc 2)]), (366, [(15, .ref 1 235), (21, .loc 0), (83, .ref 0 383), (93, .loc 1)]), (367, [(7, .loc 2)]), (368, [(15, .ref 1 235), (21, .loc 0), (64, .ref 0 383), (74, .loc 1)]), (369, [(7, .loc 2)]), (370, [(15, .ref 1 235), (21, .loc 0), (44, .ref 0 383), (54, .loc 1)]), (371, [(26, .loc 2)]), (372, [(15, .ref 1 235), (21, .loc 0)]), (373, [(4, .loc 3), (10, .loc 4), (18, .ref 0 383), (28, .loc 1), (34, .blt 2 "len"), (38, .loc 4)]), (374, [(11, .ref 3 391), (28, .loc 3), (42, .loc 3)])]
noncomputable def tb403 : Tb := [(376, [(4, .loc 3), (11, .ref 0 383), (21, .loc 1), (33, .loc 2)]), (377, [(4, .loc 4), (17, .loc 0)]), (378, [(7, .loc 3)]), (379, [(15, .ref 1 396), (25, .loc 0), (31, .loc 1)]), (380, [(7, .loc 3)]), (381, [(8, .loc 5), (29, .ref 0 383), (39, .loc 1)]), (382, [(15, .ref 2 391), (25, .loc 5), (29, .loc 4), (42, .ref 3 403), (53, .loc 0), (59, .loc 1), (65, .loc 2), (76, .ref 3 403), (87, .loc 0), (93, .loc 1), (99, .loc 2)]), (383, [(7, .loc 3)]), (384, [(15, .ref 2 391), (32, .loc 4), (45, .ref 3 403), (56, .loc 0), (62, .loc 1), (68, .loc 2)]), (385, [(7, .loc 3)]), (386, [(8, .loc 6), (16, .ref 4 235), (22, .loc 4), (34, .ref 0 383), (44, .loc 1)]), (387, [(15, .ref 2 391), (32, .loc 4), (45, .ref 3 403), (56, .loc 0), (62, .loc 1), (68, .loc 2), (79, .loc 6), (109, .ref 0 383), (119, .loc 1)]), (388, [(7, .loc 3)]), (389, [(15, .ref 2 391), (32, .loc 4), (45, .ref 3 403), (56, .loc 0), (62, .loc 1), (68, .loc 2)]), (390, [(7, .loc 3)]), (391, [(15, .ref 2 391), (32, .loc 4), (45, .ref 5 410), (55, .loc 0), (61, .loc 1), (67, .loc 2), (94, .ref 0 383), (104, .loc 1)]), (392, [(7, .loc 3)]), (393, [(15, .ref 2 391), (32, .loc 4), (45, .ref 6 417), (56, .loc 0), (62, .loc 1), (68, .loc 2)]), (394, [(11, .ref 2 391), (28, .loc 4), (41, .ref 1 396), (51, .loc 0), (57, .loc 1)])]
noncomputable def tb410 : Tb := [(396, [(4, .loc 3), (11, .ref 0 383), (21, .loc 1), (33, .loc 2)]), (397, [(4, .loc 4), (16, .loc 0)]), (398, [(7, .loc 3)]), (399, [(15, .ref 1 396), (25, .loc 0), (31, .loc 1)]), (400, [(7, .loc 3)]), (401, [(8, .loc 5), (38, .ref 0 383), (48, .loc 1)]), (402, [(15, .ref 2 391), (25, .loc 5), (29, .loc 4), (41, .ref 3 410), (51, .loc 0), (57, .loc 1), (63, .loc 2), (74, .ref 3 410), (84, .loc 0), (90, .loc 1), (96, .loc 2)]), (403, [(7, .loc 3)]), (404, [(15, .ref 2 391), (31, .loc 4), (43, .ref 3 410), (53, .loc 0), (59, .loc 1), (65, .loc 2)]), (405, [(4, .loc 6)]), (406, [(8, .loc 7), (15, .typ 4 "range"), (21, .ref 0 383), (31, .loc 1)]), (407, [(8, .loc 8), (18, .ref 5 235), (24, .loc 0), (47, .ref 0 383), (57, .loc 1)]), (408, [(8, .loc 6), (20, .ref 2 391), (40, .loc 0), (64, .loc 8)]), (409, [(11, .ref 2 391), (28, .loc 4), (39, .loc 6)])]
noncomputable def tb417 : Tb := [(411, [(4, .loc 3), (11, .ref 0 383), (21, .loc 1), (33, .loc 2)]), (412, [(4, .loc 4), (17, .loc 0)]), (413, [(7, .loc 3)]), (414, [(15, .ref 1 396), (25, .loc 0), (31, .loc 1)]), (415, [(7, .loc 3)]), (416, [(15, .ref 2 391), (32, .loc 4), (45, .ref 3 417), (56, .loc 0), (62, .loc 1), (68, .loc 2)]), (417, [(7, .loc 3)]), (418, [(8, .loc 5), (25, .ref 0 383), (35, .loc 1)]), (419, [(15, .ref 2 391), (25, .loc 5), (29, .loc 4), (42, .ref 3 417), (53, .loc 0), (59, .loc 1), (65, .loc 2), (76, .ref 3 417), (87, .loc 0), (93, .loc 1), (99, .loc 2)]), (420, [(7, .loc 3)]), (421, [(8, .loc 5), (38, .ref 0 383), (48, .loc 1)]), (422, [(15, .ref 2 391), (25, .loc 5), (29, .loc 4), (42, .ref 4 410), (52, .loc 0), (58, .loc 1), (64, .loc 2), (75, .ref 4 410), (85, .loc 0), (91, .loc 1), (97, .loc 2)]), (423, [(7, .loc 3)]), (424, [(8, .loc 6), (18, .ref 5 235), (24, .loc 0), (47, .ref 0 383), (57, .loc 1)]), (425, [(15, .ref 2 391), (31, .loc 4), (44, .loc 6), (53, .ref 4 410), (63, .loc 0), (69, .loc 1), (75, .loc 2)]), (426, [(7, .loc 3)]), (427, [(15, .ref 2 391), (32, .loc 4), (45, .ref 6 403), (56, .loc 0), (62, .loc 1), (68, .loc 2)]), (428, [(4, .loc 5), (42, .ref 0 383), (52, .loc 1)]), (429, [(11, .ref 2 391), (21, .loc 5), (25, .loc 4), (38, .ref 6 403), (49, .loc 0), (55, .loc 1), (61, .loc 2), (72, .ref 6 403), (83, .loc 0), (89, .loc 1), (95, .loc 2)])]
noncomputable def tb424 : Tb := [(431, [(7, .loc 2)]), (432, [(15, .ref 0 403), (26, .loc 0), (32, .loc 1)]), (433, [(7, .loc 2)]), (434, [(15, .ref 1 410), (25, .loc 0), (31, .loc 1)]), (435, [(7, .loc 2)]), (436, [(15, .ref 2 417), (26, .loc 0), (32, .loc 1)]), (437, [(11, .ref 3 396), (21, .loc 0), (27, .loc 1)])]
noncomputable def tb431 : Tb := [(439, [(4, .loc 2), (10, .loc 0), (23, .ref 0 383), (33, .loc 1)]), (440, [(4, .loc 3), (11, .ref 1 391), (28, .loc 2), (42, .loc 2)]), (441, [(4, .loc 4), (11, .ref 0 383), (21, .loc 1)]), (442, [(7, .loc 4), (21, .loc 2)]), (443, [(15, .ref 1 391), (39, .loc 3), (45, .ref 2 403), (56, .loc 0), (62, .loc 1), (88, .ref 0 383), (98, .loc 1)]), (444, [(7, .loc 4), (21, .loc 2)]), (445, [(8, .loc 5), (18, .ref 3 235), (24, .loc 0), (47, .ref 0 383), (57, .loc 1)]), (446, [(15, .ref 1 391), (39, .loc 3), (45, .loc 5), (72, .ref 0 383), (82, .loc 1)]), (447, [(11, .ref 1 391), (38, .loc 3), (44, .ref 4 424), (57, .loc 0), (63, .loc 1), (69, .loc 2)])]
noncomputable def tb438 : Tb := [(449, [(11, .loc 0), (32, .loc 0), (56, .loc 0)])]
noncomputable def tb445 : Tb := [(451, [(4, .loc 2), (11, .loc 1)]), (452, [(7, .loc 0)]), (453, [(15, .blt 0 "abs"), (19, .ref 1 438), (31, .loc 2)]), (454, [(7, .loc 0)]), (455, [(15, .loc 2)]), (456, [(7, .loc 0)]), (457, [(15, .loc 2), (27, .loc 1)]), (458, [(7, .loc 0)]), (459, [(15, .ref 1 438), (27, .loc 2), (41, .loc 1)]), (460, [(7, .loc 0)]), (461, [(16, .loc 2), (29, .loc 1), (39, .loc 2), (57, .loc 1)]), (462, [(11, .loc 2)])]
noncomputable def tb452 : Tb := [(464, [(4, .loc 3)]), (465, [(8, .loc 4), (16, .typ 0 "range")]), (466, [(8, .loc 5), (12, .loc 1), (25, .loc 4)]), (467, [(8, .loc 6), (12, .loc 2), (26, .loc 4)]), (468, [(8, .loc 7), (27, .loc 5), (31, .loc 6), (44, .loc 5), (48, .loc 6), (57, .loc 5), (61, .loc 6), (75, .loc 5), (79, .loc 6), (87, .loc 0)]), (469, [(8, .loc 3), (22, .loc 4), (30, .loc 7)]), (470, [(11, .loc 3)])]
noncomputable def tb459 : Tb := [(472, [(4, .loc 3), (9, .loc 0)]), (473, [(7, .loc 3)]), (474, [(21, .loc 1), (28, .loc 2), (40, .loc 1), (47, .loc 2), (59, .loc 1), (66, .loc 2), (73, .loc 3)]), (475, [(7, .loc 3)]), (476, [(15, .ref 0 452), (25, .loc 3), (29, .loc 1), (35, .loc 2)]), (477, [(7, .loc 3)]), (478, [(15, .loc 2), (29, .loc 1)]), (479, [(7, .loc 3)]), (480, [(21, .loc 1), (28, .loc 2), (42, .loc 3), (57, .loc 1), (64, .loc 2)]), (481, [(7, .loc 3)]), (482, [(8, .loc 4), (13, .loc 5), (21, .loc 1), (27, .loc 2), (37, .loc 3), (55, .loc 2), (62, .loc 1)]), (483, [(20, .ref 0 452), (36, .loc 4), (41, .loc 5)]), (484, [(4, .loc 1), (10, .loc 2), (19, .ref 1 438), (31, .loc 1), (38, .ref 1 438), (50, .loc 2)]), (485, [(4, .loc 6), (18, .loc 1), (26, .loc 2), (38, .loc 1), (46, .loc 2), (58, .loc 1), (65, .loc 2), (78, .loc 1), (86, .loc 2), (98, .loc 1), (105, .loc 2), (118, .loc 1), (126, .loc 2)]), (486, [(16, .loc 6), (22, .loc 3)])]
noncomputable def tb464 : Tb := [(488, [(7, .loc 0)]), (489, [(15, .loc 0)]), (490, [(7, .loc 0)]), (491, [(8, .loc 1), (16, .loc 0)]), (492, [(11, .loc 1), (39, .loc 1)]), (493, [(30, .loc 1)]), (494, [(21, .loc 1)]), (495, [(7, .loc 0)]), (496, [(8, .loc 2), (86, .loc 0)]), (497, [(8, .loc 3)]), (498, [(12, .loc 4), (19, .loc 2)]), (499, [(12, .loc 3), (20, .loc 3), (29, .loc 3), (38, .loc 4), (56, .loc 3), (64, .loc 4)]), (500, [(15, .loc 3)]), (501, [(4, .loc 2), (69, .loc 0)]), (502, [(7, .loc 0)]), (503, [(15, .ref 0 445), (24, .loc 0), (30, .loc 2)]), (504, [(7, .loc 0)]), (505, [(20, .loc 2)]), (506, [(7, .loc 0)]), (507, [(19, .loc 2)]), (508, [(7, .loc 0)]), (509, [(28, .loc 2)]), (510, [(11, .ref 1 459), (21, .loc 0), (27, .loc 2), (36, .loc 2)])]
noncomputable def tb471 : Tb := [(512, [(4, .loc 4), (12, .loc 0)]), (513, [(4, .loc 5), (11, .ref 0 464), (21, .loc 0), (35, .loc 1), (42, .loc 2), (54, .loc 3)]), (514, [(7, .loc 0)]), (515, [(8, .loc 6), (14, .ref 0 464), (24, .loc 0), (38, .loc 1), (45, .loc 2), (57, .loc 3)]), (516, [(11, .loc 0)]), (517, [(12, .loc 5), (20, .loc 6), (27, .loc 5), (35, .loc 0), (64, .loc 5)]), (519, [(12, .loc 7), (28, .loc 5)]), (520, [(12, .loc 8), (20, .loc 6), (27, .loc 7)]), (521, [(15, .loc 0)]), (522, [(16, .loc 5), (23, .loc 6), (30, .loc 8), (41, .loc 6), (47, .loc 7)]), (524, [(16, .loc 5), (23, .loc 6), (29, .loc 7), (41, .loc 8), (52, .loc 6)]), (525, [(4, .loc 1), (10, .loc 4), (19, .loc 5)]), (526, [(7, .loc 4), (20, .loc 3)]), (527, [(8, .loc 3), (26, .loc 4)])]
noncomputable def tb476 : Tb := [(529, [(11, .ref 0 376), (21, .loc 0)]), (530, [(4, .loc 1), (12, .ref 1 309)]), (531, [(21, .loc 1)]), (533, [(4, .loc 2), (21, .loc 1), (43, .loc 1), (65, .loc 1), (84, .loc 1), (103, .loc 1), (125, .loc 1)]), (534, [(8, .loc 3), (15, .loc 4), (20, .loc 2)]), (535, [(8, .loc 5), (14, .ref 2 273), (18, .loc 3), (32, .loc 4)]), (536, [(8, .loc 5)]), (537, [(8, .loc 5), (19, .blt 3 "len")]), (538, [(8, .loc 5), (25, .loc 3)]), (539, [(28, .loc 5)]), (540, [(4, .loc 6), (46, .typ 4 "range"), (52, .ref 5 383)]), (541, [(4, .loc 7), (12, .ref 6 403)]), (542, [(8, .loc 3), (15, .loc 4), (20, .loc 2)]), (543, [(8, .loc 8), (58, .ref 5 383), (80, .ref 5 383)]), (544, [(14, .loc 3), (23, .loc 8), (100, .loc 4)]), (545, [(4, .loc 9), (11, .ref 7 206), (28, .loc 7)]), (546, [(4, .loc 10)]), (547, [(4, .loc 11), (11, .ref 8 464), (21, .loc 7), (35, .loc 10)]), (548, [(7, .loc 9), (23, .ref 9 348), (32, .loc 9), (52, .blt 10 "sorted"), (80, .loc 9), (97, .blt 10 "sorted"), (104, .loc 10)]), (550, [(7, .ref 11 369), (15, .loc 9), (54, .loc 9), (71, .loc 11)]), (552, [(4, .loc 9), (11, .ref 12 199), (23, .ref 13 391), (48, .loc 6)]), (553, [(18, .typ 14 "dict")]), (554, [(4, .loc 10)]), (555, [(4, .loc 12)]), (556, [(8, .loc 13), (16, .loc 6)]), (557, [(8, .ref 15 471), (18, .loc 13), (31, .loc 10), (43, .loc 12)]), (558, [(7, .loc 9), (23, .ref 9 348), (32, .loc 9), (52, .blt 10 "sorted"), (80, .loc 9), (97, .blt 10 "sorted"), (104, .loc 10)]), (560, [(28, .loc 9), (45, .loc 12)]), (562, [(7, .ref 11 369), (15, .loc 9), (60, .loc 9), (104, .loc 12)]), (564, [(4, .loc 14), (15, .ref 13 391), (32, .loc 1), (48, .loc 7), (55, .ref 16 235), (61, .loc 1)]), (565, [(4, .loc 15), (11, .ref 13 391), (28, .loc 1)]), (566, [(4, .loc 16), (14, .loc 6), (23, .ref 13 391), (50, .loc 15), (56, .loc 14)]), (567, [(11, .ref 12 199), (23, .ref 13 391), (48, .loc 16), (70, .ref 7 206), (87, .loc 14)])]
end Mine
end
section
namespace Mine
open PySem PySem.W PyProof.Rows PySem.Calls H
noncomputable def iniN (vs : List (Option Value)) (k : Value → Prop) : Option NR → Prop
 | some (.loc i) => getK False k vs i
 | _ => False
noncomputable def iniE (vs : List (Option Value)) (T : Tb) (e : Expr) (k : Value → Led → Prop) (ex : Led) : EV → Prop
 | .name p => iniN vs (fun v => k v ex) (T.look p)
 | .int z => ∀ t, k (.int z t) ex
 | .str s => ∀ t, k (.str s t) ex
 | .nil => k .none ex
 | .bool b => k (.bool b) ex
 | .lst => ∀ a, k (.ref a) ((a, lobj []) :: ex)
 | _ => False
noncomputable def iniEC (P : Params) (ks gs : List Str) (T : Tb) (e : Expr) : EV → Bool
 | .name p => ckName P ks gs T (nmOf e) p
 | .lst => (kids e).isEmpty
 | _ => true
noncomputable def loc0 : Option NR → Bool
 | some (.loc 0) => true
 | _ => false
noncomputable def iniB (P : Params) (ks gs : List Str) (T : Tb) (b : Expr) : EV → Bool
 | .name p => ckName P ks gs T (nmOf b) p && loc0 (T.look p)
 | _ => false
noncomputable def iniSC (P : Params) (ks gs : List Str) (T : Tb) (C : Addr) (pre : List Str) (s : Stmt) : SV → Bool
 | .asgA => valOk (sVal s) && (iniEC P ks gs T (sVal s) (view (sVal s)) && (iniB P ks gs T (e1 (sTgt s)) (view (e1 (sTgt s))) && (storeIn (H.K P) C (nmOf (sTgt s)) && !(pre.any fun n => n == nmOf (sTgt s)))))
 | _ => false
noncomputable def iniC (P : Params) (ks gs : List Str) (T : Tb) (C : Addr) : List Stmt → List Str → Bool
 | [], _ => true
 | s :: r, pre => iniSC P ks gs T C pre s (viewS s) && (Nat.ble pre.length 900 && iniC P ks gs T C r (nmOf (sTgt s) :: pre))
noncomputable def iniK (P : Params) (vs : List (Option Value)) (T : Tb) (K : Led → List DictEntry → Prop) : List Stmt → Led → List DictEntry → Prop
 | [], ex, es => K ex es
 | s :: r, ex, es => iniE vs T (sVal s) (fun v ex' => ∀ t, iniK P vs T K r ex' (es ++ [⟨PyData.keyHash P (nmOf (sTgt s)), .str (nmOf (sTgt s)) t, v⟩])) ex (view (sVal s))
section
variable {c : Cx} {mg mb : Str → Option Value} {k : Nat} {vs : List (Option Value)} {G : Gh} {T : Tb}
theorem iniE_ok (o : c.Ok mg mb k) {e : Expr} {q : Value → Led → Prop} {ex mu : Led} {K : Value → Sg → Prop} (hK : ∀ v ex', q v ex' → K v ⟨vs, G, ex' ++ mu⟩) (h : iniE vs T e q ex (view e)) (hc : iniEC c.w.params c.ks c.gs T e (view e) = true) :
  Do c ⟨vs, G, ex ++ mu⟩ (eval e c.env) K := by
 have I := view_inv e
 revert h hc I
 generalize view e = w
 intro h hc I
 cases w with
 | name p =>
  obtain ⟨x, rfl⟩ := I
  replace h : iniN vs (fun v => q v ex) (T.look p) := h
  have hc2 : ckNR c.w.params c.ks c.gs x (T.look p) = true := hc
  revert h hc2
  generalize T.look p = w
  intro h hc2
  cases w with
  | none => exact h.elim
  | some r =>
   cases r with
   | loc i =>
    rcases getK_out h with h | ⟨v, hv, hq⟩
    ·exact h.elim
    ·exact Do.name o i (ckName_loc hc2) hv (hK _ _ hq)
   | _ => exact h.elim
 | int z => obtain ⟨j, p, rfl⟩ := I; exact Do.const_int fun t => hK _ _ (h t)
 | str s => obtain ⟨j, p, rfl⟩ := I; exact Do.const_str fun t => hK _ _ (h t)
 | nil => obtain ⟨j, p, rfl⟩ := I; exact Do.const_none (hK _ _ h)
 | bool b => obtain ⟨j, p, rfl⟩ := I; exact Do.const_bool (hK _ _ h)
 | lst =>
  obtain ⟨es, p, rfl⟩ := I
  cases es with
  | nil => exact Do.listD (DoL.nil (Do.newListS (vs := []) (by show 0 ≤ sizeLine; exact Nat.zero_le _) fun a _ => hK _ _ (h a)))
  | cons _ _ => cases hc
 | _ => exact h.elim
theorem ini_go (o : c.Ok mg mb k) {x dx C : Addr} {fp : Led} {K : Flow → Sg → Prop} (h0 : vs[0]? = some (some (.ref x))) (hx : G x (instObj C dx)) :
  ∀ (ss : List Stmt) (pre : List Str) (ex : Led) (es : List DictEntry), (∀ d ∈ es, ∃ n ∈ pre, ∃ t, d.key = .str n t) → es.length = pre.length → iniC c.w.params c.ks c.gs T C ss pre = true →
  iniK c.w.params vs T (fun ex es => K .next ⟨vs, G, ex ++ (dx, dictOf es es.length) :: fp⟩) ss ex es → Do c ⟨vs, G, ex ++ (dx, dictOf es es.length) :: fp⟩ (execs ss c.env) K
 | [], _, _, _, _, _, _, q => Do.execs_nil q
 | s :: r, pre, ex, es, hk, hl, hc, q => by
  obtain ⟨h1, hc⟩ := and2 hc
  obtain ⟨hz, h2⟩ := and2 hc
  have I := viewS_inv s
  revert h1 I
  generalize viewS s = w
  intro h1 I
  cases w with
  | asgA =>
   obtain ⟨b, a, q', e, p, rfl⟩ := I
   obtain ⟨c1, h1⟩ := and2 h1
   obtain ⟨c2, h1⟩ := and2 h1
   obtain ⟨c3, h1⟩ := and2 h1
   obtain ⟨c4, c5⟩ := and2 h1
   refine Do.execs_cons (Do.assign_attr (val_ok c1) (iniE_ok o (fun v ex' hq => ?_) q c2))
   have I := view_inv b
   replace c3 : iniB c.w.params c.ks c.gs T b (view b) = true := c3
   revert c3 I
   generalize view b = w
   intro I c3
   cases w with
   | name p2 =>
    obtain ⟨y, rfl⟩ := I
    obtain ⟨c3, c6⟩ := and2 c3
    have hlk : T.look p2 = some (.loc 0) := by
     revert c6
     generalize T.look p2 = w
     intro c6
     unfold loc0 at c6
     split at c6
     ·rfl
     ·cases c6
    have c7 : ckNR c.w.params c.ks c.gs y (T.look p2) = true := c3
    rw [hlk] at c7
    refine Do.name o 0 (ckName_loc c7) h0 ?_
    have hnot : ∀ d ∈ es, d.key.isStr a = false ∧ d.refKey = false := fun d hd => by
     obtain ⟨n, hn, t, hkk⟩ := hk d hd
     have h3 : (n == a) = false := by
      replace c5 : (!(pre.any fun n => n == a)) = true := c5
      rw [Bool.not_eq_true', List.any_eq_false] at c5
      simpa using c5 n hn
     unfold DictEntry.refKey
     rw [hkk]
     exact ⟨h3, rfl⟩
    refine Do.setNew o (.inl hx) rfl (List.findIdx?_eq_none_iff.mpr fun d hd => (hnot d hd).1) (List.any_eq_false.mpr fun d hd => by rw [(hnot d hd).2]; exact Bool.false_ne_true) c4 (by have := Nat.le_of_ble_eq_true hz; lia) fun t => ?_
    have e1 : es.length + 1 = (es ++ [(⟨PyData.keyHash c.w.params a, .str a t, v⟩ : DictEntry)]).length := by rw [List.length_append]; rfl
    rw [e1]
    refine ini_go o h0 hx r (a :: pre) ex' _ (fun d hd => ?_) (by rw [List.length_append, hl]; rfl) h2 (hq t)
    rcases List.mem_append.mp hd with hd | hd
    ·obtain ⟨n, hn, t, hkk⟩ := hk d hd
     exact ⟨n, .tail _ hn, t, hkk⟩
    ·rw [List.mem_singleton.mp hd]; exact ⟨a, .head _, t, rfl⟩
   | _ => exact Bool.noConfusion c3
  | _ => exact Bool.noConfusion h1
theorem Do.ini (o : c.Ok mg mb k) (T : Tb) {x dx C : Addr} {fp : Led} {ss : List Stmt} {K : Flow → Sg → Prop} (hx : G x (instObj C dx))
  (q : iniK c.w.params vs T (fun ex es => K .next ⟨vs, G, ex ++ (dx, dictOf es es.length) :: fp⟩) ss [] []) (h0 : vs[0]? = some (some (.ref x)) := by rfl) (hc : iniC c.w.params c.ks c.gs T C ss [] = true := by kernel_rfl) :
  Do c ⟨vs, G, (dx, emptyDict) :: fp⟩ (execs ss c.env) K :=
 ini_go o h0 hx ss [] [] [] (fun d hd => by cases hd) rfl hc q
end
end Mine
end
section
namespace Mine
open PySem PySem.W PyProof.Rows PySem.Calls H
structure Row where
  op : String
  d : Int
  x : Int
  y : Int
structure MS where
  rows : List Row
  held : List (Nat × Int)
  inputs : List Nat
  stored : List Nat
noncomputable def MS.sz (s : MS) : Nat := s.rows.length + s.held.length + s.inputs.length + s.stored.length
noncomputable def MS.put (s : MS) (op : String) (x y : Int) : MS := { s with rows := s.rows ++ [⟨op, s.rows.length, x, y⟩] }
inductive Fm where | I | M | B | C
  deriving DecidableEq
noncomputable def Fm.name : Fm → String
  | .I => "integer" | .M => "set" | .B => "boolean" | .C => "char"
noncomputable def fmOf : Nat → Fm
  | 0 => .I | 1 => .I | 2 => .M | 3 => .M | 4 => .B | _ => .C
structure Bk where
  var : Nat → Addr
  ty : Fm → Addr
structure MA where
  x : Addr
  dM : Addr
  aR : Addr
  aH : Addr
  aI : Addr
  aS : Addr
  k1 : Tok
  k2 : Tok
  k3 : Tok
  k4 : Tok
  k5 : Tok
noncomputable def RowIn (G : Gh) (v : Value) (r : Row) : Prop := (E6 fun a t1 t2 t3 t4 n => (v = .ref a) ∧ G a (tobj [.str (S r.op) t1, .int r.d t2, .int r.x t3, .int r.y t4] n))
noncomputable def keyOf (i : Nat) : List KI := if i = 1 then [.inl 0, .inr "M", .inr "b"] else [.inl 1, .inr "", .inr (S (toString i))]
noncomputable def HeldR (x : List KI × Addr × Value) (p : Nat × Int) : Prop := p.1 < 6 ∧ x.1 = keyOf p.1 ∧ ∃ t, x.2.2 = .int p.2 t
noncomputable abbrev mkDict (P : Params) (m : MA) (cnt : Int) (t : Tok) : List DictEntry := [e P "rows" m.k1 (.ref m.aR), e P "count" m.k2 (.int cnt t), e P "held" m.k3 (.ref m.aH), e P "inputs" m.k4 (.ref m.aI), e P "stored" m.k5 (.ref m.aS)]
noncomputable abbrev MkL (P : Params) (m : MA) (cnt : Int) (t : Tok) (rows : List Value) (nR : Nat) (oH : PySem.Obj) (ins : List Value) (nI : Nat) (sts : List Value) (nS : Nat) : Led :=
  [(m.dM, dictOf (mkDict P m cnt t) 5), (m.aR, lobj rows nR), (m.aH, oH), (m.aI, lobj ins nI), (m.aS, lobj sts nS)]
noncomputable def Bk.refs (bk : Bk) (l : List Nat) : List Value := l.map fun i => .ref (bk.var i)
structure Maker (w : World) (G : Gh) (bk : Bk) (m : MA) (s : MS) (cnt : Int) (t : Tok) (rows : List Value) (nR : Nat) (oH : PySem.Obj) (xs : List (List KI × Addr × Value)) : Prop where
  inst : G m.x (instObj 78 m.dM)
  cnt : cnt = s.rows.length
  rows : All2 (RowIn G) rows s.rows
  hobj : HObj w xs oH
  held : All2 HeldR xs s.held
  keys : ∀ x ∈ xs, KeyG w G x.1 x.2.1
noncomputable def MakerIn (w : World) (G : Gh) (bk : Bk) (m : MA) (s : MS) (fp : Led) : Prop :=
  (E8 fun cnt t rows nR oH xs nI nS => (fp = MkL w.params m cnt t rows nR oH (bk.refs s.inputs) nI (bk.refs s.stored) nS) ∧ Maker w G bk m s cnt t rows nR oH xs)
noncomputable abbrev PMk (w : World) (bk : Bk) (m : MA) (p : Int × MS) : Value → Gh → Led → Prop := fun v G' fp' => (∃ t, v = .int p.1 t) ∧ MakerIn w G' bk m p.2 fp'
noncomputable abbrev PB (w : World) (bk : Bk) (m : MA) (s : MS) : Value → Gh → Led → Prop := fun v G' fp' => v = .bool true ∧ MakerIn w G' bk m s fp'
theorem RowIn.mono {G G' : Gh} (h : ∀ a o, G a o → G' a o) {v : Value} {r : Row} (x : RowIn G v r) : RowIn G' v r := let ⟨a, t1, t2, t3, t4, n, e, g⟩ := x; ⟨a, t1, t2, t3, t4, n, e, h _ _ g⟩
theorem KeyG.mono {w : World} {G G' : Gh} (h : ∀ a o, G a o → G' a o) {ks : List KI} {a : Addr} (x : KeyG w G ks a) : KeyG w G' ks a := let ⟨vs, n, g, i⟩ := x; ⟨vs, n, h _ _ g, i⟩
theorem Maker.mono {w : World} {G G' : Gh} {bk : Bk} {m : MA} {s : MS} {cnt : Int} {t : Tok} {rows : List Value} {nR : Nat} {oH : PySem.Obj} {xs : List (List KI × Addr × Value)} (h : ∀ a o, G a o → G' a o) (M : Maker w G bk m s cnt t rows nR oH xs) : Maker w G' bk m s cnt t rows nR oH xs :=
  ⟨h _ _ M.inst, M.cnt, M.rows.mono fun _ _ => RowIn.mono h, M.hobj, M.held, fun x hx => (M.keys x hx).mono h⟩
theorem MakerIn.mono {w : World} {G G' : Gh} {bk : Bk} {m : MA} {s : MS} {fp : Led} (h : ∀ a o, G a o → G' a o) (M : MakerIn w G bk m s fp) : MakerIn w G' bk m s fp := by
  obtain ⟨cnt, t, rows, nR, oH, xs, nI, nS, e, M⟩ := M; exact ⟨cnt, t, rows, nR, oH, xs, nI, nS, e, M.mono h⟩
end Mine
end
section
namespace Mine
open PySem PySem.W PyProof.Rows PySem.Calls H
theorem Calls.le {w : World} {hB : Heap} {n m : Nat} {F : Addr} {args : List Value} {G : Gh} {fp : Led} {P : Value → Gh → Led → Prop} (C : Calls w hB n F args G fp P) (h : n ≤ m) : Calls w hB m F args G fp P := fun A s R r => C A s R (r.le h)
theorem put_spec {w : World} {hB : Heap} {mg mb : Str → Option Value} (B : Base w hB mg mb) (n : Nat) {G : Gh} {bk : Bk} {m : MA} {s : MS} {fp : Led} (M : MakerIn w G bk m s fp) (hz : s.rows.length ≤ 900000) (op : String) (to : Tok) (x : Int) (tx : Tok) (y : Int) (ty : Tok) :
  Calls w hB (n + 1) 56 [.ref m.x, .str (S op) to, .int x tx, .int y ty] G fp (fun r G' fp' => (∃ t, r = .int s.rows.length t) ∧ MakerIn w G' bk m (s.put op x y) fp') := by
 obtain ⟨cnt, t, rows, nR, oH, xs, nI, nS, rfl, M⟩ := M
 have hM := M.inst
 have hl : rows.length ≤ 1000000 := by have := M.rows.length; lia
 refine start56 B _ _ _ _ ?_
 intro A env e cx o KK hKK
 refine Do.reS o tb56 60 ?_
 refine Do.getA o (.inl hM) (.inr (mm 0 rfl)) 1 (by kernel_rfl) rfl (by kernel_rfl) (by first | rfl | assumption) ?_
 refine Do.aug_attr ?_
 refine Do.name o 0 rfl rfl ?_
 refine Do.getA o (.inl hM) (.inr (mm 0 rfl)) 1 (by kernel_rfl) rfl (by kernel_rfl) (by first | rfl | assumption) ?_
 refine Do.const_int ?_
 intro t1
 refine Do.iadd ?_
 intro t2
 refine Do.setOld o (.inl hM) (ex := []) rfl 1 (by kernel_rfl) rfl (by kernel_rfl) (Nat.le_of_ble_eq_true rfl) ?_
 refine Do.methodCall ?_
 refine Do.reE o tb56 30 ?_
 refine Do.getA o (.inl hM) (.inr (mm 0 rfl)) 0 (by kernel_rfl) rfl (by kernel_rfl) (by first | rfl | assumption) ?_
 refine Do.mAppend (.inr (mm 1 rfl)) ?_
 refine Do.callWith_b1 ?_
 refine Do.reL o tb56 30 ?_
 refine Do.newTupG (Nat.le_of_ble_eq_true rfl) ?_
 intro t3
 refine Do.append (ex := [_]) rfl (by first | exact Nat.le_of_ble_eq_true rfl | assumption | lia | (simp; lia)) ?_
 refine hKK ?_; refine Left.mk [] (MkL w.params m (cnt + 1) t2 (rows ++ [.ref t3]) (nR + 1) oH (bk.refs s.inputs) nI (bk.refs s.stored) nS) rfl rfl ⟨⟨t, ?_⟩, cnt + 1, t2, _, nR + 1, oH, xs, nI, nS, rfl, ?_⟩
 ·rw [← M.cnt]; rfl
 ·exact ⟨.inl M.inst, by rw [M.cnt]; simp [MS.put], (M.rows.mono fun _ _ => RowIn.mono fun _ _ => .inl).append ⟨⟨t3, _, _, _, _, _, rfl, .inr ⟨rfl, by rw [← M.cnt]⟩⟩, trivial⟩, M.hobj, M.held, fun x hx => (M.keys x hx).mono fun _ _ => .inl⟩
noncomputable def MA.ads (m : MA) : List Addr := [m.dM, m.aR, m.aH, m.aI, m.aS]
theorem MakerIn.ads {w : World} {G : Gh} {bk : Bk} {m : MA} {s : MS} {fp : Led} (M : MakerIn w G bk m s fp) : fp.ads = m.ads := by
 obtain ⟨cnt, t, rows, nR, oH, xs, nI, nS, rfl, M⟩ := M; rfl
theorem MakerIn.left {w : World} {G G' : Gh} {bk : Bk} {m : MA} {s s' : MS} {fp fp' ex : Led} {vs : List (Option Value)} {P : Value → Gh → Led → Prop} {fl : Flow} (M : MakerIn w G bk m s fp) (M' : MakerIn w G' bk m s' fp') (h : P (retv fl) G' fp') : Left fp P fl ⟨vs, G', ex ++ fp'⟩ :=
 Left.mk ex fp' rfl (M'.ads.trans M.ads.symm) h
theorem MS.put_len {s : MS} {op : String} {x y : Int} : (s.put op x y).rows.length = s.rows.length + 1 := by simp [MS.put]
theorem number_spec {w : World} {hB : Heap} {mg mb : Str → Option Value} (B : Base w hB mg mb) (n : Nat) {G : Gh} {bk : Bk} {m : MA} {s : MS} {fp : Led} (M : MakerIn w G bk m s fp) (hz : s.rows.length ≤ 900000) (x : Int) (tx : Tok) :
  Calls w hB (n + 2) 63 [.ref m.x, .int x tx] G fp (fun r G' fp' => (∃ t, r = .int s.rows.length t) ∧ MakerIn w G' bk m (s.put "const" x 0) fp') := by
 have M' := M
 obtain ⟨cnt, t, rows, nR, oH, xs, nI, nS, rfl, M⟩ := M
 have hM := M.inst
 refine start63 B _ _ ?_
 intro A env e cx o KK hKK
 refine Do.reS o tb63 60 ?_
 refine Do.methodCall ?_
 refine Do.name o 0 rfl rfl ?_
 refine Do.methD o (.inl hM) (.inr (mm 0 rfl)) (f := 56) (by kernel_rfl) (by kernel_rfl) ?_
 refine Do.callWith_args o (by kernel_rfl) ?_
 refine Do.reL o tb63 30 ?_
 intro t1 t2
 refine Do.byContract o (put_spec B n M' hz "const" _ x _ 0 _) (ex := []) rfl ?_
 intro QM r G' fp' hG p
 obtain ⟨⟨t', rfl⟩, M2⟩ := p
 refine hKK ?_; exact M'.left (ex := []) M2 ⟨⟨t', rfl⟩, M2⟩
section
variable {c : Cx} {σ : Sg} {mg mb : Str → Option Value} {k : Nat} {bk : Bk} {m : MA} {s : MS} {ex fp : Led} {name : Str} {f : Addr}
theorem Do.mkMeth {pl : Sem Bool} {K : Value × List Value → Sg → Prop} (ok : c.Ok mg mb k) (M : MakerIn c.w σ.G bk m s fp) (hmu : σ.mu = ex ++ fp) (hc : methIn (H.K c.w.params) 78 name f = true) (hn : ([S "rows", S "count", S "held", S "inputs", S "stored"].all (· != name)) = true)
  (q : K (.ref f, [.ref m.x]) σ) : Do c σ (getMethod (.ref m.x) name pl) K := by
 obtain ⟨cnt, t, rows, nR, oH, xs, nI, nS, rfl, M⟩ := M
 refine Do.methD ok (.inl M.inst) (.inr (by rw [hmu]; exact List.mem_append_right _ (.head _))) hc ?_ q
 simp only [List.all_cons, List.all_nil, Bool.and_true, Bool.and_eq_true, bne_iff_ne, ne_eq] at hn
 obtain ⟨h1, h2, h3, h4, h5⟩ := hn
 have h1 : (S "rows" == name) = false := beq_eq_false_iff_ne.mpr h1
 have h2 : (S "count" == name) = false := beq_eq_false_iff_ne.mpr h2
 have h3 : (S "held" == name) = false := beq_eq_false_iff_ne.mpr h3
 have h4 : (S "inputs" == name) = false := beq_eq_false_iff_ne.mpr h4
 have h5 : (S "stored" == name) = false := beq_eq_false_iff_ne.mpr h5
 simp [getL, mkDict, e, Value.isStr, h1, h2, h3, h4, h5, DictEntry.refKey]
theorem Do.put {K : Value → Sg → Prop} {op : String} {to tx ty : Tok} {x y : Int} (ok : c.Ok mg mb (k + 1)) (M : MakerIn c.w σ.G bk m s fp) (hmu : σ.mu = ex ++ fp) (hz : s.rows.length ≤ 900000)
  (q : ∀ t G' fp', (∀ a o, σ.G a o → G' a o) → MakerIn c.w G' bk m (s.put op x y) fp' → K (.int s.rows.length t) ⟨σ.vs, G', ex ++ fp'⟩) : Do c σ (call (.ref 56) [.ref m.x, .str (S op) to, .int x tx, .int y ty]) K :=
 Do.byContract₀ ok (put_spec ok.B k M hz op to x tx y ty) hmu fun r G' fp' hG ⟨⟨t, e⟩, M'⟩ => e ▸ q t G' fp' hG M'
theorem Do.number {K : Value → Sg → Prop} {tx : Tok} {x : Int} (ok : c.Ok mg mb (k + 2)) (M : MakerIn c.w σ.G bk m s fp) (hmu : σ.mu = ex ++ fp) (hz : s.rows.length ≤ 900000)
  (q : ∀ t G' fp', (∀ a o, σ.G a o → G' a o) → MakerIn c.w G' bk m (s.put "const" x 0) fp' → K (.int s.rows.length t) ⟨σ.vs, G', ex ++ fp'⟩) : Do c σ (call (.ref 63) [.ref m.x, .int x tx]) K :=
 Do.byContract₀ ok (number_spec ok.B k M hz x tx) hmu fun r G' fp' hG ⟨⟨t, e⟩, M'⟩ => e ▸ q t G' fp' hG M'
end
end Mine
end
section
namespace Mine
open PySem PySem.W PyProof.Rows PySem.Calls H
noncomputable def mcAt : Expr → Expr
 | .Call a _ _ _ => a
 | _ => noE
noncomputable def posOf : Expr → Pos
 | .Attribute _ _ p => p
 | _ => ⟨0, 0, 0, 0⟩
noncomputable def mcOb (e : Expr) : Expr := e1 (mcAt e)
noncomputable def mcOk (P : Params) (ks gs : List Str) (T : Tb) (i : Nat) (f : Addr) (nm : Str) : Expr → List Expr → Bool
 | .Name x _, e :: es => ks[i]? == some x && (methIn (H.K P) 78 nm f && ([S "rows", S "count", S "held", S "inputs", S "stored"].all (· != nm) && (keepIn (H.K P) (.ref f) && (notStar e && (es.all notStar && (ck P ks gs T 30).L (e :: es))))))
 | _, _ => false
noncomputable def kMc (c : Cx) (f x : Addr) (K : Value → Sg → Prop) (vs : List Value) (σ : Sg) : Prop := Do c σ (call (.ref f) (.ref x :: vs)) K
theorem Do.mkCall {c : Cx} {σ : Sg} {mg mb : Str → Option Value} {k : Nat} {bk : Bk} {m : MA} {s : MS} {ex fp : Led} {e0 : Expr} {pl : Sem Bool} {K : Value → Sg → Prop} (o : c.Ok mg mb k) (T : Tb) (i : Nat) (f : Addr) (M : MakerIn c.w σ.G bk m s fp) (hmu : σ.mu = ex ++ fp)
  (q : (vc c T 30).L σ (psOf e0) (kids e0) (kMc c f m.x K)) (hv : σ.vs[i]? = some (some (.ref m.x)) := by rfl) (h : mcOk c.w.params c.ks c.gs T i f (nmOf (mcAt e0)) (mcOb e0) (kids e0) = true := by kernel_rfl)
  (he : eval e0 c.env = (do
   let ov ← eval (mcOb e0) c.env
   PySem.standAt (posOf (mcAt e0)).atName
   let (f, first) ← PySem.holding [ov] (getMethod ov (nmOf (mcAt e0)) pl)
   callWith (psOf e0) f first (backTo (psOf e0) (starEach (kids e0) c.env)) []) := by rfl) : Do c σ (eval e0 c.env) K := by
 rw [he]
 clear he
 generalize mcOb e0 = b at h
 generalize kids e0 = as at h q
 unfold mcOk at h
 split at h
 ·obtain ⟨h1, h⟩ := and2 h
  obtain ⟨h2, h⟩ := and2 h
  obtain ⟨h3, h⟩ := and2 h
  obtain ⟨h4, h⟩ := and2 h
  obtain ⟨h5, h⟩ := and2 h
  obtain ⟨h6, h7⟩ := and2 h
  exact Do.bind (Do.name o i (eq_of_beq h1) hv (Do.bind (Do.standAt (Do.bind (Do.holding (Do.mkMeth o M hmu h2 h3 (Do.callWith_args o h4 ((vc_ok o T 30).L h7 q) (star_ok h5) (stars_plain h6))))))))
 ·cases h
end Mine
end
section
namespace Mine
open PySem PySem.W PyProof.Rows PySem.Calls H
noncomputable def MS.putR (s : MS) (op : String) (x y : Int) : Int × MS := (s.rows.length, s.put op x y)
noncomputable def turnedM (s : MS) (r : Int) : Int × MS := (s.put "const" 1 0).putR "xor" r s.rows.length
noncomputable def subsetM (s : MS) (x y : Int) : Int × MS :=
 let s1 := s.put "const" 4294967295 0
 let s2 := s1.put "xor" y s.rows.length
 let s3 := s2.put "and" x s1.rows.length
 let s4 := s3.put "const" 0 0
 s4.putR "equal" s2.rows.length s3.rows.length
noncomputable def absoluteM (s : MS) (x : Int) : Int × MS :=
 let s1 := s.put "const" 31 0
 let s2 := s1.put "asr" x s.rows.length
 let s3 := s2.put "add" x s1.rows.length
 s3.putR "xor" s2.rows.length s1.rows.length
section
variable {w : World} {hB : Heap} {mg mb : Str → Option Value} {G : Gh} {bk : Bk} {m : MA} {s : MS} {fp : Led}
theorem turned_spec (B : Base w hB mg mb) (n : Nat) (M : MakerIn w G bk m s fp) (hz : s.rows.length ≤ 899990) (r : Int) (tr : Tok) :
  Calls w hB (n + 3) 117 [.ref m.x, .int r tr] G fp (PMk w bk m (turnedM s r)) := by
 refine start117 B _ _ ?_
 intro A env e cx o KK hKK
 refine Do.reS o tb117 60 ?_
 refine Do.mkCall o tb117 0 56 M (ex := []) rfl ?_
 intro t1
 refine Do.mkCall o tb117 0 63 M (ex := []) rfl ?_
 intro t2
 refine Do.number o M (ex := []) rfl (by first | lia | (simp only [MS.put_len]; lia)) ?_
 intro t3 t4 t5 t6 t7
 refine Do.put o t7 (ex := []) rfl (by first | lia | (simp only [MS.put_len]; lia)) ?_
 intro t8 t9 t10 t11 t12
 refine hKK ?_; exact M.left (ex := []) t12 ⟨⟨t8, rfl⟩, t12⟩
theorem subset_spec (B : Base w hB mg mb) (n : Nat) (M : MakerIn w G bk m s fp) (hz : s.rows.length ≤ 899990) (x : Int) (tx : Tok) (y : Int) (ty : Tok) :
  Calls w hB (n + 3) 131 [.ref m.x, .int x tx, .int y ty] G fp (PMk w bk m (subsetM s x y)) := by
 refine start131 B _ _ _ ?_
 intro A env e cx o KK hKK
 refine Do.reS o tb131 60 ?_
 refine Do.mkCall o tb131 0 56 M (ex := []) rfl ?_
 intro t1
 refine Do.mkCall o tb131 0 63 M (ex := []) rfl ?_
 refine Do.globalK o 0 rfl (v := (Value.int 4294967295 189)) (by kernel_rfl) ?_
 refine Do.number o M (ex := []) rfl (by first | lia | (simp only [MS.put_len]; lia)) ?_
 intro t2 t3 t4 t5 t6
 refine Do.put o t6 (ex := []) rfl (by first | lia | (simp only [MS.put_len]; lia)) ?_
 intro t7 t8 t9 t10 t11
 refine Do.mkCall o tb131 0 56 t11 (ex := []) rfl ?_
 intro t12
 refine Do.mkCall o tb131 0 56 t11 (ex := []) rfl ?_
 intro t13
 refine Do.put o t11 (ex := []) rfl (by first | lia | (simp only [MS.put_len]; lia)) ?_
 intro t14 t15 t16 t17 t18
 refine Do.mkCall o tb131 0 63 t18 (ex := []) rfl ?_
 intro t19
 refine Do.number o t18 (ex := []) rfl (by first | lia | (simp only [MS.put_len]; lia)) ?_
 intro t20 t21 t22 t23 t24
 refine Do.put o t24 (ex := []) rfl (by first | lia | (simp only [MS.put_len]; lia)) ?_
 intro t25 t26 t27 t28 t29
 refine hKK ?_; exact M.left (ex := []) t29 ⟨⟨t25, rfl⟩, t29⟩
theorem absolute_spec (B : Base w hB mg mb) (n : Nat) (M : MakerIn w G bk m s fp) (hz : s.rows.length ≤ 899990) (x : Int) (tx : Tok) :
  Calls w hB (n + 3) 145 [.ref m.x, .int x tx] G fp (PMk w bk m (absoluteM s x)) := by
 refine start145 B _ _ ?_
 intro A env e cx o KK hKK
 refine Do.reS o tb145 60 ?_
 refine Do.mkCall o tb145 0 56 M (ex := []) rfl ?_
 intro t1
 refine Do.mkCall o tb145 0 63 M (ex := []) rfl ?_
 intro t2
 refine Do.number o M (ex := []) rfl (by first | lia | (simp only [MS.put_len]; lia)) ?_
 intro t3 t4 t5 t6 t7
 refine Do.put o t7 (ex := []) rfl (by first | lia | (simp only [MS.put_len]; lia)) ?_
 intro t8 t9 t10 t11 t12
 refine Do.mkCall o tb145 0 56 t12 (ex := []) rfl ?_
 intro t13
 refine Do.mkCall o tb145 0 56 t12 (ex := []) rfl ?_
 intro t14
 refine Do.put o t12 (ex := []) rfl (by first | lia | (simp only [MS.put_len]; lia)) ?_
 intro t15 t16 t17 t18 t19
 refine Do.put o t19 (ex := []) rfl (by first | lia | (simp only [MS.put_len]; lia)) ?_
 intro t20 t21 t22 t23 t24
 refine hKK ?_; exact M.left (ex := []) t24 ⟨⟨t20, rfl⟩, t24⟩
end
end Mine
end
section
namespace Mine
open PySem PySem.W PyProof.Rows PySem.Calls H
noncomputable def relRow : String → String × Bool × Bool
 | "=" => ("equal", false, false) | "#" => ("equal", false, true) | "<" => ("less", false, false) | ">=" => ("less", false, true) | ">" => ("less", true, false) | _ => ("less", true, true)
noncomputable def relOps : List String := ["=", "#", "<", ">=", ">", "<="]
section
variable {w : World} {hB : Heap} {mg mb : Str → Option Value} {G : Gh} {bk : Bk} {m : MA} {s : MS} {fp : Led}
theorem relrow_spec (B : Base w hB mg mb) (n : Nat) (op : String) (hop : op ∈ relOps) (t : Tok) :
  Calls w hB (n + 1) 110 [.str (S op) t] G [] (fun v G' fp' => fp' = [] ∧ (E3 fun a t1 k => (v = .ref a) ∧ G' a (tobj [.str (S (relRow op).1) t1, .bool (relRow op).2.1, .bool (relRow op).2.2] k))) := by
 refine start110 B _ ?_
 intro A env e cx o KK hKK
 refine Do.reS o tb110 60 ?_
 refine Do.dictS (by kernel_rfl) ?_
 intro t1
 refine Do.pairs_cons ?_
 refine Do.const_str ?_
 intro t2
 refine Do.reE o tb110 30 ?_
 intro t3
 refine Do.newTupG (Nat.le_of_ble_eq_true rfl) ?_
 intro t4
 refine Do.pairs_cons ?_
 refine Do.const_str ?_
 intro t5
 refine Do.reE o tb110 30 ?_
 intro t6
 refine Do.newTupG (Nat.le_of_ble_eq_true rfl) ?_
 intro t7
 refine Do.pairs_cons ?_
 refine Do.const_str ?_
 intro t8
 refine Do.reE o tb110 30 ?_
 intro t9
 refine Do.newTupG (Nat.le_of_ble_eq_true rfl) ?_
 intro t10
 refine Do.pairs_cons ?_
 refine Do.const_str ?_
 intro t11
 refine Do.reE o tb110 30 ?_
 intro t12
 refine Do.newTupG (Nat.le_of_ble_eq_true rfl) ?_
 intro t13
 refine Do.pairs_cons ?_
 refine Do.const_str ?_
 intro t14
 refine Do.reE o tb110 30 ?_
 intro t15
 refine Do.newTupG (Nat.le_of_ble_eq_true rfl) ?_
 intro t16
 refine Do.pairs_cons ?_
 refine Do.const_str ?_
 intro t17
 refine Do.reE o tb110 30 ?_
 intro t18
 refine Do.newTupG (Nat.le_of_ble_eq_true rfl) ?_
 intro t19
 refine Do.pairs_nil ?_
 refine DictEnd.mk [] rfl (by kernel_rfl) ?_
 intro t20 t21
 revert hKK
 apply each6 (x := op) hop
 ·intro hKK
  refine Do.dgetS (.inr (mm 0 rfl)) t21 0 (by kernel_rfl) rfl ?_
  refine hKK ?_; exact Left.mk [_] [] rfl rfl ⟨rfl, t4, t3, 0, rfl, by repeat (first | exact gadd_at | refine .inl ?_)⟩
 ·intro hKK
  refine Do.dgetS (.inr (mm 0 rfl)) t21 1 (by kernel_rfl) rfl ?_
  refine hKK ?_; exact Left.mk [_] [] rfl rfl ⟨rfl, t7, t6, 0, rfl, by repeat (first | exact gadd_at | refine .inl ?_)⟩
 ·intro hKK
  refine Do.dgetS (.inr (mm 0 rfl)) t21 2 (by kernel_rfl) rfl ?_
  refine hKK ?_; exact Left.mk [_] [] rfl rfl ⟨rfl, t10, t9, 0, rfl, by repeat (first | exact gadd_at | refine .inl ?_)⟩
 ·intro hKK
  refine Do.dgetS (.inr (mm 0 rfl)) t21 3 (by kernel_rfl) rfl ?_
  refine hKK ?_; exact Left.mk [_] [] rfl rfl ⟨rfl, t13, t12, 0, rfl, by repeat (first | exact gadd_at | refine .inl ?_)⟩
 ·intro hKK
  refine Do.dgetS (.inr (mm 0 rfl)) t21 4 (by kernel_rfl) rfl ?_
  refine hKK ?_; exact Left.mk [_] [] rfl rfl ⟨rfl, t16, t15, 0, rfl, by repeat (first | exact gadd_at | refine .inl ?_)⟩
 ·intro hKK
  refine Do.dgetS (.inr (mm 0 rfl)) t21 5 (by kernel_rfl) rfl ?_
  refine hKK ?_; exact Left.mk [_] [] rfl rfl ⟨rfl, t19, t18, 0, rfl, by repeat (first | exact gadd_at | refine .inl ?_)⟩
end
end Mine
end
section
namespace Mine
open PySem PySem.W PyProof.Rows PySem.Calls H
noncomputable def FormOf (G : Gh) (a : Addr) (f : String) : Prop := ∃ t, AttrG G a 252 "form" (.str (S f) t)
noncomputable def forms : List String := ["boolean", "char", "byte", "integer", "set"]
section
variable {w : World} {hB : Heap} {mg mb : Str → Option Value} {G : Gh} {bk : Bk} {m : MA} {s : MS} {fp : Led}
theorem isword_spec (B : Base w hB mg mb) (n : Nat) {a : Addr} {f : String} (hf : f ∈ forms) (h : FormOf G a f) :
  Calls w hB (n + 1) 96 [.ref a] G [] (PV (.bool true)) := by
 obtain ⟨t, h⟩ := h
 simp only [forms, List.mem_cons, List.not_mem_nil, or_false] at hf
 refine start96 B _ ?_
 intro A env e cx o KK hKK
 refine Do.reS o tb96 60 ?_
 refine Do.gP o h ?_
 intro t1 t2 t3 t4 t5
 refine Do.newTupG (Nat.le_of_ble_eq_true rfl) ?_
 intro t6
 refine Do.inT' (.inl gadd_at) (by kernel_rfl) ?_
 rcases hf with rfl | rfl | rfl | rfl | rfl <;> (refine hKK ?_; exact Left.mk [] [] rfl rfl ⟨rfl, by kernel_rfl⟩)
structure NodeAt (G : Gh) (a : Addr) (op : String) (ty kids val : Value) : Prop where
 op : ∃ t, AttrG G a 224 "op" (.str (S op) t)
 type : AttrG G a 224 "type" ty
 kids : AttrG G a 224 "kids" kids
 value : AttrG G a 224 "value" val
theorem plain_spec (B : Base w hB mg mb) (n : Nat) {a ta va : Addr} {kids : Value} {f : String} (hn : NodeAt G a "var" (.ref ta) kids (.ref va)) (hf : f ∈ forms) (h : FormOf G ta f) {tk : Tok} (hk : AttrG G va 273 "kind" (.str (S "var") tk)) :
  Calls w hB (n + 2) 103 [.ref a] G [] (PV (.bool true)) := by
 obtain ⟨⟨t, hop⟩, hty, hkids, hval⟩ := hn
 refine start103 B _ ?_
 intro A env e cx o KK hKK
 refine Do.reS o tb103 60 ?_
 refine Do.boolop ?_
 refine Do.boolop_and ?_
 refine Do.reE o tb103 30 ?_
 refine Do.gP o hop ?_
 intro t1
 refine Do.truthy_bool ?_
 refine if1 ?_
 refine Do.boolop_and ?_
 refine Do.reE o tb103 30 ?_
 refine Do.gP o hval ?_
 refine Do.gP o hk ?_
 intro t2
 refine Do.truthy_bool ?_
 refine if1 ?_
 refine Do.boolop_one ?_
 refine Do.reE o tb103 30 ?_
 refine Do.gP o hty ?_
 refine Do.byContract o (isword_spec B n hf h) (ex := []) rfl ?_
 intro QM r G' fp' hG p
 obtain ⟨rfl, rfl⟩ := p
 refine hKK ?_; exact Left.mk [] [] rfl rfl ⟨rfl, rfl⟩
end
end Mine
end
section
namespace Mine
open PySem PySem.W PyProof.Rows PySem.Calls H
theorem Do.strInt {c : Cx} {σ : Sg} {x : Int} {t : Tok} {K : Value → Sg → Prop} (hx : x.natAbs.log2 < 1920) (q : ∀ t, K (.str (toString x) t) σ) : Do c σ (call (.type "str") [.int x t]) K :=
 ⟨fun h g d t os Q E S qq => P.str_of_int hx (qq _ _ h _ (q _) S)⟩
noncomputable def varLabel (i : Nat) : String := ["a", "b", "s", "t", "p", "c"].getD i "c"
structure VarAt (G : Gh) (a : Addr) (i : Nat) (ta : Addr) : Prop where
 kind : ∃ t, AttrG G a 273 "kind" (.str (S "var") t)
 name : ∃ t, AttrG G a 273 "name" (.str (S (varLabel i)) t)
 type : AttrG G a 273 "type" (.ref ta)
 level : ∃ t, AttrG G a 273 "level" (.int (if i = 1 then 0 else 1) t)
 module : ∃ t, AttrG G a 273 "module" (.str (S "M") t)
 slot : ∃ t, AttrG G a 273 "slot" (.int i t)
section
variable {w : World} {hB : Heap} {mg mb : Str → Option Value} {G : Gh} {bk : Bk} {m : MA} {s : MS} {fp : Led}
theorem key_spec (B : Base w hB mg mb) (n : Nat) {a ta : Addr} {i : Nat} (hi : i < 6) (h : VarAt G a i ta) :
  Calls w hB (n + 1) 89 [.ref a] G [] (fun v G' fp' => fp' = [] ∧ ∃ k, v = .ref k ∧ KeyG w G' (keyOf i) k) := by
 obtain ⟨-, ⟨t1, hn⟩, -, ⟨t2, hl⟩, ⟨t3, hm⟩, ⟨t4, hs⟩⟩ := h
 refine start89 B _ ?_
 intro A env e cx o KK hKK
 by_cases h1 : i = 1
 ·subst h1
  simp only [if_true] at hl
  refine Do.reS o tb89 60 ?_
  refine Do.gP o hl ?_
  refine if1 ?_
  intro t5
  refine Do.gP o hm ?_
  refine Do.gP o hn ?_
  refine Do.newTupG (Nat.le_of_ble_eq_true rfl) ?_
  intro t6
  refine hKK ?_; exact Left.mk [] [] rfl rfl ⟨rfl, _, rfl, _, 0, .inr ⟨rfl, rfl⟩, .cons (by kernel_rfl) (.cons (by kernel_rfl) (.cons (by kernel_rfl) .nil))⟩
 ·simp only [if_neg h1] at hl
  refine Do.reS o tb89 60 ?_
  refine Do.gP o hl ?_
  refine if0 ?_
  refine Do.gP o hl ?_
  intro t5
  refine Do.callG ?_
  refine Do.builtinK o 0 rfl (v := (.type "str")) (by kernel_rfl) (by kernel_rfl) (by kernel_rfl) ?_
  refine Do.callWith_t1 ?_
  refine Do.reL o tb89 30 ?_
  refine Do.gP o hs ?_
  refine Do.strInt (by
   have : i = 0 ∨ i = 2 ∨ i = 3 ∨ i = 4 ∨ i = 5 := by lia
   rcases this with rfl | rfl | rfl | rfl | rfl <;> decide) fun t7 => ?_
  refine Do.newTupG (Nat.le_of_ble_eq_true rfl) ?_
  intro t6
  refine hKK ?_; refine Left.mk [] [] rfl rfl ⟨rfl, _, rfl, _, 0, .inr ⟨rfl, rfl⟩, ?_⟩
  have : i = 0 ∨ i = 2 ∨ i = 3 ∨ i = 4 ∨ i = 5 := by lia
  rcases this with rfl | rfl | rfl | rfl | rfl <;> exact .cons (by kernel_rfl) (.cons (by kernel_rfl) (.cons (by kernel_rfl) .nil))
end
end Mine
end
section
namespace Mine
open PySem PySem.W PyProof.Rows PySem.Calls H
theorem keyOf_inj {i j : Nat} (hi : i < 6) (hj : j < 6) (h : keyOf i = keyOf j) : i = j := by
 have hI : i = 0 ∨ i = 1 ∨ i = 2 ∨ i = 3 ∨ i = 4 ∨ i = 5 := by lia
 have hJ : j = 0 ∨ j = 1 ∨ j = 2 ∨ j = 3 ∨ j = 4 ∨ j = 5 := by lia
 rcases hI with rfl | rfl | rfl | rfl | rfl | rfl <;> rcases hJ with rfl | rfl | rfl | rfl | rfl | rfl <;> first | rfl | exact absurd h (by decide)
theorem held_some {xs : List (List KI × Addr × Value)} {held : List (Nat × Int)} (H : All2 HeldR xs held) {i : Nat} {r : Int} (hi : i < 6) (h : held.lookup i = some r) : ∃ a t, atKey xs (keyOf i) = some (a, .int r t) := by
 induction held generalizing xs with
 | nil => cases h
 | cons p held ih =>
  match xs, H with
  | x :: xs, ⟨⟨h1, h2, t, h3⟩, H'⟩ =>
   obtain ⟨j, q⟩ := p
   rw [List.lookup_cons] at h
   by_cases e : i = j
   ·subst e
    simp at h; subst h
    exact ⟨x.2.1, t, by simp [atKey, h2, ← h3]⟩
   ·have e' : (i == j) = false := by simpa using e
    rw [e'] at h
    obtain ⟨a, t, hh⟩ := ih H' h
    refine ⟨a, t, ?_⟩
    have : ¬ x.1 = keyOf i := fun z => e (keyOf_inj hi h1 (z ▸ h2))
    simpa [atKey, this] using hh
theorem held_none {xs : List (List KI × Addr × Value)} {held : List (Nat × Int)} (H : All2 HeldR xs held) {i : Nat} (hi : i < 6) (h : held.lookup i = none) : atKey xs (keyOf i) = none := by
 induction held generalizing xs with
 | nil => match xs, H with | [], _ => rfl
 | cons p held ih =>
  match xs, H with
  | x :: xs, ⟨⟨h1, h2, t, h3⟩, H'⟩ =>
   obtain ⟨j, q⟩ := p
   rw [List.lookup_cons] at h
   by_cases e : i = j
   ·subst e; simp at h
   ·have e' : (i == j) = false := by simpa using e
    rw [e'] at h
    have hh := ih H' h
    have : ¬ x.1 = keyOf i := fun z => e (keyOf_inj hi h1 (z ▸ h2))
    simpa [atKey, this] using hh
noncomputable def MS.variable (s : MS) (i : Nat) : Int × MS := match s.held.lookup i with
 | some r => (r, s)
 | none => (s.rows.length, { (s.put "in" s.inputs.length 0) with held := s.held ++ [(i, (s.rows.length : Int))], inputs := s.inputs ++ [i] })
section
variable {w : World} {hB : Heap} {mg mb : Str → Option Value} {G : Gh} {bk : Bk} {m : MA} {s : MS} {fp : Led}
theorem variable_spec (B : Base w hB mg mb) (n : Nat) (M : MakerIn w G bk m s fp) (hz : s.rows.length ≤ 900000) (hz2 : s.inputs.length ≤ 900000) (hz3 : s.held.length ≤ 900000) {i : Nat} {ta : Addr} (hi : i < 6) (hv : VarAt G (bk.var i) i ta) :
  Calls w hB (n + 3) 70 [.ref m.x, .ref (bk.var i)] G fp (PMk w bk m (s.variable i)) := by
 have M' := M
 obtain ⟨cnt, t, rows, nR, oH, xs, nI, nS, rfl, M⟩ := M
 have hM := M.inst
 have hzi : (bk.refs s.inputs).length ≤ 1000000 := by simp [Bk.refs]; lia
 have hzh : xs.length ≤ 1000000 := by have := M.held.length; lia
 refine start70 B _ _ ?_
 intro A env e cx o KK hKK
 refine Do.reS o tb70 60 ?_
 refine Do.byContract o (key_spec B (n + 1) hi hv) (ex := _) (fp := []) (List.append_nil _).symm ?_
 intro QM r G' fp' hG p
 obtain ⟨rfl, k, rfl, hk⟩ := p
 refine Do.getA o (.inl (hG _ _ hM)) (.inr (mm 0 rfl)) 2 (by kernel_rfl) rfl (by kernel_rfl) (by first | rfl | assumption) ?_
 have hkeys : ∀ x ∈ xs, KeyG w G' x.1 x.2.1 := fun x hx => (M.keys x hx).mono hG
 refine Do.hnotIn o (mm 2 rfl) M.hobj hkeys hk ?_
 cases hl : s.held.lookup i with
 | some r =>
  obtain ⟨a', t', ha⟩ := held_some M.held hi hl
  rw [ha]
  have e1 : s.variable i = (r, s) := by unfold MS.variable; rw [hl]
  rw [e1] at hKK
  refine if0 ?_
  refine Do.getA o (.inl (hG _ _ hM)) (.inr (mm 0 rfl)) 2 (by kernel_rfl) rfl (by kernel_rfl) (by first | rfl | assumption) ?_
  refine Do.hget o (mm 2 rfl) M.hobj hkeys hk ha ?_
  refine hKK ?_; exact M'.left (ex := []) (M'.mono hG) ⟨⟨t', rfl⟩, M'.mono hG⟩
 | none =>
  rw [held_none M.held hi hl]
  refine if1 ?_
  refine Do.methodCall ?_
  refine Do.name o 0 rfl rfl ?_
  refine Do.methD o (.inl (hG _ _ hM)) (.inr (mm 0 rfl)) (f := 56) (by kernel_rfl) (by kernel_rfl) ?_
  refine Do.callWith_args o (by kernel_rfl) ?_
  refine Do.reL o tb70 30 ?_
  intro t1
  refine Do.callG ?_
  refine Do.builtinK o 1 rfl (v := (.builtin "len")) (by kernel_rfl) (by kernel_rfl) (by kernel_rfl) ?_
  refine Do.callWith_b1 ?_
  refine Do.reL o tb70 30 ?_
  refine Do.getA o (.inl (hG _ _ hM)) (.inr (mm 0 rfl)) 3 (by kernel_rfl) rfl (by kernel_rfl) (by first | rfl | assumption) ?_
  refine Do.lenL (.inr (mm 3 rfl)) (by first | exact Nat.le_of_ble_eq_true rfl | assumption | lia | (simp; lia)) ?_
  intro t2 t3
  refine Do.put (op := "in") (x := (bk.refs s.inputs).length) (y := 0) o (M'.mono hG) (ex := []) rfl hz fun t2 G2 fp2 hG2 M2 => ?_
  obtain ⟨cnt2, t3, rows2, nR2, oH2, xs2, nI2, nS2, rfl, M2⟩ := M2
  have hM2 := M2.inst
  refine Do.getA o (.inl hM2) (.inr (mm 0 rfl)) 2 (by kernel_rfl) rfl (by kernel_rfl) (by first | rfl | assumption) ?_
  refine Do.hset (ex := [_, _]) (o := oH2) o rfl M2.hobj M2.keys (hk.mono hG2) (by have := M2.held.length; simp only [MS.put] at this; lia) fun oH3 hH3 => ?_
  have hn2 : atKey xs2 (keyOf i) = none := held_none M2.held hi hl
  rw [storedH_new hn2] at hH3
  have hkeys3 : ∀ x ∈ xs2 ++ [(keyOf i, k, Value.int s.rows.length t2)], KeyG w G2 x.1 x.2.1 := fun x hx => by
   rcases List.mem_append.mp hx with hx | hx
   ·exact M2.keys x hx
   ·rw [List.mem_singleton.mp hx]; exact hk.mono hG2
  have ha3 : atKey (xs2 ++ [(keyOf i, k, Value.int s.rows.length t2)]) (keyOf i) = some (k, Value.int s.rows.length t2) := by
   have h0 : xs2.find? (fun x => decide (x.1 = keyOf i)) = none := by
    unfold atKey at hn2
    simpa using hn2
   unfold atKey
   rw [List.find?_append, h0]
   simp
  refine Do.methodCall ?_
  refine Do.reE o tb70 30 ?_
  refine Do.getA o (.inl hM2) (.inr (mm 0 rfl)) 3 (by kernel_rfl) rfl (by kernel_rfl) (by first | rfl | assumption) ?_
  refine Do.mAppend (.inr (mm 3 rfl)) ?_
  refine Do.callWith_b1 ?_
  refine Do.reL o tb70 30 ?_
  refine Do.append (ex := [_, _, _]) rfl (by first | exact Nat.le_of_ble_eq_true rfl | assumption | lia | (simp; lia)) ?_
  refine Do.getA o (.inl hM2) (.inr (mm 0 rfl)) 2 (by kernel_rfl) rfl (by kernel_rfl) (by first | rfl | assumption) ?_
  refine Do.hget o (mm 2 rfl) hH3 hkeys3 (hk.mono hG2) ha3 ?_
  have e1 : s.variable i = (↑s.rows.length, { (s.put "in" s.inputs.length 0) with held := s.held ++ [(i, (s.rows.length : Int))], inputs := s.inputs ++ [i] }) := by unfold MS.variable; rw [hl]
  rw [e1] at hKK
  refine hKK ?_; refine Left.mk [] (MkL w.params m cnt2 t3 rows2 nR2 oH3 (bk.refs (s.inputs ++ [i])) (nI2 + 1) (bk.refs s.stored) nS2) ?_ rfl ⟨⟨t2, rfl⟩, cnt2, t3, rows2, nR2, oH3, xs2 ++ [(keyOf i, k, Value.int s.rows.length t2)], nI2 + 1, nS2, rfl, ?_⟩
  ·simp [cx, Bk.refs, MS.put]
  ·have e2 : (bk.refs s.inputs).length = s.inputs.length := by simp [Bk.refs]
   have rr := M2.rows
   rw [e2] at rr
   exact ⟨M2.inst, M2.cnt.trans (by simp [MS.put]), rr, hH3, M2.held.append (show All2 HeldR [_] [(i, (s.rows.length : Int))] from ⟨⟨hi, rfl, t2, rfl⟩, trivial⟩), hkeys3⟩
end
end Mine
end
section
namespace Mine
open PySem PySem.W PyProof.Rows PySem.Calls H
inductive Tr where
 | const (f : Fm) (v : Int)
 | var (i : Nat)
 | std1 (name : String) (f : Fm) (t : Tr)
 | std2 (name : String) (f : Fm) (t : Tr) (k : Int)
 | set (es : List Int)
 | un (op : String) (f : Fm) (t : Tr)
 | bin (op : String) (f : Fm) (l r : Tr)
noncomputable def Tr.fm : Tr → Fm
 | .const f _ => f
 | .var i => fmOf i
 | .std1 _ f _ => f
 | .std2 _ f _ _ => f
 | .set _ => .M
 | .un _ f _ => f
 | .bin _ f _ _ => f
noncomputable def Tr.ht : Tr → Nat
 | .const _ _ => 0
 | .var _ => 0
 | .std1 _ _ t => t.ht + 1
 | .std2 _ _ t _ => t.ht + 1
 | .set _ => 1
 | .un _ _ t => t.ht + 1
 | .bin _ _ l r => max l.ht r.ht + 1
noncomputable def Tr.cost : Tr → Nat
 | .const _ _ => 1
 | .var _ => 3
 | .std1 _ _ t => t.cost + 4
 | .std2 _ _ t _ => t.cost + 2
 | .set es => 1 + 4 * es.length
 | .un _ _ t => t.cost + 2
 | .bin _ _ l r => l.cost + r.cost + 5
noncomputable def relationM (s : MS) (op : String) (x y : Int) : Int × MS :=
 let s1 := if (relRow op).2.1 then s.put (relRow op).1 y x else s.put (relRow op).1 x y
 if (relRow op).2.2 then turnedM s1 s.rows.length else (s.rows.length, s1)
noncomputable def simpleOps : List (String × String) := [("+", "add"), ("-", "sub"), ("*", "mul"), ("s+", "or"), ("s*", "and"), ("s/", "xor"), ("&", "and"), ("OR", "or")]
noncomputable def pairM (s : MS) (op : String) (x y : Int) : Int × MS :=
 match simpleOps.lookup op with
 | some name => s.putR name x y
 | none =>
  if op = "s-" then
   let s1 := s.put "const" 4294967295 0
   let s2 := s1.put "xor" y s.rows.length
   s2.putR "and" x s1.rows.length
  else if op = "s<=" then subsetM s x y
  else if op = "s>=" then subsetM s y x
  else if op = "IN" then
   let s1 := s.put "asr" y x
   let s2 := s1.put "const" 1 0
   s2.putR "and" s.rows.length s1.rows.length
  else relationM s op x y
noncomputable def std1M (s : MS) (name : String) (x : Int) : Int × MS :=
 if name = "ABS" then absoluteM s x
 else if name = "ODD" then (s.put "const" 1 0).putR "and" x s.rows.length
 else (x, s)
noncomputable def std2Name : String → String
 | "LSL" => "shl" | "ASR" => "asr" | _ => "ror"
noncomputable def unM (s : MS) (op : String) (x : Int) : Int × MS :=
 if op = "neg" then (s.put "const" 0 0).putR "sub" s.rows.length x
 else if op = "not" then turnedM s x
 else (s.put "const" 4294967295 0).putR "xor" x s.rows.length
noncomputable def setStep (p : Int × MS) (e : Int) : Int × MS :=
 let s0 := p.2
 let s1 := s0.put "const" e 0
 let s2 := s1.put "const" 1 0
 let s3 := s2.put "shl" s1.rows.length s0.rows.length
 s3.putR "or" p.1 s2.rows.length
noncomputable def MS.low (s : MS) : Tr → Int × MS
 | .const _ v => s.putR "const" v 0
 | .var i => s.variable i
 | .std1 name _ t => std1M (s.low t).2 name (s.low t).1
 | .std2 name _ t k => ((s.low t).2.put "const" k 0).putR (std2Name name) (s.low t).1 (s.low t).2.rows.length
 | .set es => es.foldl setStep (s.putR "const" 0 0)
 | .un op _ t => unM (s.low t).2 op (s.low t).1
 | .bin op _ l r => pairM ((s.low l).2.low r).2 op (s.low l).1 ((s.low l).2.low r).1
inductive WT : Tr → Prop where
 | const (f : Fm) (v : Int) (h1 : -2147483648 ≤ v) (h2 : v ≤ 4294967295) (h3 : f = .B → v = 0 ∨ v = 1) (h4 : f = .C → 0 ≤ v ∧ v < 256) (h5 : f = .M → 0 ≤ v) : WT (.const f v)
 | var (i : Nat) (h : i < 6) : WT (.var i)
 | std1 (name : String) (f : Fm) (t : Tr) (h : (name = "ABS" ∧ f = .I ∧ t.fm = .I) ∨ (name = "ODD" ∧ f = .B ∧ t.fm = .I) ∨ (name = "VAL" ∧ f = .I ∧ t.fm = .M) ∨ (name = "ORD" ∧ f = .I ∧ (t.fm = .M ∨ t.fm = .B ∨ t.fm = .C))) (w : WT t) : WT (.std1 name f t)
 | std2 (name : String) (f : Fm) (t : Tr) (k : Int) (h : name = "LSL" ∨ name = "ASR" ∨ name = "ROR") (hf : f = .I ∧ t.fm = .I) (h0 : 0 ≤ k) (h1 : k < 32) (w : WT t) : WT (.std2 name f t k)
 | set (es : List Int) (h : ∀ e ∈ es, 0 ≤ e ∧ e < 32) (hl : es.length ≤ 2) : WT (.set es)
 | un (op : String) (f : Fm) (t : Tr) (h : (op = "neg" ∧ f = .I ∧ t.fm = .I) ∨ (op = "not" ∧ f = .B ∧ t.fm = .B) ∨ (op = "s~" ∧ f = .M ∧ t.fm = .M)) (w : WT t) : WT (.un op f t)
 | bin (op : String) (f : Fm) (l r : Tr) (h : (op ∈ ["+", "-", "*"] ∧ f = .I ∧ l.fm = .I ∧ r.fm = .I) ∨ (op ∈ ["s+", "s-", "s*", "s/"] ∧ f = .M ∧ l.fm = .M ∧ r.fm = .M) ∨ (op ∈ ["&", "OR"] ∧ f = .B ∧ l.fm = .B ∧ r.fm = .B) ∨
   (op ∈ ["=", "#", "s<=", "s>="] ∧ f = .B ∧ l.fm = .M ∧ r.fm = .M) ∨ (op = "IN" ∧ f = .B ∧ (∃ v, l = .const .I v ∧ 0 ≤ v ∧ v < 32) ∧ r.fm = .M) ∨ (op ∈ ["=", "#", "<", "<=", ">", ">="] ∧ f = .B ∧ l.fm = .I ∧ r.fm = .I)) (wl : WT l) (wr : WT r) : WT (.bin op f l r)
noncomputable def SingleIs (G : Gh) (bk : Bk) (a : Addr) (e : Int) : Prop :=
 (E5 fun ks n b t kb => A3 (NodeAt G a "single" (.ref (bk.ty .I)) (.ref ks) .none) (G ks (lobj [.ref b] n)) (NodeAt G b "const" (.ref (bk.ty .I)) kb (.int e t)))
noncomputable def NodeIs (G : Gh) (bk : Bk) : Tr → Addr → Prop
 | .const f v, a => ∃ ks t, NodeAt G a "const" (.ref (bk.ty f)) ks (.int v t)
 | .var i, a => ∃ ks, NodeAt G a "var" (.ref (bk.ty (fmOf i))) ks (.ref (bk.var i))
 | .std1 name f t, a => (E4 fun ks n b tn => A3 (NodeAt G a "std" (.ref (bk.ty f)) (.ref ks) (.str (S name) tn)) (G ks (lobj [.ref b] n)) (NodeIs G bk t b))
 | .std2 name f t k, a => (E7 fun ks n b d tn tk kd => A4 (NodeAt G a "std" (.ref (bk.ty f)) (.ref ks) (.str (S name) tn)) (G ks (lobj [.ref b, .ref d] n)) (NodeIs G bk t b) (NodeAt G d "const" (.ref (bk.ty .I)) kd (.int k tk)))
 | .set es, a => (E3 fun ks n vs => A3 (NodeAt G a "set" (.ref (bk.ty .M)) (.ref ks) .none) (G ks (lobj vs n)) (All2 (fun v e => ∃ b, v = .ref b ∧ SingleIs G bk b e) vs es))
 | .un op f t, a => (E3 fun ks n b => A3 (NodeAt G a op (.ref (bk.ty f)) (.ref ks) .none) (G ks (lobj [.ref b] n)) (NodeIs G bk t b))
 | .bin op f l r, a => (E4 fun ks n b d => A4 (NodeAt G a op (.ref (bk.ty f)) (.ref ks) .none) (G ks (lobj [.ref b, .ref d] n)) (NodeIs G bk l b) (NodeIs G bk r d))
structure BookOK (G : Gh) (bk : Bk) : Prop where
 ty : ∀ f, FormOf G (bk.ty f) f.name
 var : ∀ i, i < 6 → VarAt G (bk.var i) i (bk.ty (fmOf i))
section
variable {G G' : Gh} {bk : Bk}
theorem FormOf.mono {a : Addr} {f : String} (x : FormOf G a f) (h : ∀ a o, G a o → G' a o) : FormOf G' a f := let ⟨t, x⟩ := x; ⟨t, x.mono h⟩
theorem NodeAt.mono {a : Addr} {op : String} {ty kids val : Value} (x : NodeAt G a op ty kids val) (h : ∀ a o, G a o → G' a o) : NodeAt G' a op ty kids val :=
 ⟨let ⟨t, y⟩ := x.op; ⟨t, y.mono h⟩, x.type.mono h, x.kids.mono h, x.value.mono h⟩
theorem VarAt.mono {a ta : Addr} {i : Nat} (x : VarAt G a i ta) (h : ∀ a o, G a o → G' a o) : VarAt G' a i ta :=
 ⟨let ⟨t, y⟩ := x.kind; ⟨t, y.mono h⟩, let ⟨t, y⟩ := x.name; ⟨t, y.mono h⟩, x.type.mono h, let ⟨t, y⟩ := x.level; ⟨t, y.mono h⟩, let ⟨t, y⟩ := x.module; ⟨t, y.mono h⟩, let ⟨t, y⟩ := x.slot; ⟨t, y.mono h⟩⟩
theorem BookOK.mono (x : BookOK G bk) (h : ∀ a o, G a o → G' a o) : BookOK G' bk := ⟨fun f => (x.ty f).mono h, fun i hi => (x.var i hi).mono h⟩
theorem SingleIs.mono {a : Addr} {e : Int} (x : SingleIs G bk a e) (h : ∀ a o, G a o → G' a o) : SingleIs G' bk a e := let ⟨ks, n, b, t, kb, h1, h2, h3⟩ := x; ⟨ks, n, b, t, kb, h1.mono h, h _ _ h2, h3.mono h⟩
theorem NodeIs.mono (h : ∀ a o, G a o → G' a o) : ∀ {t : Tr} {a : Addr}, NodeIs G bk t a → NodeIs G' bk t a := by
 intro t
 induction t with
 | const _ _ => rintro a ⟨ks, t, x⟩; exact ⟨ks, t, x.mono h⟩
 | var _ => rintro a ⟨ks, x⟩; exact ⟨ks, x.mono h⟩
 | std1 _ _ _ ih => rintro a ⟨ks, n, b, tn, x, y, z⟩; exact ⟨ks, n, b, tn, x.mono h, h _ _ y, ih z⟩
 | std2 _ _ _ _ ih => rintro a ⟨ks, n, b, d, tn, tk, kd, x, y, z, u⟩; exact ⟨ks, n, b, d, tn, tk, kd, x.mono h, h _ _ y, ih z, u.mono h⟩
 | set _ => rintro a ⟨ks, n, vs, x, y, z⟩; exact ⟨ks, n, vs, x.mono h, h _ _ y, z.mono fun _ _ ⟨b, e, s⟩ => ⟨b, e, s.mono h⟩⟩
 | un _ _ _ ih => rintro a ⟨ks, n, b, x, y, z⟩; exact ⟨ks, n, b, x.mono h, h _ _ y, ih z⟩
 | bin _ _ _ _ ih1 ih2 => rintro a ⟨ks, n, b, d, x, y, z, u⟩; exact ⟨ks, n, b, d, x.mono h, h _ _ y, ih1 z, ih2 u⟩
theorem NodeIs.type : ∀ {t : Tr} {a : Addr}, NodeIs G bk t a → AttrG G a 224 "type" (.ref (bk.ty t.fm))
 | .const _ _, _, ⟨ks, t, x⟩ => x.type
 | .var _, _, ⟨ks, x⟩ => x.type
 | .std1 _ _ _, _, ⟨ks, n, b, tn, x, y, z⟩ => x.type
 | .std2 _ _ _ _, _, ⟨ks, n, b, d, tn, tk, kd, x, y, z, u⟩ => x.type
 | .set _, _, ⟨ks, n, vs, x, y, z⟩ => x.type
 | .un _ _ _, _, ⟨ks, n, b, x, y, z⟩ => x.type
 | .bin _ _ _ _, _, ⟨ks, n, b, d, x, y, z, u⟩ => x.type
theorem Fm.inForms (f : Fm) : f.name ∈ forms := by cases f <;> simp [Fm.name, forms]
end
theorem MS.put_sz {s : MS} {op : String} {x y : Int} : (s.put op x y).sz = s.sz + 1 := by simp [MS.put, MS.sz]; lia
theorem MS.putR_sz {s : MS} {op : String} {x y : Int} : (s.putR op x y).2.sz = s.sz + 1 := MS.put_sz
theorem MS.variable_sz {s : MS} {i : Nat} : (s.variable i).2.sz ≤ s.sz + 3 := by
 unfold MS.variable
 split
 ·exact Nat.le_add_right _ _
 ·simp [MS.put, MS.sz]; lia
theorem turnedM_sz {s : MS} {r : Int} : (turnedM s r).2.sz = s.sz + 2 := by simp [turnedM, MS.putR_sz, MS.put_sz]
theorem subsetM_sz {s : MS} {x y : Int} : (subsetM s x y).2.sz = s.sz + 5 := by simp [subsetM, MS.putR_sz, MS.put_sz]
theorem absoluteM_sz {s : MS} {x : Int} : (absoluteM s x).2.sz = s.sz + 4 := by simp [absoluteM, MS.putR_sz, MS.put_sz]
theorem relationM_sz {s : MS} {op : String} {x y : Int} : (relationM s op x y).2.sz ≤ s.sz + 3 := by
 unfold relationM
 dsimp only
 split <;> split <;> simp [turnedM_sz, MS.put_sz]
theorem pairM_sz {s : MS} {op : String} {x y : Int} : (pairM s op x y).2.sz ≤ s.sz + 5 := by
 unfold pairM
 split
 ·rw [MS.putR_sz]; lia
 ·split
  ·simp [MS.putR_sz, MS.put_sz]
  ·split
   ·rw [subsetM_sz]; lia
   ·split
    ·rw [subsetM_sz]; lia
    ·split
     ·simp [MS.putR_sz, MS.put_sz]
     ·have := relationM_sz (s := s) (op := op) (x := x) (y := y); lia
theorem std1M_sz {s : MS} {name : String} {x : Int} : (std1M s name x).2.sz ≤ s.sz + 4 := by
 unfold std1M
 split
 ·rw [absoluteM_sz]; exact Nat.le_refl _
 ·split
  ·simp [MS.putR_sz, MS.put_sz]
  ·simp
theorem unM_sz {s : MS} {op : String} {x : Int} : (unM s op x).2.sz = s.sz + 2 := by
 unfold unM
 split
 ·simp [MS.putR_sz, MS.put_sz]
 ·split
  ·rw [turnedM_sz]
  ·simp [MS.putR_sz, MS.put_sz]
theorem setStep_sz {p : Int × MS} {e : Int} : (setStep p e).2.sz = p.2.sz + 4 := by simp [setStep, MS.putR_sz, MS.put_sz]
theorem set_sz : ∀ (es : List Int) (p : Int × MS), (es.foldl setStep p).2.sz = p.2.sz + 4 * es.length
 | [], p => by simp
 | e :: es, p => by rw [List.foldl_cons, set_sz es, setStep_sz, List.length_cons]; lia
theorem MS.low_sz : ∀ (t : Tr) (s : MS), (s.low t).2.sz ≤ s.sz + t.cost
 | .const _ _, s => by simp [MS.low, Tr.cost, MS.putR_sz]
 | .var _, s => MS.variable_sz
 | .std1 name _ t, s => by
  have h := MS.low_sz t s
  have := std1M_sz (s := (s.low t).2) (name := name) (x := (s.low t).1)
  simp only [MS.low, Tr.cost]; lia
 | .std2 name _ t k, s => by
  have h := MS.low_sz t s
  simp only [MS.low, Tr.cost, MS.putR_sz, MS.put_sz]; lia
 | .set es, s => by simp only [MS.low, Tr.cost, set_sz, MS.putR_sz]; lia
 | .un op _ t, s => by
  have h := MS.low_sz t s
  simp only [MS.low, Tr.cost, unM_sz]; lia
 | .bin op _ l r, s => by
  have h := MS.low_sz l s
  have h2 := MS.low_sz r (s.low l).2
  have := pairM_sz (s := ((s.low l).2.low r).2) (op := op) (x := (s.low l).1) (y := ((s.low l).2.low r).1)
  simp only [MS.low, Tr.cost]; lia
theorem MS.rows_sz {s : MS} : s.rows.length ≤ s.sz := by unfold MS.sz; lia
end Mine
end
section
namespace Mine
open PySem PySem.W PyProof.Rows PySem.Calls H
theorem keyEq {c : Cx} {σ : Sg} {h : Heap} {g d t os} {A : Around} {ks ks' : List KI} {a b : Addr} (S : c.St σ h) (ha : KeyG c.w σ.G ks a) (hb : KeyG c.w σ.G ks' b) (hu : A.units < cLine) : SeqAt.EqAt A ⟨h, g, d, t, os⟩ (.ref a) (.ref b) (decide (ks = ks')) := fun prog w E Q hq => by
 have is1 : ∀ {ks : List KI} {a : Addr}, KeyG c.w σ.G ks a → IsTupleKey (mixKind prog w) h ks a := fun {ks a} ⟨vs, n, hg, hi⟩ => by
  refine ⟨_, _, _, S.get hg, rfl, rfl, ?_⟩
  have : ∀ {ks : List KI} {vs : List Value}, ItemsAre (mixKind H.rw_.prog c.w) ks vs → ItemsAre (mixKind prog w) ks vs := by
   intro ks vs hi
   induction hi with
   | nil => exact .nil
   | cons h1 _ ih => exact .cons h1 ih
  simpa using this hi
 exact wpAny_eqBool_tuple hu (is1 ha) (is1 hb) hq
open Classical in
theorem Do.notInKeys {c : Cx} {σ : Sg} {mg mb : Str → Option Value} {k : Nat} {a x : Addr} {vs : List Value} {n : Nat} {kss : List (List KI)} {ks : List KI} {K : Value → Sg → Prop} (ok : c.Ok mg mb (k + 1)) (hx : σ.has a (lobj vs n)) (hvs : All2 (fun v ks => ∃ b, v = .ref b ∧ KeyG c.w σ.G ks b) vs kss) (hk : KeyG c.w σ.G ks x)
  (q : K (.bool (!kss.any fun k' => decide (k' = ks))) σ) : Do c σ (compareOp .NotIn (.ref x) (.ref a)) K := ⟨fun h g d t os Q E S qq => by
 let e : Value → Bool := fun v => decide (∃ b, v = .ref b ∧ KeyG c.w σ.G ks b)
 have hu : c.A.in1.units < cLine := roomH ok
 have all : ∀ y ∈ vs, (E2 fun b ks' => A3 (y = .ref b) (KeyG c.w σ.G ks' b) (e y = decide (ks' = ks))) := fun y hy => by
  obtain ⟨i, hi⟩ := List.mem_iff_getElem?.mp hy
  obtain ⟨ks', _, b, rfl, hb⟩ := hvs.get hi
  refine ⟨b, ks', rfl, hb, ?_⟩
  show decide (∃ b', Value.ref b = .ref b' ∧ KeyG c.w σ.G ks b') = decide (ks' = ks)
  refine decide_eq_decide.mpr ⟨fun h => ?_, fun e' => ⟨b, rfl, e' ▸ hb⟩⟩
  obtain ⟨b', e', hb'⟩ := h
  cases e'
  exact (tkd c.w).inj (keyIs S hb) (keyIs S hb')
 refine SeqAt.notIn_listAt e (S.lst hx) (fun y hy => ?_) ?_
 ·obtain ⟨b, ks', rfl, hb, he⟩ := all y (by simpa using hy)
  rw [he]; exact keyEq S hb hk hu
 ·rw [any_arr]
  have : vs.any e = kss.any fun k' => decide (k' = ks) := by
   clear q qq hx
   induction vs generalizing kss with
   | nil => match kss, hvs with | [], _ => rfl
   | cons v vs ih =>
    match kss, hvs with
    | k' :: kss, ⟨hv, hr⟩ =>
     obtain ⟨b, e0, hb⟩ := hv
     subst e0
     obtain ⟨b', ks', e1, hb', he⟩ := all (.ref b) (.head _)
     cases e1
     have e2 : ks' = k' := (tkd c.w).inj (keyIs S hb') (keyIs S hb)
     rw [List.any_cons, he, e2, List.any_cons, ih hr (fun y hy => all y (.tail _ hy))]
  rw [this]
  exact qq _ _ h t q S⟩
noncomputable def heldPut (held : List (Nat × Int)) (i : Nat) (r : Int) : List (Nat × Int) := if (held.lookup i).isSome then held.map (fun p => if p.1 = i then (i, r) else p) else held ++ [(i, r)]
noncomputable def MS.keep (s : MS) (i : Nat) (r : Int) : MS := { s with held := heldPut s.held i r, stored := if i ∈ s.stored then s.stored else s.stored ++ [i] }
theorem held_stored {xs : List (List KI × Addr × Value)} {held : List (Nat × Int)} (H : All2 HeldR xs held) {i : Nat} (hi : i < 6) (r : Int) (a : Addr) (tt : Tok) : All2 HeldR (storedH xs (keyOf i) a (.int r tt)) (heldPut held i r) := by
 unfold heldPut storedH
 cases hl : held.lookup i with
 | some q =>
  obtain ⟨a', t', ha⟩ := held_some H hi hl
  rw [ha]
  simp only [Option.isSome_some, if_true]
  clear hl ha
  induction held generalizing xs with
  | nil => match xs, H with | [], _ => trivial
  | cons p held ih =>
   match xs, H with
   | x :: xs, ⟨⟨h1, h2, t, h3⟩, H'⟩ =>
    refine ⟨?_, ih H'⟩
    by_cases e : p.1 = i
    ·subst e
     have e1 : putAt (keyOf p.1) (.int r tt) x = (x.1, x.2.1, .int r tt) := by unfold putAt; rw [if_pos h2]
     rw [e1]
     show HeldR _ (if p.1 = p.1 then (p.1, r) else p)
     rw [if_pos rfl]
     exact ⟨h1, h2, _, rfl⟩
    ·have : ¬ x.1 = keyOf i := fun z => e (keyOf_inj h1 hi (h2.symm.trans z))
     have e1 : putAt (keyOf i) (.int r tt) x = x := by unfold putAt; rw [if_neg this]
     rw [e1]
     show HeldR _ (if p.1 = i then (i, r) else p)
     rw [if_neg e]
     exact ⟨h1, h2, _, h3⟩
 | none =>
  rw [held_none H hi hl]
  simp only [Option.isSome_none, Bool.false_eq_true, if_false]
  exact H.append (show All2 HeldR [_] [(i, r)] from ⟨⟨hi, rfl, tt, rfl⟩, trivial⟩)
theorem keys_stored {w : World} {G : Gh} {xs : List (List KI × Addr × Value)} (hk : ∀ x ∈ xs, KeyG w G x.1 x.2.1) {ks : List KI} {a : Addr} (ha : KeyG w G ks a) (v : Value) : ∀ x ∈ storedH xs ks a v, KeyG w G x.1 x.2.1 := fun x hx => by
 unfold storedH at hx
 split at hx
 ·obtain ⟨y, hy, rfl⟩ := List.mem_map.mp hx
  unfold putAt
  split <;> exact hk y hy
 ·rcases List.mem_append.mp hx with hx | hx
  ·exact hk x hx
  ·rw [List.mem_singleton.mp hx]; exact ha
section
variable {w : World} {hB : Heap} {mg mb : Str → Option Value} {G : Gh} {bk : Bk} {m : MA} {s : MS} {fp : Led}
theorem keep_spec (B : Base w hB mg mb) (n : Nat) (M : MakerIn w G bk m s fp) (hz : s.sz ≤ 900000) (hb : BookOK G bk) (hst : ∀ j ∈ s.stored, j < 6) {i : Nat} (hi : i < 6) (r : Int) (tr : Tok) :
  Calls w hB (n + 3) 75 [.ref m.x, .ref (bk.var i), .int r tr] G fp (fun v G' fp' => v = .none ∧ MakerIn w G' bk m (s.keep i r) fp') := by
 have M' := M
 obtain ⟨cnt, t, rows, nR, oH, xs, nI, nS, rfl, M⟩ := M
 have hM := M.inst
 have hzi : (bk.refs s.stored).length ≤ 1000000 := by simp [Bk.refs]; unfold MS.sz at hz; lia
 have hzh : xs.length ≤ 1000000 := by have := M.held.length; unfold MS.sz at hz; lia
 refine start75 B _ _ _ ?_
 intro A env e cx o KK hKK
 refine Do.reS o tb75 60 ?_
 refine Do.byContract o (key_spec B (n + 1) hi (hb.var i hi)) (ex := _) (fp := []) (List.append_nil _).symm ?_
 intro QM r1 G' fp' hG p
 obtain ⟨rfl, k, rfl, hk⟩ := p
 refine Do.getA o (.inl (hG _ _ hM)) (.inr (mm 0 rfl)) 2 (by kernel_rfl) rfl (by kernel_rfl) (by first | rfl | assumption) ?_
 have hkeys : ∀ x ∈ xs, KeyG w G' x.1 x.2.1 := fun x hx => (M.keys x hx).mono hG
 refine Do.hset (ex := [_, _]) (o := oH) o rfl M.hobj hkeys hk hzh fun oH3 hH3 => ?_
 refine Do.listComp [S "variable_key"] o CellOK.nil (by kernel_rfl) ?_
 refine Do.reE o tb75 30 ?_
 refine Do.getA o (.inl (hG _ _ hM)) (.inr (mm 0 rfl)) 4 (by kernel_rfl) rfl (by kernel_rfl) (by first | rfl | assumption) ?_
 refine ⟨rfl, CompSrc.list (n := nS) (fun i ys G2 mu => (∀ a o, G' a o → G2 a o) ∧ All2 (fun v ks => ∃ b, v = .ref b ∧ KeyG w G2 ks b) ys ((s.stored.take i).map keyOf) ∧ mu = MkL w.params m cnt t rows nR oH3 (bk.refs s.inputs) nI (bk.refs s.stored) nS) ?_ hzi ⟨fun _ _ x => x, trivial, rfl⟩ ?_ ?_⟩
 ·intro i ys G2 mu ⟨_, _, e⟩
  subst e
  exact .inr (mm 4 rfl)
 ·intro j v ys G2 mu env2 C2 hid2 hj hv ⟨hG2, hys, e⟩ CE2 o2
  subst e
  refine Do.tests_nil (ite_t rfl ?_)
  refine Do.callG ?_
  refine Do.gK o2 0 89 ?_
  refine Do.callWith_args o2 (by kernel_rfl) ?_
  refine Do.reL o2 tb75 30 ?_
  refine Do.name o2 0 rfl rfl ?_
  have hj' : (bk.refs s.stored)[j]? = some v := hv
  rw [Bk.refs, List.getElem?_map] at hj'
  obtain ⟨jj, hjj, rfl⟩ := Option.map_eq_some_iff.mp hj'
  have hjl : jj < 6 := hst jj (List.mem_of_getElem? hjj)
  refine Do.byContract o2 (key_spec B (n + 1) hjl ((hb.var jj hjl).mono fun _ _ x => hG2 _ _ (hG _ _ x))) (ex := _) (fp := []) (List.append_nil _).symm ?_
  intro QM r3 G3 fp3 hG3 p3
  obtain ⟨rfl, k3, rfl, hk3⟩ := p3
  refine ⟨fun _ _ x => hG3 _ _ (hG2 _ _ x), ?_, by simp⟩
  rw [List.take_add_one, hjj, List.map_append]
  exact (hys.mono fun _ _ ⟨b, e, x⟩ => ⟨b, e, x.mono hG3⟩).append ⟨⟨k3, rfl, hk3⟩, trivial⟩
 ·intro ys G2 mu D ⟨hG2, hys, e⟩ _
  subst e
  have e3 : s.stored.take (bk.refs s.stored).length = s.stored := List.take_of_length_le (by simp [Bk.refs])
  rw [e3] at hys
  refine Do.notInKeys o has_hd hys (hk.mono hG2) ?_
  have e4 : ((s.stored.map keyOf).any fun k' => decide (k' = keyOf i)) = decide (i ∈ s.stored) := by
   rw [Bool.eq_iff_iff, List.any_eq_true, decide_eq_true_eq]
   constructor
   ·rintro ⟨x, hx, e⟩
    obtain ⟨jj, hjj, rfl⟩ := List.mem_map.mp hx
    exact keyOf_inj (hst jj hjj) hi (of_decide_eq_true e) ▸ hjj
   ·intro h
    exact ⟨keyOf i, List.mem_map_of_mem h, decide_eq_true rfl⟩
  rw [e4]
  have hG3 : ∀ a o, G a o → G2 a o := fun _ _ x => hG2 _ _ (hG _ _ x)
  have fin : ∀ sts, Maker w G2 bk m { s with held := heldPut s.held i r, stored := sts } cnt t rows nR oH3 (storedH xs (keyOf i) k (.int r tr)) := fun sts =>
   ⟨hG3 _ _ M.inst, M.cnt, M.rows.mono fun _ _ => RowIn.mono hG3, hH3, held_stored M.held hi r k tr, keys_stored (fun x hx => (hkeys x hx).mono hG2) (hk.mono hG2) _⟩
  by_cases hin : i ∈ s.stored
  ·simp only [hin, decide_true, Bool.not_true]
   refine if0 ?_
   have e5 : s.keep i r = { s with held := heldPut s.held i r, stored := s.stored } := by unfold MS.keep; rw [if_pos hin]
   rw [e5] at hKK
   refine hKK ?_; exact Left.mk [_] (MkL w.params m cnt t rows nR oH3 (bk.refs s.inputs) nI (bk.refs s.stored) nS) rfl rfl ⟨rfl, cnt, t, rows, nR, oH3, _, nI, nS, rfl, fin s.stored⟩
  ·simp only [hin, decide_false, Bool.not_false]
   refine if1 ?_
   refine Do.methodCall ?_
   refine Do.reE o tb75 30 ?_
   refine Do.getA o (.inl (hG3 _ _ hM)) (.inr (mm 1 rfl)) 4 (by kernel_rfl) rfl (by kernel_rfl) (by first | rfl | assumption) ?_
   refine Do.mAppend (.inr (mm 5 rfl)) ?_
   refine Do.callWith_b1 ?_
   refine Do.reL o tb75 30 ?_
   refine Do.append (ex := [_, _, _, _, _]) rfl (by first | exact Nat.le_of_ble_eq_true rfl | assumption | lia | (simp; lia)) ?_
   have e5 : s.keep i r = { s with held := heldPut s.held i r, stored := s.stored ++ [i] } := by unfold MS.keep; rw [if_neg hin]
   rw [e5] at hKK
   refine hKK ?_; exact Left.mk [(D, lsto ys)] (MkL w.params m cnt t rows nR oH3 (bk.refs s.inputs) nI (bk.refs (s.stored ++ [i])) (nS + 1)) (by simp [Bk.refs]) rfl ⟨rfl, cnt, t, rows, nR, oH3, _, nI, nS + 1, rfl, fin (s.stored ++ [i])⟩
end
end Mine
end
section
namespace Mine
open PySem PySem.W PyProof.Rows PySem.Calls H
section
variable {c : Cx} {σ : Sg} {mg mb : Str → Option Value} {k : Nat} {bk : Bk} {m : MA} {s : MS} {ex fp : Led}
theorem Do.turned {K : Value → Sg → Prop} {r : Int} {tr : Tok} (ok : c.Ok mg mb (k + 3)) (M : MakerIn c.w σ.G bk m s fp) (hmu : σ.mu = ex ++ fp) (hz : s.rows.length ≤ 899990)
  (q : ∀ t G' fp', (∀ a o, σ.G a o → G' a o) → MakerIn c.w G' bk m (turnedM s r).2 fp' → K (.int (turnedM s r).1 t) ⟨σ.vs, G', ex ++ fp'⟩) : Do c σ (call (.ref 117) [.ref m.x, .int r tr]) K :=
 Do.byContract₀ ok (turned_spec ok.B k M hz r tr) hmu fun v G' fp' hG ⟨⟨t, e⟩, M'⟩ => e ▸ q t G' fp' hG M'
theorem Do.subset {K : Value → Sg → Prop} {x y : Int} {tx ty : Tok} (ok : c.Ok mg mb (k + 3)) (M : MakerIn c.w σ.G bk m s fp) (hmu : σ.mu = ex ++ fp) (hz : s.rows.length ≤ 899990)
  (q : ∀ t G' fp', (∀ a o, σ.G a o → G' a o) → MakerIn c.w G' bk m (subsetM s x y).2 fp' → K (.int (subsetM s x y).1 t) ⟨σ.vs, G', ex ++ fp'⟩) : Do c σ (call (.ref 131) [.ref m.x, .int x tx, .int y ty]) K :=
 Do.byContract₀ ok (subset_spec ok.B k M hz x tx y ty) hmu fun v G' fp' hG ⟨⟨t, e⟩, M'⟩ => e ▸ q t G' fp' hG M'
theorem Do.absolute {K : Value → Sg → Prop} {x : Int} {tx : Tok} (ok : c.Ok mg mb (k + 3)) (M : MakerIn c.w σ.G bk m s fp) (hmu : σ.mu = ex ++ fp) (hz : s.rows.length ≤ 899990)
  (q : ∀ t G' fp', (∀ a o, σ.G a o → G' a o) → MakerIn c.w G' bk m (absoluteM s x).2 fp' → K (.int (absoluteM s x).1 t) ⟨σ.vs, G', ex ++ fp'⟩) : Do c σ (call (.ref 145) [.ref m.x, .int x tx]) K :=
 Do.byContract₀ ok (absolute_spec ok.B k M hz x tx) hmu fun v G' fp' hG ⟨⟨t, e⟩, M'⟩ => e ▸ q t G' fp' hG M'
end
section
variable {w : World} {hB : Heap} {mg mb : Str → Option Value} {G : Gh} {bk : Bk} {m : MA} {s : MS} {fp : Led}
theorem MakerIn.leftI {p : Int × MS} {r : Int} {s' : MS} {G' : Gh} {fp' ex : Led} {vs : List (Option Value)} {t : Tok} (M : MakerIn w G bk m s fp) (M' : MakerIn w G' bk m s' fp') (e : p = (r, s')) : Left fp (PMk w bk m p) (.ret (.int r t)) ⟨vs, G', ex ++ fp'⟩ := by
 subst e
 exact M.left M' ⟨⟨_, rfl⟩, M'⟩
theorem relation_spec (B : Base w hB mg mb) (n : Nat) (M : MakerIn w G bk m s fp) (hz : s.rows.length ≤ 899980) {a : Addr} {op : String} (hop : op ∈ relOps) {t0 : Tok} (ho : AttrG G a 224 "op" (.str (S op) t0)) (x : Int) (tx : Tok) (y : Int) (ty : Tok) :
  Calls w hB (n + 4) 124 [.ref m.x, .ref a, .int x tx, .int y ty] G fp (PMk w bk m (relationM s op x y)) := by
 refine start124 B _ _ _ _ ?_
 intro A env e cx o KK hKK
 refine Do.reS o tb124 60 ?_
 refine Do.assign_tuple rfl rfl ?_
 refine Do.reE o tb124 30 ?_
 refine Do.gP o ho ?_
 refine Do.byContract0 o (relrow_spec B (n + 2) op hop t0) ?_
 intro QM r1 G' hG p
 obtain ⟨b, t1, k, rfl, hk⟩ := p
 have M1 := M.mono hG
 refine Do.assignTuple ?_
 refine Do.unpackT o (.inl hk) rfl rfl ?_
 refine Do.inOrder_cons ?_
 refine Do.assignName o 4 rfl (by first | exact Nat.le_of_ble_eq_true rfl | lia) ?_
 refine Do.inOrder_cons ?_
 refine Do.assignName o 5 rfl (by first | exact Nat.le_of_ble_eq_true rfl | lia) ?_
 refine Do.inOrder_cons ?_
 refine Do.assignName o 6 rfl (by first | exact Nat.le_of_ble_eq_true rfl | lia) ?_
 refine Do.inOrder_nil ?_
 revert hk hKK
 apply each6 (x := op) hop
 ·intro hKK hk
  refine if0 ?_
  refine Do.mkCall o tb124 0 56 M1 (ex := []) rfl ?_
  refine Do.put o M1 (ex := []) rfl (by first | lia | (simp only [MS.put_len]; lia)) ?_
  intro t2 t3 t4 t5 t6
  refine if0 ?_
  refine hKK ?_; exact M.leftI (ex := []) (by assumption) rfl
 ·intro hKK hk
  refine if0 ?_
  refine Do.mkCall o tb124 0 56 M1 (ex := []) rfl ?_
  refine Do.put o M1 (ex := []) rfl (by first | lia | (simp only [MS.put_len]; lia)) ?_
  intro t2 t3 t4 t5 t6
  refine if1 ?_
  refine Do.turned o t6 (ex := []) rfl (by first | lia | (simp only [MS.put_len]; lia)) ?_
  intro t7 t8 t9 t10 t11
  refine hKK ?_; exact M.leftI (ex := []) (by assumption) rfl
 ·intro hKK hk
  refine if0 ?_
  refine Do.mkCall o tb124 0 56 M1 (ex := []) rfl ?_
  refine Do.put o M1 (ex := []) rfl (by first | lia | (simp only [MS.put_len]; lia)) ?_
  intro t2 t3 t4 t5 t6
  refine if0 ?_
  refine hKK ?_; exact M.leftI (ex := []) (by assumption) rfl
 ·intro hKK hk
  refine if0 ?_
  refine Do.mkCall o tb124 0 56 M1 (ex := []) rfl ?_
  refine Do.put o M1 (ex := []) rfl (by first | lia | (simp only [MS.put_len]; lia)) ?_
  intro t2 t3 t4 t5 t6
  refine if1 ?_
  refine Do.turned o t6 (ex := []) rfl (by first | lia | (simp only [MS.put_len]; lia)) ?_
  intro t7 t8 t9 t10 t11
  refine hKK ?_; exact M.leftI (ex := []) (by assumption) rfl
 ·intro hKK hk
  refine if1 ?_
  refine Do.assign_swap2 o 2 3 rfl rfl (by kernel_rfl) (by kernel_rfl) ?_
  refine Do.reE o tb124 30 ?_
  refine Do.newTupG (Nat.le_of_ble_eq_true rfl) ?_
  intro t2
  refine SwapEnd.mk (.inl gadd_at) (by first | exact Nat.le_of_ble_eq_true rfl | lia) (by first | exact Nat.le_of_ble_eq_true rfl | lia) ?_
  refine Do.mkCall o tb124 0 56 (M1.mono fun _ _ x => (.inl x)) (ex := []) rfl ?_
  refine Do.put o (M1.mono fun _ _ x => (.inl x)) (ex := []) rfl (by first | lia | (simp only [MS.put_len]; lia)) ?_
  intro t3 t4 t5 t6 t7
  refine if0 ?_
  refine hKK ?_; exact M.leftI (ex := []) (by assumption) rfl
 ·intro hKK hk
  refine if1 ?_
  refine Do.assign_swap2 o 2 3 rfl rfl (by kernel_rfl) (by kernel_rfl) ?_
  refine Do.reE o tb124 30 ?_
  refine Do.newTupG (Nat.le_of_ble_eq_true rfl) ?_
  intro t2
  refine SwapEnd.mk (.inl gadd_at) (by first | exact Nat.le_of_ble_eq_true rfl | lia) (by first | exact Nat.le_of_ble_eq_true rfl | lia) ?_
  refine Do.mkCall o tb124 0 56 (M1.mono fun _ _ x => (.inl x)) (ex := []) rfl ?_
  refine Do.put o (M1.mono fun _ _ x => (.inl x)) (ex := []) rfl (by first | lia | (simp only [MS.put_len]; lia)) ?_
  intro t3 t4 t5 t6 t7
  refine if1 ?_
  refine Do.turned o t7 (ex := []) rfl (by first | lia | (simp only [MS.put_len]; lia)) ?_
  intro t8 t9 t10 t11 t12
  refine hKK ?_; exact M.leftI (ex := []) (by assumption) rfl
end
end Mine
end
section
namespace Mine
open PySem PySem.W PyProof.Rows PySem.Calls H
noncomputable def pairOps : List String := ["+", "-", "*", "s+", "s*", "s/", "&", "OR", "s-", "s<=", "s>=", "IN"]
theorem pairCases {op : String} (h : op ∈ pairOps ++ relOps) : op ∈ ["+", "-", "*"] ∨ op ∈ ["s+", "s-", "s*", "s/"] ∨ op = "IN" ∨ op ∈ ["&", "OR"] ∨ op = "s<=" ∨ op = "s>=" ∨ op ∈ relOps :=
 of_decide_eq_true (allT (p := fun op => decide (op ∈ ["+", "-", "*"] ∨ op ∈ ["s+", "s-", "s*", "s/"] ∨ op = "IN" ∨ op ∈ ["&", "OR"] ∨ op = "s<=" ∨ op = "s>=" ∨ op ∈ relOps)) h (by kernel_rfl))
theorem pairCases2 {op : String} (h : op ∈ pairOps ++ relOps) : op ∈ ["+", "-", "*", "s+", "s*", "s/", "&", "OR"] ∨ op = "s-" ∨ op = "s<=" ∨ op = "s>=" ∨ op = "IN" ∨ op ∈ relOps :=
 of_decide_eq_true (allT (p := fun op => decide (op ∈ ["+", "-", "*", "s+", "s*", "s/", "&", "OR"] ∨ op = "s-" ∨ op = "s<=" ∨ op = "s>=" ∨ op = "IN" ∨ op ∈ relOps)) h (by kernel_rfl))
theorem each8 {α : Type} {P : α → Prop} {x a0 a1 a2 a3 a4 a5 a6 a7 : α} (h : x ∈ [a0, a1, a2, a3, a4, a5, a6, a7]) (h0 : P a0) (h1 : P a1) (h2 : P a2) (h3 : P a3) (h4 : P a4) (h5 : P a5) (h6 : P a6) (h7 : P a7) : P x :=
 each h (⟨h0, h1, h2, h3, h4, h5, h6, h7, trivial⟩ : P a0 ∧ P a1 ∧ P a2 ∧ P a3 ∧ P a4 ∧ P a5 ∧ P a6 ∧ P a7 ∧ True)
noncomputable def nmOp (op : String) : String := (simpleOps.lookup op).getD ""
noncomputable def tkOp (t0 t1 t2 t3 t4 t5 t6 t7 : Tok) (op : String) : Tok := (([("+", t0), ("-", t1), ("*", t2), ("s+", t3), ("s*", t4), ("s/", t5), ("&", t6), ("OR", t7)] : List (String × Tok)).lookup op).getD t0
section
variable {w : World} {hB : Heap} {mg mb : Str → Option Value} {G : Gh} {bk : Bk} {m : MA} {s : MS} {fp : Led}
theorem pair_spec (B : Base w hB mg mb) (n : Nat) (M : MakerIn w G bk m s fp) (hz : s.rows.length ≤ 899980) {a : Addr} {op : String} (hop : op ∈ pairOps ++ relOps) {t0 : Tok} (ho : AttrG G a 224 "op" (.str (S op) t0)) (x : Int) (tx : Tok) (y : Int) (ty : Tok) :
  Calls w hB (n + 5) 138 [.ref m.x, .ref a, .int x tx, .int y ty] G fp (PMk w bk m (pairM s op x y)) := by
 refine start138 B _ _ _ _ ?_
 intro A env e cx o KK hKK
 refine Do.reS o tb138 60 ?_
 refine Do.gP o ho ?_
 refine Do.dictS (by kernel_rfl) ?_
 intro t1
 refine Do.pairs_cons ?_
 refine Do.const_str ?_
 intro t2
 refine Do.const_str ?_
 intro t3
 refine Do.pairs_cons ?_
 refine Do.const_str ?_
 intro t4
 refine Do.const_str ?_
 intro t5
 refine Do.pairs_cons ?_
 refine Do.const_str ?_
 intro t6
 refine Do.const_str ?_
 intro t7
 refine Do.pairs_cons ?_
 refine Do.const_str ?_
 intro t8
 refine Do.const_str ?_
 intro t9
 refine Do.pairs_cons ?_
 refine Do.const_str ?_
 intro t10
 refine Do.const_str ?_
 intro t11
 refine Do.pairs_cons ?_
 refine Do.const_str ?_
 intro t12
 refine Do.const_str ?_
 intro t13
 refine Do.pairs_cons ?_
 refine Do.const_str ?_
 intro t14
 refine Do.const_str ?_
 intro t15
 refine Do.pairs_cons ?_
 refine Do.const_str ?_
 intro t16
 refine Do.const_str ?_
 intro t17
 refine Do.pairs_nil ?_
 refine DictEnd.mk [] rfl (by kernel_rfl) ?_
 intro t18 t19
 rcases pairCases2 hop with h1 | rfl | rfl | rfl | rfl | h1
 ·refine Do.dinS o (mm 0 rfl) t19 (b := true) (by apply allT (x := op) h1; kernel_rfl) ?_
  refine if1 ?_
  refine Do.mkCall o tb138 0 56 M (ex := [_]) rfl ?_
  refine Do.dget (.inr (mm 0 rfl)) t19 (strKind_is _ _ _ _) (v := .str (S (nmOp op)) (tkOp t3 t5 t7 t9 t11 t13 t15 t17 op)) (by apply each8 (x := op) h1 <;> kernel_rfl) ?_
  refine Do.put o M (ex := [_]) rfl (by first | lia | (simp only [MS.put_len]; lia)) ?_
  intro t20 t21 t22 t23 t24
  have hv : pairM s op x y = s.putR (nmOp op) x y := by apply each8 (x := op) h1 <;> rfl
  refine hKK ?_; exact M.leftI (ex := [_]) (by assumption) hv
 ·refine Do.dinS o (mm 0 rfl) t19 (b := false) (by kernel_rfl) ?_
  refine if0 ?_
  refine if1 ?_
  refine Do.mkCall o tb138 0 56 M (ex := [_]) rfl ?_
  intro t20
  refine Do.mkCall o tb138 0 56 M (ex := [_]) rfl ?_
  intro t21
  refine Do.mkCall o tb138 0 63 M (ex := [_]) rfl ?_
  refine Do.globalK o 0 rfl (v := (Value.int 4294967295 189)) (by kernel_rfl) ?_
  refine Do.number o M (ex := [_]) rfl (by first | lia | (simp only [MS.put_len]; lia)) ?_
  intro t22 t23 t24 t25 t26
  refine Do.put o t26 (ex := [_]) rfl (by first | lia | (simp only [MS.put_len]; lia)) ?_
  intro t27 t28 t29 t30 t31
  refine Do.put o t31 (ex := [_]) rfl (by first | lia | (simp only [MS.put_len]; lia)) ?_
  intro t32 t33 t34 t35 t36
  refine hKK ?_; exact M.leftI (ex := [_]) (by assumption) rfl
 ·refine Do.dinS o (mm 0 rfl) t19 (b := false) (by kernel_rfl) ?_
  refine if0 ?_
  refine if0 ?_
  refine if1 ?_
  refine Do.subset o M (ex := [_]) rfl (by first | lia | (simp only [MS.put_len]; lia)) ?_
  intro t20 t21 t22 t23 t24
  refine hKK ?_; exact M.leftI (ex := [_]) (by assumption) rfl
 ·refine Do.dinS o (mm 0 rfl) t19 (b := false) (by kernel_rfl) ?_
  refine if0 ?_
  refine if0 ?_
  refine if0 ?_
  refine if1 ?_
  refine Do.subset o M (ex := [_]) rfl (by first | lia | (simp only [MS.put_len]; lia)) ?_
  intro t20 t21 t22 t23 t24
  refine hKK ?_; exact M.leftI (ex := [_]) (by assumption) rfl
 ·refine Do.dinS o (mm 0 rfl) t19 (b := false) (by kernel_rfl) ?_
  refine if0 ?_
  refine if0 ?_
  refine if0 ?_
  refine if0 ?_
  refine if1 ?_
  refine Do.mkCall o tb138 0 56 M (ex := [_]) rfl ?_
  intro t20
  refine Do.mkCall o tb138 0 56 M (ex := [_]) rfl ?_
  intro t21
  refine Do.put o M (ex := [_]) rfl (by first | lia | (simp only [MS.put_len]; lia)) ?_
  intro t22 t23 t24 t25 t26
  refine Do.mkCall o tb138 0 63 t26 (ex := [_]) rfl ?_
  intro t27
  refine Do.number o t26 (ex := [_]) rfl (by first | lia | (simp only [MS.put_len]; lia)) ?_
  intro t28 t29 t30 t31 t32
  refine Do.put o t32 (ex := [_]) rfl (by first | lia | (simp only [MS.put_len]; lia)) ?_
  intro t33 t34 t35 t36 t37
  refine hKK ?_; exact M.leftI (ex := [_]) (by assumption) rfl
 ·refine Do.dinS o (mm 0 rfl) t19 (b := false) (by apply allF (x := op) h1; kernel_rfl) ?_
  refine if0 ?_
  refine if0 ?_ (by apply allF (x := op) h1; kernel_rfl)
  refine if0 ?_ (by apply allF (x := op) h1; kernel_rfl)
  refine if0 ?_ (by apply allF (x := op) h1; kernel_rfl)
  refine if0 ?_ (by apply allF (x := op) h1; kernel_rfl)
  refine if1 ?_ (by apply allT (x := op) h1; kernel_rfl)
  refine Do.byContract o (relation_spec B n M (by lia) h1 ho x tx y ty) (ex := [_]) rfl ?_
  intro QM r1 G1 fp1 hG1 p1
  obtain ⟨⟨t1, rfl⟩, M1⟩ := p1
  have hv : pairM s op x y = relationM s op x y := by apply each6 (x := op) h1 <;> rfl
  refine hKK ?_; exact M.leftI (ex := [_]) M1 hv
theorem bits_spec (B : Base w hB mg mb) (n : Nat) (M : MakerIn w G bk m s fp) {a : Addr} (h : FormOf G a "integer") (x : Int) (tx : Tok) :
  Calls w hB (n + 5) 152 [.ref m.x, .ref a, .int x tx] G fp (fun v G' fp' => (∃ t, v = .int x t) ∧ MakerIn w G' bk m s fp') := by
 obtain ⟨t, h⟩ := h
 refine start152 B _ _ _ ?_
 intro A env e cx o KK hKK
 refine Do.reS o tb152 60 ?_
 refine Do.gP o h ?_
 refine if0 ?_
 refine Do.gP o h ?_
 refine if0 ?_
 refine Do.gP o h ?_
 refine if0 ?_
 refine if0 ?_
 refine hKK ?_; exact M.leftI (p := (x, s)) (ex := []) M rfl
end
end Mine
end
section
namespace Mine
open PySem PySem.W PyProof.Rows PySem.Calls H
noncomputable def LowC (w : World) (hB : Heap) (bk : Bk) (m : MA) (n : Nat) (t : Tr) (a : Addr) (G : Gh) : Prop := ∀ G' s fp, (∀ a o, G a o → G' a o) → MakerIn w G' bk m s fp → s.sz + t.cost ≤ 899000 →
 Calls w hB n 171 [.ref m.x, .ref a] G' fp (PMk w bk m (s.low t))
noncomputable def MS.lows (s : MS) : List Tr → List Int × MS
 | [] => ([], s)
 | t :: ts => ((s.low t).1 :: ((s.low t).2.lows ts).1, ((s.low t).2.lows ts).2)
theorem lows_snoc : ∀ (ts : List Tr) (s : MS) (t : Tr), s.lows (ts ++ [t]) = ((s.lows ts).1 ++ [((s.lows ts).2.low t).1], ((s.lows ts).2.low t).2)
 | [], s, t => rfl
 | u :: ts, s, t => by simp only [List.cons_append, MS.lows, lows_snoc ts]
noncomputable def costs : List Tr → Nat
 | [] => 0
 | t :: ts => t.cost + costs ts
theorem lows_sz : ∀ (ts : List Tr) (s : MS), (s.lows ts).2.sz ≤ s.sz + costs ts
 | [], s => Nat.le_refl _
 | t :: ts, s => by
  have h1 := MS.low_sz t s
  have h2 := lows_sz ts (s.low t).2
  simp only [MS.lows, costs]; lia
theorem costs_take : ∀ (ts : List Tr) (i : Nat) (t : Tr), ts[i]? = some t → costs (ts.take i) + t.cost ≤ costs ts
 | u :: ts, 0, t, h => by simp at h; subst h; simp [costs]
 | u :: ts, i + 1, t, h => by
  have := costs_take ts i t (by simpa using h)
  simp only [List.take_succ_cons, costs]; lia
 | [], i, t, h => by simp at h
theorem mem3 {α : Type} {x a b c : α} (h : x = a ∨ x = b ∨ x = c) : x ∈ [a, b, c] := by simpa using h
noncomputable def IntsV (vs : List Value) (rs : List Int) : Prop := All2 (fun v r => ∃ tk, v = .int r tk) vs rs
section
variable {w : World} {hB : Heap} {mg mb : Str → Option Value} {G : Gh} {bk : Bk} {m : MA} {s : MS} {fp : Led}
theorem std_spec (B : Base w hB mg mb) (n : Nat) (M : MakerIn w G bk m s fp) {a ks : Addr} {name : String} {tn : Tok} {f : Fm} {nK : Nat} {vs : List Value} {ts : List Tr} (hb : BookOK G bk)
  (hz : s.sz + costs ts ≤ 899000) (hN : NodeAt G a "std" (.ref (bk.ty f)) (.ref ks) (.str (S name) tn)) (hks : G ks (lobj vs nK)) (hkids : All2 (fun v t => ∃ b, v = .ref b ∧ LowC w hB bk m (n + 5) t b G) vs ts)
  (hcase : (∃ t, ts = [t] ∧ (name = "ABS" ∨ name = "ODD" ∨ (name = "VAL" ∧ f = .I) ∨ name = "ORD")) ∨ ((E2 fun t k => (ts = [t, .const .I k]) ∧ (name = "LSL" ∨ name = "ASR" ∨ name = "ROR")))) :
  Calls w hB (n + 6) 157 [.ref m.x, .ref a] G fp (fun v G' fp' =>
   match (s.lows ts).1 with
   | [r] => (∃ t, v = .int (std1M (s.lows ts).2 name r).1 t) ∧ MakerIn w G' bk m (std1M (s.lows ts).2 name r).2 fp'
   | r :: r2 :: _ => (∃ t, v = .int (s.lows ts).2.rows.length t) ∧ MakerIn w G' bk m ((s.lows ts).2.put (std2Name name) r r2) fp'
   | [] => True) := by
 obtain ⟨⟨tn0, hop⟩, hty, hkd, hval⟩ := hN
 refine start157 B _ _ ?_
 intro A env e G' c0 hG CE CG cx o KK hKK
 have hks' := hG _ _ hks
 have M0 := M.mono hG
 have hne : (S name == Str.ofString "LEN") = false := by
  rcases hcase with ⟨t, _, h | h | h | h⟩ | ⟨t, k, _, h | h | h⟩
  all_goals (first | subst h | obtain ⟨h, _⟩ := h; subst h); kernel_rfl
 have hlen : vs.length ≤ 1000000 := by
  rw [hkids.length]
  rcases hcase with ⟨t, h, _⟩ | ⟨t, k, h, _⟩ <;> subst h <;> simp
 refine Do.reS o tb157 60 ?_
 refine Do.gP o (hval.mono fun _ _ x => (hG _ _ x)) ?_
 refine ite_f hne ?_
 refine Do.assign_listComp [S "lowered"] o CE (by kernel_rfl) 2 rfl (by first | exact Nat.le_of_ble_eq_true rfl | lia) (by kernel_rfl) ?_
 refine Do.reE o tb157 30 ?_
 refine Do.gP o (hkd.mono fun _ _ x => (hG _ _ x)) ?_
 refine ⟨rfl, CompSrc.list (n := nK) (fun i ys G2 mu => (∀ a o, G' a o → G2 a o) ∧ IntsV ys (s.lows (ts.take i)).1 ∧ MakerIn w G2 bk m (s.lows (ts.take i)).2 mu) ?_ hlen ⟨fun _ _ x => x, trivial, M0⟩ ?_ ?_⟩
 ·intro i ys G2 mu ⟨h1, _, _⟩
  exact .inl (h1 _ _ hks')
 ·intro j v ys G2 mu env2 C2 hid2 hj hv ⟨hG2, hys, M2⟩ CE2 o2
  refine Do.tests_nil (ite_t rfl ?_)
  obtain ⟨t, ht, b, rfl, hlow⟩ := hkids.get hv
  have CG2 := CG.mono hG2
  refine Do.callG ?_
  refine Do.gK o2 0 171 ?_
  refine Do.callWith_args o2 (by kernel_rfl) ?_
  refine Do.reL o2 tb157 30 ?_
  refine Do.cell o2 CE2 0 (a := c0) (by kernel_rfl) CG2 ?_
  refine Do.name o2 0 rfl rfl ?_
  refine Do.byContract o2 (hlow G2 _ mu (fun _ _ x => hG2 _ _ (hG _ _ x)) M2 ?_) (ex := []) rfl ?_
  ·have h1 := lows_sz (ts.take j) s
   have h2 := costs_take ts j t ht
   lia
  intro QM r G3 fp3 hG3 p3
  obtain ⟨⟨tk, rfl⟩, M3⟩ := p3
  have e : ts.take (j + 1) = ts.take j ++ [t] := by rw [List.take_add_one, ht]; rfl
  refine ⟨fun _ _ x => hG3 _ _ (hG2 _ _ x), ?_, ?_⟩
  ·rw [e, lows_snoc]; exact hys.append ⟨⟨tk, rfl⟩, trivial⟩
  ·rw [e, lows_snoc]; exact M3
 ·intro ys G2 mu D ⟨hG2, hys, M2⟩ _
  have hts : ts.take vs.length = ts := List.take_of_length_le (by rw [hkids.length]; exact Nat.le_refl _)
  rw [hts] at hys M2
  have hsz : (s.lows ts).2.rows.length ≤ 899000 := by
   have h1 := lows_sz ts s
   have h2 := MS.rows_sz (s := (s.lows ts).2)
   lia
  generalize hlw : s.lows ts = lw at hys M2 hsz hKK
  obtain ⟨regs, s2⟩ := lw
  rcases hcase with ⟨t, rfl, hc⟩ | ⟨t, k, rfl, hc⟩
  ·obtain ⟨r, rfl⟩ : ∃ r, regs = [r] := ⟨_, (congrArg Prod.fst hlw).symm⟩
   obtain ⟨tk, rfl⟩ : ∃ tk, ys = [.int r tk] := all2i1 (f := fun r : Int => r) hys
   dsimp only at M2 hsz hKK
   clear hval hne hkids hlen hks' hks hkd hz
   rcases hc with rfl | rfl | ⟨rfl, rfl⟩ | rfl
   ·refine Do.inL' (.inr (mm 0 rfl)) (by kernel_rfl) ?_
    refine if0 ?_
    refine if1 ?_
    refine Do.cell o CE 0 (a := c0) (by kernel_rfl) (CG.mono fun _ _ x => (hG2 _ _ x)) ?_
    intro t1
    refine Do.itemL (.inr (mm 0 rfl)) (by decide) (by decide) rfl ?_
    refine Do.absolute o M2 (ex := [_]) rfl (by first | lia | (simp only [MS.put_len]; lia)) ?_
    intro t2 t3 t4 t5 t6
    refine hKK ?_; exact M.leftI (ex := [_]) (by assumption) rfl
   ·refine Do.inL' (.inr (mm 0 rfl)) (by kernel_rfl) ?_
    refine if0 ?_
    refine if0 ?_
    refine if1 ?_
    refine Do.methodCall ?_
    refine Do.cell o CE 0 (a := c0) (by kernel_rfl) (CG.mono fun _ _ x => (hG2 _ _ x)) ?_
    refine Do.mkMeth o M2 (ex := [_]) rfl (f := 56) (by kernel_rfl) (by kernel_rfl) ?_
    refine Do.callWith_args o (by kernel_rfl) ?_
    refine Do.reL o tb157 30 ?_
    intro t1 t2
    refine Do.itemL (.inr (mm 0 rfl)) (by decide) (by decide) rfl ?_
    refine Do.methodCall ?_
    refine Do.cell o CE 0 (a := c0) (by kernel_rfl) (CG.mono fun _ _ x => (hG2 _ _ x)) ?_
    refine Do.mkMeth o M2 (ex := [_]) rfl (f := 63) (by kernel_rfl) (by kernel_rfl) ?_
    refine Do.callWith_args o (by kernel_rfl) ?_
    refine Do.reL o tb157 30 ?_
    intro t3
    refine Do.number o M2 (ex := [_]) rfl (by first | lia | (simp only [MS.put_len]; lia)) ?_
    intro t4 t5 t6 t7 t8
    refine Do.put o t8 (ex := [_]) rfl (by first | lia | (simp only [MS.put_len]; lia)) ?_
    intro t9 t10 t11 t12 t13
    refine hKK ?_; exact M.leftI (ex := [_]) (by assumption) rfl
   ·refine Do.inL' (.inr (mm 0 rfl)) (by kernel_rfl) ?_
    refine if0 ?_
    refine if0 ?_
    refine if0 ?_
    refine if1 ?_
    refine Do.cell o CE 0 (a := c0) (by kernel_rfl) (CG.mono fun _ _ x => (hG2 _ _ x)) ?_
    refine Do.gP o (hty.mono fun _ _ x => (hG2 _ _ (hG _ _ x))) ?_
    intro t1
    refine Do.itemL (.inr (mm 0 rfl)) (by decide) (by decide) rfl ?_
    refine Do.byContract o (bits_spec B n M2 ((hb.ty .I).mono fun _ _ x => hG2 _ _ (hG _ _ x)) r tk) (ex := [_]) rfl ?_
    intro QM r1 G3 fp3 hG3 p3
    obtain ⟨⟨tk3, rfl⟩, M3⟩ := p3
    refine hKK ?_; exact M.leftI (ex := [_]) M3 rfl
   ·refine Do.inL' (.inr (mm 0 rfl)) (by kernel_rfl) ?_
    refine if0 ?_
    refine if0 ?_
    refine if0 ?_
    refine if0 ?_
    refine if1 ?_
    refine if1 ?_
    intro t1
    refine Do.itemL (.inr (mm 0 rfl)) (by decide) (by decide) rfl ?_
    refine hKK ?_; exact M.leftI (ex := [_]) M2 rfl
  ·obtain ⟨r, r2, rfl⟩ : ∃ r r2, regs = [r, r2] := ⟨_, _, (congrArg Prod.fst hlw).symm⟩
   obtain ⟨tk, tk2, rfl⟩ : ∃ tk tk2, ys = [.int r tk, .int r2 tk2] := all2i2 (f := fun r : Int => r) hys
   dsimp only at M2 hsz hKK
   have hm := mem3 hc
   refine Do.inL' (.inr (mm 0 rfl)) (by kernel_rfl) ?_
   refine if0 ?_
   refine if0 ?_ (by apply allF (x := name) hm; kernel_rfl)
   refine if0 ?_ (by apply allF (x := name) hm; kernel_rfl)
   refine if0 ?_ (by apply allF (x := name) hm; kernel_rfl)
   refine if0 ?_ (by apply allF (x := name) hm; kernel_rfl)
   refine if0 ?_ (by apply allF (x := name) hm; kernel_rfl)
   refine if0 ?_ (by apply allF (x := name) hm; kernel_rfl)
   refine Do.methodCall ?_
   refine Do.cell o CE 0 (a := c0) (by kernel_rfl) (CG.mono fun _ _ x => (hG2 _ _ x)) ?_
   refine Do.mkMeth o M2 (ex := [_]) rfl (f := 56) (by kernel_rfl) (by kernel_rfl) ?_
   refine Do.callWith_args o (by kernel_rfl) ?_
   refine Do.reL o tb157 30 ?_
   refine Do.dictS (by kernel_rfl) ?_
   intro t1
   refine Do.pairs_cons ?_
   refine Do.const_str ?_
   intro t2
   refine Do.const_str ?_
   intro t3
   refine Do.pairs_cons ?_
   refine Do.const_str ?_
   intro t4
   refine Do.const_str ?_
   intro t5
   refine Do.pairs_cons ?_
   refine Do.const_str ?_
   intro t6
   refine Do.const_str ?_
   intro t7
   refine Do.pairs_nil ?_
   refine DictEnd.mk [] rfl (by kernel_rfl) ?_
   intro t8 t9
   refine Do.dget (.inr (mm 0 rfl)) t9 (strKind_is _ _ _ _) (v := .str (S (std2Name name)) (if name = "LSL" then t3 else if name = "ASR" then t5 else t7)) (by apply each3 (x := name) hm <;> kernel_rfl) ?_
   intro t10
   refine Do.itemL (.inr (mm 1 rfl)) (by decide) (by decide) rfl ?_
   intro t11
   refine Do.itemL (.inr (mm 1 rfl)) (by decide) (by decide) rfl ?_
   refine Do.put o M2 (ex := [_, _]) rfl (by first | lia | (simp only [MS.put_len]; lia)) ?_
   intro t12 t13 t14 t15 t16
   refine hKK ?_; exact M.leftI (p := s2.putR (std2Name name) r r2) (ex := [_, _]) (by assumption) rfl
end
end Mine
end
section
namespace Mine
open PySem PySem.W PyProof.Rows PySem.Calls H
section
variable {w : World} {hB : Heap} {mg mb : Str → Option Value} {G : Gh} {bk : Bk} {m : MA} {s : MS} {fp : Led}
theorem low_const (B : Base w hB mg mb) (n : Nat) {a : Addr} {f : Fm} {v : Int} {ks : Value} {t : Tok} (hb : BookOK G bk) (h : NodeAt G a "const" (.ref (bk.ty f)) ks (.int v t)) : LowC w hB bk m (n + 4) (.const f v) a G := by
 intro G1 s fp hG1 M hz
 obtain ⟨⟨t0, hop⟩, hty, hkd, hval⟩ := h.mono hG1
 have hb1 := hb.mono hG1
 have hr : s.rows.length ≤ 899000 := by have := MS.rows_sz (s := s); lia
 refine start171 B _ _ ?_
 intro A env e cx o KK hKK
 refine Do.reS o tb171 60 ?_
 refine Do.gP o hop ?_
 refine if1 ?_
 refine Do.gP o hty ?_
 refine Do.byContract0 o (isword_spec B _ (Fm.inForms f) (hb1.ty f)) ?_
 intro QM r G2 hG2 p
 subst p
 refine if1 ?_
 refine Do.mkCall o tb171 0 63 (M.mono fun _ _ x => (hG2 _ _ x)) (ex := []) rfl ?_
 refine Do.gP o (hval.mono fun _ _ x => (hG2 _ _ x)) ?_
 refine Do.number o (M.mono fun _ _ x => (hG2 _ _ x)) (ex := []) rfl (by first | lia | (simp only [MS.put_len]; lia)) ?_
 intro t1 t2 t3 t4 t5
 refine hKK ?_; exact M.leftI (ex := []) (by assumption) rfl
theorem low_var (B : Base w hB mg mb) (n : Nat) {a : Addr} {i : Nat} {ks : Value} (hi : i < 6) (hb : BookOK G bk) (h : NodeAt G a "var" (.ref (bk.ty (fmOf i))) ks (.ref (bk.var i))) : LowC w hB bk m (n + 4) (.var i) a G := by
 intro G1 s fp hG1 M hz
 have hn := h.mono hG1
 obtain ⟨⟨t0, hop⟩, hty, hkd, hval⟩ := h.mono hG1
 have hb1 := hb.mono hG1
 have hr : s.rows.length ≤ 899000 ∧ s.inputs.length ≤ 899000 ∧ s.held.length ≤ 899000 := by unfold MS.sz at hz; lia
 have hv := hb1.var i hi
 refine start171 B _ _ ?_
 intro A env e cx o KK hKK
 refine Do.reS o tb171 60 ?_
 refine Do.gP o hop ?_
 refine if0 ?_
 refine if1 ?_
 obtain ⟨tkk, hkk⟩ := hv.kind
 refine Do.byContract0 o (plain_spec B _ hn (Fm.inForms (fmOf i)) (hb1.ty _) hkk) ?_
 intro QM r G2 hG2 p
 subst p
 refine if1 ?_
 refine Do.mkCall o tb171 0 70 (M.mono fun _ _ x => (hG2 _ _ x)) (ex := []) rfl ?_
 refine Do.gP o (hval.mono fun _ _ x => (hG2 _ _ x)) ?_
 refine Do.byContract o (variable_spec B n (M.mono hG2) (by lia) (by lia) (by lia) hi (hv.mono hG2)) (ex := []) rfl ?_
 intro QM r1 G3 fp3 hG3 p3
 obtain ⟨⟨tk3, rfl⟩, M3⟩ := p3
 refine hKK ?_; exact M.leftI (ex := []) M3 rfl
theorem set_spec (B : Base w hB mg mb) (n : Nat) (M : MakerIn w G bk m s fp) {a ks : Addr} {nK : Nat} {vs : List Value} {es : List Int} (hb : BookOK G bk) (hl : es.length ≤ 2)
  (hz : s.sz + (Tr.set es).cost ≤ 899000) (hN : NodeAt G a "set" (.ref (bk.ty .M)) (.ref ks) .none) (hks : G ks (lobj vs nK)) (hkids : All2 (fun v e => ∃ b, v = .ref b ∧ SingleIs G bk b e) vs es) :
  Calls w hB (n + 5) 164 [.ref m.x, .ref a] G fp (PMk w bk m (s.low (.set es))) := by
 obtain ⟨⟨tn0, hop⟩, hty, hkd, hval⟩ := hN
 have hr : s.rows.length ≤ 898999 := by have := MS.rows_sz (s := s); simp only [Tr.cost] at hz; lia
 refine start164 B _ _ ?_
 intro A env e cx o KK hKK
 refine Do.reS o tb164 60 ?_
 refine Do.mkCall o tb164 0 63 M (ex := []) rfl ?_
 intro t1
 refine Do.number o M (ex := []) rfl (by first | lia | (simp only [MS.put_len]; lia)) ?_
 intro t2 t3 t4 t5 t6
 refine Do.forLp o (by intro _; rfl) ?_
 refine Do.reE o tb164 30 ?_
 refine Do.gP o (hkd.mono fun _ _ x => (t5 _ _ x)) ?_
 generalize hacc : (fun i => (es.take i).foldl setStep (s.putR "const" 0 0)) = acc
 have acc0 : acc 0 = s.putR "const" 0 0 := by rw [← hacc]; rfl
 have accS : ∀ i ee, es[i]? = some ee → acc (i + 1) = setStep (acc i) ee := fun i ee h => by
  rw [← hacc]; dsimp only; rw [List.take_add_one, h]; simp [List.foldl_append]
 have accN : acc vs.length = s.low (.set es) := by
  rw [← hacc]; dsimp only; rw [hkids.length, List.take_length]; rfl
 have accz : ∀ i, i ≤ es.length → (acc i).2.rows.length ≤ 899000 ∧ (acc i).2.sz + 4 * (es.length - i) ≤ 899000 := fun i hi => by
  rw [← hacc]; dsimp only
  have h1 := set_sz (es.take i) (s.putR "const" 0 0)
  have h2 := MS.rows_sz (s := ((es.take i).foldl setStep (s.putR "const" 0 0)).2)
  rw [MS.putR_sz, List.length_take, Nat.min_eq_left hi] at h1
  simp only [Tr.cost] at hz
  lia
 refine ⟨ks, vs, nK, fun i σ' => (E3 fun tk u1 u2 => A3 (σ'.vs = [some (.ref m.x), some (.ref a), some (.int (acc i).1 tk), u1, u2]) (∀ a o, G a o → σ'.G a o) (MakerIn w σ'.G bk m (acc i).2 σ'.mu)), rfl, ?_, ?_, ?_, ?_⟩
 ·rintro i σ' ⟨tk, u1, u2, _, h, _⟩
  exact .inl (h _ _ hks)
 ·refine ⟨t2, none, none, ?_, t5, ?_⟩
  ·rw [acc0]; rfl
  ·rw [acc0]; exact t6
 ·rintro i v p ⟨vs', G', mu'⟩ hv ⟨tk, u1, u2, e1, hG2, M2⟩
  dsimp only at e1 hG2 M2
  subst e1
  have o2 := o.hide p
  obtain ⟨ee, hee, b, rfl, hs⟩ := hkids.get hv
  have hil : i < es.length := (List.getElem?_eq_some_iff.mp hee).1
  obtain ⟨ksb, nb, d, td, kb, hN1, hksb, hN2⟩ := hs.mono hG2
  obtain ⟨⟨tsb, hop1⟩, hty1, hkd1, hval1⟩ := id hN1
  have hz1 := accz i (by lia)
  refine Do.assignName o2 3 rfl (by first | exact Nat.le_of_ble_eq_true rfl | lia) ?_
  refine Do.reS o2 tb164 60 ?_
  refine Do.gP o2 hop1 ?_
  refine if0 ?_
  refine Do.gP o2 hkd1 ?_
  intro t7
  refine Do.itemL (.inl hksb) (by decide) (by decide) rfl ?_
  refine Do.byContract o2 (low_const B n (hb.mono hG2) hN2 _ (acc i).2 mu' (fun _ _ x => x) M2 (by simp only [Tr.cost]; lia)) (ex := []) rfl ?_
  intro QM r3 G3 fp3 hG3 p3
  obtain ⟨⟨tk3, rfl⟩, M3⟩ := p3
  have hz3 : ((acc i).2.low (.const .I ee)).2.rows.length ≤ 899001 := by simp only [MS.low, MS.putR, MS.put_len]; lia
  refine Do.is_ (by rfl) ?_
  refine if0 ?_
  refine Do.mkCall o2 tb164 0 56 M3 (ex := []) rfl ?_
  intro t8
  refine Do.mkCall o2 tb164 0 56 M3 (ex := []) rfl ?_
  intro t9
  refine Do.mkCall o2 tb164 0 63 M3 (ex := []) rfl ?_
  intro t10
  refine Do.number o2 M3 (ex := []) rfl (by first | lia | (simp only [MS.put_len]; lia)) ?_
  intro t11 t12 t13 t14 t15
  refine Do.put o2 t15 (ex := []) rfl (by first | lia | (simp only [MS.put_len]; lia)) ?_
  intro t16 t17 t18 t19 t20
  refine Do.put o2 t20 (ex := []) rfl (by first | lia | (simp only [MS.put_len]; lia)) ?_
  intro t21 t22 t23 t24 t25
  refine ⟨t21, some (.ref b), some (.int ((acc i).2.low (.const .I ee)).1 tk3), ?_, fun _ _ x => t24 _ _ (t19 _ _ (t14 _ _ (hG3 _ _ (hG2 _ _ x)))), ?_⟩
  ·rw [accS i ee hee]; rfl
  ·rw [accS i ee hee]; exact t25
 ·rintro ⟨vs', G', mu'⟩ ⟨tk, u1, u2, e1, hG2, M2⟩
  dsimp only at e1 hG2 M2
  subst e1
  rw [accN] at M2
  refine hKK ?_; exact M.leftI (ex := []) M2 (by rw [accN])
theorem lows_len : ∀ (ts : List Tr) (s : MS), (s.lows ts).1.length = ts.length
 | [], s => rfl
 | t :: ts, s => by simp only [MS.lows, List.length_cons, lows_len ts]
noncomputable abbrev c171 (w : World) (hB : Heap) (A : Around) (env : Env) (e : Ent) : Cx := ⟨w, hB, A, env, e, [S "maker", S "node", S "op", S "found", S "kid"], [S "is_word", S "is_plain_variable", S "lowered_std", S "lowered_set", S "len", S "lowered", S "turned", S "FULL", S "lowered_pair"], []⟩
noncomputable abbrev Kids (w : World) (hB : Heap) (bk : Bk) (m : MA) (n : Nat) (G : Gh) : List Value → List Tr → Prop := All2 fun v t => ∃ b, A3 (v = .ref b) (NodeIs G bk t b) (LowC w hB bk m (n + 5) t b G)
theorem kidsLoop {A : Around} {env : Env} {e : Ent} {KK : Flow → Sg → Prop} {a ks : Addr} {op : String} {t0 : Tok} {nK : Nat} {vs : List Value} {ts : List Tr} {G1 : Gh} (B : Base w hB mg mb) (n : Nat) (o : (c171 w hB A env e).Ok mg mb (n + 5)) (hb : BookOK G bk) (hG1 : ∀ a o, G a o → G1 a o)
  (hkd : AttrG G1 a 224 "kids" (.ref ks)) (hks1 : G1 ks (lobj vs nK)) (hkids : Kids w hB bk m n G vs ts) (M : MakerIn w G1 bk m s fp) (hz : s.sz + costs ts ≤ 899000) (hl : ts.length ≤ 2)
  (k : ∀ t1 G' ys nn u fp', (∀ a o, G1 a o → G' a o) → IntsV ys (s.lows ts).1 → MakerIn w G' bk m (s.lows ts).2 fp' →
   Do (c171 w hB A env e) ⟨[some (.ref m.x), some (.ref a), some (.str (S op) t0), some (.ref t1), u], G', (t1, lobj ys nn) :: fp'⟩ (execs (tlS (tlS (tlS (tlS (tlS (tlS (tlS (tlS ((dF 16).2.1))))))))) env) KK) :
  Do (c171 w hB A env e) ⟨[some (.ref m.x), some (.ref a), some (.str (S op) t0), none, none], G1, fp⟩ (execs (tlS (tlS (tlS (tlS (tlS (tlS ((dF 16).2.1))))))) env) KK := by
 have hb1 := hb.mono hG1
 refine Do.reS1 o tb171 60 ?_
 refine Do.newListS (Nat.le_of_ble_eq_true rfl) ?_
 intro t1 t2
 refine Do.reS1 o tb171 60 ?_
 refine Do.forLp o (by intro _; rfl) ?_
 refine Do.reE o tb171 30 ?_
 refine Do.gP o hkd ?_
 refine forL_mk (a := ks) (vs := vs) (n := nK) (fun i σ' => (E5 fun u ys nn fp' G' => A4 (σ' = ⟨[some (.ref m.x), some (.ref a), some (.str (S op) t0), some (.ref t1), u], G', (t1, lobj ys nn) :: fp'⟩) (∀ a o, G1 a o → G' a o) (IntsV ys (s.lows (ts.take i)).1) (MakerIn w G' bk m (s.lows (ts.take i)).2 fp'))) ?_ ⟨none, [], 0, fp, G1, rfl, fun _ _ x => x, trivial, M⟩ ?_ ?_
 ·rintro i σ' ⟨u, ys, nn, fp', G', rfl, h, _⟩
  exact .inl (h _ _ hks1)
 ·rintro i v p KL hKL QM hQM σ' hv ⟨u, ys, nn, fp', G', rfl, hG2, hys, M2⟩
  have o2 := o.hide p
  obtain ⟨ti, hti, bi, rfl, hnb, hlb⟩ := hkids.get hv
  refine hQM _ ?_
  have htb := (hnb.mono fun _ _ x => hG2 _ _ (hG1 _ _ x)).type
  have hfm := hb1.ty ti.fm
  have hysl : ys.length ≤ 1000000 := by
   have h1 := hys.length
   have h2 : (s.lows (ts.take i)).1.length = (ts.take i).length := lows_len _ _
   have h3 := List.length_take_le' i ts
   lia
  refine Do.assignName o2 4 rfl (by first | exact Nat.le_of_ble_eq_true rfl | lia) ?_
  refine Do.reS o2 tb171 60 ?_
  refine Do.gP o2 htb ?_
  refine Do.is_ (by rfl) ?_
  refine if0 ?_
  refine Do.gP o2 htb ?_
  refine Do.byContract0 o2 (isword_spec B _ (Fm.inForms ti.fm) (hfm.mono hG2)) ?_
  intro QM r G3 hG3 p3
  subst p3
  refine if0 ?_
  refine if0 ?_
  refine Do.methodCall ?_
  refine Do.name o2 3 rfl rfl ?_
  refine Do.mAppend (.inr (mm 0 rfl)) ?_
  refine Do.callWith_b1 ?_
  refine Do.reL o2 tb171 30 ?_
  refine Do.byContract o2 (hlb G3 _ fp' (fun _ _ x => hG3 _ _ (hG2 _ _ (hG1 _ _ x))) (M2.mono hG3) ?_) (ex := [_]) rfl ?_
  ·have h1 := lows_sz (ts.take i) s
   have h2 := costs_take _ i ti hti
   lia
  intro QM r4 G4 fp4 hG4 p4
  obtain ⟨⟨tk4, rfl⟩, M4⟩ := p4
  refine Do.append (ex := []) rfl (by first | exact Nat.le_of_ble_eq_true rfl | assumption | lia | (simp; lia)) ?_
  have e : ts.take (i + 1) = ts.take i ++ [ti] := by rw [List.take_add_one, hti]; rfl
  refine hKL ?_; refine ⟨some (.ref bi), ys ++ [.int _ tk4], nn + 1, fp4, _, rfl, fun _ _ x => hG4 _ _ (hG3 _ _ (hG2 _ _ x)), ?_, ?_⟩
  ·rw [e, lows_snoc]; exact hys.append (show All2 _ [_] [_] from ⟨⟨tk4, rfl⟩, trivial⟩)
  ·rw [e, lows_snoc]; exact M4
 ·rintro QM hQM σ' ⟨u, ys, nn, fp', G', rfl, hG2, hys, M2⟩
  rw [hkids.length, List.take_length] at hys M2
  exact hQM _ (k _ _ _ _ _ _ hG2 hys M2)
theorem un_spec (B : Base w hB mg mb) (n : Nat) {a b ks : Addr} {op : String} {f : Fm} {t : Tr} {nK : Nat} (hb : BookOK G bk) (hop : op = "neg" ∨ op = "not" ∨ op = "s~")
  (hN : NodeAt G a op (.ref (bk.ty f)) (.ref ks) .none) (hks : G ks (lobj [.ref b] nK)) (hbn : NodeIs G bk t b) (hlow : LowC w hB bk m (n + 5) t b G) : LowC w hB bk m (n + 6) (.un op f t) a G := by
 intro G1 s fp hG1 M hz
 obtain ⟨⟨t0, hopa⟩, hty, hkd, hval⟩ := hN.mono hG1
 have hz2 : s.sz + t.cost + 2 ≤ 899000 := hz
 have hm := mem3 hop
 refine start171 B _ _ ?_
 intro A env e cx o KK hKK
 refine Do.reS1 o tb171 60 ?_
 refine Do.gP o hopa ?_
 refine Do.reS1 o tb171 60 ?_
 refine if0 ?_ (by apply allF (x := op) hm; kernel_rfl)
 refine Do.reS1 o tb171 60 ?_
 refine if0 ?_ (by apply allF (x := op) hm; kernel_rfl)
 refine Do.reS1 o tb171 60 ?_
 refine if0 ?_ (by apply allF (x := op) hm; kernel_rfl)
 refine Do.reS1 o tb171 60 ?_
 refine if0 ?_ (by apply allF (x := op) hm; kernel_rfl)
 refine Do.reS1 o tb171 60 ?_
 refine if0 ?_ (by apply allF (x := op) hm; kernel_rfl)
 refine if0 ?_
 refine kidsLoop (ts := [t]) B n o hb hG1 hkd (hG1 _ _ hks) ⟨⟨b, rfl, hbn, hlow⟩, trivial⟩ M (by simp only [costs]; lia) (Nat.le_of_ble_eq_true rfl) fun t1 G' ys nn u fp' hG2 hys M2 => ?_
 obtain ⟨tk, rfl⟩ : ∃ tk, ys = [.int (s.low t).1 tk] := all2i1 (f := fun r : Int => r) hys
 replace M2 : MakerIn w G' bk m (s.low t).2 fp' := M2
 have hzr : (s.low t).2.rows.length ≤ 899000 := by
  have h1 := MS.low_sz t s
  have h2 := MS.rows_sz (s := (s.low t).2)
  lia
 revert hKK
 apply each3 (x := op) hm
 ·intro hKK
  refine Do.reS o tb171 60 ?_
  refine Do.inL' (.inr (mm 0 rfl)) (by kernel_rfl) ?_
  refine if0 ?_
  refine if1 ?_
  refine Do.mkCall o tb171 0 56 M2 (ex := [_]) rfl ?_
  intro t2
  refine Do.mkCall o tb171 0 63 M2 (ex := [_]) rfl ?_
  intro t3
  refine Do.number o M2 (ex := [_]) rfl (by first | lia | (simp only [MS.put_len]; lia)) ?_
  intro t4 t5 t6 t7 t8 t9
  refine Do.itemL (.inr (mm 0 rfl)) (by decide) (by decide) rfl ?_
  refine Do.put o t8 (ex := [_]) rfl (by first | lia | (simp only [MS.put_len]; lia)) ?_
  intro t10 t11 t12 t13 t14
  refine hKK ?_; exact M.leftI (ex := [_]) (by assumption) rfl
 ·intro hKK
  refine Do.reS o tb171 60 ?_
  refine Do.inL' (.inr (mm 0 rfl)) (by kernel_rfl) ?_
  refine if0 ?_
  refine if0 ?_
  refine if1 ?_
  intro t2
  refine Do.itemL (.inr (mm 0 rfl)) (by decide) (by decide) rfl ?_
  refine Do.turned o M2 (ex := [_]) rfl (by first | lia | (simp only [MS.put_len]; lia)) ?_
  intro t3 t4 t5 t6 t7
  refine hKK ?_; exact M.leftI (ex := [_]) (by assumption) rfl
 ·intro hKK
  refine Do.reS o tb171 60 ?_
  refine Do.inL' (.inr (mm 0 rfl)) (by kernel_rfl) ?_
  refine if0 ?_
  refine if0 ?_
  refine if0 ?_
  refine if1 ?_
  refine Do.mkCall o tb171 0 56 M2 (ex := [_]) rfl ?_
  intro t2 t3
  refine Do.itemL (.inr (mm 0 rfl)) (by decide) (by decide) rfl ?_
  refine Do.mkCall o tb171 0 63 M2 (ex := [_]) rfl ?_
  refine Do.globalK o 7 rfl (v := (Value.int 4294967295 189)) (by kernel_rfl) ?_
  refine Do.number o M2 (ex := [_]) rfl (by first | lia | (simp only [MS.put_len]; lia)) ?_
  intro t4 t5 t6 t7 t8
  refine Do.put o t8 (ex := [_]) rfl (by first | lia | (simp only [MS.put_len]; lia)) ?_
  intro t9 t10 t11 t12 t13
  refine hKK ?_; exact M.leftI (ex := [_]) (by assumption) rfl
end
end Mine
end
section
namespace Mine
open PySem PySem.W PyProof.Rows PySem.Calls H
section
variable {w : World} {hB : Heap} {mg mb : Str → Option Value} {G : Gh} {bk : Bk} {m : MA} {s : MS} {fp : Led}
theorem twoKids {A : Around} {env : Env} {e : Ent} {KK : Flow → Sg → Prop} {a ks b d : Addr} {op : String} {t0 : Tok} {nK : Nat} {l r : Tr} {G1 : Gh} (B : Base w hB mg mb) (n : Nat) (o : (c171 w hB A env e).Ok mg mb (n + 5)) (hb : BookOK G bk) (hG1 : ∀ a o, G a o → G1 a o) (hop : op ∈ "DIV" :: (pairOps ++ relOps))
  (hopa : AttrG G1 a 224 "op" (.str (S op) t0)) (hkd : AttrG G1 a 224 "kids" (.ref ks)) (hks : G ks (lobj [.ref b, .ref d] nK)) (hbn : NodeIs G bk l b) (hdn : NodeIs G bk r d) (hlow : LowC w hB bk m (n + 5) l b G) (hlow2 : LowC w hB bk m (n + 5) r d G) (M : MakerIn w G1 bk m s fp) (hz : s.sz + (l.cost + r.cost + 5) ≤ 899000)
  (k : ∀ x tx y ty ex G' vs fp', (∀ a o, G1 a o → G' a o) → x = (s.low l).1 → y = ((s.low l).2.low r).1 → ((s.low l).2.low r).2.rows.length ≤ 899000 → MakerIn w G' bk m ((s.low l).2.low r).2 fp' →
   Do (c171 w hB A env e) ⟨vs, G', [ex] ++ fp'⟩ (call (.ref 138) [.ref m.x, .ref a, .int x tx, .int y ty]) fun v σ' => KK (.ret v) σ') :
  Do (c171 w hB A env e) ⟨[some (.ref m.x), some (.ref a), none, none, none], G1, fp⟩ (execs (dF 16).2.1 env) KK := by
 have hks1 := hG1 _ _ hks
 refine Do.reS1 o tb171 60 ?_
 refine Do.gP o hopa ?_
 refine Do.reS1 o tb171 60 ?_
 refine if0 ?_ (by apply allF (x := op) hop; kernel_rfl)
 refine Do.reS1 o tb171 60 ?_
 refine if0 ?_ (by apply allF (x := op) hop; kernel_rfl)
 refine Do.reS1 o tb171 60 ?_
 refine if0 ?_ (by apply allF (x := op) hop; kernel_rfl)
 refine Do.reS1 o tb171 60 ?_
 refine if0 ?_ (by apply allF (x := op) hop; kernel_rfl)
 refine Do.reS1 o tb171 60 ?_
 refine if1 ?_ (by apply allT (x := op) hop; kernel_rfl)
 refine Do.callG ?_
 refine Do.builtinK o 4 rfl (v := (.builtin "len")) (by kernel_rfl) (by kernel_rfl) (by kernel_rfl) ?_
 refine Do.callWith_b1 ?_
 refine Do.reL o tb171 30 ?_
 refine Do.gP o hkd ?_
 refine Do.lenL (.inl hks1) (Nat.le_of_ble_eq_true rfl) ?_
 intro t1
 refine if0 ?_
 refine if0 ?_
 refine kidsLoop (ts := [l, r]) B n o hb hG1 hkd hks1 ⟨⟨b, rfl, hbn, hlow⟩, ⟨d, rfl, hdn, hlow2⟩, trivial⟩ M (by simp only [costs]; lia) (Nat.le_of_ble_eq_true rfl) fun t1 G' ys nn u fp' hG2 hys M2 => ?_
 obtain ⟨tk, tk2, rfl⟩ : ∃ tk tk2, ys = [.int (s.low l).1 tk, .int ((s.low l).2.low r).1 tk2] := all2i2 (f := fun r : Int => r) hys
 replace M2 : MakerIn w G' bk m ((s.low l).2.low r).2 fp' := M2
 have hzr : ((s.low l).2.low r).2.rows.length ≤ 899000 := by
  have h1 := MS.low_sz l s
  have h3 := MS.low_sz r (s.low l).2
  have h2 := MS.rows_sz (s := ((s.low l).2.low r).2)
  lia
 refine Do.reS o tb171 60 ?_
 refine Do.inL' (.inr (mm 0 rfl)) (by kernel_rfl) ?_
 refine if0 ?_
 refine if0 ?_ (by apply allF (x := op) hop; kernel_rfl)
 refine if0 ?_ (by apply allF (x := op) hop; kernel_rfl)
 refine if0 ?_ (by apply allF (x := op) hop; kernel_rfl)
 intro t2
 refine Do.itemL (.inr (mm 0 rfl)) (by decide) (by decide) rfl ?_
 intro t3
 refine Do.itemL (.inr (mm 0 rfl)) (by decide) (by decide) rfl ?_
 exact k _ _ _ _ _ _ _ _ hG2 rfl rfl hzr M2
theorem bin_spec (B : Base w hB mg mb) (n : Nat) {a b d ks : Addr} {op : String} {f : Fm} {l r : Tr} {nK : Nat} (hb : BookOK G bk) (hop : op ∈ pairOps ++ relOps)
  (hN : NodeAt G a op (.ref (bk.ty f)) (.ref ks) .none) (hks : G ks (lobj [.ref b, .ref d] nK)) (hbn : NodeIs G bk l b) (hdn : NodeIs G bk r d) (hlow : LowC w hB bk m (n + 5) l b G) (hlow2 : LowC w hB bk m (n + 5) r d G) : LowC w hB bk m (n + 6) (.bin op f l r) a G := by
 intro G1 s fp hG1 M hz
 obtain ⟨⟨t0, hopa⟩, hty, hkd, hval⟩ := hN.mono hG1
 refine start171 B _ _ ?_
 intro A env e cx o KK hKK
 refine twoKids B n o hb hG1 (.tail _ hop) hopa hkd hks hbn hdn hlow hlow2 M hz fun x tx y ty ex G' vs fp' hG2 hx hy hzr M2 => ?_
 subst hx hy
 refine Do.byContract o (pair_spec B n M2 (by lia) hop (hopa.mono hG2) _ tx _ ty) (ex := [_]) rfl ?_
 intro QM r5 G5 fp5 hG5 p5
 obtain ⟨⟨tk5, rfl⟩, M5⟩ := p5
 refine hKK ?_; exact M.leftI (ex := [_]) M5 rfl
theorem pairNone_spec (B : Base w hB mg mb) (n : Nat) {a : Addr} {t0 : Tok} (ho : AttrG G a 224 "op" (.str (S "DIV") t0)) (v1 v2 v3 : Value) :
  Calls w hB (n + 1) 138 [v1, .ref a, v2, v3] G [] (PV (.none)) := by
 refine start138 B _ _ _ _ ?_
 intro A env e cx o KK hKK
 refine Do.reS o tb138 60 ?_
 refine Do.gP o ho ?_
 refine Do.dictS (by kernel_rfl) ?_
 intro t1
 refine Do.pairs_cons ?_
 refine Do.const_str ?_
 intro t2
 refine Do.const_str ?_
 intro t3
 refine Do.pairs_cons ?_
 refine Do.const_str ?_
 intro t4
 refine Do.const_str ?_
 intro t5
 refine Do.pairs_cons ?_
 refine Do.const_str ?_
 intro t6
 refine Do.const_str ?_
 intro t7
 refine Do.pairs_cons ?_
 refine Do.const_str ?_
 intro t8
 refine Do.const_str ?_
 intro t9
 refine Do.pairs_cons ?_
 refine Do.const_str ?_
 intro t10
 refine Do.const_str ?_
 intro t11
 refine Do.pairs_cons ?_
 refine Do.const_str ?_
 intro t12
 refine Do.const_str ?_
 intro t13
 refine Do.pairs_cons ?_
 refine Do.const_str ?_
 intro t14
 refine Do.const_str ?_
 intro t15
 refine Do.pairs_cons ?_
 refine Do.const_str ?_
 intro t16
 refine Do.const_str ?_
 intro t17
 refine Do.pairs_nil ?_
 refine DictEnd.mk [] rfl (by kernel_rfl) ?_
 intro t18 t19
 refine Do.dinS o (mm 0 rfl) t19 (b := false) (by kernel_rfl) ?_
 refine if0 ?_
 refine if0 ?_
 refine if0 ?_
 refine if0 ?_
 refine if0 ?_
 refine if0 ?_
 refine hKK ?_; exact Left.mk [_] [] rfl rfl ⟨rfl, rfl⟩
theorem div_spec (B : Base w hB mg mb) (n : Nat) {a b d ks : Addr} {f : Fm} {l r : Tr} {nK : Nat} (hb : BookOK G bk)
  (hN : NodeAt G a "DIV" (.ref (bk.ty f)) (.ref ks) .none) (hks : G ks (lobj [.ref b, .ref d] nK)) (hbn : NodeIs G bk l b) (hdn : NodeIs G bk r d) (hlow : LowC w hB bk m (n + 5) l b G) (hlow2 : LowC w hB bk m (n + 5) r d G)
  {G1 : Gh} (hG1 : ∀ a o, G a o → G1 a o) (M : MakerIn w G1 bk m s fp) (hz2 : s.sz + (l.cost + r.cost + 5) ≤ 899000) :
  Calls w hB (n + 6) 171 [.ref m.x, .ref a] G1 fp (fun v G'' fp' => v = .none ∧ ∃ s', MakerIn w G'' bk m s' fp') := by
 obtain ⟨⟨t0, hopa⟩, hty, hkd, hval⟩ := hN.mono hG1
 refine start171 B _ _ ?_
 intro A env e cx o KK hKK
 refine twoKids B n o hb hG1 (.head _) hopa hkd hks hbn hdn hlow hlow2 M hz2 fun x tx y ty ex G' vs fp' hG2 hx hy hzr M2 => ?_
 refine Do.byContract0 o (pairNone_spec B _ (hopa.mono hG2) _ _ _) ?_
 intro QM r5 G5 hG5 p5
 subst p5
 refine hKK ?_; exact M.left (ex := [_]) (M2.mono hG5) ⟨rfl, _, M2.mono hG5⟩
end
end Mine
end
section
namespace Mine
open PySem PySem.W PyProof.Rows PySem.Calls H
section
variable {w : World} {hB : Heap} {mg mb : Str → Option Value} {G : Gh} {bk : Bk} {m : MA} {s : MS} {fp : Led}
theorem LowC.le {n n' : Nat} {t : Tr} {a : Addr} (h : LowC w hB bk m n t a G) (hn : n ≤ n') : LowC w hB bk m n' t a G := fun G' s fp hG M hz => (h G' s fp hG M hz).le hn
theorem LowC.mono {n : Nat} {t : Tr} {a : Addr} {G' : Gh} (h : LowC w hB bk m n t a G) (hG : ∀ a o, G a o → G' a o) : LowC w hB bk m n t a G' := fun G'' s fp hG' M hz => h G'' s fp (fun _ _ x => hG' _ _ (hG _ _ x)) M hz
theorem low_set (B : Base w hB mg mb) (n : Nat) {a ks : Addr} {nK : Nat} {vs : List Value} {es : List Int} (hb : BookOK G bk) (hl : es.length ≤ 2)
  (hN : NodeAt G a "set" (.ref (bk.ty .M)) (.ref ks) .none) (hks : G ks (lobj vs nK)) (hkids : All2 (fun v e => ∃ b, v = .ref b ∧ SingleIs G bk b e) vs es) : LowC w hB bk m (n + 6) (.set es) a G := by
 intro G1 s fp hG1 M hz
 have hN1 := hN.mono hG1
 obtain ⟨⟨t0, hopa⟩, hty, hkd, hval⟩ := hN.mono hG1
 refine start171 B _ _ ?_
 intro A env e cx o KK hKK
 refine Do.reS o tb171 60 ?_
 refine Do.gP o hopa ?_
 refine if0 ?_
 refine if0 ?_
 refine if0 ?_
 refine if1 ?_
 refine Do.byContract o (set_spec B n (M.mono fun _ _ x => by first | exact x | exact .inl x) (hb.mono hG1) hl hz hN1 (hG1 _ _ hks) (hkids.mono fun _ _ ⟨b, e, x⟩ => ⟨b, e, x.mono hG1⟩)) (ex := []) rfl ?_
 intro QM r4 G4 fp4 hG4 p4
 obtain ⟨⟨tk4, rfl⟩, M4⟩ := p4
 refine hKK ?_; exact M.leftI (ex := []) M4 rfl
theorem low_std1 (B : Base w hB mg mb) (n : Nat) {a ks b : Addr} {name : String} {tn : Tok} {f : Fm} {nK : Nat} {t : Tr} (hb : BookOK G bk) (hN : NodeAt G a "std" (.ref (bk.ty f)) (.ref ks) (.str (S name) tn)) (hks : G ks (lobj [.ref b] nK)) (hlow : LowC w hB bk m (n + 5) t b G)
  (hc : name = "ABS" ∨ name = "ODD" ∨ (name = "VAL" ∧ f = .I) ∨ name = "ORD") : LowC w hB bk m (n + 7) (.std1 name f t) a G := by
 intro G1 s fp hG1 M hz
 have hN1 := hN.mono hG1
 obtain ⟨⟨t0, hopa⟩, hty, hkd, hval⟩ := hN.mono hG1
 refine start171 B _ _ ?_
 intro A env e cx o KK hKK
 refine Do.reS o tb171 60 ?_
 refine Do.gP o hopa ?_
 refine if0 ?_
 refine if0 ?_
 refine if1 ?_
 refine Do.byContract o (std_spec B n M (ts := [t]) (hb.mono hG1) (by simp only [costs, Tr.cost] at hz ⊢; lia) hN1 (hG1 _ _ hks) ⟨⟨b, rfl, hlow.mono hG1⟩, trivial⟩ (.inl ⟨t, rfl, hc⟩)) (ex := []) rfl ?_
 intro QM r4 G4 fp4 hG4 p4
 obtain ⟨⟨tk4, rfl⟩, M4⟩ := p4
 refine hKK ?_; exact M.leftI (ex := []) M4 rfl
theorem low_std2 (B : Base w hB mg mb) (n : Nat) {a ks b d : Addr} {name : String} {tn tk : Tok} {f : Fm} {nK : Nat} {t : Tr} {k : Int} {kd : Value} (hb : BookOK G bk) (hN : NodeAt G a "std" (.ref (bk.ty f)) (.ref ks) (.str (S name) tn)) (hks : G ks (lobj [.ref b, .ref d] nK)) (hlow : LowC w hB bk m (n + 5) t b G)
  (hd : NodeAt G d "const" (.ref (bk.ty .I)) kd (.int k tk)) (hc : name = "LSL" ∨ name = "ASR" ∨ name = "ROR") : LowC w hB bk m (n + 7) (.std2 name f t k) a G := by
 intro G1 s fp hG1 M hz
 have hN1 := hN.mono hG1
 obtain ⟨⟨t0, hopa⟩, hty, hkd, hval⟩ := hN.mono hG1
 have hlk := low_const (m := m) B (n + 1) hb hd
 refine start171 B _ _ ?_
 intro A env e cx o KK hKK
 refine Do.reS o tb171 60 ?_
 refine Do.gP o hopa ?_
 refine if0 ?_
 refine if0 ?_
 refine if1 ?_
 refine Do.byContract o (std_spec B n M (ts := [t, .const .I k]) (hb.mono hG1) (by simp only [costs, Tr.cost] at hz ⊢; lia) hN1 (hG1 _ _ hks) ⟨⟨b, rfl, hlow.mono hG1⟩, ⟨d, rfl, hlk.mono hG1⟩, trivial⟩ (.inr ⟨t, k, rfl, hc⟩)) (ex := []) rfl ?_
 intro QM r4 G4 fp4 hG4 p4
 obtain ⟨⟨tk4, rfl⟩, M4⟩ := p4
 refine hKK ?_; exact M.leftI (ex := []) M4 rfl
theorem lowered_spec (B : Base w hB mg mb) {t : Tr} (ht : WT t) : ∀ {G : Gh} {a : Addr} (n : Nat), 2 * t.ht + 6 ≤ n → BookOK G bk → NodeIs G bk t a → LowC w hB bk m n t a G := by
 induction ht with
 | const f v =>
  intro G a n hn hb ⟨ks, tk, h⟩
  exact (low_const B 0 hb h).le (by lia)
 | var i hi =>
  intro G a n hn hb ⟨ks, h⟩
  exact (low_var B 0 hi hb h).le (by lia)
 | std1 name f t hc wt ih =>
  intro G a n hn hb ⟨ks, nK, b, tn, h1, h2, h3⟩
  simp only [Tr.ht] at hn
  obtain ⟨n', rfl⟩ : ∃ n', n = n' + 7 := ⟨n - 7, by lia⟩
  refine low_std1 B n' hb h1 h2 (ih (n' + 5) (by lia) hb h3) ?_
  rcases hc with ⟨h, _⟩ | ⟨h, _⟩ | ⟨h, hf, _⟩ | ⟨h, _⟩
  ·exact .inl h
  ·exact .inr (.inl h)
  ·exact .inr (.inr (.inl ⟨h, hf⟩))
  ·exact .inr (.inr (.inr h))
 | std2 name f t k hc _ _ _ wt ih =>
  intro G a n hn hb ⟨ks, nK, b, d, tn, tk, kd, h1, h2, h3, h4⟩
  simp only [Tr.ht] at hn
  obtain ⟨n', rfl⟩ : ∃ n', n = n' + 7 := ⟨n - 7, by lia⟩
  exact low_std2 B n' hb h1 h2 (ih (n' + 5) (by lia) hb h3) h4 hc
 | set es _ hl =>
  intro G a n hn hb ⟨ks, nK, vs, h1, h2, h3⟩
  simp only [Tr.ht] at hn
  exact (low_set B 0 hb hl h1 h2 h3).le (by lia)
 | un op f t hc wt ih =>
  intro G a n hn hb ⟨ks, nK, b, h1, h2, h3⟩
  simp only [Tr.ht] at hn
  obtain ⟨n', rfl⟩ : ∃ n', n = n' + 6 := ⟨n - 6, by lia⟩
  exact un_spec B n' hb (by rcases hc with ⟨h, _⟩ | ⟨h, _⟩ | ⟨h, _⟩ <;> simp [h]) h1 h2 h3 (ih (n' + 5) (by lia) hb h3)
 | bin op f l r hc wl wr ihl ihr =>
  intro G a n hn hb ⟨ks, nK, b, d, h1, h2, h3, h4⟩
  simp only [Tr.ht] at hn
  obtain ⟨n', rfl⟩ : ∃ n', n = n' + 6 := ⟨n - 6, by lia⟩
  refine bin_spec B n' hb ?_ h1 h2 h3 h4 (ihl (n' + 5) (by lia) hb h3) (ihr (n' + 5) (by lia) hb h4)
  have sub : ∀ L : List String, (L.all fun o => decide (o ∈ pairOps ++ relOps)) = true → op ∈ L → op ∈ pairOps ++ relOps := fun L h ho => of_decide_eq_true (List.all_eq_true.mp h op ho)
  rcases hc with ⟨h, _⟩ | ⟨h, _⟩ | ⟨h, _⟩ | ⟨h, _⟩ | ⟨h, _⟩ | ⟨h, _⟩
  ·exact sub _ (by decide) h
  ·exact sub _ (by decide) h
  ·exact sub _ (by decide) h
  ·exact sub _ (by decide) h
  ·exact sub ["IN"] (by decide) (by simp [h])
  ·exact sub _ (by decide) h
end
end Mine
end
section
namespace Mine
open PySem PySem.W PyProof.Rows PySem.Calls H
inductive Dd where
 | assign (i : Nat) (t : Tr)
 | change (name : String) (i : Nat) (t : Tr)
noncomputable def Dd.cost : Dd → Nat
 | .assign _ t => t.cost + 2
 | .change _ _ t => t.cost + 10
noncomputable def Dd.tree : Dd → Tr
 | .assign _ t => t
 | .change _ _ t => t
noncomputable def changeM (s : MS) (name : String) (i : Nat) (x : Int) : MS :=
 let old := (s.variable i).1
 let s1 := (s.variable i).2
 if name = "INC" then (s1.put "add" old x).keep i s1.rows.length
 else if name = "DEC" then (s1.put "sub" old x).keep i s1.rows.length
 else
  let s2 := s1.put "const" 1 0
  let s3 := s2.put "shl" s1.rows.length x
  if name = "INCL" then (s3.put "or" old s2.rows.length).keep i s3.rows.length
  else
   let s4 := s3.put "const" 4294967295 0
   let s5 := s4.put "xor" s2.rows.length s3.rows.length
   (s5.put "and" old s4.rows.length).keep i s5.rows.length
noncomputable def MS.deed (s : MS) : Dd → MS
 | .assign i t => (s.low t).2.keep i (s.low t).1
 | .change name i t => changeM (s.low t).2 name i (s.low t).1
inductive WD : Dd → Prop where
 | assign (i : Nat) (t : Tr) (hi : i < 6) (w : WT t) (h : t.fm = fmOf i) : WD (.assign i t)
 | change (name : String) (i : Nat) (t : Tr) (hi : i < 6) (w : WT t) (h : (name = "INC" ∨ name = "DEC") ∧ fmOf i = .I ∧ t.fm = .I ∨ (name = "INCL" ∨ name = "EXCL") ∧ fmOf i = .M ∧ ∃ v, t = .const .I v ∧ 0 ≤ v ∧ v < 32) : WD (.change name i t)
noncomputable def DeedIs (G : Gh) (bk : Bk) : Dd → Addr → Prop
 | .assign i t, a => (E4 fun ks n b c => A4 (NodeAt G a "assign" .none (.ref ks) .none) (G ks (lobj [.ref b, .ref c] n)) (NodeIs G bk (.var i) b) (NodeIs G bk t c))
 | .change name i t, a => (E5 fun ks n b c tn => A4 (NodeAt G a "std" .none (.ref ks) (.str (S name) tn)) (G ks (lobj [.ref b, .ref c] n)) (NodeIs G bk (.var i) b) (NodeIs G bk t c))
theorem DeedIs.mono {G G' : Gh} {bk : Bk} (h : ∀ a o, G a o → G' a o) : ∀ {d : Dd} {a : Addr}, DeedIs G bk d a → DeedIs G' bk d a
 | .assign _ _, _, x => by obtain ⟨ks, n, b, c, x, y, z, u⟩ := x; exact ⟨ks, n, b, c, x.mono h, h _ _ y, NodeIs.mono h z, NodeIs.mono h u⟩
 | .change _ _ _, _, x => by obtain ⟨ks, n, b, c, tn, x, y, z, u⟩ := x; exact ⟨ks, n, b, c, tn, x.mono h, h _ _ y, NodeIs.mono h z, NodeIs.mono h u⟩
theorem heldPut_len (held : List (Nat × Int)) (i : Nat) (r : Int) : (heldPut held i r).length ≤ held.length + 1 := by
 unfold heldPut; split <;> simp
theorem MS.keep_sz {s : MS} {i : Nat} {r : Int} : (s.keep i r).sz ≤ s.sz + 2 := by
 have := heldPut_len s.held i r
 unfold MS.keep MS.sz
 dsimp only
 split
 ·lia
 ·simp only [List.length_append, List.length_singleton]; lia
theorem changeM_sz {s : MS} {name : String} {i : Nat} {x : Int} : (changeM s name i x).sz ≤ s.sz + 10 := by
 have h := MS.variable_sz (s := s) (i := i)
 unfold changeM
 dsimp only
 split
 ·refine Nat.le_trans MS.keep_sz ?_
  simp only [MS.put_sz]; lia
 ·split
  ·refine Nat.le_trans MS.keep_sz ?_
   simp only [MS.put_sz]; lia
  ·split
   ·refine Nat.le_trans MS.keep_sz ?_
    simp only [MS.put_sz]; lia
   ·refine Nat.le_trans MS.keep_sz ?_
    simp only [MS.put_sz]; lia
theorem MS.deed_sz (d : Dd) (s : MS) : (s.deed d).sz ≤ s.sz + d.cost := by
 cases d with
 | assign i t =>
  have h := MS.low_sz t s
  have := MS.keep_sz (s := (s.low t).2) (i := i) (r := (s.low t).1)
  simp only [MS.deed, Dd.cost]; lia
 | change name i t =>
  have h := MS.low_sz t s
  have := changeM_sz (s := (s.low t).2) (name := name) (i := i) (x := (s.low t).1)
  simp only [MS.deed, Dd.cost]; lia
theorem MS.variable_st {s : MS} {i : Nat} : (s.variable i).2.stored = s.stored := by unfold MS.variable; split <;> rfl
theorem pairM_st {s : MS} {op : String} {x y : Int} : (pairM s op x y).2.stored = s.stored := by
 unfold pairM relationM
 split
 ·rfl
 ·dsimp only
  repeat' split
  all_goals rfl
theorem std1M_st {s : MS} {name : String} {x : Int} : (std1M s name x).2.stored = s.stored := by
 unfold std1M
 repeat' split
 all_goals rfl
theorem unM_st {s : MS} {name : String} {x : Int} : (unM s name x).2.stored = s.stored := by
 unfold unM
 repeat' split
 all_goals rfl
theorem set_st : ∀ (es : List Int) (p : Int × MS), (es.foldl setStep p).2.stored = p.2.stored
 | [], p => rfl
 | e :: es, p => by rw [List.foldl_cons, set_st es]; rfl
theorem MS.low_st : ∀ (t : Tr) (s : MS), (s.low t).2.stored = s.stored
 | .const _ _, s => rfl
 | .var _, s => MS.variable_st
 | .std1 name _ t, s => std1M_st.trans (MS.low_st t s)
 | .std2 name _ t k, s => MS.low_st t s
 | .set es, s => set_st es _
 | .un op _ t, s => unM_st.trans (MS.low_st t s)
 | .bin op _ l r, s => pairM_st.trans ((MS.low_st r _).trans (MS.low_st l s))
noncomputable def MS.StOK (s : MS) : Prop := ∀ j ∈ s.stored, j < 6
theorem MS.keep_st {s : MS} {i : Nat} {r : Int} (h : s.StOK) (hi : i < 6) : (s.keep i r).StOK := fun j hj => by
 unfold MS.keep at hj
 dsimp only at hj
 split at hj
 ·exact h j hj
 ·rcases List.mem_append.mp hj with hj | hj
  ·exact h j hj
  ·rw [List.mem_singleton.mp hj]; exact hi
theorem changeM_st {s : MS} {name : String} {i : Nat} {x : Int} (h : s.StOK) (hi : i < 6) : (changeM s name i x).StOK := by
 have hv : (s.variable i).2.StOK := fun j hj => h j (by rw [MS.variable_st] at hj; exact hj)
 unfold changeM
 dsimp only
 repeat' split
 all_goals exact MS.keep_st (fun j hj => hv j hj) hi
theorem MS.deed_st {s : MS} {d : Dd} (h : s.StOK) (hw : WD d) : (s.deed d).StOK := by
 cases hw with
 | assign i t hi wt _ => exact MS.keep_st (fun j hj => h j (by rw [MS.low_st] at hj; exact hj)) hi
 | change name i t hi wt _ => exact changeM_st (fun j hj => h j (by rw [MS.low_st] at hj; exact hj)) hi
section
variable {w : World} {hB : Heap} {mg mb : Str → Option Value} {G : Gh} {bk : Bk} {m : MA} {s : MS} {fp : Led}
theorem assign_spec (B : Base w hB mg mb) (n : Nat) (M : MakerIn w G bk m s fp) {a ks b d : Addr} {nK : Nat} {ty val : Value} {i : Nat} {t : Tr} (hi : i < 6) (hb : BookOK G bk) (hst : s.StOK)
  (hN : NodeAt G a "assign" ty (.ref ks) val) (hks : G ks (lobj [.ref b, .ref d] nK)) (hbn : NodeIs G bk (.var i) b) (hlow : LowC w hB bk m (n + 3) t d G) (hz : s.sz + t.cost + 2 ≤ 899000) :
  Calls w hB (n + 4) 178 [.ref m.x, .ref a] G fp (PB w bk m ((s.low t).2.keep i (s.low t).1)) := by
 obtain ⟨⟨t0, hopa⟩, hty, hkd, hval⟩ := hN
 obtain ⟨kb, hnb⟩ := hbn
 obtain ⟨⟨t0', hop'⟩, hty', hkd', hval'⟩ := id hnb
 refine start178 B _ _ ?_
 intro A env e cx o KK hKK
 refine Do.reS o tb178 60 ?_
 refine Do.assign_tuple rfl rfl ?_
 refine Do.reE o tb178 30 ?_
 refine Do.gP o hkd ?_
 refine Do.assignTuple ?_
 refine Do.unpackL o (.inl hks) rfl rfl ?_
 refine Do.inOrder_cons ?_
 refine Do.assignName o 2 rfl (by first | exact Nat.le_of_ble_eq_true rfl | lia) ?_
 refine Do.inOrder_cons ?_
 refine Do.assignName o 3 rfl (by first | exact Nat.le_of_ble_eq_true rfl | lia) ?_
 refine Do.inOrder_nil ?_
 obtain ⟨tkk, hkk⟩ := (hb.var i hi).kind
 refine Do.byContract0 o (plain_spec B (n + 1) hnb (Fm.inForms (fmOf i)) (hb.ty _) hkk) ?_
 intro QM r G2 hG2 p
 subst p
 refine if0 ?_
 refine Do.byContract o ((hlow _ _ _ hG2 (M.mono hG2) (by lia)).le (by lia)) (ex := []) rfl ?_
 intro QM r4 G4 fp4 hG4 p4
 obtain ⟨⟨tk4, rfl⟩, M4⟩ := p4
 have hst4 : (s.low t).2.StOK := fun j hj => hst j (by rw [MS.low_st] at hj; exact hj)
 have hz4 := MS.low_sz t s
 refine Do.is_ (by rfl) ?_
 refine if0 ?_
 refine Do.mkCall o tb178 0 75 M4 (ex := []) rfl ?_
 refine Do.gP o (hval'.mono fun _ _ x => (hG4 _ _ (hG2 _ _ x))) ?_
 refine Do.byContract o (keep_spec B n M4 (by lia) ((hb.mono hG2).mono hG4) hst4 hi _ tk4) (ex := []) rfl ?_
 intro QM r5 G5 fp5 hG5 p5
 obtain ⟨rfl, M5⟩ := p5
 refine hKK ?_; exact M.left (ex := []) M5 ⟨rfl, M5⟩
theorem Do.keep {c : Cx} {σ : Sg} {k : Nat} {G0 : Gh} {ex : Led} {i : Nat} {r : Int} {tr : Tok} {K : Value → Sg → Prop} (ok : c.Ok mg mb (k + 3)) (M : MakerIn c.w σ.G bk m s fp) (hmu : σ.mu = ex ++ fp) (hz : s.sz ≤ 900000) (hb : BookOK G0 bk) (hle : ∀ a o, G0 a o → σ.G a o) (hst : s.StOK) (hi : i < 6)
  (q : ∀ G' fp', (∀ a o, σ.G a o → G' a o) → MakerIn c.w G' bk m (s.keep i r) fp' → K .none ⟨σ.vs, G', ex ++ fp'⟩) : Do c σ (call (.ref 75) [.ref m.x, .ref (bk.var i), .int r tr]) K :=
 Do.byContract₀ ok (keep_spec ok.B k M hz (hb.mono hle) hst hi r tr) hmu fun v G' fp' hG ⟨e, M'⟩ => e ▸ q G' fp' hG M'
theorem assign_none (B : Base w hB mg mb) (n : Nat) (M : MakerIn w G bk m s fp) {a ks b d : Addr} {nK : Nat} {ty val : Value} {i : Nat} (hi : i < 6) (hb : BookOK G bk)
  (hN : NodeAt G a "assign" ty (.ref ks) val) (hks : G ks (lobj [.ref b, .ref d] nK)) (hbn : NodeIs G bk (.var i) b)
  (hnone : ∀ G1, (∀ a o, G a o → G1 a o) → Calls w hB (n + 3) 171 [.ref m.x, .ref d] G1 fp (fun v G'' fp' => v = .none ∧ ∃ s', MakerIn w G'' bk m s' fp')) :
  Calls w hB (n + 4) 178 [.ref m.x, .ref a] G fp (fun v G' fp' => v = .bool false ∧ ∃ s', MakerIn w G' bk m s' fp') := by
 obtain ⟨⟨t0, hopa⟩, hty, hkd, hval⟩ := hN
 obtain ⟨kb, hnb⟩ := hbn
 obtain ⟨⟨t0', hop'⟩, hty', hkd', hval'⟩ := id hnb
 refine start178 B _ _ ?_
 intro A env e cx o KK hKK
 refine Do.reS o tb178 60 ?_
 refine Do.assign_tuple rfl rfl ?_
 refine Do.reE o tb178 30 ?_
 refine Do.gP o hkd ?_
 refine Do.assignTuple ?_
 refine Do.unpackL o (.inl hks) rfl rfl ?_
 refine Do.inOrder_cons ?_
 refine Do.assignName o 2 rfl (by first | exact Nat.le_of_ble_eq_true rfl | lia) ?_
 refine Do.inOrder_cons ?_
 refine Do.assignName o 3 rfl (by first | exact Nat.le_of_ble_eq_true rfl | lia) ?_
 refine Do.inOrder_nil ?_
 obtain ⟨tkk, hkk⟩ := (hb.var i hi).kind
 refine Do.byContract0 o (plain_spec B (n + 1) hnb (Fm.inForms (fmOf i)) (hb.ty _) hkk) ?_
 intro QM r G2 hG2 p
 subst p
 refine if0 ?_
 refine Do.byContract o (hnone _ hG2) (ex := []) rfl ?_
 intro QM r4 G4 fp4 hG4 p4
 obtain ⟨rfl, s', M4⟩ := p4
 refine Do.is_ (by rfl) ?_
 refine if1 ?_
 refine hKK ?_; exact M.left (ex := []) M4 ⟨rfl, _, M4⟩
theorem change_spec (B : Base w hB mg mb) (n : Nat) (M : MakerIn w G bk m s fp) {a ks b d : Addr} {nK : Nat} {ty : Value} {name : String} {tn : Tok} {i : Nat} {t : Tr} (hi : i < 6) (hb : BookOK G bk) (hst : s.StOK) (hname : name = "INC" ∨ name = "DEC" ∨ name = "INCL" ∨ name = "EXCL")
  (hN : NodeAt G a "std" ty (.ref ks) (.str (S name) tn)) (hks : G ks (lobj [.ref b, .ref d] nK)) (hbn : NodeIs G bk (.var i) b) (hlow : LowC w hB bk m (n + 3) t d G) (hz : s.sz + t.cost + 10 ≤ 899000) :
  Calls w hB (n + 4) 185 [.ref m.x, .ref a] G fp (PB w bk m (changeM (s.low t).2 name i (s.low t).1)) := by
 obtain ⟨⟨t0, hopa⟩, hty, hkd, hval⟩ := hN
 obtain ⟨kb, hnb⟩ := hbn
 obtain ⟨⟨t0', hop'⟩, hty', hkd', hval'⟩ := id hnb
 have hv := hb.var i hi
 refine start185 B _ _ ?_
 intro A env e cx o KK hKK
 rcases hname with rfl | rfl | rfl | rfl
 ·refine Do.reS o tb185 60 ?_
  refine Do.gP o hval ?_
  refine if0 ?_
  refine Do.gP o hkd ?_
  intro t1
  refine Do.itemL (.inl hks) (by decide) (by decide) rfl ?_
  obtain ⟨tkk, hkk⟩ := hv.kind
  refine Do.byContract0 o (plain_spec B (n + 1) hnb (Fm.inForms (fmOf i)) (hb.ty _) hkk) ?_
  intro QM r G2 hG2 p
  subst p
  refine if0 ?_
  refine if0 ?_
  refine Do.gP o (hkd.mono fun _ _ x => (hG2 _ _ x)) ?_
  intro t2
  refine Do.itemL (.inl (hG2 _ _ hks)) (by decide) (by decide) rfl ?_
  refine Do.byContract o ((hlow _ _ _ (fun _ _ x => hG2 _ _ x) (M.mono fun _ _ x => hG2 _ _ x) (by lia)).le (by lia)) (ex := []) rfl ?_
  intro QM r4 G4 fp4 hG4 p4
  obtain ⟨⟨tk4, rfl⟩, M4⟩ := p4
  have hst4 : (s.low t).2.StOK := fun j hj => hst j (by rw [MS.low_st] at hj; exact hj)
  have hz4 := MS.low_sz t s
  have hz4r : (s.low t).2.rows.length ≤ 899000 ∧ (s.low t).2.inputs.length ≤ 899000 ∧ (s.low t).2.held.length ≤ 899000 := by unfold MS.sz at hz4 hz; lia
  have hle4 : ∀ a o, G a o → G4 a o := fun _ _ x => hG4 _ _ (hG2 _ _ x)
  refine Do.is_ (by rfl) ?_
  refine if0 ?_
  refine Do.mkCall o tb185 0 70 M4 (ex := []) rfl ?_
  refine Do.gP o (hkd.mono fun _ _ x => (hle4 _ _ x)) ?_
  intro t3
  refine Do.itemL (.inl (hle4 _ _ hks)) (by decide) (by decide) rfl ?_
  refine Do.gP o (hval'.mono fun _ _ x => (hle4 _ _ x)) ?_
  refine Do.byContract o (variable_spec B n M4 (by lia) (by lia) (by lia) hi (hv.mono hle4)) (ex := []) rfl ?_
  intro QM r5 G5 fp5 hG5 p5
  obtain ⟨⟨tk5, rfl⟩, M5⟩ := p5
  have hle5 : ∀ a o, G a o → G5 a o := fun _ _ x => hG5 _ _ (hle4 _ _ x)
  have hz5 := MS.variable_sz (s := (s.low t).2) (i := i)
  have hz5s : ((s.low t).2.variable i).2.sz ≤ 899000 := by lia
  have hz5r := MS.rows_sz (s := ((s.low t).2.variable i).2)
  have hst5 : ((s.low t).2.variable i).2.StOK := fun j hj => hst4 j (by rw [MS.variable_st] at hj; exact hj)
  refine Do.gP o (hval.mono fun _ _ x => (hle5 _ _ x)) ?_
  refine if1 ?_
  refine if1 ?_
  refine Do.mkCall o tb185 0 56 M5 (ex := []) rfl ?_
  refine Do.gP o (hval.mono fun _ _ x => (hle5 _ _ x)) ?_
  refine if1 ?_
  intro t4
  refine Do.put o M5 (ex := []) rfl (by first | lia | (simp only [MS.put_len]; lia)) ?_
  intro t5 t6 t7 t8 t9
  refine Do.mkCall o tb185 0 75 t9 (ex := []) rfl ?_
  refine Do.gP o (hkd.mono fun _ _ x => (t8 _ _ (hle5 _ _ x))) ?_
  intro t10
  refine Do.itemL (.inl (t8 _ _ (hle5 _ _ hks))) (by decide) (by decide) rfl ?_
  refine Do.gP o (hval'.mono fun _ _ x => (t8 _ _ (hle5 _ _ x))) ?_
  refine Do.keep o t9 (ex := []) rfl ?_ hb ?_ (fun j hj => hst5 j hj) hi fun G6 fp6 hG6 M6 => ?_
  ·simp only [MS.put_sz]; lia
  ·exact fun _ _ x => (t8 _ _ (hle5 _ _ x))
  refine hKK ?_; exact M.left (ex := []) M6 ⟨rfl, M6⟩
 ·refine Do.reS o tb185 60 ?_
  refine Do.gP o hval ?_
  refine if0 ?_
  refine Do.gP o hkd ?_
  intro t1
  refine Do.itemL (.inl hks) (by decide) (by decide) rfl ?_
  obtain ⟨tkk, hkk⟩ := hv.kind
  refine Do.byContract0 o (plain_spec B (n + 1) hnb (Fm.inForms (fmOf i)) (hb.ty _) hkk) ?_
  intro QM r G2 hG2 p
  subst p
  refine if0 ?_
  refine if0 ?_
  refine Do.gP o (hkd.mono fun _ _ x => (hG2 _ _ x)) ?_
  intro t2
  refine Do.itemL (.inl (hG2 _ _ hks)) (by decide) (by decide) rfl ?_
  refine Do.byContract o ((hlow _ _ _ (fun _ _ x => hG2 _ _ x) (M.mono fun _ _ x => hG2 _ _ x) (by lia)).le (by lia)) (ex := []) rfl ?_
  intro QM r4 G4 fp4 hG4 p4
  obtain ⟨⟨tk4, rfl⟩, M4⟩ := p4
  have hst4 : (s.low t).2.StOK := fun j hj => hst j (by rw [MS.low_st] at hj; exact hj)
  have hz4 := MS.low_sz t s
  have hz4r : (s.low t).2.rows.length ≤ 899000 ∧ (s.low t).2.inputs.length ≤ 899000 ∧ (s.low t).2.held.length ≤ 899000 := by unfold MS.sz at hz4 hz; lia
  have hle4 : ∀ a o, G a o → G4 a o := fun _ _ x => hG4 _ _ (hG2 _ _ x)
  refine Do.is_ (by rfl) ?_
  refine if0 ?_
  refine Do.mkCall o tb185 0 70 M4 (ex := []) rfl ?_
  refine Do.gP o (hkd.mono fun _ _ x => (hle4 _ _ x)) ?_
  intro t3
  refine Do.itemL (.inl (hle4 _ _ hks)) (by decide) (by decide) rfl ?_
  refine Do.gP o (hval'.mono fun _ _ x => (hle4 _ _ x)) ?_
  refine Do.byContract o (variable_spec B n M4 (by lia) (by lia) (by lia) hi (hv.mono hle4)) (ex := []) rfl ?_
  intro QM r5 G5 fp5 hG5 p5
  obtain ⟨⟨tk5, rfl⟩, M5⟩ := p5
  have hle5 : ∀ a o, G a o → G5 a o := fun _ _ x => hG5 _ _ (hle4 _ _ x)
  have hz5 := MS.variable_sz (s := (s.low t).2) (i := i)
  have hz5s : ((s.low t).2.variable i).2.sz ≤ 899000 := by lia
  have hz5r := MS.rows_sz (s := ((s.low t).2.variable i).2)
  have hst5 : ((s.low t).2.variable i).2.StOK := fun j hj => hst4 j (by rw [MS.variable_st] at hj; exact hj)
  refine Do.gP o (hval.mono fun _ _ x => (hle5 _ _ x)) ?_
  refine if0 ?_
  refine Do.gP o (hval.mono fun _ _ x => (hle5 _ _ x)) ?_
  refine if1 ?_
  refine if1 ?_
  refine Do.mkCall o tb185 0 56 M5 (ex := []) rfl ?_
  refine Do.gP o (hval.mono fun _ _ x => (hle5 _ _ x)) ?_
  refine if0 ?_
  intro t4
  refine Do.put o M5 (ex := []) rfl (by first | lia | (simp only [MS.put_len]; lia)) ?_
  intro t5 t6 t7 t8 t9
  refine Do.mkCall o tb185 0 75 t9 (ex := []) rfl ?_
  refine Do.gP o (hkd.mono fun _ _ x => (t8 _ _ (hle5 _ _ x))) ?_
  intro t10
  refine Do.itemL (.inl (t8 _ _ (hle5 _ _ hks))) (by decide) (by decide) rfl ?_
  refine Do.gP o (hval'.mono fun _ _ x => (t8 _ _ (hle5 _ _ x))) ?_
  refine Do.keep o t9 (ex := []) rfl ?_ hb ?_ (fun j hj => hst5 j hj) hi fun G6 fp6 hG6 M6 => ?_
  ·simp only [MS.put_sz]; lia
  ·exact fun _ _ x => (t8 _ _ (hle5 _ _ x))
  refine hKK ?_; exact M.left (ex := []) M6 ⟨rfl, M6⟩
 ·refine Do.reS o tb185 60 ?_
  refine Do.gP o hval ?_
  refine if0 ?_
  refine Do.gP o hkd ?_
  intro t1
  refine Do.itemL (.inl hks) (by decide) (by decide) rfl ?_
  obtain ⟨tkk, hkk⟩ := hv.kind
  refine Do.byContract0 o (plain_spec B (n + 1) hnb (Fm.inForms (fmOf i)) (hb.ty _) hkk) ?_
  intro QM r G2 hG2 p
  subst p
  refine if0 ?_
  refine if0 ?_
  refine Do.gP o (hkd.mono fun _ _ x => (hG2 _ _ x)) ?_
  intro t2
  refine Do.itemL (.inl (hG2 _ _ hks)) (by decide) (by decide) rfl ?_
  refine Do.byContract o ((hlow _ _ _ (fun _ _ x => hG2 _ _ x) (M.mono fun _ _ x => hG2 _ _ x) (by lia)).le (by lia)) (ex := []) rfl ?_
  intro QM r4 G4 fp4 hG4 p4
  obtain ⟨⟨tk4, rfl⟩, M4⟩ := p4
  have hst4 : (s.low t).2.StOK := fun j hj => hst j (by rw [MS.low_st] at hj; exact hj)
  have hz4 := MS.low_sz t s
  have hz4r : (s.low t).2.rows.length ≤ 899000 ∧ (s.low t).2.inputs.length ≤ 899000 ∧ (s.low t).2.held.length ≤ 899000 := by unfold MS.sz at hz4 hz; lia
  have hle4 : ∀ a o, G a o → G4 a o := fun _ _ x => hG4 _ _ (hG2 _ _ x)
  refine Do.is_ (by rfl) ?_
  refine if0 ?_
  refine Do.mkCall o tb185 0 70 M4 (ex := []) rfl ?_
  refine Do.gP o (hkd.mono fun _ _ x => (hle4 _ _ x)) ?_
  intro t3
  refine Do.itemL (.inl (hle4 _ _ hks)) (by decide) (by decide) rfl ?_
  refine Do.gP o (hval'.mono fun _ _ x => (hle4 _ _ x)) ?_
  refine Do.byContract o (variable_spec B n M4 (by lia) (by lia) (by lia) hi (hv.mono hle4)) (ex := []) rfl ?_
  intro QM r5 G5 fp5 hG5 p5
  obtain ⟨⟨tk5, rfl⟩, M5⟩ := p5
  have hle5 : ∀ a o, G a o → G5 a o := fun _ _ x => hG5 _ _ (hle4 _ _ x)
  have hz5 := MS.variable_sz (s := (s.low t).2) (i := i)
  have hz5s : ((s.low t).2.variable i).2.sz ≤ 899000 := by lia
  have hz5r := MS.rows_sz (s := ((s.low t).2.variable i).2)
  have hst5 : ((s.low t).2.variable i).2.StOK := fun j hj => hst4 j (by rw [MS.variable_st] at hj; exact hj)
  refine Do.gP o (hval.mono fun _ _ x => (hle5 _ _ x)) ?_
  refine if0 ?_
  refine Do.gP o (hval.mono fun _ _ x => (hle5 _ _ x)) ?_
  refine if0 ?_
  refine if0 ?_
  refine Do.mkCall o tb185 0 56 M5 (ex := []) rfl ?_
  intro t4
  refine Do.mkCall o tb185 0 63 M5 (ex := []) rfl ?_
  intro t5
  refine Do.number o M5 (ex := []) rfl (by first | lia | (simp only [MS.put_len]; lia)) ?_
  intro t6 t7 t8 t9 t10
  refine Do.put o t10 (ex := []) rfl (by first | lia | (simp only [MS.put_len]; lia)) ?_
  intro t11 t12 t13 t14 t15
  refine Do.gP o (hval.mono fun _ _ x => (t14 _ _ (t9 _ _ (hle5 _ _ x)))) ?_
  refine if0 ?_
  refine Do.mkCall o tb185 0 56 t15 (ex := []) rfl ?_
  refine Do.gP o (hval.mono fun _ _ x => (t14 _ _ (t9 _ _ (hle5 _ _ x)))) ?_
  refine if1 ?_
  intro t16
  refine Do.put o t15 (ex := []) rfl (by first | lia | (simp only [MS.put_len]; lia)) ?_
  intro t17 t18 t19 t20 t21
  refine Do.mkCall o tb185 0 75 t21 (ex := []) rfl ?_
  refine Do.gP o (hkd.mono fun _ _ x => (t20 _ _ (t14 _ _ (t9 _ _ (hle5 _ _ x))))) ?_
  intro t22
  refine Do.itemL (.inl (t20 _ _ (t14 _ _ (t9 _ _ (hle5 _ _ hks))))) (by decide) (by decide) rfl ?_
  refine Do.gP o (hval'.mono fun _ _ x => (t20 _ _ (t14 _ _ (t9 _ _ (hle5 _ _ x))))) ?_
  refine Do.keep o t21 (ex := []) rfl ?_ hb ?_ (fun j hj => hst5 j hj) hi fun G6 fp6 hG6 M6 => ?_
  ·simp only [MS.put_sz]; lia
  ·exact fun _ _ x => (t20 _ _ (t14 _ _ (t9 _ _ (hle5 _ _ x))))
  refine hKK ?_; exact M.left (ex := []) M6 ⟨rfl, M6⟩
 ·refine Do.reS o tb185 60 ?_
  refine Do.gP o hval ?_
  refine if0 ?_
  refine Do.gP o hkd ?_
  intro t1
  refine Do.itemL (.inl hks) (by decide) (by decide) rfl ?_
  obtain ⟨tkk, hkk⟩ := hv.kind
  refine Do.byContract0 o (plain_spec B (n + 1) hnb (Fm.inForms (fmOf i)) (hb.ty _) hkk) ?_
  intro QM r G2 hG2 p
  subst p
  refine if0 ?_
  refine if0 ?_
  refine Do.gP o (hkd.mono fun _ _ x => (hG2 _ _ x)) ?_
  intro t2
  refine Do.itemL (.inl (hG2 _ _ hks)) (by decide) (by decide) rfl ?_
  refine Do.byContract o ((hlow _ _ _ (fun _ _ x => hG2 _ _ x) (M.mono fun _ _ x => hG2 _ _ x) (by lia)).le (by lia)) (ex := []) rfl ?_
  intro QM r4 G4 fp4 hG4 p4
  obtain ⟨⟨tk4, rfl⟩, M4⟩ := p4
  have hst4 : (s.low t).2.StOK := fun j hj => hst j (by rw [MS.low_st] at hj; exact hj)
  have hz4 := MS.low_sz t s
  have hz4r : (s.low t).2.rows.length ≤ 899000 ∧ (s.low t).2.inputs.length ≤ 899000 ∧ (s.low t).2.held.length ≤ 899000 := by unfold MS.sz at hz4 hz; lia
  have hle4 : ∀ a o, G a o → G4 a o := fun _ _ x => hG4 _ _ (hG2 _ _ x)
  refine Do.is_ (by rfl) ?_
  refine if0 ?_
  refine Do.mkCall o tb185 0 70 M4 (ex := []) rfl ?_
  refine Do.gP o (hkd.mono fun _ _ x => (hle4 _ _ x)) ?_
  intro t3
  refine Do.itemL (.inl (hle4 _ _ hks)) (by decide) (by decide) rfl ?_
  refine Do.gP o (hval'.mono fun _ _ x => (hle4 _ _ x)) ?_
  refine Do.byContract o (variable_spec B n M4 (by lia) (by lia) (by lia) hi (hv.mono hle4)) (ex := []) rfl ?_
  intro QM r5 G5 fp5 hG5 p5
  obtain ⟨⟨tk5, rfl⟩, M5⟩ := p5
  have hle5 : ∀ a o, G a o → G5 a o := fun _ _ x => hG5 _ _ (hle4 _ _ x)
  have hz5 := MS.variable_sz (s := (s.low t).2) (i := i)
  have hz5s : ((s.low t).2.variable i).2.sz ≤ 899000 := by lia
  have hz5r := MS.rows_sz (s := ((s.low t).2.variable i).2)
  have hst5 : ((s.low t).2.variable i).2.StOK := fun j hj => hst4 j (by rw [MS.variable_st] at hj; exact hj)
  refine Do.gP o (hval.mono fun _ _ x => (hle5 _ _ x)) ?_
  refine if0 ?_
  refine Do.gP o (hval.mono fun _ _ x => (hle5 _ _ x)) ?_
  refine if0 ?_
  refine if0 ?_
  refine Do.mkCall o tb185 0 56 M5 (ex := []) rfl ?_
  intro t4
  refine Do.mkCall o tb185 0 63 M5 (ex := []) rfl ?_
  intro t5
  refine Do.number o M5 (ex := []) rfl (by first | lia | (simp only [MS.put_len]; lia)) ?_
  intro t6 t7 t8 t9 t10
  refine Do.put o t10 (ex := []) rfl (by first | lia | (simp only [MS.put_len]; lia)) ?_
  intro t11 t12 t13 t14 t15
  refine Do.gP o (hval.mono fun _ _ x => (t14 _ _ (t9 _ _ (hle5 _ _ x)))) ?_
  refine if1 ?_
  refine Do.mkCall o tb185 0 56 t15 (ex := []) rfl ?_
  intro t16
  refine Do.mkCall o tb185 0 63 t15 (ex := []) rfl ?_
  refine Do.globalK o 2 rfl (v := (Value.int 4294967295 189)) (by kernel_rfl) ?_
  refine Do.number o t15 (ex := []) rfl (by first | lia | (simp only [MS.put_len]; lia)) ?_
  intro t17 t18 t19 t20 t21
  refine Do.put o t21 (ex := []) rfl (by first | lia | (simp only [MS.put_len]; lia)) ?_
  intro t22 t23 t24 t25 t26
  refine Do.mkCall o tb185 0 56 t26 (ex := []) rfl ?_
  refine Do.gP o (hval.mono fun _ _ x => (t25 _ _ (t20 _ _ (t14 _ _ (t9 _ _ (hle5 _ _ x)))))) ?_
  refine if0 ?_
  intro t27
  refine Do.put o t26 (ex := []) rfl (by first | lia | (simp only [MS.put_len]; lia)) ?_
  intro t28 t29 t30 t31 t32
  refine Do.mkCall o tb185 0 75 t32 (ex := []) rfl ?_
  refine Do.gP o (hkd.mono fun _ _ x => (t31 _ _ (t25 _ _ (t20 _ _ (t14 _ _ (t9 _ _ (hle5 _ _ x))))))) ?_
  intro t33
  refine Do.itemL (.inl (t31 _ _ (t25 _ _ (t20 _ _ (t14 _ _ (t9 _ _ (hle5 _ _ hks))))))) (by decide) (by decide) rfl ?_
  refine Do.gP o (hval'.mono fun _ _ x => (t31 _ _ (t25 _ _ (t20 _ _ (t14 _ _ (t9 _ _ (hle5 _ _ x))))))) ?_
  refine Do.keep o t32 (ex := []) rfl ?_ hb ?_ (fun j hj => hst5 j hj) hi fun G6 fp6 hG6 M6 => ?_
  ·simp only [MS.put_sz]; lia
  ·exact fun _ _ x => (t31 _ _ (t25 _ _ (t20 _ _ (t14 _ _ (t9 _ _ (hle5 _ _ x))))))
  refine hKK ?_; exact M.left (ex := []) M6 ⟨rfl, M6⟩
end
end Mine
end
section
namespace Mine
open PySem PySem.W PyProof.Rows PySem.Calls H
noncomputable def MS.deeds (s : MS) (ds : List Dd) : MS := ds.foldl MS.deed s
theorem deeds_snoc (s : MS) (ds : List Dd) (d : Dd) : s.deeds (ds ++ [d]) = (s.deeds ds).deed d := by simp [MS.deeds]
noncomputable def costD : List Dd → Nat
 | [] => 0
 | d :: ds => d.cost + costD ds
theorem deeds_sz : ∀ (ds : List Dd) (s : MS), (s.deeds ds).sz ≤ s.sz + costD ds
 | [], s => Nat.le_refl _
 | d :: ds, s => by
  have h1 := MS.deed_sz d s
  have h2 := deeds_sz ds (s.deed d)
  simp only [MS.deeds, List.foldl_cons, costD] at h2 ⊢; lia
theorem costD_take : ∀ (ds : List Dd) (i : Nat) (d : Dd), ds[i]? = some d → costD (ds.take i) + d.cost ≤ costD ds
 | u :: ds, 0, d, h => by simp at h; subst h; simp [costD]
 | u :: ds, i + 1, d, h => by
  have := costD_take ds i d (by simpa using h)
  simp only [List.take_succ_cons, costD]; lia
 | [], i, d, h => by simp at h
theorem deeds_st {ds : List Dd} (hw : ∀ d ∈ ds, WD d) : ∀ {s : MS}, s.StOK → (s.deeds ds).StOK := by
 induction ds with
 | nil => exact fun h => h
 | cons d ds ih => exact fun h => ih (fun x hx => hw x (.tail _ hx)) (MS.deed_st h (hw d (.head _)))
section
variable {w : World} {hB : Heap} {mg mb : Str → Option Value} {G : Gh} {bk : Bk} {m : MA} {s : MS} {fp : Led}
theorem stmt_spec (B : Base w hB mg mb) (n : Nat) (M : MakerIn w G bk m s fp) {a : Addr} {d : Dd} (hw : WD d) (hn : 2 * d.tree.ht + 6 ≤ n + 3) (hb : BookOK G bk) (hst : s.StOK) (hd : DeedIs G bk d a) (hz : s.sz + d.cost ≤ 899000) :
  Calls w hB (n + 5) 192 [.ref m.x, .ref a] G fp (PB w bk m (s.deed d)) := by
 refine start192 B _ _ ?_
 intro A env e cx o KK hKK
 cases hw with
 | assign i t hi wt _ =>
  obtain ⟨ks, nK, b, c, h1, h2, h3, h4⟩ := hd
  obtain ⟨⟨t0, hop⟩, _⟩ := id h1
  refine Do.reS o tb192 60 ?_
  refine Do.gP o hop ?_
  refine if0 ?_
  refine Do.gP o hop ?_
  refine if1 ?_
  refine Do.byContract o (assign_spec B n M hi hb hst h1 h2 h3 (lowered_spec B wt (n + 3) hn hb h4) hz) (ex := []) rfl ?_
  intro QM r4 G4 fp4 hG4 p4
  obtain ⟨rfl, M4⟩ := p4
  refine hKK ?_; exact M.left (ex := []) M4 ⟨rfl, M4⟩
 | change name i t hi wt hc =>
  obtain ⟨ks, nK, b, c, tn, h1, h2, h3, h4⟩ := hd
  obtain ⟨⟨t0, hop⟩, _⟩ := id h1
  refine Do.reS o tb192 60 ?_
  refine Do.gP o hop ?_
  refine if0 ?_
  refine Do.gP o hop ?_
  refine if0 ?_
  refine Do.boolop ?_
  refine Do.boolop_and ?_
  refine Do.reE o tb192 30 ?_
  refine Do.gP o hop ?_
  intro t1
  refine Do.truthy_bool ?_
  refine if1 ?_
  refine Do.boolop_one ?_
  refine Do.reE o tb192 30 ?_
  refine Do.byContract o (change_spec B n M hi hb hst (by rcases hc with ⟨h | h, _⟩ | ⟨h | h, _⟩ <;> simp [h]) h1 h2 h3 (lowered_spec B wt (n + 3) hn hb h4) hz) (ex := []) rfl ?_
  intro QM r4 G4 fp4 hG4 p4
  obtain ⟨rfl, M4⟩ := p4
  refine hKK ?_; exact M.left (ex := []) M4 ⟨rfl, M4⟩
theorem block_spec (B : Base w hB mg mb) (n : Nat) (M : MakerIn w G bk m s fp) {a ks : Addr} {nK : Nat} {vs : List Value} {ty val : Value} {ds : List Dd} (hw : ∀ d ∈ ds, WD d) (hn : ∀ d ∈ ds, 2 * d.tree.ht + 6 ≤ n + 3) (hb : BookOK G bk) (hst : s.StOK)
  (hN : NodeAt G a "block" ty (.ref ks) val) (hks : G ks (lobj vs nK)) (hkids : All2 (fun v d => ∃ b, v = .ref b ∧ DeedIs G bk d b) vs ds) (hz : s.sz + costD ds ≤ 899000) :
  Calls w hB (n + 6) 192 [.ref m.x, .ref a] G fp (PB w bk m (s.deeds ds)) := by
 obtain ⟨⟨t0, hop⟩, hty, hkd, hval⟩ := hN
 refine start192 B _ _ ?_
 intro A env e cx o KK hKK
 refine Do.reS o tb192 60 ?_
 refine Do.gP o hop ?_
 refine if1 ?_
 refine Do.forLp o (by intro _; rfl) ?_
 refine Do.reE o tb192 30 ?_
 refine Do.gP o hkd ?_
 refine forL_mk (a := ks) (vs := vs) (n := nK) (fun i σ' => ∃ u, A3 (σ'.vs = [some (.ref m.x), some (.ref a), u]) (∀ a o, G a o → σ'.G a o) (MakerIn w σ'.G bk m (s.deeds (ds.take i)) σ'.mu)) ?_ ?_ ?_ ?_
 ·rintro i σ' ⟨u, _, h, _⟩
  exact .inl (h _ _ hks)
 ·exact ⟨none, rfl, fun _ _ x => x, M⟩
 ·rintro i v p KL hKL QM hQM ⟨vs', G', mu'⟩ hv ⟨u, e1, hG2, M2⟩
  dsimp only at e1 hG2 M2
  subst e1
  have o2 := o.hide p
  obtain ⟨d, hd, b, rfl, hdi⟩ := hkids.get hv
  refine hQM _ ?_
  have hdm := List.mem_of_getElem? hd
  have hst2 := deeds_st (ds := ds.take i) (fun x hx => hw x (List.mem_of_mem_take hx)) hst
  refine Do.assignName o2 2 rfl (by first | exact Nat.le_of_ble_eq_true rfl | lia) ?_
  refine Do.reS o2 tb192 60 ?_
  refine Do.byContract o2 (stmt_spec B n M2 (hw d hdm) (hn d hdm) (hb.mono hG2) hst2 (hdi.mono hG2) ?_) (ex := []) rfl ?_
  ·have h1 := deeds_sz (ds.take i) s
   have h2 := costD_take ds i d hd
   lia
  intro QM r4 G4 fp4 hG4 p4
  obtain ⟨rfl, M4⟩ := p4
  refine if0 ?_
  refine hKL ?_; refine ⟨some (.ref b), rfl, fun _ _ x => hG4 _ _ (hG2 _ _ x), ?_⟩
  rw [List.take_add_one, hd]
  show MakerIn w G4 bk m (s.deeds (ds.take i ++ [d])) fp4
  rw [deeds_snoc]; exact M4
 ·rintro QM hQM ⟨vs', G', mu'⟩ ⟨u, e1, hG2, M2⟩
  dsimp only at e1 hG2 M2
  subst e1
  have e2 : ds.take vs.length = ds := List.take_of_length_le (by rw [hkids.length]; exact Nat.le_refl _)
  rw [e2] at M2
  refine hQM _ ?_
  refine hKK ?_; exact M.left (ex := []) M2 ⟨rfl, M2⟩
theorem block_bad (B : Base w hB mg mb) (n : Nat) (M : MakerIn w G bk m s fp) {a ks bad : Addr} {nK : Nat} {vs : List Value} {ty val : Value} {ds : List Dd} (hw : ∀ d ∈ ds, WD d) (hn : ∀ d ∈ ds, 2 * d.tree.ht + 6 ≤ n + 3) (hb : BookOK G bk) (hst : s.StOK)
  (hN : NodeAt G a "block" ty (.ref ks) val) (hks : G ks (lobj (vs ++ [.ref bad]) nK)) (hkids : All2 (fun v d => ∃ b, v = .ref b ∧ DeedIs G bk d b) vs ds) (hz : s.sz + costD ds ≤ 890000)
  (hbad : ∀ G1 s1 fp1, (∀ a o, G a o → G1 a o) → MakerIn w G1 bk m s1 fp1 → s1.sz ≤ 890000 → Calls w hB (n + 5) 192 [.ref m.x, .ref bad] G1 fp1 (fun v G' fp' => v = .bool false ∧ ∃ s', MakerIn w G' bk m s' fp')) :
  Calls w hB (n + 6) 192 [.ref m.x, .ref a] G fp (fun v G' fp' => v = .bool false ∧ ∃ s', MakerIn w G' bk m s' fp') := by
 obtain ⟨⟨t0, hop⟩, hty, hkd, hval⟩ := hN
 refine start192 B _ _ ?_
 intro A env e cx o KK hKK
 refine Do.reS o tb192 60 ?_
 refine Do.gP o hop ?_
 refine if1 ?_
 refine Do.forLp o (by intro _; rfl) ?_
 refine Do.reE o tb192 30 ?_
 refine Do.gP o hkd ?_
 refine forL_mk (a := ks) (vs := vs ++ [.ref bad]) (n := nK) (fun i σ' => i ≤ vs.length ∧ ∃ u, A3 (σ'.vs = [some (.ref m.x), some (.ref a), u]) (∀ a o, G a o → σ'.G a o) (MakerIn w σ'.G bk m (s.deeds (ds.take i)) σ'.mu)) ?_ ?_ ?_ ?_
 ·rintro i σ' ⟨_, u, _, h, _⟩
  exact .inl (h _ _ hks)
 ·exact ⟨Nat.zero_le _, none, rfl, fun _ _ x => x, M⟩
 ·rintro i v p KL hKL QM hQM ⟨vs', G', mu'⟩ hv ⟨hi, u, e1, hG2, M2⟩
  refine hQM _ ?_
  ·dsimp only at e1 hG2 M2
   subst e1
   have o2 := o.hide p
   by_cases hlt : i < vs.length
   ·rw [List.getElem?_append_left hlt] at hv
    obtain ⟨d, hd, b, rfl, hdi⟩ := hkids.get hv
    have hdm := List.mem_of_getElem? hd
    have hst2 := deeds_st (ds := ds.take i) (fun x hx => hw x (List.mem_of_mem_take hx)) hst
    refine Do.assignName o2 2 rfl (by first | exact Nat.le_of_ble_eq_true rfl | lia) ?_
    refine Do.reS o2 tb192 60 ?_
    refine Do.byContract o2 (stmt_spec B n M2 (hw d hdm) (hn d hdm) (hb.mono hG2) hst2 (hdi.mono hG2) ?_) (ex := []) rfl ?_
    ·have h1 := deeds_sz (ds.take i) s
     have h2 := costD_take ds i d hd
     lia
    intro QM r4 G4 fp4 hG4 p4
    obtain ⟨rfl, M4⟩ := p4
    refine if0 ?_
    refine hKL ?_; refine ⟨hlt, some (.ref b), rfl, fun _ _ x => hG4 _ _ (hG2 _ _ x), ?_⟩
    rw [List.take_add_one, hd]
    show MakerIn w G4 bk m (s.deeds (ds.take i ++ [d])) fp4
    rw [deeds_snoc]; exact M4
   ·obtain rfl : i = vs.length := by lia
    have hv' : v = .ref bad := by simpa using hv.symm
    subst hv'
    refine Do.assignName o2 2 rfl (by first | exact Nat.le_of_ble_eq_true rfl | lia) ?_
    refine Do.reS o2 tb192 60 ?_
    refine Do.byContract o2 (hbad _ _ _ hG2 M2 ?_) (ex := []) rfl ?_
    ·have h1 := deeds_sz (ds.take vs.length) s
     rw [List.take_of_length_le (by rw [hkids.length]; exact Nat.le_refl _)] at h1 ⊢
     lia
    intro QM r4 G4 fp4 hG4 p4
    obtain ⟨rfl, s', M4⟩ := p4
    refine if1 ?_
    refine hKL ?_; refine hKK ?_; exact M.left (P := fun v G' fp' => v = .bool false ∧ ∃ s', MakerIn w G' bk m s' fp') (ex := []) M4 ⟨rfl, _, M4⟩
 ·rintro QM hQM ⟨vs', G', mu'⟩ ⟨hi, _⟩
  simp at hi
  refine hQM _ ?_
  lia
end
end Mine
end
section
namespace Mine
open PySem PySem.W PyProof.Rows PySem.Calls H
theorem start49N {w : World} {hB : Heap} {mg mb : Str → Option Value} (B : Base w hB mg mb) (a0 : Value) {n : Nat} {G : Gh} {fp : Led} {P : Value → Gh → Led → Led → Prop}
  (k : ∀ A env e, (⟨w, hB, A, env, e, [S "self"] ++ [], [], []⟩ : Cx).Ok mg mb n → Do ⟨w, hB, A, env, e, [S "self"] ++ [], [], []⟩ ⟨List.map some [a0] ++ List.replicate 0 none, G, fp⟩ (execs (dM 3 0).2.1 env) (LeftN fp P)) :
  CallsN w hB (n + 1) 49 [a0] G fp P := enterN (fo := o49) (fd := fd49) (bs := [a0]) B (by kernel_rfl) rfl ok49 (by kernel_rfl) (fun _ _ _ _ _ _ => BindsTo.of_eq (by kernel_rfl)) rfl k
noncomputable def MS.empty : MS := ⟨[], [], [], []⟩
section
variable {w : World} {hB : Heap} {mg mb : Str → Option Value} {G : Gh} {bk : Bk} {m : MA} {s : MS} {fp : Led}
theorem maker_init (B : Base w hB mg mb) (n : Nat) (x dx : Addr) (hx : G x (instObj 78 dx)) :
  CallsN w hB (n + 1) 49 [.ref x] G [(dx, emptyDict)] (fun r G' nw fp' => r = .none ∧ ∃ m, A3 (m.x = x) (m.dM = dx) (MakerIn w G' bk m MS.empty (fp' ++ nw.reverse))) := by
 refine start49N B _ fun A env e o => ?_
 refine Do.reS o tb49 60 ?_
 refine Do.newListS (Nat.le_of_ble_eq_true rfl) ?_
 intro t1 t2
 refine Do.setNew o (.inl hx) (ex := [_]) rfl (by kernel_rfl) (by kernel_rfl) (by kernel_rfl) (Nat.le_of_ble_eq_true rfl) ?_
 intro t3 t4
 refine Do.setNew o (.inl hx) (ex := [_]) rfl (by kernel_rfl) (by kernel_rfl) (by kernel_rfl) (Nat.le_of_ble_eq_true rfl) ?_
 intro t5
 refine Do.newDict ?_
 intro t6
 refine Do.setNew o (.inl hx) (ex := [_, _]) rfl (by kernel_rfl) (by kernel_rfl) (by kernel_rfl) (Nat.le_of_ble_eq_true rfl) ?_
 intro t7
 refine Do.newListS (Nat.le_of_ble_eq_true rfl) ?_
 intro t8 t9
 refine Do.setNew o (.inl hx) (ex := [_, _, _]) rfl (by kernel_rfl) (by kernel_rfl) (by kernel_rfl) (Nat.le_of_ble_eq_true rfl) ?_
 intro t10
 refine Do.newListS (Nat.le_of_ble_eq_true rfl) ?_
 intro t11 t12
 refine Do.setNew o (.inl hx) (ex := [_, _, _, _]) rfl (by kernel_rfl) (by kernel_rfl) (by kernel_rfl) (Nat.le_of_ble_eq_true rfl) ?_
 intro t13
 refine LeftN.mk [] [(t11, lobj []), (t8, lobj []), (t6, emptyDict), (t1, lobj [])] [(dx, dictOf (mkDict w.params ⟨x, dx, t1, t6, t8, t11, t3, t5, t7, t10, t13⟩ 0 t4) 5)] rfl rfl ⟨rfl, ⟨x, dx, t1, t6, t8, t11, t3, t5, t7, t10, t13⟩, rfl, rfl, 0, t4, [], 0, emptyDict, [], 0, 0, rfl, ?_⟩
 exact ⟨hx, rfl, trivial, HObj.nil, trivial, fun x hx => by cases hx⟩
structure LowIs (G : Gh) (bk : Bk) (a : Addr) (rows : List Row) (ins outs : List Nat) : Prop where
 rows : (E3 fun ar vs n => A3 (AttrG G a 31 "rows" (.ref ar)) (G ar (lobj vs n)) (All2 (RowIn G) vs rows))
 ins : (E2 fun ai n => (AttrG G a 31 "inputs" (.ref ai)) ∧ G ai (lobj (bk.refs ins) n))
 outs : (E2 fun ao n => (AttrG G a 31 "outputs" (.ref ao)) ∧ G ao (lobj (bk.refs outs) n))
theorem lowered_init (B : Base w hB mg mb) (n : Nat) (x dx : Addr) (v1 v2 v3 : Value) (hx : G x (instObj 31 dx)) :
  Calls w hB (n + 1) 28 [.ref x, v1, v2, v3] G [(dx, emptyDict)] (fun r G' fp' => r = .none ∧ ∀ G2, (∀ a o, G' a o → G2 a o) → (∀ p ∈ fp', G2 p.1 p.2) → AttrG G2 x 31 "rows" v1 ∧ AttrG G2 x 31 "inputs" v2 ∧ AttrG G2 x 31 "outputs" v3) := by
 refine start28 B _ _ _ _ ?_
 intro A env e cx o KK hKK
 refine Do.reS o tb28 60 ?_
 refine Do.setNew o (.inl hx) (ex := []) rfl (by kernel_rfl) (by kernel_rfl) (by kernel_rfl) (Nat.le_of_ble_eq_true rfl) ?_
 intro t1
 refine Do.setNew o (.inl hx) (ex := []) rfl (by kernel_rfl) (by kernel_rfl) (by kernel_rfl) (Nat.le_of_ble_eq_true rfl) ?_
 intro t2
 refine Do.setNew o (.inl hx) (ex := []) rfl (by kernel_rfl) (by kernel_rfl) (by kernel_rfl) (Nat.le_of_ble_eq_true rfl) ?_
 intro t3
 refine hKK ?_; refine Left.mk [] _ rfl rfl ⟨rfl, fun G2 h1 h2 => ?_⟩
 have hd := h2 _ (.head _)
 have hi := h1 _ _ hx
 exact ⟨⟨dx, _, _, hi, hd, getL_at 0 (by kernel_rfl) rfl⟩, ⟨dx, _, _, hi, hd, getL_at 1 (by kernel_rfl) rfl⟩, ⟨dx, _, _, hi, hd, getL_at 2 (by kernel_rfl) rfl⟩⟩
end
theorem Do.perm {α : Type} {c : Cx} {σ : Sg} {tr : Sem α} {K : α → Sg → Prop} {mu' : Led} (p : σ.mu.Perm mu') (x : Do c ⟨σ.vs, σ.G, mu'⟩ tr K) : Do c σ tr K :=
 ⟨fun h g d t os Q E S q => x.run h g d t os Q E (St.perm S (List.Perm.append_right _ p)) q⟩
section
variable {w : World} {hB : Heap} {mg mb : Str → Option Value} {G : Gh} {bk : Bk} {m : MA} {s : MS} {fp : Led}
theorem lower_expr_spec (B : Base w hB mg mb) (n : Nat) {a : Addr} {t : Tr} (hw : WT t) (hn : 2 * t.ht + 6 ≤ n) (hb : BookOK G bk) (ht : NodeIs G bk t a) (hz : t.cost ≤ 800000) :
  Calls w hB (n + 3) 206 [.ref a] G [] (fun v G' fp' => fp' = [] ∧ ∃ x, v = .ref x ∧ LowIs G' bk x ((MS.empty.low t).2.rows ++ [⟨"out", 0, (MS.empty.low t).1, 0⟩]) (MS.empty.low t).2.inputs []) := by
 refine start206 B _ ?_
 intro A env e cx o KK hKK
 refine Do.reS o tb206 60 ?_
 refine Do.callG ?_
 refine Do.gK o 0 78 ?_
 refine Do.callWith_none o (by kernel_rfl) ?_
 refine Do.makeN (C := 78) (fI := 49) o (by kernel_rfl) (fun x dx => maker_init (bk := bk) B _ x dx gadd_at) fun x dx G1 nw od hdx hnw hG1 p => ?_
 obtain ⟨m, rfl, rfl, M⟩ := p
 have hads : m.ads = m.dM :: Led.ads nw.reverse := M.ads.symm
 have hfr : ∀ a ∈ Led.ads nw.reverse, e.h₀.objs.size ≤ a := fun a ha => by
  obtain ⟨p, hp, rfl⟩ := List.mem_map.mp ha
  exact hnw p (List.mem_reverse.mp hp)
 have haR : e.h₀.objs.size ≤ m.aR := hfr _ (by rw [← (List.cons.inj hads).2]; simp)
 have haI : e.h₀.objs.size ≤ m.aI := hfr _ (by rw [← (List.cons.inj hads).2]; simp)
 have haS : e.h₀.objs.size ≤ m.aS := hfr _ (by rw [← (List.cons.inj hads).2]; simp)
 refine Do.perm (mu' := [(m.dM, od)] ++ nw.reverse) ?_ ?_
 ·simpa using (List.reverse_perm nw).symm
 refine Do.byContract o (lowered_spec B hw _ (by lia) hb ht G1 MS.empty _ (fun _ _ x => hG1 _ _ (.inl x)) M (by simp [MS.empty, MS.sz]; lia)) (ex := []) rfl ?_
 intro QM r2 G2 fp2 hG2 p2
 obtain ⟨⟨tk2, rfl⟩, M2⟩ := p2
 obtain ⟨cnt, t2, rows, nR, oH, xs, nI, nS, rfl, M2⟩ := M2
 have hM := M2.inst
 have hl : rows.length ≤ 1000000 := by
  have h1 := M2.rows.length
  have h2 := MS.low_sz t MS.empty
  have h3 := MS.rows_sz (s := (MS.empty.low t).2)
  have h4 : MS.empty.sz = 0 := rfl
  lia
 refine Do.is_ (by rfl) ?_
 refine if0 ?_
 refine Do.methodCall ?_
 refine Do.reE o tb206 30 ?_
 refine Do.getA o (.inl hM) (.inr (mm 0 rfl)) 0 (by kernel_rfl) rfl (by kernel_rfl) (by first | rfl | assumption) ?_
 refine Do.mAppend (.inr (mm 1 rfl)) ?_
 refine Do.callWith_b1 ?_
 refine Do.reL o tb206 30 ?_
 intro t1 t3 t4
 refine Do.newTupG (Nat.le_of_ble_eq_true rfl) ?_
 intro t5
 refine Do.append (ex := [_]) rfl (by first | exact Nat.le_of_ble_eq_true rfl | assumption | lia | (simp; lia)) ?_
 refine Do.getA o (.inl (.inl hM)) (.inr (mm 0 rfl)) 0 (by kernel_rfl) rfl (by kernel_rfl) (by first | rfl | assumption) ?_
 refine Do.getA o (.inl (.inl hM)) (.inr (mm 0 rfl)) 3 (by kernel_rfl) rfl (by kernel_rfl) (by first | rfl | assumption) ?_
 refine Do.newListS (Nat.le_of_ble_eq_true rfl) ?_
 intro t6 t7
 refine Do.freeze 0 rfl rfl t7 ?_
 refine Do.freeze 1 rfl rfl haR ?_
 refine Do.freeze 2 rfl rfl haI ?_
 refine Do.makeG (C := 31) (fI := 28) o (by kernel_rfl) (fun x dx => lowered_init B _ x dx _ _ _ gadd_at) fun x dx G3 od3 hG3 p3 => ?_
 obtain ⟨q1, q2, q3⟩ := p3 (gadd G3 dx od3) (fun _ _ x => .inl x) (fun p hp => by rw [List.mem_singleton.mp hp]; exact gadd_at)
 have up : ∀ a o, _ → gadd G3 dx od3 a o := fun a o x => Or.inl (hG3 a o (.inl x))
 refine hKK ?_; refine Left.mk _ [] (List.append_nil _).symm rfl ⟨rfl, x, rfl, ⟨m.aR, _, _, q1, up _ _ (.inl gadd_at), ?_⟩, ⟨m.aI, _, q2, up _ _ gadd_at⟩, ⟨_, _, q3, up _ _ (.inl (.inl gadd_at))⟩⟩
 refine All2.append (M2.rows.mono fun _ _ => RowIn.mono fun a o x => up _ _ (.inl (.inl (.inl (.inl x))))) (show All2 _ [_] [_] from ⟨⟨t5, _, _, _, _, _, rfl, up _ _ (.inl (.inl (.inl gadd_at)))⟩, trivial⟩)
end
end Mine
end
section
namespace Mine
open PySem PySem.W PyProof.Rows PySem.Calls H
noncomputable def outs (held : List (Nat × Int)) : Nat → List Nat → List Row
 | _, [] => []
 | k, j :: js => ⟨"out", k, (held.lookup j).getD 0, 0⟩ :: outs held (k + 1) js
theorem outs_snoc (held : List (Nat × Int)) : ∀ (l : List Nat) (k j : Nat), outs held k (l ++ [j]) = outs held k l ++ [⟨"out", (k + l.length : Nat), (held.lookup j).getD 0, 0⟩]
 | [], k, j => rfl
 | i :: l, k, j => by simp only [List.cons_append, outs, outs_snoc held l, List.length_cons]; rw [show k + 1 + l.length = k + (l.length + 1) by lia]
theorem outs_len (held : List (Nat × Int)) : ∀ (l : List Nat) (k : Nat), (outs held k l).length = l.length
 | [], k => rfl
 | i :: l, k => by simp only [outs, List.length_cons, outs_len held l]
noncomputable def MS.HoOK (s : MS) : Prop := ∀ j ∈ s.stored, ∃ r, s.held.lookup j = some r
section
variable {w : World} {hB : Heap} {mg mb : Str → Option Value} {G : Gh} {bk : Bk} {m : MA} {s : MS} {fp : Led}
theorem lower_expr_none (B : Base w hB mg mb) (n : Nat) {a : Addr} (hb : BookOK G bk)
  (hnone : ∀ G1 m fp1, (∀ a o, G a o → G1 a o) → MakerIn w G1 bk m MS.empty fp1 → Calls w hB (n + 2) 171 [.ref m.x, .ref a] G1 fp1 (fun v G'' fp' => v = .none ∧ ∃ s', MakerIn w G'' bk m s' fp')) :
  Calls w hB (n + 3) 206 [.ref a] G [] (PV (.none)) := by
 refine start206 B _ ?_
 intro A env e cx o KK hKK
 refine Do.reS o tb206 60 ?_
 refine Do.callG ?_
 refine Do.gK o 0 78 ?_
 refine Do.callWith_none o (by kernel_rfl) ?_
 refine Do.makeN (C := 78) (fI := 49) o (by kernel_rfl) (fun x dx => maker_init (bk := bk) B _ x dx gadd_at) fun x dx G1 nw od hdx hnw hG1 p => ?_
 obtain ⟨m, rfl, rfl, M⟩ := p
 refine Do.perm (mu' := [(m.dM, od)] ++ nw.reverse) ?_ ?_
 ·simpa using (List.reverse_perm nw).symm
 refine Do.byContract o (hnone G1 m _ (fun _ _ x => hG1 _ _ (.inl x)) M) (ex := []) rfl ?_
 intro QM r2 G2 fp2 hG2 p2
 obtain ⟨rfl, s', M2⟩ := p2
 refine Do.is_ (by rfl) ?_
 refine if1 ?_
 refine hKK ?_; exact Left.mk _ [] (List.append_nil _).symm rfl ⟨rfl, rfl⟩
theorem lower_block_none (B : Base w hB mg mb) (n : Nat) {a : Addr} (hb : BookOK G bk)
  (hnone : ∀ G1 m fp1, (∀ a o, G a o → G1 a o) → MakerIn w G1 bk m MS.empty fp1 → Calls w hB (n + 2) 192 [.ref m.x, .ref a] G1 fp1 (fun v G'' fp' => v = .bool false ∧ ∃ s', MakerIn w G'' bk m s' fp')) :
  Calls w hB (n + 3) 199 [.ref a] G [] (PV (.none)) := by
 refine start199 B _ ?_
 intro A env e cx o KK hKK
 refine Do.reS o tb199 60 ?_
 refine Do.callG ?_
 refine Do.gK o 0 78 ?_
 refine Do.callWith_none o (by kernel_rfl) ?_
 refine Do.makeN (C := 78) (fI := 49) o (by kernel_rfl) (fun x dx => maker_init (bk := bk) B _ x dx gadd_at) fun x dx G1 nw od hdx hnw hG1 p => ?_
 obtain ⟨m, rfl, rfl, M⟩ := p
 refine Do.perm (mu' := [(m.dM, od)] ++ nw.reverse) ?_ ?_
 ·simpa using (List.reverse_perm nw).symm
 refine Do.byContract o (hnone G1 m _ (fun _ _ x => hG1 _ _ (.inl x)) M) (ex := []) rfl ?_
 intro QM r2 G2 fp2 hG2 p2
 obtain ⟨rfl, s', M2⟩ := p2
 refine if1 ?_
 refine hKK ?_; exact Left.mk _ [] (List.append_nil _).symm rfl ⟨rfl, rfl⟩
theorem lower_block_spec (B : Base w hB mg mb) (n : Nat) {a ks : Addr} {nK : Nat} {vs : List Value} {ty val : Value} {ds : List Dd} (hw : ∀ d ∈ ds, WD d) (hn : ∀ d ∈ ds, 2 * d.tree.ht + 6 ≤ n + 3) (hb : BookOK G bk)
  (hN : NodeAt G a "block" ty (.ref ks) val) (hks : G ks (lobj vs nK)) (hkids : All2 (fun v d => ∃ b, v = .ref b ∧ DeedIs G bk d b) vs ds) (hz : costD ds ≤ 800000) (hho : (MS.empty.deeds ds).HoOK) :
  Calls w hB (n + 7) 199 [.ref a] G [] (fun v G' fp' => fp' = [] ∧ ∃ x, v = .ref x ∧ LowIs G' bk x ((MS.empty.deeds ds).rows ++ outs (MS.empty.deeds ds).held 0 (MS.empty.deeds ds).stored) (MS.empty.deeds ds).inputs (MS.empty.deeds ds).stored) := by
 refine start199 B _ ?_
 intro A env e cx o KK hKK
 refine Do.reS o tb199 60 ?_
 refine Do.callG ?_
 refine Do.gK o 0 78 ?_
 refine Do.callWith_none o (by kernel_rfl) ?_
 refine Do.makeN (C := 78) (fI := 49) o (by kernel_rfl) (fun x dx => maker_init (bk := bk) B _ x dx gadd_at) fun x dx G1 nw od hdx hnw hG1 p => ?_
 obtain ⟨m, rfl, rfl, M⟩ := p
 have hads : m.ads = m.dM :: Led.ads nw.reverse := M.ads.symm
 have hfr : ∀ a ∈ Led.ads nw.reverse, e.h₀.objs.size ≤ a := fun a ha => by
  obtain ⟨p, hp, rfl⟩ := List.mem_map.mp ha
  exact hnw p (List.mem_reverse.mp hp)
 have haR : e.h₀.objs.size ≤ m.aR := hfr _ (by rw [← (List.cons.inj hads).2]; simp)
 have haI : e.h₀.objs.size ≤ m.aI := hfr _ (by rw [← (List.cons.inj hads).2]; simp)
 have haS : e.h₀.objs.size ≤ m.aS := hfr _ (by rw [← (List.cons.inj hads).2]; simp)
 have hle1 : ∀ a o, G a o → G1 a o := fun _ _ x => hG1 _ _ (.inl x)
 have hst0 : MS.empty.StOK := fun j hj => by cases hj
 have hstn := deeds_st hw hst0
 have hszn : (MS.empty.deeds ds).sz ≤ 800000 := by
  have := deeds_sz ds MS.empty
  have h4 : MS.empty.sz = 0 := rfl
  lia
 refine Do.perm (mu' := [(m.dM, od)] ++ nw.reverse) ?_ ?_
 ·simpa using (List.reverse_perm nw).symm
 refine Do.byContract o (block_spec B n M hw hn (hb.mono hle1) hst0 (hN.mono hle1) (hle1 _ _ hks) (hkids.mono fun _ _ ⟨b, e, x⟩ => ⟨b, e, x.mono hle1⟩) (by have h4 : MS.empty.sz = 0 := rfl; lia)) (ex := []) rfl ?_
 intro QM r2 G2 fp2 hG2 p2
 obtain ⟨rfl, M2⟩ := p2
 generalize MS.empty.deeds ds = s at M2 hho hstn hszn hKK
 obtain ⟨cnt, t2, rows, nR, oH, xs, nI, nS, rfl, M2⟩ := M2
 have hM := M2.inst
 have hl : rows.length ≤ 800000 := by
  have h1 := M2.rows.length
  have h3 := MS.rows_sz (s := s)
  lia
 have hlS : (bk.refs s.stored).length ≤ 1000000 := by simp [Bk.refs]; unfold MS.sz at hszn; lia
 have hle2 : ∀ a o, G a o → G2 a o := fun _ _ x => hG2 _ _ (hle1 _ _ x)
 refine if0 ?_
 refine Do.forRp o (by intro _; rfl) ?_
 refine Do.callG ?_
 refine Do.builtinK o 2 rfl (v := (.type "range")) (by kernel_rfl) (by kernel_rfl) (by kernel_rfl) ?_
 refine Do.callWith_t1 ?_
 refine Do.reL o tb199 30 ?_
 refine Do.callG ?_
 refine Do.builtinK o 3 rfl (v := (.builtin "len")) (by kernel_rfl) (by kernel_rfl) (by kernel_rfl) ?_
 refine Do.callWith_b1 ?_
 refine Do.reL o tb199 30 ?_
 refine Do.getA o (.inl hM) (.inr (mm 0 rfl)) 4 (by kernel_rfl) rfl (by kernel_rfl) (by first | rfl | assumption) ?_
 refine Do.lenL (.inr (mm 4 rfl)) (by first | exact Nat.le_of_ble_eq_true rfl | assumption | lia | (simp; lia)) ?_
 intro t1
 refine Do.range1 ?_
 intro t3 t4 t5
 refine forR_mk (a := t3) (fun i σ' => (E4 fun u1 u2 rows' nR' => A4 (σ'.vs = [some (.ref a), some (.ref m.x), u1, u2]) (∀ a o, G2 a o → σ'.G a o) (σ'.mu = MkL w.params m cnt t2 rows' nR' oH (bk.refs s.inputs) nI (bk.refs s.stored) nS) (All2 (RowIn σ'.G) rows' (s.rows ++ outs s.held 0 (s.stored.take i))))) (.inl gadd_at) (by lia) (by lia) ?_ ?_ ?_
 ·exact ⟨none, none, rows, nR, rfl, fun _ _ x => .inl x, rfl, by simpa [outs] using M2.rows.mono fun _ _ => RowIn.mono fun _ _ x => .inl x⟩
 ·rintro i ti p KL hKL QM hQM ⟨vs', G', mu'⟩ hi ⟨u1, u2, rows', nR', e1, hG3, e2, hr⟩
  dsimp only at e1 hG3 e2 hr
  subst e1 e2
  have o2 := o.hide p
  have hM3 := hG3 _ _ hM
  have hil : i < s.stored.length := by
   have : (bk.refs s.stored).length = s.stored.length := by simp [Bk.refs]
   lia
  obtain ⟨j, hj⟩ : ∃ j, s.stored[i]? = some j := ⟨_, List.getElem?_eq_getElem hil⟩
  have hj6 : j < 6 := hstn j (List.mem_of_getElem? hj)
  obtain ⟨rg, hrg⟩ := hho j (List.mem_of_getElem? hj)
  refine hQM _ ?_
  have hvi : (bk.refs s.stored)[((i : Int)).toNat]? = some (.ref (bk.var j)) := by
   rw [Int.toNat_natCast, Bk.refs, List.getElem?_map, hj]; rfl
  refine Do.assignName o2 2 rfl (by first | exact Nat.le_of_ble_eq_true rfl | lia) ?_
  refine Do.reS o2 tb199 60 ?_
  refine Do.getA o2 (.inl hM3) (.inr (mm 0 rfl)) 4 (by kernel_rfl) rfl (by kernel_rfl) (by first | rfl | assumption) ?_
  refine Do.itemL (.inr (mm 4 rfl)) (by lia) (by lia) hvi ?_
  refine Do.methodCall ?_
  refine Do.reE o2 tb199 30 ?_
  refine Do.getA o2 (.inl hM3) (.inr (mm 0 rfl)) 0 (by kernel_rfl) rfl (by kernel_rfl) (by first | rfl | assumption) ?_
  refine Do.mAppend (.inr (mm 1 rfl)) ?_
  refine Do.callWith_b1 ?_
  refine Do.reL o2 tb199 30 ?_
  intro t6
  refine Do.getA o2 (.inl hM3) (.inr (mm 0 rfl)) 2 (by kernel_rfl) rfl (by kernel_rfl) (by first | rfl | assumption) ?_
  refine Do.byContract0 o2 (key_spec B _ hj6 ((hb.var j hj6).mono fun _ _ x => hG3 _ _ (hle2 _ _ x))) ?_
  intro QM r4 G4 hG4 p4
  obtain ⟨k, rfl, hk⟩ := p4
  obtain ⟨ak, tkk, hak⟩ := held_some M2.held hj6 hrg
  have hrl : rows'.length ≤ 1000000 := by
   have h1 := hr.length
   rw [List.length_append, outs_len, List.length_take] at h1
   have h2 := M2.rows.length
   have h3 : s.stored.length ≤ 100000000 := by unfold MS.sz at hszn; lia
   unfold MS.sz at hszn
   lia
  refine Do.hget o2 (mm 2 rfl) M2.hobj (fun x hx => (M2.keys x hx).mono fun _ _ y => hG4 _ _ (hG3 _ _ y)) hk hak ?_
  intro t7
  refine Do.newTupG (Nat.le_of_ble_eq_true rfl) ?_
  intro t8
  refine Do.append (ex := [_]) rfl (by first | exact Nat.le_of_ble_eq_true rfl | assumption | lia | (simp; lia)) ?_
  have e : s.stored.take (i + 1) = s.stored.take i ++ [j] := by rw [List.take_add_one, hj]; rfl
  refine hKL ?_; refine ⟨some (.int i ti), some (.ref (bk.var j)), rows' ++ [.ref t8], nR' + 1, rfl, fun _ _ x => .inl (hG4 _ _ (hG3 _ _ x)), rfl, ?_⟩
  have e3 : (s.held.lookup j).getD 0 = rg := by rw [hrg]; rfl
  have e4 : (((0 + (s.stored.take i).length : Nat)) : Int) = (i : Int) := by rw [List.length_take, Nat.min_eq_left (Nat.le_of_lt hil), Nat.zero_add]
  rw [e, outs_snoc, ← List.append_assoc, e3, e4]
  exact All2.append (hr.mono fun _ _ => RowIn.mono fun _ _ x => .inl (hG4 _ _ x)) (show All2 _ [_] [_] from ⟨⟨t8, _, _, _, _, _, rfl, gadd_at⟩, trivial⟩)
 ·rintro QM hQM ⟨vs', G', mu'⟩ ⟨u1, u2, rows', nR', e1, hG3, e2, hr⟩
  dsimp only at e1 hG3 e2 hr
  subst e1 e2
  have hM3 := hG3 _ _ hM
  rw [show s.stored.take (((bk.refs s.stored).length : Int)).toNat = s.stored from List.take_of_length_le (by simp [Bk.refs])] at hr
  refine hQM _ ?_
  refine Do.getA o (.inl hM3) (.inr (mm 0 rfl)) 0 (by kernel_rfl) rfl (by kernel_rfl) (by first | rfl | assumption) ?_
  refine Do.getA o (.inl hM3) (.inr (mm 0 rfl)) 3 (by kernel_rfl) rfl (by kernel_rfl) (by first | rfl | assumption) ?_
  refine Do.getA o (.inl hM3) (.inr (mm 0 rfl)) 4 (by kernel_rfl) rfl (by kernel_rfl) (by first | rfl | assumption) ?_
  refine Do.freeze 1 rfl rfl haR ?_
  refine Do.freeze 2 rfl rfl haI ?_
  refine Do.freeze 2 rfl rfl haS ?_
  refine Do.makeG (C := 31) (fI := 28) o (by kernel_rfl) (fun x dx => lowered_init B _ x dx _ _ _ gadd_at) fun x dx G5 od5 hG5 p5 => ?_
  obtain ⟨q1, q2, q3⟩ := p5 (gadd G5 dx od5) (fun _ _ x => .inl x) (fun p hp => by rw [List.mem_singleton.mp hp]; exact gadd_at)
  have up : ∀ a o, _ → gadd G5 dx od5 a o := fun a o x => Or.inl (hG5 a o (.inl x))
  refine hKK ?_; exact Left.mk _ [] (List.append_nil _).symm rfl ⟨rfl, x, rfl, ⟨m.aR, _, _, q1, up _ _ (.inl (.inl gadd_at)), hr.mono fun _ _ => RowIn.mono fun a o x => up _ _ (.inl (.inl (.inl x)))⟩, ⟨m.aI, _, q2, up _ _ (.inl gadd_at)⟩, ⟨m.aS, _, q3, up _ _ gadd_at⟩⟩
end
end Mine
end
section
namespace Mine
open PySem PySem.W PyProof.Rows PySem.Calls H
noncomputable def ops2 : List String := ["add", "sub", "mul", "and", "or", "xor", "shl", "asr", "ror", "less", "equal"]
noncomputable def ops2V (tk : Nat → Tok) : List Value := [.str (S "add") (tk 0), .str (S "sub") (tk 1), .str (S "mul") (tk 2), .str (S "and") (tk 3), .str (S "or") (tk 4), .str (S "xor") (tk 5), .str (S "shl") (tk 6), .str (S "asr") (tk 7), .str (S "ror") (tk 8), .str (S "less") (tk 9), .str (S "equal") (tk 10)]
theorem any_ops2 (op : String) (t : Tok) (tk : Nat → Tok) : (ops2V tk).any (eqv (.str (S op) t)) = ops2.any fun o => S o == S op := by
 simp only [ops2V, ops2, List.any_cons, List.any_nil, eqv, eqB, eqI, eqS, eqN, Option.getD_some]
theorem ops2_has {op : String} (h : op ∈ ops2) : (ops2.any fun o => S o == S op) = true := List.any_eq_true.mpr ⟨op, h, by simp⟩
theorem ops2_not {op : String} (h : op ∈ ops2) : ∀ x ∈ ["const", "in", "copy", "out"], (S op == Str.ofString x) = false ∧ (Str.ofString x == S op) = false := by
 have h1 : (ops2.all fun o => ["const", "in", "copy", "out"].all fun x => !(S o == Str.ofString x) && !(Str.ofString x == S o)) = true := by kernel_rfl
 intro x hx
 have h2 := List.all_eq_true.mp (List.all_eq_true.mp h1 op h) x hx
 simp only [Bool.and_eq_true, Bool.not_eq_true'] at h2
 exact h2
structure BodyOK (k : Nat) (r : Row) : Prop where
 d : r.d = k
 kind : (r.op = "const" ∧ -2147483648 ≤ r.x ∧ r.x < 4294967296) ∨ (r.op = "in" ∧ 0 ≤ r.x) ∨ (r.op ∈ ops2 ∧ 0 ≤ r.x ∧ r.x < k ∧ 0 ≤ r.y ∧ r.y < k)
structure TailOK (m : Nat) (r : Row) : Prop where
 op : r.op = "out"
 d : 0 ≤ r.d
 x0 : 0 ≤ r.x
 x1 : r.x < m
structure RowsOK (rows : List Row) (m : Nat) : Prop where
 hm : m ≤ rows.length
 body : ∀ i r, i < m → rows[i]? = some r → BodyOK i r
 tail : ∀ i r, m ≤ i → rows[i]? = some r → TailOK m r
section
variable {w : World} {hB : Heap} {mg mb : Str → Option Value} {G : Gh}
theorem names_spec (B : Base w hB mg mb) (n : Nat) : Calls w hB (n + 1) 320 [] G [] (fun v G' fp' => fp' = [] ∧ (E3 fun a k tk => (v = .ref a) ∧ G' a (tobj (ops2V tk) k))) := by
 refine start320 B ?_
 intro A env e cx o KK hKK
 refine Do.reS o tb320 60 ?_
 intro t1 t2 t3 t4 t5 t6 t7 t8 t9 t10 t11
 refine Do.newTupG (Nat.le_of_ble_eq_true rfl) ?_
 intro t12
 refine hKK ?_; exact Left.mk [] [] rfl rfl ⟨rfl, t12, 0, fun i => [t1, t2, t3, t4, t5, t6, t7, t8, t9, t10, t11].getD i 0, rfl, gadd_at⟩
theorem defined_spec (B : Base w hB mg mb) (n : Nat) {r : Row} {v : Value} (hr : RowIn G v r) (hop : r.op = "out" ∨ (S r.op == Str.ofString "out") = false) : Calls w hB (n + 1) 327 [v] G [] (PI (if r.op = "out" then -1 else r.d)) := by
 obtain ⟨a, t1, t2, t3, t4, nn, rfl, hg⟩ := hr
 refine start327 B _ ?_
 intro A env e cx o KK hKK
 rcases hop with h | h
 ·rw [h] at hg
  refine Do.reS o tb327 60 ?_
  intro t5
  refine Do.itemT (.inl hg) (by decide) (by decide) (i := 0) rfl rfl ?_
  refine if1 ?_
  refine Do.unary ?_
  refine Do.const_int ?_
  intro t6
  refine Do.neg ?_
  intro t7
  refine hKK ?_; exact Left.mk [] [] rfl rfl ⟨rfl, by rw [if_pos h]; exact ⟨_, rfl⟩⟩
 ·refine Do.reS o tb327 60 ?_
  intro t5
  refine Do.itemT (.inl hg) (by decide) (by decide) (i := 0) rfl rfl ?_
  refine ite_f h ?_
  intro t6
  refine Do.itemT (.inl hg) (by decide) (by decide) (i := 1) rfl rfl ?_
  refine hKK ?_; refine Left.mk [] [] rfl rfl ⟨rfl, ?_⟩
  rw [if_neg (by rintro e; rw [e] at h; simp at h)]
  exact ⟨_, rfl⟩
end
end Mine
end
section
namespace Mine
open PySem PySem.W PyProof.Rows PySem.Calls H
section
variable {w : World} {hB : Heap} {mg mb : Str → Option Value} {G : Gh}
theorem used_two (B : Base w hB mg mb) (n : Nat) {r : Row} {v : Value} (hr : RowIn G v r) (hop : r.op ∈ ops2) : Calls w hB (n + 2) 334 [v] G [] (fun v G' fp' => fp' = [] ∧ (E3 fun a vs k => A4 (v = .ref a) (G' a (lobj vs k)) (vs.length ≤ 2) (∀ v ∈ vs, ∃ t, (v = .int r.x t ∨ v = .int r.y t)))) := by
 obtain ⟨a, t1, t2, t3, t4, nn, rfl, hg⟩ := hr
 refine start334 B _ ?_
 intro A env e cx o KK hKK
 refine Do.reS o tb334 60 ?_
 intro t5
 refine Do.itemT (.inl hg) (by decide) (by decide) (i := 0) rfl rfl ?_
 refine Do.callG ?_
 refine Do.gK o 0 320 ?_
 refine Do.callWith_none o (by kernel_rfl) ?_
 refine Do.byContract0 o (names_spec B n) ?_
 intro QM r5 G5 hG5 p5
 obtain ⟨b, k, tk, rfl, hb⟩ := p5
 refine Do.inT' (.inl hb) (by kernel_rfl) ?_
 rw [any_ops2, ops2_has hop]
 refine if1 ?_
 intro t6
 refine Do.itemT (.inl (hG5 _ _ hg)) (by decide) (by decide) (i := 2) rfl rfl ?_
 intro t7
 refine Do.itemT (.inl (hG5 _ _ hg)) (by decide) (by decide) (i := 3) rfl rfl ?_
 by_cases hxy : r.x = r.y
 ·have h2 : (r.x == r.y) = true := by simpa using hxy
  refine ite_t h2 ?_
  intro t8
  refine Do.itemT (.inl (hG5 _ _ hg)) (by decide) (by decide) (i := 2) rfl rfl ?_
  refine Do.newListG (Nat.le_of_ble_eq_true rfl) ?_
  intro t9
  refine hKK ?_; exact Left.mk [] [] rfl rfl ⟨rfl, _, _, _, rfl, gadd_at, by simp, fun v hv => ⟨t3, .inl (List.mem_singleton.mp hv)⟩⟩
 ·have h2 : (r.x == r.y) = false := by simpa using hxy
  refine ite_f h2 ?_
  intro t8
  refine Do.itemT (.inl (hG5 _ _ hg)) (by decide) (by decide) (i := 2) rfl rfl ?_
  intro t9
  refine Do.itemT (.inl (hG5 _ _ hg)) (by decide) (by decide) (i := 3) rfl rfl ?_
  refine Do.newListG (Nat.le_of_ble_eq_true rfl) ?_
  intro t10
  refine hKK ?_; refine Left.mk [] [] rfl rfl ⟨rfl, _, _, _, rfl, gadd_at, by simp, fun v hv => ?_⟩
  simp only [List.mem_cons, List.not_mem_nil, or_false] at hv
  rcases hv with rfl | rfl
  ·exact ⟨t3, .inl rfl⟩
  ·exact ⟨t4, .inr rfl⟩
theorem used_out (B : Base w hB mg mb) (n : Nat) {r : Row} {v : Value} (hr : RowIn G v r) (hop : r.op = "out") : Calls w hB (n + 2) 334 [v] G [] (fun v G' fp' => fp' = [] ∧ (E3 fun a t k => (v = .ref a) ∧ G' a (lobj [.int r.x t] k))) := by
 obtain ⟨a, t1, t2, t3, t4, nn, rfl, hg⟩ := hr
 rw [hop] at hg
 refine start334 B _ ?_
 intro A env e cx o KK hKK
 refine Do.reS o tb334 60 ?_
 intro t5
 refine Do.itemT (.inl hg) (by decide) (by decide) (i := 0) rfl rfl ?_
 refine Do.callG ?_
 refine Do.gK o 0 320 ?_
 refine Do.callWith_none o (by kernel_rfl) ?_
 refine Do.byContract0 o (names_spec B n) ?_
 intro QM r5 G5 hG5 p5
 obtain ⟨b, k, tk, rfl, hb⟩ := p5
 have hg5 := hG5 _ _ hg
 refine Do.inT' (.inl hb) (by kernel_rfl) ?_
 refine if0 ?_
 intro t6
 refine Do.itemT (.inl hg5) (by decide) (by decide) (i := 0) rfl rfl ?_
 refine if0 ?_
 intro t7
 refine Do.itemT (.inl hg5) (by decide) (by decide) (i := 0) rfl rfl ?_
 refine if1 ?_
 refine if1 ?_
 intro t8
 refine Do.itemT (.inl hg5) (by decide) (by decide) (i := 2) rfl rfl ?_
 refine Do.newListG (Nat.le_of_ble_eq_true rfl) ?_
 intro t9
 refine hKK ?_; exact Left.mk [] [] rfl rfl ⟨rfl, _, _, _, rfl, gadd_at⟩
theorem used_none (B : Base w hB mg mb) (n : Nat) {r : Row} {v : Value} (hr : RowIn G v r) (hop : r.op = "const" ∨ r.op = "in") : Calls w hB (n + 2) 334 [v] G [] (fun v G' fp' => fp' = [] ∧ (E2 fun a k => (v = .ref a) ∧ G' a (lobj [] k))) := by
 obtain ⟨a, t1, t2, t3, t4, nn, rfl, hg⟩ := hr
 rcases hop with h | h
 ·rw [h] at hg
  refine start334 B _ ?_
  intro A env e cx o KK hKK
  refine Do.reS o tb334 60 ?_
  intro t5
  refine Do.itemT (.inl hg) (by decide) (by decide) (i := 0) rfl rfl ?_
  refine Do.callG ?_
  refine Do.gK o 0 320 ?_
  refine Do.callWith_none o (by kernel_rfl) ?_
  refine Do.byContract0 o (names_spec B n) ?_
  intro QM r5 G5 hG5 p5
  obtain ⟨b, k, tk, rfl, hb⟩ := p5
  have hg5 := hG5 _ _ hg
  refine Do.inT' (.inl hb) (by kernel_rfl) ?_
  refine if0 ?_
  intro t6
  refine Do.itemT (.inl hg5) (by decide) (by decide) (i := 0) rfl rfl ?_
  refine if0 ?_
  intro t7
  refine Do.itemT (.inl hg5) (by decide) (by decide) (i := 0) rfl rfl ?_
  refine if0 ?_
  refine if0 ?_
  refine Do.newListS (Nat.le_of_ble_eq_true rfl) ?_
  intro t8 t9
  refine hKK ?_; exact Left.mkF _ [] (List.append_nil _).symm rfl ⟨rfl, _, _, rfl, .inr (.head _)⟩
 ·rw [h] at hg
  refine start334 B _ ?_
  intro A env e cx o KK hKK
  refine Do.reS o tb334 60 ?_
  intro t5
  refine Do.itemT (.inl hg) (by decide) (by decide) (i := 0) rfl rfl ?_
  refine Do.callG ?_
  refine Do.gK o 0 320 ?_
  refine Do.callWith_none o (by kernel_rfl) ?_
  refine Do.byContract0 o (names_spec B n) ?_
  intro QM r5 G5 hG5 p5
  obtain ⟨b, k, tk, rfl, hb⟩ := p5
  have hg5 := hG5 _ _ hg
  refine Do.inT' (.inl hb) (by kernel_rfl) ?_
  refine if0 ?_
  intro t6
  refine Do.itemT (.inl hg5) (by decide) (by decide) (i := 0) rfl rfl ?_
  refine if0 ?_
  intro t7
  refine Do.itemT (.inl hg5) (by decide) (by decide) (i := 0) rfl rfl ?_
  refine if0 ?_
  refine if0 ?_
  refine Do.newListS (Nat.le_of_ble_eq_true rfl) ?_
  intro t8 t9
  refine hKK ?_; exact Left.mkF _ [] (List.append_nil _).symm rfl ⟨rfl, _, _, rfl, .inr (.head _)⟩
end
end Mine
end
section
namespace Mine
open PySem PySem.W PyProof.Rows PySem.Calls H
noncomputable abbrev PS (kd : Addr) (oK : PySem.Obj) : Value → Gh → Led → Prop := fun v _ fp' => fp' = [(kd, oK)] ∧ ∃ t, v = .str (S "") t
noncomputable def knownKvs (k : Nat) : List (Int × Value) := (List.range k).map fun (i : Nat) => ((i : Int), Value.bool true)
theorem known_at (k : Nat) (x : Int) : (valueAt (knownKvs k) x).isSome = decide (0 ≤ x ∧ x < k) := by
 unfold valueAt knownKvs
 rw [Option.isSome_map, Bool.eq_iff_iff, List.find?_isSome, decide_eq_true_eq]
 constructor
 ·rintro ⟨p, hp, e⟩
  obtain ⟨i, hi, rfl⟩ := List.mem_map.mp hp
  have hi' := List.mem_range.mp hi
  have e' : (i : Int) = x := of_decide_eq_true e
  lia
 ·rintro ⟨h0, h1⟩
  refine ⟨((x.toNat : Int), .bool true), List.mem_map.mpr ⟨x.toNat, List.mem_range.mpr (by lia), rfl⟩, ?_⟩
  simp; lia
section
variable {w : World} {hB : Heap} {mg mb : Str → Option Value} {G : Gh}
theorem anyOK {op : String} (h : op ∈ "const" :: "in" :: "out" :: ops2) (t t1 t2 t3 t4 : Tok) : (!([.str (S "const") t1, .str (S "in") t2, .str (S "copy") t3, .str (S "out") t4].any (eqv (.str (S op) t)) || ops2.any fun o => S o == S op)) = false := by
 apply allF (x := op) h
 kernel_rfl
noncomputable abbrev Uses (w : World) (hB : Heap) (n : Nat) (v : Value) (k : Nat) (G : Gh) : Prop := ∀ G', (∀ a o, G a o → G' a o) → Calls w hB (n + 2) 334 [v] G' [] (fun v G'' fp' => fp' = [] ∧ E3 fun a us kk => A4 (v = .ref a) (G'' a (lobj us kk)) (us.length ≤ 2) (∀ v ∈ us, E2 fun z t => A3 (v = .int z t) (0 ≤ z) (z < k)))
theorem problem_core (B : Base w hB mg mb) (n : Nat) {r : Row} {v : Value} {k : Nat} {kd : Addr} {oK : Obj} (hr : RowIn G v r) (hK : oK.IsDictOf (iKd w) (knownKvs k)) (hop : r.op ∈ "const" :: "in" :: "out" :: ops2) (hd0 : 0 ≤ r.d)
  (hIn : (S r.op == Str.ofString "in") = true → 0 ≤ r.x) (hC : (S r.op == Str.ofString "const") = true → -2147483648 ≤ r.x ∧ r.x < 4294967296) (hO : (S r.op != Str.ofString "out") = true → r.d = k) (hus : Uses w hB n v k G) :
  Calls w hB (n + 3) 341 [v, .ref kd] G [(kd, oK)] (PS kd oK) := by
 obtain ⟨a, t1, t2, t3, t4, nn, rfl, hg⟩ := hr
 refine start341 B _ _ ?_
 intro A env e cx o KK hKK
 refine Do.reS1 o tb341 30 ?_
 refine Do.callG ?_
 refine Do.builtinK o 0 rfl (v := (.builtin "len")) (by kernel_rfl) (by kernel_rfl) (by kernel_rfl) ?_
 refine Do.callWith_b1 ?_
 refine Do.reL o tb341 30 ?_
 refine Do.lenT (.inl hg) (by first | exact Nat.le_of_ble_eq_true rfl | assumption | lia | (simp; lia)) ?_
 intro t5
 refine if0 ?_
 intro t6
 refine Do.itemT (.inl hg) (by decide) (by decide) (i := 0) rfl rfl ?_
 intro t7 t8 t9 t10
 refine Do.newTupG (Nat.le_of_ble_eq_true rfl) ?_
 intro t11
 refine Do.callG ?_
 refine Do.gK o 1 320 ?_
 refine Do.callWith_none o (by kernel_rfl) ?_
 refine Do.byContract0 o (names_spec B _) ?_
 intro QM r5 G5 hG5 p5
 obtain ⟨b, kb, tk, rfl, hb⟩ := p5
 have hg5 := hG5 _ _ (.inl hg)
 refine Do.addT (.inl (hG5 _ _ gadd_at)) (.inl hb) (List.cons_ne_nil _ _) (List.cons_ne_nil _ _) (by first | exact Nat.le_of_ble_eq_true rfl | assumption | lia | (simp; lia)) ?_
 intro t12
 refine Do.notInT' (.inl gadd_at) (by kernel_rfl) ?_
 refine ite_f (by rw [List.any_append, any_ops2]; exact anyOK hop _ _ _ _ _) ?_
 refine if0 ?_
 refine Do.reS1 o tb341 30 ?_
 refine Do.forTp o (by intro _; rfl) ?_
 refine Do.reE o tb341 30 ?_
 refine Do.slice ?_
 refine Do.part_some ?_
 refine Do.const_int ?_
 intro t13
 refine Do.part_none ?_
 intro t14
 refine Do.sliceFrom (i := 1) (.inl (.inl (.inl hg5))) (.inl gadd_at) (by decide) (by first | exact Nat.le_of_ble_eq_true rfl | assumption | lia | (simp; lia)) (by first | exact Nat.le_of_ble_eq_true rfl | assumption | lia | (simp; lia)) ?_
 intro t15
 refine forT_mk (fun i σ' => E2 fun u G' => A3 (σ' = ⟨[some (.ref a), some (.ref kd), u, none], G', [(kd, oK)]⟩) (∀ a o, gadd (gadd G5 t12 _) t14 _ a o → G' a o) (G' t15 _)) (by rintro i σ' ⟨u, G', rfl, _, h⟩; exact .inl h) ⟨none, _, rfl, fun _ _ x => .inl x, gadd_at⟩ ?_ ?_
 ·rintro i vv p KL hKL QM hQM σ' hv ⟨u, G', rfl, hG2, h16⟩
  obtain ⟨z, tz, rfl⟩ : ∃ z tz, vv = .int z tz := by
   match i, hv with
   | 0, hv => exact ⟨_, _, (Option.some.inj hv).symm⟩
   | 1, hv => exact ⟨_, _, (Option.some.inj hv).symm⟩
   | 2, hv => exact ⟨_, _, (Option.some.inj hv).symm⟩
   | i + 3, hv => simp at hv
  refine hQM _ ?_
  have o2 := o.hide p
  refine Do.assignName o2 2 rfl (by first | exact Nat.le_of_ble_eq_true rfl | lia) ?_
  refine Do.reS1 o2 tb341 30 ?_
  refine Do.callG ?_
  refine Do.builtinK o2 2 rfl (v := (.builtin "isinstance")) (by kernel_rfl) (by kernel_rfl) (by kernel_rfl) ?_
  refine Do.callWith_b1 ?_
  refine Do.reL o2 tb341 30 ?_
  refine Do.isInt ?_
  refine if0 ?_
  refine Do.callG ?_
  refine Do.builtinK o2 2 rfl (v := (.builtin "isinstance")) (by kernel_rfl) (by kernel_rfl) (by kernel_rfl) ?_
  refine Do.callWith_b1 ?_
  refine Do.reL o2 tb341 30 ?_
  refine Do.isBool ?_
  refine if0 ?_
  refine if0 ?_
  refine hKL ?_; exact ⟨some (.int z tz), _, rfl, hG2, h16⟩
 ·rintro QM hQM σ' ⟨u, G', rfl, hG2, h16⟩
  refine hQM _ ?_
  have hg6 := hG2 _ _ (.inl (.inl hg5))
  have rest5 : Do cx ⟨[some (.ref a), some (.ref kd), u, none], G', [(kd, oK)]⟩ (execs (tlS (tlS (tlS (tlS (tlS ((dF 34).2.1)))))) env) KK := by
   refine Do.reS1 o tb341 30 ?_
   refine Do.forLp o (by intro _; rfl) ?_
   refine Do.reE o tb341 30 ?_
   refine Do.byContract0 o (hus _ fun _ _ x => hG2 _ _ (.inl (.inl (hG5 _ _ (.inl x))))) ?_
   intro QM r6 G6 hG6 p6
   obtain ⟨bu, us, ku, rfl, hbu, hul, hus⟩ := p6
   refine forL_mk (a := bu) (vs := us) (n := ku) (fun i σ' => E3 fun u u2 G' => (σ' = ⟨[some (.ref a), some (.ref kd), u, u2], G', [(kd, oK)]⟩) ∧ (∀ a o, G6 a o → G' a o)) (by rintro i σ' ⟨u, u2, G', rfl, h⟩; exact .inl (h _ _ hbu)) ⟨_, _, _, rfl, fun _ _ x => x⟩ ?_ ?_
   ·rintro i vv p KL hKL QM hQM σ' hv ⟨u, u2, G', rfl, hG7⟩
    obtain ⟨z, tz, rfl, hz0, hz1⟩ := hus vv (List.mem_of_getElem? hv)
    refine hQM _ ?_
    have hzi : decide (0 ≤ z ∧ z < k) = true := decide_eq_true ⟨hz0, hz1⟩
    have o2 := o.hide p
    refine Do.assignName o2 3 rfl (by first | exact Nat.le_of_ble_eq_true rfl | lia) ?_
    refine Do.reS1 o2 tb341 30 ?_
    refine Do.dnotIn o2 (mm 0 rfl) hK (intKind_is _ _ _ _) ?_
    rw [known_at, hzi]
    refine if0 ?_
    refine hKL ?_; exact ⟨u, some (.int z tz), _, rfl, hG7⟩
   ·rintro QM hQM σ' ⟨u, u2, G', rfl, hG7⟩
    refine hQM _ ?_
    refine Do.reS1 o tb341 30 ?_
    intro t16
    refine hKK ?_; exact Left.mk [] [(kd, oK)] rfl rfl ⟨rfl, _, rfl⟩
  have rest4 : Do cx ⟨[some (.ref a), some (.ref kd), u, none], G', [(kd, oK)]⟩ (execs (tlS (tlS (tlS (tlS ((dF 34).2.1))))) env) KK := by
   refine Do.reS1 o tb341 30 ?_
   intro t19
   refine Do.itemT (.inl hg6) (by decide) (by decide) (i := 0) rfl rfl ?_
   refine ⟨fun hb => ?_, fun hb => if0 rest5⟩
   intro t21
   refine Do.itemT (.inl hg6) (by decide) (by decide) (i := 1) rfl rfl ?_
   refine Do.din o (mm 0 rfl) hK (intKind_is _ _ _ _) ?_
   rw [known_at, decide_eq_false (by have := hO hb; lia)]
   exact if0 (if0 rest5)
  have rest3 : Do cx ⟨[some (.ref a), some (.ref kd), u, none], G', [(kd, oK)]⟩ (execs (tlS (tlS (tlS ((dF 34).2.1)))) env) KK := by
   refine Do.reS1 o tb341 30 ?_
   intro t18
   refine Do.itemT (.inl hg6) (by decide) (by decide) (i := 0) rfl rfl ?_
   refine ⟨fun hb => ?_, fun hb => if0 rest4⟩
   intro t19
   refine Do.itemT (.inl hg6) (by decide) (by decide) (i := 2) rfl rfl ?_
   refine Do.unary ?_
   refine Do.const_int ?_
   intro t20
   refine Do.neg ?_
   intro t21
   have hx := hC hb
   refine ite_f (decide_eq_false (by lia)) ?_
   intro t22
   refine Do.itemT (.inl hg6) (by decide) (by decide) (i := 2) rfl rfl ?_
   refine Do.globalK o 5 rfl (v := (Value.int 4294967296 659)) (by kernel_rfl) ?_
   refine ite_f (decide_eq_false (by lia)) ?_
   exact if0 (if0 rest4)
  refine Do.reS1 o tb341 30 ?_
  intro t16
  refine Do.itemT (.inl hg6) (by decide) (by decide) (i := 1) rfl rfl ?_
  refine ite_f (decide_eq_false (by lia)) ?_
  intro t17
  refine Do.itemT (.inl hg6) (by decide) (by decide) (i := 0) rfl rfl ?_
  refine ⟨fun hb => ?_, fun hb => if0 (if0 rest3)⟩
  intro t18
  refine Do.itemT (.inl hg6) (by decide) (by decide) (i := 2) rfl rfl ?_
  refine ite_f (decide_eq_false (by have := hIn hb; lia)) ?_
  exact if0 (if0 rest3)
theorem problem_two (B : Base w hB mg mb) (n : Nat) {r : Row} {v : Value} {k : Nat} {kd : Addr} {oK : Obj} (hr : RowIn G v r) (hK : oK.IsDictOf (iKd w) (knownKvs k)) (hd : r.d = k) (hop : r.op ∈ ops2) (hx0 : 0 ≤ r.x) (hx1 : r.x < k) (hy0 : 0 ≤ r.y) (hy1 : r.y < k) :
  Calls w hB (n + 3) 341 [v, .ref kd] G [(kd, oK)] (PS kd oK) :=
 have hm := ops2_not hop
 problem_core B n hr hK (.tail _ (.tail _ (.tail _ hop))) (by lia) (fun h => absurd ((hm "in" (by simp)).1.symm.trans h) Bool.false_ne_true) (fun h => absurd ((hm "const" (by simp)).1.symm.trans h) Bool.false_ne_true) (fun _ => hd) fun G' hG =>
  (used_two B n (hr.mono hG) hop).post fun v G'' fp' ⟨h1, a, us, kk, h2, h3, h4, h5⟩ => ⟨h1, a, us, kk, h2, h3, h4, fun v hv => by
   obtain ⟨t, rfl | rfl⟩ := h5 v hv
   ·exact ⟨_, _, rfl, hx0, hx1⟩
   ·exact ⟨_, _, rfl, hy0, hy1⟩⟩
end
end Mine
end
section
namespace Mine
open PySem PySem.W PyProof.Rows PySem.Calls H
section
variable {w : World} {hB : Heap} {mg mb : Str → Option Value} {G : Gh}
theorem problem_const (B : Base w hB mg mb) (n : Nat) {r : Row} {v : Value} {k : Nat} {kd : Addr} {oK : Obj} (hr : RowIn G v r) (hK : oK.IsDictOf (iKd w) (knownKvs k)) (hop : r.op = "const") (hd : r.d = k) (hx0 : -2147483648 ≤ r.x) (hx1 : r.x < 4294967296) :
  Calls w hB (n + 3) 341 [v, .ref kd] G [(kd, oK)] (PS kd oK) := by
 refine problem_core B n hr hK (by rw [hop]; exact .head _) (by lia) (fun h => by rw [hop] at h; exact Bool.noConfusion ((by kernel_rfl : (S "const" == Str.ofString "in") = false).symm.trans h)) (fun _ => ⟨hx0, hx1⟩) (fun _ => hd) fun G' hG => (used_none B n (hr.mono hG) (.inl hop)).post fun v G'' fp' ⟨h1, a, kk, h2, h3⟩ => ⟨h1, a, [], kk, h2, h3, Nat.zero_le _, nofun⟩
theorem problem_in (B : Base w hB mg mb) (n : Nat) {r : Row} {v : Value} {k : Nat} {kd : Addr} {oK : Obj} (hr : RowIn G v r) (hK : oK.IsDictOf (iKd w) (knownKvs k)) (hop : r.op = "in") (hd : r.d = k) (hx0 : 0 ≤ r.x) :
  Calls w hB (n + 3) 341 [v, .ref kd] G [(kd, oK)] (PS kd oK) := by
 refine problem_core B n hr hK (by rw [hop]; exact .tail _ (.head _)) (by lia) (fun _ => hx0) (fun h => by rw [hop] at h; exact Bool.noConfusion ((by kernel_rfl : (S "in" == Str.ofString "const") = false).symm.trans h)) (fun _ => hd) fun G' hG => (used_none B n (hr.mono hG) (.inr hop)).post fun v G'' fp' ⟨h1, a, kk, h2, h3⟩ => ⟨h1, a, [], kk, h2, h3, Nat.zero_le _, nofun⟩
theorem problem_out (B : Base w hB mg mb) (n : Nat) {r : Row} {v : Value} {k : Nat} {kd : Addr} {oK : Obj} (hr : RowIn G v r) (hK : oK.IsDictOf (iKd w) (knownKvs k)) (hop : r.op = "out") (hd0 : 0 ≤ r.d) (hx0 : 0 ≤ r.x) (hx1 : r.x < k) :
  Calls w hB (n + 3) 341 [v, .ref kd] G [(kd, oK)] (PS kd oK) := by
 refine problem_core B n hr hK (by rw [hop]; exact .tail _ (.tail _ (.head _))) hd0 (fun h => by rw [hop] at h; exact Bool.noConfusion ((by kernel_rfl : (S "out" == Str.ofString "in") = false).symm.trans h)) (fun h => by rw [hop] at h; exact Bool.noConfusion ((by kernel_rfl : (S "out" == Str.ofString "const") = false).symm.trans h)) (fun h => by rw [hop] at h; exact Bool.noConfusion ((by kernel_rfl : (S "out" != Str.ofString "out") = false).symm.trans h)) fun G' hG => (used_out B n (hr.mono hG) hop).post fun v G'' fp' ⟨h1, a, t, kk, h2, h3⟩ => ⟨h1, a, _, kk, h2, h3, Nat.le_of_ble_eq_true rfl, fun v hv => by rw [List.mem_singleton.mp hv]; exact ⟨_, _, rfl, hx0, hx1⟩⟩
end
end Mine
end
section
namespace Mine
open PySem PySem.W PyProof.Rows PySem.Calls H
section
variable {w : World} {hB : Heap} {mg mb : Str → Option Value} {G : Gh}
theorem empty_dict0 {w : World} {T : Type} [DecidableEq T] {knd : KeyKind H.rw_.prog w T} : emptyDict.IsDictOf knd [] := by
 have h := Heap.DictOf.new (knd := knd) h00
 obtain ⟨o, ho, hd⟩ := Heap.dictOf_iff.mp h
 rw [Heap.get?_push_size _ rfl] at ho
 cases ho
 exact hd
theorem problem_body (B : Base w hB mg mb) (n : Nat) {r : Row} {v : Value} {k : Nat} {kd : Addr} {oK : Obj} (hr : RowIn G v r) (hK : oK.IsDictOf (iKd w) (knownKvs k)) (h : BodyOK k r) :
  Calls w hB (n + 3) 341 [v, .ref kd] G [(kd, oK)] (PS kd oK) := by
 rcases h.kind with ⟨h1, h2, h3⟩ | ⟨h1, h2⟩ | ⟨h1, h2, h3, h4, h5⟩
 ·exact problem_const B n hr hK h1 h.d h2 h3
 ·exact problem_in B n hr hK h1 h.d h2
 ·exact problem_two B n hr hK h.d h1 h2 h3 h4 h5
theorem BodyOK.notOut {k : Nat} {r : Row} (h : BodyOK k r) : (S r.op == Str.ofString "out") = false := by
 rcases h.kind with ⟨h1, _⟩ | ⟨h1, _⟩ | ⟨h1, _⟩
 ·rw [h1]; kernel_rfl
 ·rw [h1]; kernel_rfl
 ·exact (ops2_not h1 "out" (by simp)).1
theorem known_succ (i : Nat) : stored (knownKvs i) (i : Int) (.bool true) = knownKvs (i + 1) := by
 have h0 : valueAt (knownKvs i) (i : Int) = none := by
  have := known_at i (i : Int)
  rw [decide_eq_false (by lia)] at this
  simpa using this
 rw [stored_absent h0, knownKvs, knownKvs, List.range_succ, List.map_append]
 rfl
theorem problems_spec (B : Base w hB mg mb) (n : Nat) {rows : List Row} {m : Nat} {ra : Addr} {vs : List Value} {nr : Nat} (hra : G ra (lobj vs nr)) (hv : All2 (RowIn G) vs rows) (h : RowsOK rows m) (hz : rows.length ≤ 1000000) :
  Calls w hB (n + 4) 348 [.ref ra] G [] (fun v G' fp' => fp' = [] ∧ (E2 fun a k => (v = .ref a) ∧ G' a (lobj [] k))) := by
 refine start348 B _ ?_
 intro A env e cx o KK hKK
 have hlen : vs.length ≤ 1000000 := by rw [hv.length]; exact hz
 refine Do.reS o tb348 60 ?_
 refine Do.newDict ?_
 intro t1
 refine Do.newListS (Nat.le_of_ble_eq_true rfl) ?_
 intro t2 t3
 refine Do.forRp o (by intro _; rfl) ?_
 refine Do.callG ?_
 refine Do.builtinK o 0 rfl (v := (.type "range")) (by kernel_rfl) (by kernel_rfl) (by kernel_rfl) ?_
 refine Do.callWith_t1 ?_
 refine Do.reL o tb348 30 ?_
 refine Do.callG ?_
 refine Do.builtinK o 1 rfl (v := (.builtin "len")) (by kernel_rfl) (by kernel_rfl) (by kernel_rfl) ?_
 refine Do.callWith_b1 ?_
 refine Do.reL o tb348 30 ?_
 refine Do.lenL (.inl hra) (by first | exact Nat.le_of_ble_eq_true rfl | assumption | lia | (simp; lia)) ?_
 intro t4
 refine Do.range1 ?_
 intro t5 t6 t7
 refine forR_mk (fun i σ' => (E3 fun u1 u2 oK => A4 (σ'.vs = [some (.ref ra), some (.ref t1), some (.ref t2), u1, u2]) (∀ a o, G a o → σ'.G a o) (σ'.mu = [(t2, lobj []), (t1, oK)]) (oK.IsDictOf (iKd w) (knownKvs (min i m))))) (.inl gadd_at) (by lia) (by lia) ?_ ?_ ?_
 ·exact ⟨none, none, emptyDict, rfl, fun _ _ x => .inl x, rfl, by simpa [knownKvs] using empty_dict0 (knd := iKd w)⟩
 ·rintro i ti p KL hKL QM hQM ⟨vs', G', mu'⟩ hi ⟨u1, u2, oK, e1, hG3, e2, hK⟩
  dsimp only at e1 hG3 e2
  subst e1 e2
  have o2 := o.hide p
  have hil : i < vs.length := by lia
  have hvi : vs[((i : Int)).toNat]? = some vs[i] := by rw [Int.toNat_natCast]; exact List.getElem?_eq_getElem hil
  obtain ⟨r, hr, hri⟩ := hv.get (List.getElem?_eq_getElem hil)
  refine hQM _ ?_
  generalize vs[i] = v at hvi hri
  have hra3 := hG3 _ _ hra
  refine Do.assignName o2 3 rfl (by first | exact Nat.le_of_ble_eq_true rfl | lia) ?_
  refine Do.reS o2 tb348 60 ?_
  refine Do.itemL (.inl hra3) (by lia) (by lia) hvi ?_
  by_cases hm : i < m
  ·have hb := h.body i r hm hr
   rw [Nat.min_eq_left (Nat.le_of_lt hm)] at hK
   refine Do.byContract o2 (problem_body B n (hri.mono hG3) hK hb) (ex := [_]) rfl ?_
   intro QM r4 G4 fp4 hG4 p4
   obtain ⟨rfl, tk4, rfl⟩ := p4
   have hra4 := hG4 _ _ hra3
   refine if0 ?_
   refine Do.itemL (.inl hra4) (by lia) (by lia) hvi ?_
   refine Do.byContract0 o2 (defined_spec B _ ((hri.mono hG3).mono hG4) (.inr hb.notOut)) ?_
   intro QM r5 G5 hG5 p5
   obtain ⟨tk5, rfl⟩ := p5
   have hra5 := hG5 _ _ hra4
   have hno : r.op ≠ "out" := fun e => by have := hb.notOut; rw [e] at this; simp at this
   rw [if_neg hno]
   have hd0 : decide (r.d ≥ 0) = true := decide_eq_true (by have := hb.d; lia)
   refine ite_t hd0 ?_
   refine Do.itemL (.inl hra5) (by lia) (by lia) hvi ?_
   refine Do.byContract0 o2 (defined_spec B _ (((hri.mono hG3).mono hG4).mono hG5) (.inr hb.notOut)) ?_
   intro QM r6 G6 hG6 p6
   obtain ⟨tk6, rfl⟩ := p6
   rw [if_neg hno]
   refine Do.dset (ex := [_]) (o := oK) rfl hK (intKind_is _ _ _ _) (by simp [knownKvs]; lia) fun oK' hK' => ?_
   rw [hb.d, known_succ] at hK'
   refine hKL ?_; refine ⟨some (.int i ti), some (.str (S "") tk4), oK', rfl, fun _ _ x => hG6 _ _ (hG5 _ _ (hG4 _ _ (hG3 _ _ x))), rfl, ?_⟩
   rw [Nat.min_eq_left (by omega)]; exact hK'
  ·have hb := h.tail i r (by lia) hr
   rw [Nat.min_eq_right (by lia)] at hK
   refine Do.byContract o2 (problem_out B n (hri.mono hG3) hK hb.op hb.d hb.x0 hb.x1) (ex := [_]) rfl ?_
   intro QM r4 G4 fp4 hG4 p4
   obtain ⟨rfl, tk4, rfl⟩ := p4
   have hra4 := hG4 _ _ hra3
   refine if0 ?_
   refine Do.itemL (.inl hra4) (by lia) (by lia) hvi ?_
   refine Do.byContract0 o2 (defined_spec B _ ((hri.mono hG3).mono hG4) (.inl hb.op)) ?_
   intro QM r5 G5 hG5 p5
   obtain ⟨tk5, rfl⟩ := p5
   rw [if_pos hb.op]
   refine if0 ?_
   refine hKL ?_; refine ⟨some (.int i ti), some (.str (S "") tk4), oK, rfl, fun _ _ x => hG5 _ _ (hG4 _ _ (hG3 _ _ x)), rfl, ?_⟩
   rw [Nat.min_eq_right (by omega)]; exact hK
 ·rintro QM hQM ⟨vs', G', mu'⟩ ⟨u1, u2, oK, e1, hG3, e2, hK⟩
  dsimp only at e1 hG3 e2
  subst e1 e2
  refine hQM _ ?_
  refine hKK ?_; exact Left.mkF _ [] (List.append_nil _).symm rfl ⟨rfl, _, _, rfl, .inr (.head _)⟩
end
end Mine
end
section
set_option maxHeartbeats 1000000
namespace Mine
open PySem PySem.W PyProof.Rows PySem.Calls H
noncomputable def sgn (x : Int) : Int := if x ≥ 2147483648 then x - 4294967296 else x
noncomputable abbrev W32 : Int := 4294967296
noncomputable def opVal (op : String) (x y : Int) : Int :=
 if op = "add" then (x + y).fmod W32
 else if op = "sub" then (x - y).fmod W32
 else if op = "mul" then (x * y).fmod W32
 else if op = "and" then Builtin.bitAnd x y
 else if op = "or" then Builtin.bitOr x y
 else if op = "xor" then Builtin.bitXor x y
 else if op = "shl" then (x * 2 ^ (y.fmod 32).toNat).fmod W32
 else if op = "asr" then ((sgn x).fdiv (2 ^ (y.fmod 32).toNat)).fmod W32
 else if op = "ror" then (Builtin.bitOr (x.fdiv (2 ^ (y.fmod 32).toNat)) (x * 2 ^ (32 - y.fmod 32).toNat)).fmod W32
 else if op = "less" then (if sgn x < sgn y then 1 else 0)
 else (if x = y then 1 else 0)
theorem intBits_le64 {a : Int} (h : a.natAbs < 2 ^ 64) : Builtin.Int.intBits a ≤ 64 := intBits_le h
section
variable {w : World} {hB : Heap} {mg mb : Str → Option Value} {G : Gh}
theorem signed_spec (B : Base w hB mg mb) (n : Nat) (x : Int) (t : Tok) : Calls w hB (n + 1) 355 [.int x t] G [] (PI (sgn x)) := by
 refine start355 B _ ?_
 intro A env e cx o KK hKK
 by_cases h : x ≥ 2147483648
 ·have h1 : decide (x ≥ 2147483648) = true := decide_eq_true h
  refine Do.reS o tb355 60 ?_
  refine ite_t h1 ?_
  refine Do.globalK o 0 rfl (v := (Value.int 4294967296 659)) (by kernel_rfl) ?_
  intro t1
  refine hKK ?_; exact Left.mk [] [] rfl rfl ⟨rfl, _, by unfold sgn; rw [if_pos h]; rfl⟩
 ·have h1 : decide (x ≥ 2147483648) = false := decide_eq_false h
  refine Do.reS o tb355 60 ?_
  refine ite_f h1 ?_
  refine hKK ?_; exact Left.mk [] [] rfl rfl ⟨rfl, _, by unfold sgn; rw [if_neg h]; rfl⟩
theorem value_spec (B : Base w hB mg mb) (n : Nat) {op : String} (hop : op ∈ ops2) (t0 : Tok) (x : Int) (t1 : Tok) (y : Int) (t2 : Tok) (hx0 : 0 ≤ x) (hx1 : x < 4294967296) (hy0 : 0 ≤ y) (hy1 : y < 4294967296) :
  Calls w hB (n + 2) 362 [.str (S op) t0, .int x t1, .int y t2] G [] (PI (opVal op x y)) := by
 have m0 : 0 ≤ y.fmod 32 := Int.fmod_nonneg_of_pos _ (by decide)
 have m1 : y.fmod 32 < 32 := Int.fmod_lt_of_pos _ (by decide)
 have hxn : x.natAbs < 2 ^ 64 := by lia
 refine start362 B _ _ _ ?_
 intro A env e cx o KK hKK
 revert hKK
 apply each11 (x := op) hop
 ·intro hKK
  refine Do.reS o tb362 60 ?_
  refine if1 ?_
  intro t3
  refine Do.globalK o 0 rfl (v := (Value.int 4294967296 659)) (by kernel_rfl) ?_
  refine Do.mod (by decide) ?_
  intro t4
  refine hKK ?_; exact Left.mk [] [] rfl rfl ⟨rfl, _, rfl⟩
 ·intro hKK
  refine Do.reS o tb362 60 ?_
  refine if0 ?_
  refine if1 ?_
  intro t3
  refine Do.globalK o 0 rfl (v := (Value.int 4294967296 659)) (by kernel_rfl) ?_
  refine Do.mod (by decide) ?_
  intro t4
  refine hKK ?_; exact Left.mk [] [] rfl rfl ⟨rfl, _, rfl⟩
 ·intro hKK
  refine Do.reS o tb362 60 ?_
  refine if0 ?_
  refine if0 ?_
  refine if1 ?_
  refine Do.mul (.of_left (intBits_le64 hxn)) fun t9 => ?_
  refine Do.globalK o 0 rfl (v := (Value.int 4294967296 659)) (by kernel_rfl) ?_
  refine Do.mod (by decide) ?_
  intro t3
  refine hKK ?_; exact Left.mk [] [] rfl rfl ⟨rfl, _, rfl⟩
 ·intro hKK
  refine Do.reS o tb362 60 ?_
  refine if0 ?_
  refine if0 ?_
  refine if0 ?_
  refine if1 ?_
  refine Do.and ?_
  intro t3
  refine hKK ?_; exact Left.mk [] [] rfl rfl ⟨rfl, _, rfl⟩
 ·intro hKK
  refine Do.reS o tb362 60 ?_
  refine if0 ?_
  refine if0 ?_
  refine if0 ?_
  refine if0 ?_
  refine if1 ?_
  refine Do.or ?_
  intro t3
  refine hKK ?_; exact Left.mk [] [] rfl rfl ⟨rfl, _, rfl⟩
 ·intro hKK
  refine Do.reS o tb362 60 ?_
  refine if0 ?_
  refine if0 ?_
  refine if0 ?_
  refine if0 ?_
  refine if0 ?_
  refine if1 ?_
  refine Do.xor ?_
  intro t3
  refine hKK ?_; exact Left.mk [] [] rfl rfl ⟨rfl, _, rfl⟩
 ·intro hKK
  refine Do.reS o tb362 60 ?_
  refine if0 ?_
  refine if0 ?_
  refine if0 ?_
  refine if0 ?_
  refine if0 ?_
  refine if0 ?_
  refine if1 ?_
  intro t3
  refine Do.mod (by decide) ?_
  intro t4
  refine Do.shl m0 (by lia) hxn fun t9 => ?_
  refine Do.globalK o 0 rfl (v := (Value.int 4294967296 659)) (by kernel_rfl) ?_
  refine Do.mod (by decide) ?_
  intro t5
  refine hKK ?_; exact Left.mk [] [] rfl rfl ⟨rfl, _, rfl⟩
 ·intro hKK
  refine Do.reS o tb362 60 ?_
  refine if0 ?_
  refine if0 ?_
  refine if0 ?_
  refine if0 ?_
  refine if0 ?_
  refine if0 ?_
  refine if0 ?_
  refine if1 ?_
  refine Do.byContract0 o (signed_spec B _ x t1) ?_
  intro QM r5 G5 hG5 p5
  obtain ⟨tk5, rfl⟩ := p5
  intro t3
  refine Do.mod (by decide) ?_
  intro t4
  refine Do.shr m0 fun t9 => ?_
  refine Do.globalK o 0 rfl (v := (Value.int 4294967296 659)) (by kernel_rfl) ?_
  refine Do.mod (by decide) ?_
  intro t5
  refine hKK ?_; exact Left.mk [] [] rfl rfl ⟨rfl, _, rfl⟩
 ·intro hKK
  refine Do.reS o tb362 60 ?_
  refine if0 ?_
  refine if0 ?_
  refine if0 ?_
  refine if0 ?_
  refine if0 ?_
  refine if0 ?_
  refine if0 ?_
  refine if0 ?_
  refine if1 ?_
  intro t3
  refine Do.mod (by decide) ?_
  intro t4
  refine Do.shr m0 fun t9 => ?_
  intro t5 t6
  refine Do.mod (by decide) ?_
  intro t7 t8
  refine Do.shl (by lia) (by lia) hxn fun t10 => ?_
  refine Do.or ?_
  intro t11
  refine Do.globalK o 0 rfl (v := (Value.int 4294967296 659)) (by kernel_rfl) ?_
  refine Do.mod (by decide) ?_
  intro t12
  refine hKK ?_; exact Left.mk [] [] rfl rfl ⟨rfl, _, rfl⟩
 ·intro hKK
  refine Do.reS o tb362 60 ?_
  refine if0 ?_
  refine if0 ?_
  refine if0 ?_
  refine if0 ?_
  refine if0 ?_
  refine if0 ?_
  refine if0 ?_
  refine if0 ?_
  refine if0 ?_
  refine if1 ?_
  refine Do.byContract0 o (signed_spec B _ x t1) ?_
  intro QM r5 G5 hG5 p5
  obtain ⟨tk5, rfl⟩ := p5
  refine Do.byContract0 o (signed_spec B _ y t2) ?_
  intro QM r6 G6 hG6 p6
  obtain ⟨tk6, rfl⟩ := p6
  by_cases h : sgn x < sgn y
  ·have h1 : decide (sgn x < sgn y) = true := decide_eq_true h
   refine ite_t h1 ?_
   intro t3
   refine hKK ?_; exact Left.mk [] [] rfl rfl ⟨rfl, _, by simp [opVal, h]; rfl⟩
  ·have h1 : decide (sgn x < sgn y) = false := decide_eq_false h
   refine ite_f h1 ?_
   intro t3
   refine hKK ?_; exact Left.mk [] [] rfl rfl ⟨rfl, _, by simp [opVal, h]; rfl⟩
 ·intro hKK
  by_cases h : x = y
  ·have h1 : (x == y) = true := by simpa using h
   refine Do.reS o tb362 60 ?_
   refine if0 ?_
   refine if0 ?_
   refine if0 ?_
   refine if0 ?_
   refine if0 ?_
   refine if0 ?_
   refine if0 ?_
   refine if0 ?_
   refine if0 ?_
   refine if0 ?_
   refine ite_t h1 ?_
   intro t3
   refine hKK ?_; exact Left.mk [] [] rfl rfl ⟨rfl, _, by simp [opVal, h]; rfl⟩
  ·have h1 : (x == y) = false := by simpa using h
   refine Do.reS o tb362 60 ?_
   refine if0 ?_
   refine if0 ?_
   refine if0 ?_
   refine if0 ?_
   refine if0 ?_
   refine if0 ?_
   refine if0 ?_
   refine if0 ?_
   refine if0 ?_
   refine if0 ?_
   refine ite_f h1 ?_
   intro t3
   refine hKK ?_; exact Left.mk [] [] rfl rfl ⟨rfl, _, by simp [opVal, h]; rfl⟩
end
end Mine
end
section
namespace Mine
open PySem PySem.W PyProof.Rows
theorem bitNot2 (x : Int) : Builtin.bitNot (Builtin.bitNot x) = x := by unfold Builtin.bitNot; lia
theorem bitOr_pp {x y : Int} (hx : 0 ≤ x) (hy : 0 ≤ y) : Builtin.bitOr x y = ((x.toNat ||| y.toNat : Nat) : Int) := by
 unfold Builtin.bitOr
 rw [bitAnd_nn (by unfold Builtin.bitNot; lia) (by unfold Builtin.bitNot; lia), bitNot2, bitNot2, bitNot2]
theorem xor_add (a : Nat) : ∀ b, (a ^^^ b) + 2 * (a &&& b) = a + b := by
 induction a using Nat.strongRecOn with
 | ind a ih =>
  intro b
  by_cases ha : a = 0
  ·subst ha; simp
  ·have h := ih (a / 2) (by lia) (b / 2)
   have h1 := @Nat.xor_div_two a b
   have h2 := @Nat.and_div_two a b
   have h3 := @Nat.xor_mod_two_eq_one a b
   have h4 := @Nat.and_mod_two_eq_one a b
   rw [← h1, ← h2] at h
   lia
theorem bitXor_pp {x y : Int} (hx : 0 ≤ x) (hy : 0 ≤ y) : Builtin.bitXor x y = ((x.toNat ^^^ y.toNat : Nat) : Int) := by
 unfold Builtin.bitXor
 rw [bitOr_and, bitAnd_pp hx hy]
 have := xor_add x.toNat y.toNat
 lia
noncomputable def InW (x : Int) : Prop := 0 ≤ x ∧ x < 4294967296
theorem inW_fmod (x : Int) : InW (x.fmod W32) := ⟨Int.fmod_nonneg_of_pos _ (by decide), Int.fmod_lt_of_pos _ (by decide)⟩
theorem ite_in {c : Prop} [Decidable c] {a b : Int} (h1 : InW a) (h2 : InW b) : InW (if c then a else b) := by
 by_cases h : c
 ·rw [if_pos h]; exact h1
 ·rw [if_neg h]; exact h2
theorem opVal_in {op : String} {x y : Int} (hx : InW x) (hy : InW y) : InW (opVal op x y) := by
 have ex : x.toNat < 2 ^ 32 := by have := hx.2; have := hx.1; lia
 have ey : y.toNat < 2 ^ 32 := by have := hy.2; have := hy.1; lia
 refine ite_in (inW_fmod _) (ite_in (inW_fmod _) (ite_in (inW_fmod _) (ite_in ?_ (ite_in ?_ (ite_in ?_ (ite_in (inW_fmod _) (ite_in (inW_fmod _) (ite_in (inW_fmod _) (ite_in ?_ ?_)))))))))
 ·rw [bitAnd_pp hx.1 hy.1]
  have := Nat.and_lt_two_pow x.toNat ey
  exact ⟨by lia, by lia⟩
 ·rw [bitOr_pp hx.1 hy.1]
  have := Nat.or_lt_two_pow ex ey
  exact ⟨by lia, by lia⟩
 ·rw [bitXor_pp hx.1 hy.1]
  have := Nat.xor_lt_two_pow ex ey
  exact ⟨by lia, by lia⟩
 ·exact ite_in ⟨by decide, by decide⟩ ⟨by decide, by decide⟩
 ·exact ite_in ⟨by decide, by decide⟩ ⟨by decide, by decide⟩
noncomputable def rowVal (ins vs : List Int) (r : Row) : Int :=
 if r.op = "const" then r.x.fmod W32
 else if r.op = "in" then (if r.x < ins.length then (ins.getD r.x.toNat 0).fmod W32 else 0)
 else opVal r.op (vs.getD r.x.toNat 0) (vs.getD r.y.toNat 0)
noncomputable def evalRows (ins : List Int) : List Int → List Row → List Int
 | vs, [] => vs
 | vs, r :: rs => evalRows ins (vs ++ [rowVal ins vs r]) rs
theorem evalRows_snoc (ins : List Int) : ∀ (rs : List Row) (vs : List Int) (r : Row), evalRows ins vs (rs ++ [r]) = evalRows ins vs rs ++ [rowVal ins (evalRows ins vs rs) r]
 | [], vs, r => rfl
 | q :: rs, vs, r => by simp only [List.cons_append, evalRows, evalRows_snoc ins rs]
theorem evalRows_len (ins : List Int) : ∀ (rs : List Row) (vs : List Int), (evalRows ins vs rs).length = vs.length + rs.length
 | [], vs => rfl
 | q :: rs, vs => by
  show (evalRows ins (vs ++ [rowVal ins vs q]) rs).length = _
  rw [evalRows_len ins rs, List.length_append, List.length_cons]; simp; lia
theorem getD_in {vs : List Int} (h : ∀ v ∈ vs, InW v) (i : Nat) : InW (vs.getD i 0) := by
 rw [List.getD_eq_getElem?_getD]
 cases hi : vs[i]? with
 | none => exact ⟨by decide, by decide⟩
 | some v => exact h v (List.mem_of_getElem? hi)
theorem rowVal_in {ins vs : List Int} (h : ∀ v ∈ vs, InW v) (r : Row) : InW (rowVal ins vs r) := by
 unfold rowVal
 split
 ·exact inW_fmod _
 split
 ·split
  ·exact inW_fmod _
  ·exact ⟨by decide, by decide⟩
 ·exact opVal_in (getD_in h _) (getD_in h _)
theorem evalRows_in (ins : List Int) : ∀ (rs : List Row) (vs : List Int), (∀ v ∈ vs, InW v) → ∀ v ∈ evalRows ins vs rs, InW v
 | [], vs, h => h
 | q :: rs, vs, h => evalRows_in ins rs _ fun v hv => by
  rcases List.mem_append.mp hv with hv | hv
  ·exact h v hv
  ·rw [List.mem_singleton.mp hv]; exact rowVal_in h q
end Mine
end
section
namespace Mine
open PySem PySem.W PyProof.Rows PySem.Calls H
structure DVals (kvs : List (Int × Value)) (vals : List Int) : Prop where
 keys : kvs.map (·.1) = (List.range vals.length).map fun (i : Nat) => (i : Int)
 vals : All2 (fun v x => ∃ t, v = .int x t) (kvs.map (·.2)) vals
theorem DVals.nil : DVals [] [] := ⟨rfl, trivial⟩
theorem DVals.len {kvs : List (Int × Value)} {vals : List Int} (h : DVals kvs vals) : kvs.length = vals.length := by have := h.vals.length; simpa using this
theorem find_of_nodup {T : Type} [DecidableEq T] : ∀ {kvs : List (T × Value)} {i : Nat} {k : T} {v : Value}, (kvs.map (·.1)).Nodup → kvs[i]? = some (k, v) → valueAt kvs k = some v
 | p :: kvs, 0, k, v, nd, h => by simp at h; subst h; simp [valueAt]
 | p :: kvs, i + 1, k, v, nd, h => by
  have n1 := List.nodup_cons.mp nd
  have h' : kvs[i]? = some (k, v) := by simpa using h
  have hne : ¬ p.1 = k := fun e => n1.1 (by show p.1 ∈ _; rw [e]; exact List.mem_map_of_mem (f := (·.1)) (List.mem_of_getElem? h'))
  have ih := find_of_nodup n1.2 h'
  unfold valueAt at ih ⊢
  rw [List.find?_cons_of_neg (by simpa using hne)]
  exact ih
 | [], i, k, v, nd, h => by simp at h
theorem DVals.at_ {kvs : List (Int × Value)} {vals : List Int} (h : DVals kvs vals) {i : Nat} {x : Int} (hx : vals[i]? = some x) : ∃ t, kvs[i]? = some ((i : Int), .int x t) := by
 obtain ⟨v, hv, t, rfl⟩ := h.vals.get' hx
 have hi : i < vals.length := (List.getElem?_eq_some_iff.mp hx).1
 have hk : (kvs.map (·.1))[i]? = some (i : Int) := by rw [h.keys, List.getElem?_map, List.getElem?_range hi]; rfl
 rw [List.getElem?_map] at hv hk
 obtain ⟨p, hp, e1⟩ := Option.map_eq_some_iff.mp hv
 rw [hp] at hk
 refine ⟨t, ?_⟩
 rw [hp, ← e1, ← Option.some.inj hk]
theorem DVals.nodup {kvs : List (Int × Value)} {vals : List Int} (h : DVals kvs vals) : (kvs.map (·.1)).Nodup := by
 rw [h.keys]
 exact List.Pairwise.map _ (fun a b hab e => hab (Int.ofNat_inj.mp e)) List.nodup_range
theorem DVals.get {kvs : List (Int × Value)} {vals : List Int} (h : DVals kvs vals) {x : Int} (h0 : 0 ≤ x) (h1 : x < vals.length) : ∃ t, valueAt kvs x = some (.int (vals.getD x.toNat 0) t) := by
 have hl : x.toNat < vals.length := by lia
 obtain ⟨t, ht⟩ := h.at_ (List.getElem?_eq_getElem hl)
 refine ⟨t, ?_⟩
 have e : ((x.toNat : Nat) : Int) = x := by lia
 rw [e] at ht
 rw [find_of_nodup h.nodup ht, List.getD_eq_getElem?_getD, List.getElem?_eq_getElem hl]; rfl
theorem DVals.snoc {kvs : List (Int × Value)} {vals : List Int} (h : DVals kvs vals) {d : Int} (hd : d = vals.length) (v : Int) (t : Tok) : DVals (stored kvs d (.int v t)) (vals ++ [v]) := by
 have h0 : valueAt kvs d = none := by
  have : kvs.find? (fun p => decide (p.1 = d)) = none := by
   rw [List.find?_eq_none]
   intro p hp
   have hm : p.1 ∈ kvs.map (·.1) := List.mem_map_of_mem hp
   rw [h.keys] at hm
   obtain ⟨i, hi, e⟩ := List.mem_map.mp hm
   have := List.mem_range.mp hi
   simp only [decide_eq_true_eq]
   lia
  unfold valueAt; rw [this]; rfl
 rw [stored_absent h0]
 refine ⟨?_, ?_⟩
 ·rw [List.map_append, h.keys, List.length_append, List.length_singleton, List.range_succ, List.map_append, hd]; rfl
 ·rw [List.map_append]
  exact h.vals.append (show All2 _ [_] [_] from ⟨⟨t, rfl⟩, trivial⟩)
inductive E9 {α β γ δ ε ζ η θ ι : Type} (p : α → β → γ → δ → ε → ζ → η → θ → ι → Prop) : Prop
 | mk (a : α) (b : β) (c : γ) (d : δ) (e : ε) (f : ζ) (g : η) (i : θ) (j : ι) (h : p a b c d e f g i j) : E9 p
theorem IfB.join {r : Bool} {A B : Prop} {P : Int → Tok → Prop} (n : Int) (ha : r = true → (∀ z t, z = n → P z t) → A) (hb : r = false → (∀ z t, z = n → P z t) → B) (hc : ∀ z t, z = n → P z t) : IfB r A B := ⟨fun e => ha e hc, fun e => hb e hc⟩
theorem set_take {α : Type} (l : List α) (z : α) (i : Nat) (x : α) (h : l[i]? = some x) : (l.take i ++ List.replicate (l.length - i) z).set i x = l.take (i + 1) ++ List.replicate (l.length - (i + 1)) z := by
 have hi : i < l.length := (List.getElem?_eq_some_iff.mp h).1
 have e1 : (l.take i).length = i := by rw [List.length_take]; lia
 rw [List.set_append_right _ _ (by lia), e1, Nat.sub_self]
 obtain ⟨k, hk⟩ : ∃ k, l.length - i = k + 1 := ⟨l.length - i - 1, by lia⟩
 rw [hk, List.replicate_succ, List.set_cons_zero, List.take_add_one, h, show l.length - (i + 1) = k by lia]
 simp
noncomputable def outVals (ins : List Int) (rows : List Row) (m : Nat) : List Int := (rows.drop m).map fun r => (evalRows ins [] (rows.take m)).getD r.x.toNat 0
section
variable {w : World} {hB : Heap} {mg mb : Str → Option Value} {G : Gh}
theorem meaning_spec (B : Base w hB mg mb) (n : Nat) {rows : List Row} {m : Nat} {ra ia : Addr} {vs ivs : List Value} {nr ni : Nat} {ins : List Int} (hra : G ra (lobj vs nr)) (hv : All2 (RowIn G) vs rows) (h : RowsOK rows m) (hd : ∀ i r, m ≤ i → rows[i]? = some r → r.d = ((i - m : Nat) : Int))
  (hia : G ia (lobj ivs ni)) (hiv : All2 (fun v x => ∃ t, v = .int x t) ivs ins) (hz : rows.length ≤ 900000) (hzi : ins.length ≤ 900000) :
  Calls w hB (n + 4) 369 [.ref ra, .ref ia] G [] (fun v G' fp' => fp' = [] ∧ (E3 fun a os k => A3 (v = .ref a) (G' a (lobj os k)) (All2 (fun v x => ∃ t, v = .int x t) os (outVals ins rows m)))) := by
 refine start369 B _ _ ?_
 intro A env e cx o KK hKK
 have hlen : vs.length ≤ 1000000 := by rw [hv.length]; lia
 have hleni : ivs.length ≤ 1000000 := by rw [hiv.length]; lia
 refine Do.reS o tb369 60 ?_
 refine Do.newDict ?_
 intro t1
 refine Do.newDict ?_
 intro t2
 refine Do.forLp o (by intro _; rfl) ?_
 refine Do.name o 0 rfl rfl ?_
 refine forL_mk (a := ra) (vs := vs) (n := nr) (fun i σ' => (E9 fun u1 u2 u3 u4 oV oO kvs ovs G' => A6 (σ' = ⟨[some (.ref ra), some (.ref ia), some (.ref t1), some (.ref t2), u1, u2, u3, u4, none, none], G', [(t2, oO), (t1, oV)]⟩) (∀ a o, G a o → G' a o) (oV.IsDictOf (iKd w) kvs) (oO.IsDictOf (iKd w) ovs) (DVals kvs (evalRows ins [] (rows.take (min i m)))) (DVals ovs (((rows.take i).drop m).map fun r => (evalRows ins [] (rows.take m)).getD r.x.toNat 0)))) ?_ ⟨none, none, none, none, emptyDict, emptyDict, [], [], _, rfl, fun _ _ x => x, empty_dict0 (knd := iKd w), empty_dict0 (knd := iKd w), ?_, ?_⟩ ?_ ?_
 ·rintro i σ' ⟨u1, u2, u3, u4, oV, oO, kvs, ovs, G', rfl, h, _⟩
  exact .inl (h _ _ hra)
 ·rw [Nat.zero_min, List.take_zero]; exact DVals.nil
 ·rw [List.take_zero, List.drop_nil]; exact DVals.nil
 ·rintro i v p KL hKL QM hQM σ' hvi ⟨u1, u2, u3, u4, oV, oO, kvs, ovs, G', rfl, hG3, hV, hO, hdv, hdo⟩
  have o2 := o.hide p
  obtain ⟨r, hr, hri⟩ := hv.get hvi
  obtain ⟨a, t10, t11, t12, t13, nn, rfl, hg⟩ := hri.mono hG3
  refine hQM _ ?_
  have hil : i < rows.length := (List.getElem?_eq_some_iff.mp hr).1
  by_cases hm : i < m
  ·have hb := h.body i r hm hr
   rw [Nat.min_eq_left (Nat.le_of_lt hm)] at hdv
   have hvl : (evalRows ins [] (rows.take i)).length = i := by rw [evalRows_len, List.length_take]; simp; lia
   have hdl : r.d = ((evalRows ins [] (rows.take i)).length : Int) := by rw [hvl]; exact hb.d
   have htk : rows.take (i + 1) = rows.take i ++ [r] := by rw [List.take_add_one, hr]; rfl
   have hnext : ∀ v t, DVals (stored kvs r.d (.int v t)) (evalRows ins [] (rows.take i) ++ [v]) := fun v t => hdv.snoc hdl v t
   have hmin : min (i + 1) m = i + 1 := Nat.min_eq_left (by lia)
   have hdrop : (rows.take (i + 1)).drop m = (rows.take i).drop m := by
    rw [List.drop_of_length_le (by rw [List.length_take]; lia), List.drop_of_length_le (by rw [List.length_take]; lia)]
   have fin : ∀ (G5 : Gh) (oV' : Obj) (v : Int) (t : Tok) (u1 u2 u3 u4 : Option Value), (∀ a o, G a o → G5 a o) → oV'.IsDictOf (iKd w) (stored kvs r.d (.int v t)) → v = rowVal ins (evalRows ins [] (rows.take i)) r →
     KL .next ⟨[some (.ref ra), some (.ref ia), some (.ref t1), some (.ref t2), u1, u2, u3, u4, none, none], G5, [(t2, oO), (t1, oV')]⟩ := by
    intro G5 oV' v t u1 u2 u3 u4 h5 hV' e
    refine hKL ?_; refine ⟨u1, u2, u3, u4, oV', oO, _, ovs, _, rfl, h5, hV', hO, ?_, ?_⟩
    ·rw [hmin, htk, evalRows_snoc, ← e]; exact hnext v t
    ·rw [hdrop]; exact hdo
   have hin := evalRows_in ins (rows.take i) [] (fun v hv => by cases hv)
   rcases hb.kind with ⟨h1, h2, h3⟩ | ⟨h1, h2⟩ | ⟨h1, h2, h3, h4, h5⟩
   ·rw [h1] at hg
    refine Do.assignTuple ?_
    refine Do.unpackT o2 (.inl hg) rfl rfl ?_
    refine Do.inOrder_cons ?_
    refine Do.assignName o2 4 rfl (by first | exact Nat.le_of_ble_eq_true rfl | lia) ?_
    refine Do.inOrder_cons ?_
    refine Do.assignName o2 5 rfl (by first | exact Nat.le_of_ble_eq_true rfl | lia) ?_
    refine Do.inOrder_cons ?_
    refine Do.assignName o2 6 rfl (by first | exact Nat.le_of_ble_eq_true rfl | lia) ?_
    refine Do.inOrder_cons ?_
    refine Do.assignName o2 7 rfl (by first | exact Nat.le_of_ble_eq_true rfl | lia) ?_
    refine Do.inOrder_nil ?_
    refine Do.reS o2 tb369 60 ?_
    refine if1 ?_
    refine Do.globalK o2 0 rfl (v := (Value.int 4294967296 659)) (by kernel_rfl) ?_
    refine Do.mod (by decide) ?_
    intro t3
    refine Do.dset (ex := [_]) (o := oV) rfl hV (intKind_is _ _ _ _) (by rw [hdv.len, hvl]; lia) fun oV' hV' => ?_
    exact fin _ oV' _ _ _ _ _ _ (fun _ _ x => hG3 _ _ x) hV' (by unfold rowVal; rw [if_pos h1])
   ·rw [h1] at hg
    have hivl : ivs.length = ins.length := hiv.length
    by_cases hlt : r.x < ins.length
    ·have c1 : decide (r.x < (ivs.length : Int)) = true := decide_eq_true (by rw [hivl]; exact hlt)
     have hl2 : r.x.toNat < ins.length := by lia
     obtain ⟨vi, hvi2, ti, rfl⟩ := hiv.get' (List.getElem?_eq_getElem hl2)
     have hia3 := hG3 _ _ hia
     refine Do.assignTuple ?_
     refine Do.unpackT o2 (.inl hg) rfl rfl ?_
     refine Do.inOrder_cons ?_
     refine Do.assignName o2 4 rfl (by first | exact Nat.le_of_ble_eq_true rfl | lia) ?_
     refine Do.inOrder_cons ?_
     refine Do.assignName o2 5 rfl (by first | exact Nat.le_of_ble_eq_true rfl | lia) ?_
     refine Do.inOrder_cons ?_
     refine Do.assignName o2 6 rfl (by first | exact Nat.le_of_ble_eq_true rfl | lia) ?_
     refine Do.inOrder_cons ?_
     refine Do.assignName o2 7 rfl (by first | exact Nat.le_of_ble_eq_true rfl | lia) ?_
     refine Do.inOrder_nil ?_
     refine Do.reS o2 tb369 60 ?_
     refine if0 ?_
     refine if1 ?_
     refine Do.callG ?_
     refine Do.builtinK o2 1 rfl (v := (.builtin "len")) (by kernel_rfl) (by kernel_rfl) (by kernel_rfl) ?_
     refine Do.callWith_b1 ?_
     refine Do.reL o2 tb369 30 ?_
     refine Do.lenL (.inl hia3) (by first | exact Nat.le_of_ble_eq_true rfl | assumption | lia | (simp; lia)) ?_
     intro t3
     refine ite_t c1 ?_
     refine Do.itemL (.inl hia3) h2 (by lia) hvi2 ?_
     refine Do.globalK o2 0 rfl (v := (Value.int 4294967296 659)) (by kernel_rfl) ?_
     refine Do.mod (by decide) ?_
     intro t4
     refine Do.dset (ex := [_]) (o := oV) rfl hV (intKind_is _ _ _ _) (by rw [hdv.len, hvl]; lia) fun oV' hV' => ?_
     exact fin _ oV' _ _ _ _ _ _ (fun _ _ x => hG3 _ _ x) hV' (by unfold rowVal; rw [if_neg (by rw [h1]; decide), if_pos h1, if_pos hlt, List.getD_eq_getElem?_getD, List.getElem?_eq_getElem hl2]; rfl)
    ·have c1 : decide (r.x < (ivs.length : Int)) = false := decide_eq_false (by rw [hivl]; exact hlt)
     refine Do.assignTuple ?_
     refine Do.unpackT o2 (.inl hg) rfl rfl ?_
     refine Do.inOrder_cons ?_
     refine Do.assignName o2 4 rfl (by first | exact Nat.le_of_ble_eq_true rfl | lia) ?_
     refine Do.inOrder_cons ?_
     refine Do.assignName o2 5 rfl (by first | exact Nat.le_of_ble_eq_true rfl | lia) ?_
     refine Do.inOrder_cons ?_
     refine Do.assignName o2 6 rfl (by first | exact Nat.le_of_ble_eq_true rfl | lia) ?_
     refine Do.inOrder_cons ?_
     refine Do.assignName o2 7 rfl (by first | exact Nat.le_of_ble_eq_true rfl | lia) ?_
     refine Do.inOrder_nil ?_
     refine Do.reS o2 tb369 60 ?_
     refine if0 ?_
     refine if1 ?_
     refine Do.callG ?_
     refine Do.builtinK o2 1 rfl (v := (.builtin "len")) (by kernel_rfl) (by kernel_rfl) (by kernel_rfl) ?_
     refine Do.callWith_b1 ?_
     refine Do.reL o2 tb369 30 ?_
     refine Do.lenL (.inl (hG3 _ _ hia)) (by first | exact Nat.le_of_ble_eq_true rfl | assumption | lia | (simp; lia)) ?_
     intro t3
     refine ite_f c1 ?_
     intro t4
     refine Do.dset (ex := [_]) (o := oV) rfl hV (intKind_is _ _ _ _) (by rw [hdv.len, hvl]; lia) fun oV' hV' => ?_
     exact fin _ oV' _ _ _ _ _ _ (fun _ _ x => hG3 _ _ x) hV' (by unfold rowVal; rw [if_neg (by rw [h1]; decide), if_pos h1, if_neg hlt])
   ·have n1 := (ops2_not h1 "const" (by simp)).1
    have n2 := (ops2_not h1 "in" (by simp)).1
    have n3 := (ops2_not h1 "copy" (by simp)).1
    have n4 := (ops2_not h1 "out" (by simp)).1
    obtain ⟨tx, hvx⟩ := hdv.get h2 (by rw [hvl]; exact h3)
    obtain ⟨ty, hvy⟩ := hdv.get h4 (by rw [hvl]; exact h5)
    refine Do.assignTuple ?_
    refine Do.unpackT o2 (.inl hg) rfl rfl ?_
    refine Do.inOrder_cons ?_
    refine Do.assignName o2 4 rfl (by first | exact Nat.le_of_ble_eq_true rfl | lia) ?_
    refine Do.inOrder_cons ?_
    refine Do.assignName o2 5 rfl (by first | exact Nat.le_of_ble_eq_true rfl | lia) ?_
    refine Do.inOrder_cons ?_
    refine Do.assignName o2 6 rfl (by first | exact Nat.le_of_ble_eq_true rfl | lia) ?_
    refine Do.inOrder_cons ?_
    refine Do.assignName o2 7 rfl (by first | exact Nat.le_of_ble_eq_true rfl | lia) ?_
    refine Do.inOrder_nil ?_
    refine Do.reS o2 tb369 60 ?_
    refine ite_f n1 ?_
    refine ite_f n2 ?_
    refine ite_f n3 ?_
    refine ite_f n4 ?_
    refine Do.dget (.inr (mm 1 rfl)) hV (intKind_is _ _ _ _) hvx ?_
    refine Do.dget (.inr (mm 1 rfl)) hV (intKind_is _ _ _ _) hvy ?_
    have i1 := getD_in hin r.x.toNat
    have i2 := getD_in hin r.y.toNat
    refine Do.byContract0 o2 (value_spec B _ h1 _ _ _ _ _ i1.1 i1.2 i2.1 i2.2) ?_
    intro QM r5 G5 hG5 p5
    obtain ⟨tk5, rfl⟩ := p5
    refine Do.dset (ex := [_]) (o := oV) rfl hV (intKind_is _ _ _ _) (by rw [hdv.len, hvl]; lia) fun oV' hV' => ?_
    refine fin _ oV' _ _ _ _ _ _ (fun _ _ x => hG5 _ _ (hG3 _ _ x)) hV' ?_
    unfold rowVal
    rw [if_neg (by rintro e; rw [e] at n1; simp at n1), if_neg (by rintro e; rw [e] at n2; simp at n2)]
  ·have hb := h.tail i r (by lia) hr
   rw [hb.op] at hg
   rw [Nat.min_eq_right (by lia)] at hdv
   have hvl : (evalRows ins [] (rows.take m)).length = m := by rw [evalRows_len, List.length_take]; have := h.hm; simp; lia
   have htk : rows.take (i + 1) = rows.take i ++ [r] := by rw [List.take_add_one, hr]; rfl
   have hdr : (rows.take (i + 1)).drop m = (rows.take i).drop m ++ [r] := by
    rw [htk, List.drop_append_of_le_length (by rw [List.length_take]; lia)]
   have hol : (((rows.take i).drop m).map fun r => (evalRows ins [] (rows.take m)).getD r.x.toNat 0).length = i - m := by
    rw [List.length_map, List.length_drop, List.length_take]; lia
   obtain ⟨tx, hvx⟩ := hdv.get hb.x0 (by rw [hvl]; exact hb.x1)
   refine Do.assignTuple ?_
   refine Do.unpackT o2 (.inl hg) rfl rfl ?_
   refine Do.inOrder_cons ?_
   refine Do.assignName o2 4 rfl (by first | exact Nat.le_of_ble_eq_true rfl | lia) ?_
   refine Do.inOrder_cons ?_
   refine Do.assignName o2 5 rfl (by first | exact Nat.le_of_ble_eq_true rfl | lia) ?_
   refine Do.inOrder_cons ?_
   refine Do.assignName o2 6 rfl (by first | exact Nat.le_of_ble_eq_true rfl | lia) ?_
   refine Do.inOrder_cons ?_
   refine Do.assignName o2 7 rfl (by first | exact Nat.le_of_ble_eq_true rfl | lia) ?_
   refine Do.inOrder_nil ?_
   refine Do.reS o2 tb369 60 ?_
   refine if0 ?_
   refine if0 ?_
   refine if0 ?_
   refine if1 ?_
   refine Do.dget (.inr (mm 1 rfl)) hV (intKind_is _ _ _ _) hvx ?_
   refine Do.dset (ex := []) (o := oO) rfl hO (intKind_is _ _ _ _) (by rw [hdo.len, hol]; lia) fun oO' hO' => ?_
   refine hKL ?_; refine ⟨_, _, _, _, oV, oO', kvs, _, _, rfl, fun _ _ x => hG3 _ _ x, hV, hO', ?_, ?_⟩
   ·rw [Nat.min_eq_right (by lia)]; exact hdv
   ·rw [hdr, List.map_append]
    exact hdo.snoc (by rw [hol]; exact hd i r (by lia) hr) _ _
 ·rintro QM hQM σ' ⟨u1, u2, u3, u4, oV, oO, kvs, ovs, G', rfl, hG3, hV, hO, hdv, hdo⟩
  refine hQM _ ?_
  have e5 : rows.take vs.length = rows := List.take_of_length_le (by rw [hv.length]; exact Nat.le_refl _)
  rw [e5] at hdo
  have hol : ovs.length ≤ 900000 := by
   have := hdo.len
   rw [List.length_map, List.length_drop] at this
   lia
  intro t3
  refine Do.newListG (Nat.le_of_ble_eq_true rfl) ?_
  intro t4
  refine Do.callG ?_
  refine Do.builtinK o 1 rfl (v := (.builtin "len")) (by kernel_rfl) (by kernel_rfl) (by kernel_rfl) ?_
  refine Do.callWith_b1 ?_
  refine Do.reL o tb369 30 ?_
  refine Do.lenD o (mm 0 rfl) hO (by lia) fun t7 => ?_
  refine IfB.join (P := fun z t => kBin2 cx .Mult (.ref t4) (kSet 8 (seqK (vc cx tb369 56) (tlS (tlS (tlS (tlS (dF 38).2.1)))) KK)) (.int z t) ⟨[some (.ref ra), some (.ref ia), some (.ref t1), some (.ref t2), u1, u2, u3, u4, none, none], gadd G' t4 (lobj [.int 0 t3]), [(t2, oO), (t1, oV)]⟩) (ovs.length : Int) ?_ ?_ ?_
  ·intro c1 hc
   have h0 : (ovs.length : Int) > 0 := of_decide_eq_true c1
   refine Do.callG ?_
   refine Do.builtinK o 3 rfl (v := (.builtin "max")) (by kernel_rfl) (by kernel_rfl) (by kernel_rfl) ?_
   refine Do.callWith_b1 ?_
   refine Do.reL o tb369 30 ?_
   refine Do.maxD o (mm 0 rfl) hO (by rw [hdo.keys, hdo.len]) (by lia) fun t9 => ?_
   have ez : (((ovs.length - 1 : Nat) : Int)) + 1 = (ovs.length : Int) := by lia
   intro t5 t6
   exact hc _ _ ez
  ·intro c1 hc
   have h0 := of_decide_eq_false c1
   intro t5
   exact hc 0 t5 (by lia)
  intro z t5 hz
  refine Do.mulL (.inl gadd_at) (by lia) (by lia) fun t9 t10 => ?_
  refine Do.forDp o (iKd w) (by intro _; rfl) ?_
  refine Do.name o 3 rfl rfl ?_
  refine forD_mk (c := cx) (knd := iKd w) (a := t2) (o := oO) (kvs := ovs) (fun i σ' => E2 fun uk G' => (σ' = ⟨[some (.ref ra), some (.ref ia), some (.ref t1), some (.ref t2), u1, u2, u3, u4, some (.ref t9), uk], G', [(t9, lobj ((ovs.map (·.2)).take i ++ List.replicate ((ovs.map (·.2)).length - i) (.int 0 t3))), (t2, oO), (t1, oV)]⟩) ∧ (∀ a o, G a o → G' a o)) hO ?_ ?_ ?_ ?_
  ·rintro i σ' ⟨uk, G', rfl, _⟩
   exact .tail _ (.head _)
  ·refine ⟨none, gadd G' t4 (lobj [.int 0 t3]), ?_, fun _ _ x => .inl (hG3 _ _ x)⟩
   rw [List.take_zero, List.nil_append, Nat.sub_zero, List.length_map, hz, Int.toNat_natCast]
  ·rintro i kk x v p KL hKL QM hQM σ' hkv hkey ⟨uk, G2, rfl, hG4⟩
   have o2 := o.hide p
   obtain ⟨tk, rfl⟩ := Value.isInt_shape hkey
   refine hQM _ ?_
   have hil : i < ovs.length := (List.getElem?_eq_some_iff.mp hkv).1
   have hki : kk = (i : Int) := by
    have h1 : (ovs.map (·.1))[i]? = some kk := by rw [List.getElem?_map, hkv]; rfl
    rw [hdo.keys, List.getElem?_map, List.getElem?_range (by rw [← hdo.len]; exact hil)] at h1
    exact (Option.some.inj h1).symm
   have hat := find_of_nodup hdo.nodup hkv
   have hvi : (ovs.map (·.2))[i]? = some x := by rw [List.getElem?_map, hkv]; rfl
   refine Do.assignName o2 9 rfl (by first | exact Nat.le_of_ble_eq_true rfl | lia) ?_
   refine Do.reS o2 tb369 60 ?_
   refine Do.dget (.inr (mm 1 rfl)) hO (intKind_is _ _ _ _) hat ?_
   refine Do.setL (ex := []) rfl (by lia) (by simp; lia) (by simp; lia) ?_
   refine hKL ?_; refine ⟨some (.int kk tk), _, ?_, hG4⟩
   rw [hki, Int.toNat_natCast, set_take _ _ _ _ hvi]
   rfl
  ·rintro QM hQM σ' ⟨uk, G2, rfl, hG4⟩
   refine hQM _ ?_
   have e6 : (ovs.map (·.2)).take ovs.length ++ List.replicate ((ovs.map (·.2)).length - ovs.length) (Value.int 0 t3) = ovs.map (·.2) := by
    rw [List.take_of_length_le (by simp), List.length_map, Nat.sub_self]; simp
   rw [e6]
   refine hKK ?_; exact Left.mkF _ [] (List.append_nil _).symm rfl ⟨rfl, _, _, 0, rfl, .inr (.head _), hdo.vals⟩
end
end Mine
end
section
namespace Mine
open PySem PySem.W PyProof.Rows PySem.Calls H
noncomputable def NodeV (G : Gh) (a : Addr) (op ty kids val : Value) : Prop := AttrG G a 224 "op" op ∧ AttrG G a 224 "type" ty ∧ AttrG G a 224 "kids" kids ∧ AttrG G a 224 "value" val
theorem NodeV.node {G : Gh} {a : Addr} {op : String} {t : Tok} {ty kids val : Value} (h : NodeV G a (.str (S op) t) ty kids val) : NodeAt G a op ty kids val := ⟨⟨t, h.1⟩, h.2.1, h.2.2.1, h.2.2.2⟩
section
variable {w : World} {hB : Heap} {mg mb : Str → Option Value} {G : Gh} {bk : Bk}
theorem node_init (B : Base w hB mg mb) (n : Nat) (x dx : Addr) (v1 v2 v3 v4 v5 : Value) (hx : G x (instObj 224 dx)) (h1 : handedIn v1 = true) :
  Calls w hB (n + 1) 221 [.ref x, v1, v2, v3, v4, v5] G [(dx, emptyDict)] (fun r G' fp' => r = .none ∧ ∀ G2, (∀ a o, G' a o → G2 a o) → (∀ p ∈ fp', G2 p.1 p.2) → NodeV G2 x v1 v3 v4 v5) := by
 refine start221 B _ _ _ _ _ _ ?_
 intro A env e cx o KK hKK
 refine Do.reS o tb221 60 ?_
 refine Do.setNew o (.inl hx) (ex := []) rfl (by kernel_rfl) (by kernel_rfl) (by kernel_rfl) (Nat.le_of_ble_eq_true rfl) ?_
 intro t1
 refine Do.setNew o (.inl hx) (ex := []) rfl (by kernel_rfl) (by kernel_rfl) (by kernel_rfl) (Nat.le_of_ble_eq_true rfl) ?_
 intro t2
 refine Do.setNew o (.inl hx) (ex := []) rfl (by kernel_rfl) (by kernel_rfl) (by kernel_rfl) (Nat.le_of_ble_eq_true rfl) ?_
 intro t3
 refine Do.setNew o (.inl hx) (ex := []) rfl (by kernel_rfl) (by kernel_rfl) (by kernel_rfl) (Nat.le_of_ble_eq_true rfl) ?_
 intro t4
 refine Do.setNew o (.inl hx) (ex := []) rfl (by kernel_rfl) (by kernel_rfl) (by kernel_rfl) (Nat.le_of_ble_eq_true rfl) ?_
 intro t5
 refine Do.setNew o (.inl hx) (ex := []) rfl (by kernel_rfl) (by kernel_rfl) (by kernel_rfl) (Nat.le_of_ble_eq_true rfl) ?_
 intro t6
 refine hKK ?_; refine Left.mk [] _ rfl rfl ⟨rfl, fun G2 h1 h2 => ?_⟩
 have hd := h2 _ (.head _)
 have hi := h1 _ _ hx
 exact ⟨⟨dx, _, _, hi, hd, getL_at 0 (by kernel_rfl) rfl⟩, ⟨dx, _, _, hi, hd, getL_at 2 (by kernel_rfl) rfl⟩, ⟨dx, _, _, hi, hd, getL_at 3 (by kernel_rfl) rfl⟩, ⟨dx, _, _, hi, hd, getL_at 4 (by kernel_rfl) rfl⟩⟩
theorem make_spec (B : Base w hB mg mb) (n : Nat) (v1 v3 v4 v5 : Value) (h1 : handedIn v1 = true) (h3 : handedIn v3 = true) (h4 : handedIn v4 = true) (h5 : handedIn v5 = true) :
  Calls w hB (n + 3) 391 [v1, v3, v4, v5] G [] (fun v G' fp' => fp' = [] ∧ ∃ x, v = .ref x ∧ NodeV G' x v1 v3 v4 v5) := by
 refine start391 B _ _ _ _ ?_
 intro A env e cx o KK hKK
 refine Do.reS o tb391 60 ?_
 intro t1
 refine Do.makeG (C := 224) (fI := 221) o (by kernel_rfl) (fun x dx => node_init B n x dx _ _ _ _ _ gadd_at h1) fun x dx G3 od3 hG3 p3 => ?_
 refine hKK ?_; exact Left.mk _ [] (List.append_nil _).symm rfl ⟨rfl, x, rfl, p3 _ (fun _ _ x => .inl x) (fun p hp => by rw [List.mem_singleton.mp hp]; exact gadd_at)⟩
theorem make_spec3 (B : Base w hB mg mb) (n : Nat) (v1 v3 v4 : Value) (h1 : handedIn v1 = true) (h3 : handedIn v3 = true) (h4 : handedIn v4 = true) :
  Calls w hB (n + 3) 391 [v1, v3, v4] G [] (fun v G' fp' => fp' = [] ∧ ∃ x, v = .ref x ∧ NodeV G' x v1 v3 v4 .none) := by
 refine start391d B _ _ _ ?_
 intro A env e cx o KK hKK
 refine Do.reS o tb391 60 ?_
 intro t1
 refine Do.makeG (C := 224) (fI := 221) o (by kernel_rfl) (fun x dx => node_init B n x dx _ _ _ _ _ gadd_at h1) fun x dx G3 od3 hG3 p3 => ?_
 refine hKK ?_; exact Left.mk _ [] (List.append_nil _).symm rfl ⟨rfl, x, rfl, p3 _ (fun _ _ x => .inl x) (fun p hp => by rw [List.mem_singleton.mp hp]; exact gadd_at)⟩
theorem const_spec (B : Base w hB mg mb) (n : Nat) (v3 v5 v2 : Value) :
  Calls w hB (n + 3) 235 [v3, v5, v2] G [] (fun v G' fp' => fp' = [] ∧ (E3 fun x k t => A3 (v = .ref x) (NodeV G' x (.str (S "const") t) v3 (.ref k) v5) (G' k (lobj [])))) := by
 refine start235 B _ _ _ ?_
 intro A env e cx o KK hKK
 refine Do.reS o tb235 60 ?_
 intro t1
 refine Do.newListS (Nat.le_of_ble_eq_true rfl) ?_
 intro t2 t3
 refine Do.freeze 0 rfl rfl t3 ?_
 refine Do.makeG (C := 224) (fI := 221) o (by kernel_rfl) (fun x dx => node_init B n x dx _ _ _ _ _ gadd_at rfl) fun x dx G3 od3 hG3 p3 => ?_
 refine hKK ?_; exact Left.mk _ [] (List.append_nil _).symm rfl ⟨rfl, x, _, _, rfl, p3 _ (fun _ _ x => .inl x) (fun p hp => by rw [List.mem_singleton.mp hp]; exact gadd_at), .inl (hG3 _ _ (.inl gadd_at))⟩
noncomputable def PoolIn (pa : Addr) (fp : Led) : Prop := (E2 fun vs n => A3 (fp = [(pa, lobj vs n)]) (∀ v ∈ vs, ∃ i t, v = .int i t) (vs.length ≤ 900000))
theorem draw_spec (B : Base w hB mg mb) (n : Nat) {pa : Addr} {fp : Led} (hp : PoolIn pa fp) (k : Int) (hk : 0 < k) (tk : Tok) :
  Calls w hB (n + 2) 383 [.ref pa, .int k tk] G fp (fun v G' fp' => PoolIn pa fp' ∧ (E2 fun d t => A3 (v = .int d t) (0 ≤ d) (d < k))) := by
 obtain ⟨vs, nn, rfl, hv, hl⟩ := hp
 refine start383 B _ _ ?_
 intro A env e cx o KK hKK
 refine Do.reS o tb383 60 ?_
 refine Do.newListS (Nat.le_of_ble_eq_true rfl) ?_
 intro t1 t2
 rcases List.eq_nil_or_concat vs with rfl | ⟨init, x, hvs⟩
 ·refine Do.neL_same o (.inr (mm 1 rfl)) (.inr (mm 0 rfl)) trivial ?_
  refine if0 ?_
  intro t3
  refine hKK ?_; exact Left.mk [_] [_] rfl rfl ⟨⟨_, _, rfl, hv, hl⟩, 0, _, rfl, by lia, hk⟩
 ·rw [List.concat_eq_append] at hvs
  subst hvs
  refine Do.neL_len o (.inr (mm 1 rfl)) (.inr (mm 0 rfl)) (by simp) ?_
  obtain ⟨i, ti, rfl⟩ := hv x (by simp)
  have hl' : init.length ≤ 900000 := by simp at hl; lia
  refine if1 ?_
  refine Do.methodCall ?_
  refine Do.name o 0 rfl rfl ?_
  refine Do.mPop (.inr (mm 1 rfl)) ?_
  refine Do.pop (vs := init) (x := .int i ti) (ex := [_]) rfl (by lia) ?_
  refine Do.mod (by lia) fun t9 => ?_
  refine hKK ?_; exact Left.mk [_] [_] rfl rfl ⟨⟨_, _, rfl, fun v hv' => hv v (by simp [hv']), hl'⟩, _, t9, rfl, Int.fmod_nonneg_of_pos _ hk, Int.fmod_lt_of_pos _ hk⟩
end
theorem Do.draw {c : Cx} {σ : Sg} {mg mb : Str → Option Value} {k : Nat} {pa : Addr} {ex fp : Led} {kk : Int} {tk : Tok} {K : Value → Sg → Prop} (ok : c.Ok mg mb (k + 2)) (hp : PoolIn pa fp) (hmu : σ.mu = ex ++ fp) (hk : 0 < kk)
  (q : ∀ d t G' fp', (∀ a o, σ.G a o → G' a o) → PoolIn pa fp' → 0 ≤ d → d < kk → K (.int d t) ⟨σ.vs, G', ex ++ fp'⟩) : Do c σ (call (.ref 383) [.ref pa, .int kk tk]) K :=
 Do.byContract₀ ok (draw_spec ok.B k hp kk hk tk) hmu fun v G' fp' hG ⟨hp', d, t, e, h0, h1⟩ => e ▸ q d t G' fp' hG hp' h0 h1
theorem PoolIn.ads {pa : Addr} {fp : Led} (h : PoolIn pa fp) : fp.ads = [pa] := by obtain ⟨vs, n, rfl, _⟩ := h; rfl
structure BookAt (w : World) (G : Gh) (bk : Bk) (bd : Addr) (oB : PySem.Obj) (ta va : Addr) (n : Nat) : Prop where
 g : G bd oB
 d : oB.IsDictOf (sKd w) [(S "types", .ref ta), (S "vars", .ref va)]
 vars : G va (lobj (bk.refs [0, 1, 2, 3, 4, 5]) n)
 tI : AttrG G ta 309 "integer" (.ref (bk.ty .I))
 tM : AttrG G ta 309 "mask" (.ref (bk.ty .M))
 tB : AttrG G ta 309 "boolean" (.ref (bk.ty .B))
 tC : AttrG G ta 309 "char" (.ref (bk.ty .C))
 ok : BookOK G bk
theorem BookAt.mono {w : World} {G G' : Gh} {bk : Bk} {bd ta va : Addr} {oB : PySem.Obj} {n : Nat} (x : BookAt w G bk bd oB ta va n) (h : ∀ a o, G a o → G' a o) : BookAt w G' bk bd oB ta va n :=
 ⟨h _ _ x.g, x.d, h _ _ x.vars, x.tI.mono h, x.tM.mono h, x.tB.mono h, x.tC.mono h, x.ok.mono h⟩
noncomputable def TreeV (G : Gh) (bk : Bk) (f : Fm) (hm cm : Nat) (v : Value) : Prop := (E2 fun x t => A6 (v = .ref x) (NodeIs G bk t x) (WT t) (t.fm = f) (t.ht ≤ hm) (t.cost ≤ cm))
noncomputable abbrev PT (pa : Addr) (bk : Bk) (f : Fm) (h c : Nat) : Value → Gh → Led → Prop := fun v G' fp' => PoolIn pa fp' ∧ TreeV G' bk f h c v
theorem Do.menuI {c : Cx} {σ : Sg} {a : Addr} {vs : List Value} {zs : List Int} {n : Nat} {d : Int} {u : Tok} {value slice : Expr} {K : Value → Sg → Prop} (P : Int → Prop) (hx : σ.has a (lobj vs n)) (hv : All2 (fun v z => ∃ t, v = .int z t) vs zs) (hP : ∀ z ∈ zs, P z) (h0 : 0 ≤ d) (h1 : d < zs.length) (hz : zs.length ≤ 1000) (q : ∀ z t, P z → K (.int z t) σ)
  (hs : subscripted slice false (.ref a) (.int d u) = PySem.operate [.ref a, .int d u] (getItem (.ref a) (.int d u)) := by with_unfolding_all rfl) : Do c σ (subscriptTail value slice (.ref a) (.int d u)) K := by
 have hl : d.toNat < zs.length := by lia
 obtain ⟨v, hv1, t, rfl⟩ := hv.get' (List.getElem?_eq_getElem hl)
 exact Do.itemL hx h0 (by lia) hv1 (q _ t (hP _ (List.getElem_mem hl))) hs
theorem Do.menuS {c : Cx} {σ : Sg} {a : Addr} {vs : List Value} {n : Nat} {d : Int} {u : Tok} {value slice : Expr} {K : Value → Sg → Prop} (names : List String) (hx : σ.has a (lobj vs n)) (hv : All2 (fun v s => ∃ t, v = .str (S s) t) vs names) (m : Nat) (hm : names.length = m) (h0 : 0 ≤ d) (h1 : d < m) (hz : m ≤ 1000) (q : ∀ s t, s ∈ names → K (.str (S s) t) σ)
  (hs : subscripted slice false (.ref a) (.int d u) = PySem.operate [.ref a, .int d u] (getItem (.ref a) (.int d u)) := by with_unfolding_all rfl) : Do c σ (subscriptTail value slice (.ref a) (.int d u)) K := by
 subst hm; have hl : d.toNat < names.length := by lia
 obtain ⟨v, hv1, t, rfl⟩ := hv.get' (List.getElem?_eq_getElem hl)
 exact Do.itemL hx h0 (by lia) hv1 (q _ t (List.getElem_mem hl)) hs
end Mine
end
section
namespace Mine
open PySem PySem.W PyProof.Rows PySem.Calls H
noncomputable def fits (f : Fm) : List Nat := match f with | .I => [0, 1] | .M => [2, 3] | .B => [4] | .C => [5]
theorem form_eq (f g : Fm) : (S f.name == S g.name) = decide (f = g) := by cases f <;> cases g <;> kernel_rfl
theorem fits_eq (f : Fm) : [0, 1, 2, 3, 4, 5].filter (fun j => decide (fmOf j = f)) = fits f := by cases f <;> decide
theorem fits_fm {f : Fm} {j : Nat} (h : j ∈ fits f) : j < 6 ∧ fmOf j = f := by
 cases f <;> simp [fits] at h <;> (try rcases h with rfl | rfl) <;> (try subst h) <;> simp [fmOf]
section
variable {w : World} {hB : Heap} {mg mb : Str → Option Value} {G : Gh} {bk : Bk}
theorem leaf_spec (B : Base w hB mg mb) (n : Nat) {pa : Addr} {fp : Led} (hp : PoolIn pa fp) {bd ta va : Addr} {oB : PySem.Obj} {nv : Nat} (hb : BookAt w G bk bd oB ta va nv) (f : Fm) (tf : Tok) :
  Calls w hB (n + 4) 396 [.ref bd, .ref pa, .str (S f.name) tf] G fp (PT pa bk f 0 3) := by
 refine start396 B _ _ _ ?_
 intro A env e G' c0 hG CE CG cx o KK hKK
 have hb0 := hb.mono hG
 obtain ⟨h1, h2, h3, h4, h5, h6, h7, h8⟩ := hb.mono hG
 refine Do.reS o tb396 60 ?_
 intro t1
 refine Do.draw o hp (ex := []) rfl (by first | decide | lia | exact Int.natCast_pos.mpr (Nat.le_of_ble_eq_true rfl)) ?_
 intro t2 t3 t4 t5 t6 t7 t8 t9
 refine Do.assign_listComp [] o CE (by kernel_rfl) 4 rfl (by first | exact Nat.le_of_ble_eq_true rfl | lia) (by kernel_rfl) ?_
 refine Do.reE o tb396 30 ?_
 intro t10
 refine Do.dgetS (.inl (t6 _ _ h1)) h2 1 (by kernel_rfl) rfl ?_
 refine ⟨rfl, CompSrc.list (vs := bk.refs [0, 1, 2, 3, 4, 5]) (n := nv) (fun i ys G2 mu => (∀ a o, t4 a o → G2 a o) ∧ ys = bk.refs (([0, 1, 2, 3, 4, 5].take i).filter fun j => decide (fmOf j = f)) ∧ mu = [] ++ t5) ?_ (Nat.le_of_ble_eq_true rfl) ⟨fun _ _ x => x, rfl, rfl⟩ ?_ ?_⟩
 ·intro i ys G2 mu ⟨h, _, _⟩
  exact .inl (h _ _ (t6 _ _ h3))
 ·intro i v ys G2 mu env2 C2 hid2 hi hv ⟨hG2, hys, e⟩ CE2 o2
  subst e
  have hv' : (bk.refs [0, 1, 2, 3, 4, 5])[i]? = some v := hv
  rw [Bk.refs, List.getElem?_map] at hv'
  obtain ⟨j, hj, rfl⟩ := Option.map_eq_some_iff.mp hv'
  have hj6 : j < 6 := by
   have := List.mem_of_getElem? hj
   simp only [List.mem_cons, List.not_mem_nil, or_false] at this
   lia
  have CG2 := CG.mono fun a o x => hG2 a o (t6 a o x)
  have hty := ((h8.var j hj6).type).mono fun a o x => hG2 a o (t6 a o x)
  obtain ⟨tff, hform⟩ := (h8.ty (fmOf j)).mono fun a o x => hG2 a o (t6 a o x)
  refine Do.tests_one ?_
  refine Do.reT o2 tb396 30 ?_
  refine Do.name o2 0 rfl rfl ?_
  refine Do.gP o2 hty ?_
  refine Do.gP o2 hform ?_
  refine Do.cell o2 CE2 0 (a := c0) (by kernel_rfl) CG2 ?_
  have htake : [0, 1, 2, 3, 4, 5].take (i + 1) = [0, 1, 2, 3, 4, 5].take i ++ [j] := by rw [List.take_add_one, hj]; rfl
  by_cases hf : fmOf j = f
  ·have hfe : (S (fmOf j).name == S f.name) = true := (form_eq _ _).trans (decide_eq_true hf)
   refine ite_t hfe ?_
   refine Do.name o2 0 rfl rfl ?_
   refine ⟨fun _ _ x => hG2 _ _ x, ?_, rfl⟩
   rw [hys, htake, List.filter_append]
   simp [Bk.refs, hf]
  ·have hfe : (S (fmOf j).name == S f.name) = false := (form_eq _ _).trans (decide_eq_false hf)
   refine ite_f hfe ?_
   refine ⟨fun _ _ x => hG2 _ _ x, ?_, rfl⟩
   rw [hys, htake, List.filter_append]
   simp [Bk.refs, hf]
 ·intro ys G2 mu D ⟨hG2, hys, e⟩ hD
  subst e
  have hys' : ys = bk.refs (fits f) := by rw [hys]; simp only [Bk.refs, List.length_map]; rw [List.take_of_length_le (by simp), fits_eq]
  clear hys
  subst hys'
  have hb2 := (hb0.mono t6).mono hG2
  have leafV : ∀ (G5 : Gh) (fp5 : Led) (ex : Led) (vs5 : List (Option Value)) (x k : Addr) (z : Int) (tz t5 : Tok), PoolIn pa fp5 → NodeV G5 x (.str (S "const") t5) (.ref (bk.ty f)) (.ref k) (.int z tz) → WT (.const f z) →
    Left fp (PT pa bk f 0 3) (.ret (.ref x)) ⟨vs5, G5, ex ++ fp5⟩ := fun G5 fp5 ex vs5 x k z tz t5 hp5 hn hw =>
   Left.mk ex fp5 rfl (hp5.ads.trans hp.ads.symm) ⟨hp5, x, .const f z, rfl, ⟨_, _, hn.node⟩, hw, rfl, Nat.le_refl _, by simp [Tr.cost]⟩
  obtain ⟨g1, g2, g3, g4, g5, g6, g7, g8⟩ := (hb0.mono t6).mono hG2
  by_cases h0 : t2 = 0
  ·have c0' : (t2 == 0) = true := by simp [h0]
   have CG2 := CG.mono fun a o x => hG2 a o (t6 a o x)
   cases f
   ·refine ite_t c0' ?_
    refine Do.cell o CE 0 (a := c0) (by kernel_rfl) CG2 ?_
    refine if1 ?_
    refine if1 ?_
    intro t5
    refine Do.dgetS (.inl g1) g2 0 (by kernel_rfl) rfl ?_
    refine Do.gP o g4 ?_
    intro t11 t12
    refine Do.unary ?_
    refine Do.const_int ?_
    intro t13
    refine Do.neg ?_
    intro t14 t15
    refine Do.unary ?_
    refine Do.const_int ?_
    intro t16
    refine Do.neg ?_
    intro t17 t18
    refine Do.newListG (Nat.le_of_ble_eq_true rfl) ?_
    intro t19 t20
    refine Do.draw o t7 (ex := [_]) rfl (by first | decide | lia | exact Int.natCast_pos.mpr (Nat.le_of_ble_eq_true rfl)) ?_
    intro t21 t22 t23 t24 t25 t26 t27 t28
    refine Do.menuI (zs := [0, 1, -1, 2147483647, -2147483648, 5]) (fun z => -2147483648 ≤ z ∧ z ≤ 4294967295) (.inl (t25 _ _ gadd_at)) ⟨⟨_, rfl⟩, ⟨_, rfl⟩, ⟨_, rfl⟩, ⟨_, rfl⟩, ⟨_, rfl⟩, ⟨_, rfl⟩, trivial⟩ (by decide) t27 (by exact t28) (by decide) fun z tz hz => ?_
    intro t29
    refine Do.byContract0 o (const_spec B n _ _ _) ?_
    intro QM r5 G5 hG5 p5
    obtain ⟨x, k, tx, rfl, hn, _⟩ := p5
    refine hKK ?_; exact leafV G5 _ [_] _ x k z tz tx t26 hn (.const .I z hz.1 hz.2 nofun nofun nofun)
   ·refine ite_t c0' ?_
    refine Do.cell o CE 0 (a := c0) (by kernel_rfl) CG2 ?_
    refine if0 ?_
    refine if0 ?_
    refine ite_t c0' ?_
    refine Do.cell o CE 0 (a := c0) (by kernel_rfl) CG2 ?_
    refine if1 ?_
    refine if1 ?_
    intro t5
    refine Do.dgetS (.inl g1) g2 0 (by kernel_rfl) rfl ?_
    refine Do.gP o g5 ?_
    intro t11 t12 t13 t14
    refine Do.newListG (Nat.le_of_ble_eq_true rfl) ?_
    intro t15 t16
    refine Do.draw o t7 (ex := [_]) rfl (by first | decide | lia | exact Int.natCast_pos.mpr (Nat.le_of_ble_eq_true rfl)) ?_
    intro t17 t18 t19 t20 t21 t22 t23 t24
    refine Do.menuI (zs := [0, 1, 4294967295, 40]) (fun z => 0 ≤ z ∧ z ≤ 4294967295) (.inl (t21 _ _ gadd_at)) ⟨⟨_, rfl⟩, ⟨_, rfl⟩, ⟨_, rfl⟩, ⟨_, rfl⟩, trivial⟩ (by decide) t23 (by exact t24) (by decide) fun z tz hz => ?_
    intro t25
    refine Do.byContract0 o (const_spec B n _ _ _) ?_
    intro QM r5 G5 hG5 p5
    obtain ⟨x, k, tx, rfl, hn, _⟩ := p5
    refine hKK ?_; exact leafV G5 _ [_] _ x k z tz tx t22 hn (.const .M z (by lia) hz.2 nofun nofun (fun _ => hz.1))
   ·refine ite_t c0' ?_
    refine Do.cell o CE 0 (a := c0) (by kernel_rfl) CG2 ?_
    refine if0 ?_
    refine if0 ?_
    refine ite_t c0' ?_
    refine Do.cell o CE 0 (a := c0) (by kernel_rfl) CG2 ?_
    refine if0 ?_
    refine if0 ?_
    refine ite_t c0' ?_
    refine Do.cell o CE 0 (a := c0) (by kernel_rfl) CG2 ?_
    refine if1 ?_
    refine if1 ?_
    intro t5
    refine Do.dgetS (.inl g1) g2 0 (by kernel_rfl) rfl ?_
    refine Do.gP o g6 ?_
    intro t11
    refine Do.draw o t7 (ex := [_]) rfl (by first | decide | lia | exact Int.natCast_pos.mpr (Nat.le_of_ble_eq_true rfl)) ?_
    intro t12 t13 t14 t15 t16 t17 t18 t19 t20
    refine Do.byContract0 o (const_spec B n _ _ _) ?_
    intro QM r5 G5 hG5 p5
    obtain ⟨x, k, tx, rfl, hn, _⟩ := p5
    refine hKK ?_; exact leafV G5 _ [_] _ x k _ _ tx t17 hn (.const .B _ (by lia) (by lia) (fun _ => by lia) nofun nofun)
   ·refine ite_t c0' ?_
    refine Do.cell o CE 0 (a := c0) (by kernel_rfl) CG2 ?_
    refine if0 ?_
    refine if0 ?_
    refine ite_t c0' ?_
    refine Do.cell o CE 0 (a := c0) (by kernel_rfl) CG2 ?_
    refine if0 ?_
    refine if0 ?_
    refine ite_t c0' ?_
    refine Do.cell o CE 0 (a := c0) (by kernel_rfl) CG2 ?_
    refine if0 ?_
    refine if0 ?_
    refine Do.cell o CE 0 (a := c0) (by kernel_rfl) CG2 ?_
    refine if1 ?_
    refine ite_t c0' ?_
    refine if1 ?_
    intro t5
    refine Do.dgetS (.inl g1) g2 0 (by kernel_rfl) rfl ?_
    refine Do.gP o g7 ?_
    intro t11 t12
    refine Do.byContract0 o (const_spec B n _ _ _) ?_
    intro QM r5 G5 hG5 p5
    obtain ⟨x, k, tx, rfl, hn, _⟩ := p5
    refine hKK ?_; exact leafV G5 _ [_] _ x k _ _ tx t7 hn (.const .C _ (by lia) (by lia) nofun (fun _ => by lia) nofun)
  ·have c0' : (t2 == 0) = false := by simpa using h0
   have CG2 := CG.mono fun a o x => hG2 a o (t6 a o x)
   have hvl : ∀ d : Int, 0 ≤ d → d < ((bk.refs (fits f)).length : Int) → ∃ j, j ∈ fits f ∧ (bk.refs (fits f))[d.toNat]? = some (.ref (bk.var j)) := fun d h0 h1 => by
    have hl : d.toNat < (fits f).length := by simp [Bk.refs] at h1; lia
    refine ⟨(fits f)[d.toNat], List.getElem_mem hl, ?_⟩
    rw [Bk.refs, List.getElem?_map, List.getElem?_eq_getElem hl]; rfl
   have varV : ∀ (G5 : Gh) (fp5 : Led) (ex : Led) (vs5 : List (Option Value)) (x : Addr) (j : Nat) (kv : Value) (t5 : Tok), PoolIn pa fp5 → NodeV G5 x (.str (S "var") t5) (.ref (bk.ty (fmOf j))) kv (.ref (bk.var j)) → j < 6 → fmOf j = f →
     Left fp (PT pa bk f 0 3) (.ret (.ref x)) ⟨vs5, G5, ex ++ fp5⟩ := fun G5 fp5 ex vs5 x j kv t5 hp5 hn hj hf =>
    Left.mk ex fp5 rfl (hp5.ads.trans hp.ads.symm) ⟨hp5, x, .var j, rfl, ⟨_, hn.node⟩, .var j hj, hf, Nat.le_refl _, by simp [Tr.cost]⟩
   cases f
   ·refine ite_f c0' ?_
    refine if0 ?_
    refine ite_f c0' ?_
    refine if0 ?_
    refine ite_f c0' ?_
    refine if0 ?_
    refine Do.cell o CE 0 (a := c0) (by kernel_rfl) CG2 ?_
    refine if0 ?_
    refine if0 ?_
    refine Do.callG ?_
    refine Do.builtinK o 2 rfl (v := (.builtin "len")) (by kernel_rfl) (by kernel_rfl) (by kernel_rfl) ?_
    refine Do.callWith_b1 ?_
    refine Do.reL o tb396 30 ?_
    refine Do.lenL (.inr (mm 0 rfl)) (by first | exact Nat.le_of_ble_eq_true rfl | assumption | lia | (simp; lia)) ?_
    intro t5
    refine Do.draw o t7 (ex := [_]) rfl (by first | decide | lia | exact Int.natCast_pos.mpr (Nat.le_of_ble_eq_true rfl)) ?_
    intro t11 t12 t13 t14 t15 t16 t17 t18
    obtain ⟨j, hj, hjv⟩ := hvl t11 t17 t18
    obtain ⟨hj6, hjf⟩ := fits_fm hj
    have hjt := ((g8.var j hj6).type).mono t15
    refine Do.itemL (.inr (mm 0 rfl)) t17 (by simp [Bk.refs, fits] at t18; lia) hjv ?_
    intro t19
    refine Do.gP o hjt ?_
    refine Do.newListS (Nat.le_of_ble_eq_true rfl) ?_
    intro t20 t21
    refine Do.freeze 0 rfl rfl t21 ?_
    refine Do.byContract0 o (make_spec B n _ _ _ _ rfl rfl rfl rfl) ?_
    intro QM r5 G5 hG5 p5
    obtain ⟨x, rfl, hn⟩ := p5
    refine hKK ?_; exact varV G5 _ [_] _ x j _ _ t16 hn hj6 hjf
   ·refine ite_f c0' ?_
    refine if0 ?_
    refine ite_f c0' ?_
    refine if0 ?_
    refine ite_f c0' ?_
    refine if0 ?_
    refine Do.cell o CE 0 (a := c0) (by kernel_rfl) CG2 ?_
    refine if0 ?_
    refine if0 ?_
    refine Do.callG ?_
    refine Do.builtinK o 2 rfl (v := (.builtin "len")) (by kernel_rfl) (by kernel_rfl) (by kernel_rfl) ?_
    refine Do.callWith_b1 ?_
    refine Do.reL o tb396 30 ?_
    refine Do.lenL (.inr (mm 0 rfl)) (by first | exact Nat.le_of_ble_eq_true rfl | assumption | lia | (simp; lia)) ?_
    intro t5
    refine Do.draw o t7 (ex := [_]) rfl (by first | decide | lia | exact Int.natCast_pos.mpr (Nat.le_of_ble_eq_true rfl)) ?_
    intro t11 t12 t13 t14 t15 t16 t17 t18
    obtain ⟨j, hj, hjv⟩ := hvl t11 t17 t18
    obtain ⟨hj6, hjf⟩ := fits_fm hj
    have hjt := ((g8.var j hj6).type).mono t15
    refine Do.itemL (.inr (mm 0 rfl)) t17 (by simp [Bk.refs, fits] at t18; lia) hjv ?_
    intro t19
    refine Do.gP o hjt ?_
    refine Do.newListS (Nat.le_of_ble_eq_true rfl) ?_
    intro t20 t21
    refine Do.freeze 0 rfl rfl t21 ?_
    refine Do.byContract0 o (make_spec B n _ _ _ _ rfl rfl rfl rfl) ?_
    intro QM r5 G5 hG5 p5
    obtain ⟨x, rfl, hn⟩ := p5
    refine hKK ?_; exact varV G5 _ [_] _ x j _ _ t16 hn hj6 hjf
   ·refine ite_f c0' ?_
    refine if0 ?_
    refine ite_f c0' ?_
    refine if0 ?_
    refine ite_f c0' ?_
    refine if0 ?_
    refine Do.cell o CE 0 (a := c0) (by kernel_rfl) CG2 ?_
    refine if0 ?_
    refine if0 ?_
    refine Do.callG ?_
    refine Do.builtinK o 2 rfl (v := (.builtin "len")) (by kernel_rfl) (by kernel_rfl) (by kernel_rfl) ?_
    refine Do.callWith_b1 ?_
    refine Do.reL o tb396 30 ?_
    refine Do.lenL (.inr (mm 0 rfl)) (by first | exact Nat.le_of_ble_eq_true rfl | assumption | lia | (simp; lia)) ?_
    intro t5
    refine Do.draw o t7 (ex := [_]) rfl (by first | decide | lia | exact Int.natCast_pos.mpr (Nat.le_of_ble_eq_true rfl)) ?_
    intro t11 t12 t13 t14 t15 t16 t17 t18
    obtain ⟨j, hj, hjv⟩ := hvl t11 t17 t18
    obtain ⟨hj6, hjf⟩ := fits_fm hj
    have hjt := ((g8.var j hj6).type).mono t15
    refine Do.itemL (.inr (mm 0 rfl)) t17 (by simp [Bk.refs, fits] at t18; lia) hjv ?_
    intro t19
    refine Do.gP o hjt ?_
    refine Do.newListS (Nat.le_of_ble_eq_true rfl) ?_
    intro t20 t21
    refine Do.freeze 0 rfl rfl t21 ?_
    refine Do.byContract0 o (make_spec B n _ _ _ _ rfl rfl rfl rfl) ?_
    intro QM r5 G5 hG5 p5
    obtain ⟨x, rfl, hn⟩ := p5
    refine hKK ?_; exact varV G5 _ [_] _ x j _ _ t16 hn hj6 hjf
   ·refine ite_f c0' ?_
    refine if0 ?_
    refine ite_f c0' ?_
    refine if0 ?_
    refine ite_f c0' ?_
    refine if0 ?_
    refine Do.cell o CE 0 (a := c0) (by kernel_rfl) CG2 ?_
    refine if1 ?_
    refine ite_f c0' ?_
    refine if0 ?_
    refine Do.callG ?_
    refine Do.builtinK o 2 rfl (v := (.builtin "len")) (by kernel_rfl) (by kernel_rfl) (by kernel_rfl) ?_
    refine Do.callWith_b1 ?_
    refine Do.reL o tb396 30 ?_
    refine Do.lenL (.inr (mm 0 rfl)) (by first | exact Nat.le_of_ble_eq_true rfl | assumption | lia | (simp; lia)) ?_
    intro t5
    refine Do.draw o t7 (ex := [_]) rfl (by first | decide | lia | exact Int.natCast_pos.mpr (Nat.le_of_ble_eq_true rfl)) ?_
    intro t11 t12 t13 t14 t15 t16 t17 t18
    obtain ⟨j, hj, hjv⟩ := hvl t11 t17 t18
    obtain ⟨hj6, hjf⟩ := fits_fm hj
    have hjt := ((g8.var j hj6).type).mono t15
    refine Do.itemL (.inr (mm 0 rfl)) t17 (by simp [Bk.refs, fits] at t18; lia) hjv ?_
    intro t19
    refine Do.gP o hjt ?_
    refine Do.newListS (Nat.le_of_ble_eq_true rfl) ?_
    intro t20 t21
    refine Do.freeze 0 rfl rfl t21 ?_
    refine Do.byContract0 o (make_spec B n _ _ _ _ rfl rfl rfl rfl) ?_
    intro QM r5 G5 hG5 p5
    obtain ⟨x, rfl, hn⟩ := p5
    refine hKK ?_; exact varV G5 _ [_] _ x j _ _ t16 hn hj6 hjf
end
end Mine
end
section
namespace Mine
open PySem PySem.W PyProof.Rows PySem.Calls H
noncomputable def Cc : Nat → Nat
 | 0 => 3
 | k + 1 => 2 * Cc k + 5
theorem Cc_le (k : Nat) : 3 ≤ Cc k := by induction k with | zero => exact Nat.le_refl _ | succ k ih => show 3 ≤ 2 * Cc k + 5; lia
noncomputable def genAt : Fm → Addr
 | .I => 403 | .M => 410 | _ => 417
noncomputable def GenC (w : World) (hB : Heap) (bk : Bk) (bd pa : Addr) (oB : PySem.Obj) (ta va : Addr) (nv : Nat) (f : Fm) (k n : Nat) : Prop :=
 ∀ G fp dp td, PoolIn pa fp → BookAt w G bk bd oB ta va nv → dp = 3 - (k : Int) → Calls w hB n (genAt f) [.ref bd, .ref pa, .int dp td] G fp (PT pa bk f k (Cc k))
theorem endV {G' : Gh} {bk : Bk} {pa : Addr} {fp fp' ex : Led} {f : Fm} {hm cm : Nat} {x : Addr} {vs : List (Option Value)} (hp : PoolIn pa fp) (hp' : PoolIn pa fp') (h : TreeV G' bk f hm cm (.ref x)) : Left fp (PT pa bk f hm cm) (.ret (.ref x)) ⟨vs, G', ex ++ fp'⟩ :=
 Left.mk ex fp' rfl (hp'.ads.trans hp.ads.symm) ⟨hp', h⟩
theorem TreeV.le {G : Gh} {bk : Bk} {f : Fm} {h c h' c' : Nat} {v : Value} (x : TreeV G bk f h c v) (hh : h ≤ h') (hc : c ≤ c') : TreeV G bk f h' c' v := let ⟨a, t, e, n, w, ef, e1, e2⟩ := x; ⟨a, t, e, n, w, ef, Nat.le_trans e1 hh, Nat.le_trans e2 hc⟩
theorem TreeV.mono {G G' : Gh} {bk : Bk} {f : Fm} {h c : Nat} {v : Value} (x : TreeV G bk f h c v) (hG : ∀ a o, G a o → G' a o) : TreeV G' bk f h c v := let ⟨a, t, e, n, w, ef, e1, e2⟩ := x; ⟨a, t, e, n.mono hG, w, ef, e1, e2⟩
section
variable {G : Gh} {bk : Bk} {x ks : Addr} {f fl fr : Fm} {k : Nat} {t tn : Tok} {n : Nat} {op : String} {vl vr : Value}
theorem TreeV.bin (hn : NodeV G x (.str (S op) t) (.ref (bk.ty f)) (.ref ks) .none) (hks : G ks (lobj [vl, vr] n)) (hl : TreeV G bk fl k (Cc k) vl) (hr : TreeV G bk fr k (Cc k) vr)
  (h : (op ∈ ["+", "-", "*"] ∧ f = .I ∧ fl = .I ∧ fr = .I) ∨ (op ∈ ["s+", "s-", "s*", "s/"] ∧ f = .M ∧ fl = .M ∧ fr = .M) ∨ (op ∈ ["&", "OR"] ∧ f = .B ∧ fl = .B ∧ fr = .B) ∨ (op ∈ ["=", "#", "s<=", "s>="] ∧ f = .B ∧ fl = .M ∧ fr = .M) ∨ (op ∈ ["=", "#", "<", "<=", ">", ">="] ∧ f = .B ∧ fl = .I ∧ fr = .I)) : TreeV G bk f (k + 1) (Cc (k + 1)) (.ref x) := by
 obtain ⟨a, tl, rfl, nl, wl, el, h1, h2⟩ := hl
 obtain ⟨b, tr, rfl, nr, wr, er, h3, h4⟩ := hr
 subst el er
 refine ⟨x, .bin op f tl tr, rfl, ⟨ks, n, a, b, hn.node, hks, nl, nr⟩, .bin op f tl tr ?_ wl wr, rfl, ?_, ?_⟩
 ·rcases h with h | h | h | h | h
  ·exact .inl h
  ·exact .inr (.inl h)
  ·exact .inr (.inr (.inl h))
  ·exact .inr (.inr (.inr (.inl h)))
  ·exact .inr (.inr (.inr (.inr (.inr h))))
 ·simp only [Tr.ht]; lia
 ·simp only [Tr.cost, Cc]; lia
theorem TreeV.inn {b : Addr} {kb : Value} {z : Int} {tz : Tok} (hn : NodeV G x (.str (S "IN") t) (.ref (bk.ty .B)) (.ref ks) .none) (hks : G ks (lobj [.ref b, vr] n)) (hb : NodeAt G b "const" (.ref (bk.ty .I)) kb (.int z tz)) (h0 : 0 ≤ z) (h1 : z < 32) (hr : TreeV G bk .M k (Cc k) vr) : TreeV G bk .B (k + 1) (Cc (k + 1)) (.ref x) := by
 obtain ⟨d, tr, rfl, nr, wr, er, h3, h4⟩ := hr
 refine ⟨x, .bin "IN" .B (.const .I z) tr, rfl, ⟨ks, n, b, d, hn.node, hks, ⟨_, _, hb⟩, nr⟩, .bin _ _ _ _ (.inr (.inr (.inr (.inr (.inl ⟨rfl, rfl, ⟨z, rfl, h0, h1⟩, er⟩))))) (.const .I z (by lia) (by lia) nofun nofun nofun) wr, rfl, ?_, ?_⟩
 ·simp only [Tr.ht]; lia
 ·have := Cc_le k; simp only [Tr.cost, Cc]; lia
theorem TreeV.un (hn : NodeV G x (.str (S op) t) (.ref (bk.ty f)) (.ref ks) .none) (hks : G ks (lobj [vl] n)) (hl : TreeV G bk f k (Cc k) vl) (h : (op = "neg" ∧ f = .I) ∨ (op = "not" ∧ f = .B) ∨ (op = "s~" ∧ f = .M)) : TreeV G bk f (k + 1) (Cc (k + 1)) (.ref x) := by
 obtain ⟨a, tl, rfl, nl, wl, el, h1, h2⟩ := hl
 refine ⟨x, .un op f tl, rfl, ⟨ks, n, a, hn.node, hks, nl⟩, .un op f tl ?_ wl, rfl, ?_, ?_⟩
 ·rcases h with ⟨h, e⟩ | ⟨h, e⟩ | ⟨h, e⟩
  ·exact .inl ⟨h, e, el.trans e⟩
  ·exact .inr (.inl ⟨h, e, el.trans e⟩)
  ·exact .inr (.inr ⟨h, e, el.trans e⟩)
 ·simp only [Tr.ht]; lia
 ·simp only [Tr.cost, Cc]; lia
theorem TreeV.std1 {name : String} (hn : NodeV G x (.str (S "std") t) (.ref (bk.ty f)) (.ref ks) (.str (S name) tn)) (hks : G ks (lobj [vl] n)) (hl : TreeV G bk fl k (Cc k) vl)
  (h : (name = "ABS" ∧ f = .I ∧ fl = .I) ∨ (name = "ODD" ∧ f = .B ∧ fl = .I) ∨ (name = "VAL" ∧ f = .I ∧ fl = .M) ∨ (name = "ORD" ∧ f = .I ∧ (fl = .M ∨ fl = .B ∨ fl = .C))) : TreeV G bk f (k + 1) (Cc (k + 1)) (.ref x) := by
 obtain ⟨a, tl, rfl, nl, wl, el, h1, h2⟩ := hl
 subst el
 refine ⟨x, .std1 name f tl, rfl, ⟨ks, n, a, tn, hn.node, hks, nl⟩, .std1 name f tl h wl, rfl, ?_, ?_⟩
 ·simp only [Tr.ht]; lia
 ·simp only [Tr.cost, Cc]; lia
theorem TreeV.std2 {name : String} {b : Addr} {kb : Value} {z : Int} {tz : Tok} (hn : NodeV G x (.str (S "std") t) (.ref (bk.ty .I)) (.ref ks) (.str (S name) tn)) (hks : G ks (lobj [vl, .ref b] n)) (hl : TreeV G bk .I k (Cc k) vl) (hb : NodeAt G b "const" (.ref (bk.ty .I)) kb (.int z tz)) (h0 : 0 ≤ z) (h1 : z < 32)
  (h : name ∈ ["LSL", "ASR", "ROR"]) : TreeV G bk .I (k + 1) (Cc (k + 1)) (.ref x) := by
 obtain ⟨a, tl, rfl, nl, wl, el, h3, h4⟩ := hl
 simp only [List.mem_cons, List.not_mem_nil, or_false] at h
 refine ⟨x, .std2 name .I tl z, rfl, ⟨ks, n, a, b, tn, tz, kb, hn.node, hks, nl, hb⟩, .std2 name .I tl z h ⟨rfl, el⟩ h0 h1 wl, rfl, ?_, ?_⟩
 ·simp only [Tr.ht]; lia
 ·simp only [Tr.cost, Cc]; lia
theorem TreeV.set {vs : List Value} {es : List Int} (hn : NodeV G x (.str (S "set") t) (.ref (bk.ty .M)) (.ref ks) .none) (hks : G ks (lobj vs n)) (hl : es.length ≤ 2) (he : ∀ e ∈ es, 0 ≤ e ∧ e < 32) (h : All2 (fun v e => ∃ b, v = .ref b ∧ SingleIs G bk b e) vs es) : TreeV G bk .M (k + 1) (Cc (k + 1)) (.ref x) := by
 refine ⟨x, .set es, rfl, ⟨ks, n, vs, hn.node, hks, h⟩, .set es he hl, rfl, ?_, ?_⟩
 ·simp only [Tr.ht]; lia
 ·have := Cc_le k; simp only [Tr.cost, Cc]; lia
end
end Mine
end
section
namespace Mine
open PySem PySem.W PyProof.Rows PySem.Calls H
theorem ordval {name : String} (h : name ∈ ["ORD", "VAL"]) : (name = "ABS" ∧ Fm.I = .I ∧ Fm.M = .I) ∨ (name = "ODD" ∧ Fm.I = .B ∧ Fm.M = .I) ∨ (name = "VAL" ∧ Fm.I = .I ∧ Fm.M = .M) ∨ (name = "ORD" ∧ Fm.I = .I ∧ (Fm.M = .M ∨ Fm.M = .B ∨ Fm.M = .C)) := by
 simp only [List.mem_cons, List.not_mem_nil, or_false] at h
 rcases h with rfl | rfl
 ·exact .inr (.inr (.inr ⟨rfl, rfl, .inl rfl⟩))
 ·exact .inr (.inr (.inl ⟨rfl, rfl, rfl⟩))
section
variable {w : World} {hB : Heap} {mg mb : Str → Option Value} {bk : Bk} {bd pa ta va : Addr} {oB : PySem.Obj} {nv : Nat}
theorem whole_zero (B : Base w hB mg mb) (n : Nat) : GenC w hB bk bd pa oB ta va nv .I 0 (n + 5) := by
 intro G fp dp td hp hb hdp
 have hb0 := hb
 obtain ⟨h1, h2, h3, h4, h5, h6, h7, h8⟩ := hb
 have c1 : decide (dp < 3) = false := decide_eq_false (by simp at hdp; lia)
 refine start403 B _ _ _ ?_
 intro A env e cx o KK hKK
 refine Do.reS o tb403 60 ?_
 refine ite_f c1 ?_
 intro t1 t2
 refine Do.dgetS (.inl h1) h2 0 (by kernel_rfl) rfl ?_
 refine Do.gP o h4 ?_
 refine if1 ?_
 intro t3
 refine Do.byContract o (leaf_spec B n hp hb0 .I _) (ex := []) rfl ?_
 intro QM r5 G5 fp5 hG5 p5
 obtain ⟨hp5, x5, t5', rfl, q1, q2, q3, q4, q5⟩ := p5
 refine hKK ?_; exact endV (ex := []) hp hp5 ⟨x5, t5', rfl, q1, q2, q3, q4, q5⟩
theorem whole_step (B : Base w hB mg mb) (k n : Nat) (iI : GenC w hB bk bd pa oB ta va nv .I k (n + 5)) (iM : GenC w hB bk bd pa oB ta va nv .M k (n + 5)) (iB : GenC w hB bk bd pa oB ta va nv .B k (n + 5)) : GenC w hB bk bd pa oB ta va nv .I (k + 1) (n + 6) := by
 intro G fp dp td hp hb hdp
 have hb0 := hb
 obtain ⟨h1, h2, h3, h4, h5, h6, h7, h8⟩ := hb
 have c1 : decide (dp < 3) = true := decide_eq_true (by lia)
 have hdp1 : dp + 1 = 3 - (k : Int) := by lia
 refine start403 B _ _ _ ?_
 intro A env e cx o KK hKK
 refine Do.reS o tb403 60 ?_
 refine ite_t c1 ?_
 intro t1
 refine Do.draw o hp (ex := []) rfl (by first | decide | lia | exact Int.natCast_pos.mpr (Nat.le_of_ble_eq_true rfl)) ?_
 intro t2 t3 t4 t5 t6 t7 t8 t9 t10
 refine Do.dgetS (.inl (t6 _ _ h1)) h2 0 (by kernel_rfl) rfl ?_
 refine Do.gP o (h4.mono fun _ _ x => (t6 _ _ x)) ?_
 have hcase : t2 = 0 ∨ t2 = 1 ∨ t2 = 2 ∨ t2 = 3 ∨ t2 = 4 ∨ t2 = 5 ∨ t2 = 6 ∨ t2 = 7 ∨ t2 = 8 := by lia
 rcases hcase with rfl | rfl | rfl | rfl | rfl | rfl | rfl | rfl | rfl
 ·refine if1 ?_
  intro t2
  refine Do.byContract o (leaf_spec B _ (by assumption) (hb0.mono (by exact fun _ _ x => (t6 _ _ x))) .I _) (ex := []) rfl ?_
  intro QM r20 G20 fp20 hG20 p20
  obtain ⟨hp20, hx20⟩ := p20
  have hx20' := hx20
  obtain ⟨x20, tt20, rfl, hx20r⟩ := hx20'
  clear hx20r
  refine hKK ?_; exact endV (ex := []) hp hp20 (hx20.le (Nat.zero_le _) (Nat.le_trans (Cc_le k) (by simp only [Cc]; lia)))
 ·refine if1 ?_
  intro t2
  refine Do.byContract o (leaf_spec B _ (by assumption) (hb0.mono (by exact fun _ _ x => (t6 _ _ x))) .I _) (ex := []) rfl ?_
  intro QM r20 G20 fp20 hG20 p20
  obtain ⟨hp20, hx20⟩ := p20
  have hx20' := hx20
  obtain ⟨x20, tt20, rfl, hx20r⟩ := hx20'
  clear hx20r
  refine hKK ?_; exact endV (ex := []) hp hp20 (hx20.le (Nat.zero_le _) (Nat.le_trans (Cc_le k) (by simp only [Cc]; lia)))
 ·refine if0 ?_
  refine if1 ?_
  intro t2 t11 t12
  refine Do.newListG (Nat.le_of_ble_eq_true rfl) ?_
  intro t13 t14
  refine Do.draw o t7 (ex := []) rfl (by first | decide | lia | exact Int.natCast_pos.mpr (Nat.le_of_ble_eq_true rfl)) ?_
  intro t15 t16 t17 t18 t19 t20 t21 t22
  refine Do.menuS ["+", "-", "*"] (.inl (t19 _ _ gadd_at)) ⟨⟨_, rfl⟩, ⟨_, rfl⟩, ⟨_, rfl⟩, trivial⟩ 3 rfl (by assumption) (by assumption) (by decide) ?_
  intro t23 t24 t25 t26 t27
  refine Do.byContract o (iI _ _ _ _ (by assumption) (hb0.mono (by exact fun _ _ x => (t19 _ _ (.inl (t6 _ _ x))))) hdp1) (ex := []) rfl ?_
  intro QM r20 G20 fp20 hG20 p20
  obtain ⟨hp20, hx20⟩ := p20
  have hx20' := hx20
  obtain ⟨x20, tt20, rfl, hx20r⟩ := hx20'
  clear hx20r
  intro t28 t29
  refine Do.byContract o (iI _ _ _ _ (by assumption) (hb0.mono (by exact fun _ _ x => (hG20 _ _ (t19 _ _ (.inl (t6 _ _ x)))))) hdp1) (ex := []) rfl ?_
  intro QM r21 G21 fp21 hG21 p21
  obtain ⟨hp21, hx21⟩ := p21
  have hx21' := hx21
  obtain ⟨x21, tt21, rfl, hx21r⟩ := hx21'
  clear hx21r
  refine Do.newListG (Nat.le_of_ble_eq_true rfl) ?_
  intro t30
  refine Do.byContract0 o (make_spec3 B _ _ _ _ rfl rfl rfl) ?_
  intro QM r22 G22 hG22 p22
  obtain ⟨x22, rfl, hn22⟩ := p22
  refine hKK ?_; exact endV (ex := []) hp (by assumption) (.bin hn22 (by exact (hG22 _ _ gadd_at)) (hx20.mono (by exact fun _ _ x => (hG22 _ _ (.inl (hG21 _ _ x))))) (hx21.mono (by exact fun _ _ x => (hG22 _ _ (.inl x)))) (.inl ⟨by assumption, rfl, rfl, rfl⟩))
 ·refine if0 ?_
  refine if0 ?_
  refine if1 ?_
  intro t2 t11 t12
  refine Do.byContract o (iI _ _ _ _ (by assumption) (hb0.mono (by exact fun _ _ x => (t6 _ _ x))) hdp1) (ex := []) rfl ?_
  intro QM r20 G20 fp20 hG20 p20
  obtain ⟨hp20, hx20⟩ := p20
  have hx20' := hx20
  obtain ⟨x20, tt20, rfl, hx20r⟩ := hx20'
  clear hx20r
  refine Do.newListG (Nat.le_of_ble_eq_true rfl) ?_
  intro t13
  refine Do.byContract0 o (make_spec3 B _ _ _ _ rfl rfl rfl) ?_
  intro QM r22 G22 hG22 p22
  obtain ⟨x22, rfl, hn22⟩ := p22
  refine hKK ?_; exact endV (ex := []) hp (by assumption) (.un hn22 (by exact (hG22 _ _ gadd_at)) (hx20.mono (by exact fun _ _ x => (hG22 _ _ (.inl x)))) (.inl ⟨rfl, rfl⟩))
 ·refine if0 ?_
  refine if0 ?_
  refine if0 ?_
  refine if1 ?_
  intro t2
  refine Do.draw o t7 (ex := []) rfl (by first | decide | lia | exact Int.natCast_pos.mpr (Nat.le_of_ble_eq_true rfl)) ?_
  intro t11 t12 t13 t14 t15 t16 t17 t18 t19
  refine Do.byContract0 o (const_spec B _ _ _ _) ?_
  intro QM r20 G20 hG20 p20
  obtain ⟨x20, k20, tx20, rfl, hn20, _⟩ := p20
  intro t20 t21 t22
  refine Do.byContract o (iI _ _ _ _ (by assumption) (hb0.mono (by exact fun _ _ x => (hG20 _ _ (t15 _ _ (t6 _ _ x))))) hdp1) (ex := []) rfl ?_
  intro QM r21 G21 fp21 hG21 p21
  obtain ⟨hp21, hx21⟩ := p21
  have hx21' := hx21
  obtain ⟨x21, tt21, rfl, hx21r⟩ := hx21'
  clear hx21r
  refine Do.newListG (Nat.le_of_ble_eq_true rfl) ?_
  intro t23 t24 t25 t26
  refine Do.newListG (Nat.le_of_ble_eq_true rfl) ?_
  intro t27 t28
  refine Do.draw o hp21 (ex := []) rfl (by first | decide | lia | exact Int.natCast_pos.mpr (Nat.le_of_ble_eq_true rfl)) ?_
  intro t29 t30 t31 t32 t33 t34 t35 t36
  refine Do.menuS ["LSL", "ASR", "ROR"] (.inl (t33 _ _ gadd_at)) ⟨⟨_, rfl⟩, ⟨_, rfl⟩, ⟨_, rfl⟩, trivial⟩ 3 rfl (by assumption) (by assumption) (by decide) ?_
  intro t37 t38 t39
  refine Do.byContract0 o (make_spec B _ _ _ _ _ rfl rfl rfl rfl) ?_
  intro QM r22 G22 hG22 p22
  obtain ⟨x22, rfl, hn22⟩ := p22
  refine hKK ?_; exact endV (ex := []) hp (by assumption) (.std2 hn22 (by exact (hG22 _ _ (t33 _ _ (.inl gadd_at)))) (hx21.mono (by exact fun _ _ x => (hG22 _ _ (t33 _ _ (.inl (.inl x)))))) ((hn20.node).mono (by exact fun _ _ x => (hG22 _ _ (t33 _ _ (.inl (.inl (hG21 _ _ x))))))) (by assumption) (by assumption) (by assumption))
 ·refine if0 ?_
  refine if0 ?_
  refine if0 ?_
  refine if0 ?_
  refine if1 ?_
  intro t2 t11 t12
  refine Do.byContract o (iI _ _ _ _ (by assumption) (hb0.mono (by exact fun _ _ x => (t6 _ _ x))) hdp1) (ex := []) rfl ?_
  intro QM r20 G20 fp20 hG20 p20
  obtain ⟨hp20, hx20⟩ := p20
  have hx20' := hx20
  obtain ⟨x20, tt20, rfl, hx20r⟩ := hx20'
  clear hx20r
  refine Do.newListG (Nat.le_of_ble_eq_true rfl) ?_
  intro t13 t14
  refine Do.byContract0 o (make_spec B _ _ _ _ _ rfl rfl rfl rfl) ?_
  intro QM r22 G22 hG22 p22
  obtain ⟨x22, rfl, hn22⟩ := p22
  refine hKK ?_; exact endV (ex := []) hp (by assumption) (.std1 hn22 (by exact (hG22 _ _ gadd_at)) (hx20.mono (by exact fun _ _ x => (hG22 _ _ (.inl x)))) (.inl ⟨rfl, rfl, rfl⟩))
 ·refine if0 ?_
  refine if0 ?_
  refine if0 ?_
  refine if0 ?_
  refine if0 ?_
  refine if1 ?_
  intro t2 t11 t12
  refine Do.byContract o (iM _ _ _ _ (by assumption) (hb0.mono (by exact fun _ _ x => (t6 _ _ x))) hdp1) (ex := []) rfl ?_
  intro QM r20 G20 fp20 hG20 p20
  obtain ⟨hp20, hx20⟩ := p20
  have hx20' := hx20
  obtain ⟨x20, tt20, rfl, hx20r⟩ := hx20'
  clear hx20r
  refine Do.newListG (Nat.le_of_ble_eq_true rfl) ?_
  intro t13 t14 t15
  refine Do.newListG (Nat.le_of_ble_eq_true rfl) ?_
  intro t16 t17
  refine Do.draw o hp20 (ex := []) rfl (by first | decide | lia | exact Int.natCast_pos.mpr (Nat.le_of_ble_eq_true rfl)) ?_
  intro t18 t19 t20 t21 t22 t23 t24 t25
  refine Do.menuS ["ORD", "VAL"] (.inl (t22 _ _ gadd_at)) ⟨⟨_, rfl⟩, ⟨_, rfl⟩, trivial⟩ 2 rfl (by assumption) (by assumption) (by decide) ?_
  intro t26 t27 t28
  refine Do.byContract0 o (make_spec B _ _ _ _ _ rfl rfl rfl rfl) ?_
  intro QM r22 G22 hG22 p22
  obtain ⟨x22, rfl, hn22⟩ := p22
  refine hKK ?_; exact endV (ex := []) hp (by assumption) (.std1 hn22 (by exact (hG22 _ _ (t22 _ _ (.inl gadd_at)))) (hx20.mono (by exact fun _ _ x => (hG22 _ _ (t22 _ _ (.inl (.inl x)))))) (ordval (by assumption)))
 ·refine if0 ?_
  refine if0 ?_
  refine if0 ?_
  refine if0 ?_
  refine if0 ?_
  refine if0 ?_
  refine if1 ?_
  intro t2 t11 t12
  refine Do.byContract o (iB _ _ _ _ (by assumption) (hb0.mono (by exact fun _ _ x => (t6 _ _ x))) hdp1) (ex := []) rfl ?_
  intro QM r20 G20 fp20 hG20 p20
  obtain ⟨hp20, hx20⟩ := p20
  have hx20' := hx20
  obtain ⟨x20, tt20, rfl, hx20r⟩ := hx20'
  clear hx20r
  refine Do.newListG (Nat.le_of_ble_eq_true rfl) ?_
  intro t13 t14
  refine Do.byContract0 o (make_spec B _ _ _ _ _ rfl rfl rfl rfl) ?_
  intro QM r22 G22 hG22 p22
  obtain ⟨x22, rfl, hn22⟩ := p22
  refine hKK ?_; exact endV (ex := []) hp (by assumption) (.std1 hn22 (by exact (hG22 _ _ gadd_at)) (hx20.mono (by exact fun _ _ x => (hG22 _ _ (.inl x)))) (.inr (.inr (.inr ⟨rfl, rfl, .inr (.inl rfl)⟩))))
 ·refine if0 ?_
  refine if0 ?_
  refine if0 ?_
  refine if0 ?_
  refine if0 ?_
  refine if0 ?_
  refine if0 ?_
  intro t2 t11
  refine Do.byContract o (leaf_spec B _ (by assumption) (hb0.mono (by exact fun _ _ x => (t6 _ _ x))) .C _) (ex := []) rfl ?_
  intro QM r20 G20 fp20 hG20 p20
  obtain ⟨hp20, hx20⟩ := p20
  have hx20' := hx20
  obtain ⟨x20, tt20, rfl, hx20r⟩ := hx20'
  clear hx20r
  refine Do.newListG (Nat.le_of_ble_eq_true rfl) ?_
  intro t12 t13
  refine Do.byContract0 o (make_spec B _ _ _ _ _ rfl rfl rfl rfl) ?_
  intro QM r22 G22 hG22 p22
  obtain ⟨x22, rfl, hn22⟩ := p22
  refine hKK ?_; exact endV (ex := []) hp (by assumption) (.std1 hn22 (by exact (hG22 _ _ gadd_at)) ((hx20.le (Nat.zero_le _) (Cc_le k)).mono (by exact fun _ _ x => (hG22 _ _ (.inl x)))) (.inr (.inr (.inr ⟨rfl, rfl, .inr (.inr rfl)⟩))))
end
end Mine
end
section
namespace Mine
open PySem PySem.W PyProof.Rows PySem.Calls H
section
variable {w : World} {hB : Heap} {mg mb : Str → Option Value} {bk : Bk} {bd pa ta va : Addr} {oB : PySem.Obj} {nv : Nat}
theorem mask_zero (B : Base w hB mg mb) (n : Nat) : GenC w hB bk bd pa oB ta va nv .M 0 (n + 5) := by
 intro G fp dp td hp hb hdp
 have hb0 := hb
 obtain ⟨h1, h2, h3, h4, h5, h6, h7, h8⟩ := hb
 have c1 : decide (dp < 3) = false := decide_eq_false (by simp at hdp; lia)
 refine start410 B _ _ _ ?_
 intro A env e cx o KK hKK
 refine Do.reS o tb410 60 ?_
 refine ite_f c1 ?_
 intro t1 t2
 refine Do.dgetS (.inl h1) h2 0 (by kernel_rfl) rfl ?_
 refine Do.gP o h5 ?_
 refine if1 ?_
 intro t3
 refine Do.byContract o (leaf_spec B n hp hb0 .M _) (ex := []) rfl ?_
 intro QM r5 G5 fp5 hG5 p5
 obtain ⟨hp5, x5, t5', rfl, q1, q2, q3, q4, q5⟩ := p5
 refine hKK ?_; exact endV (ex := []) hp hp5 ⟨x5, t5', rfl, q1, q2, q3, q4, q5⟩
theorem mask_step (B : Base w hB mg mb) (k n : Nat) (iM : GenC w hB bk bd pa oB ta va nv .M k (n + 5)) : GenC w hB bk bd pa oB ta va nv .M (k + 1) (n + 6) := by
 intro G fp dp td hp hb hdp
 have hb0 := hb
 obtain ⟨h1, h2, h3, h4, h5, h6, h7, h8⟩ := hb
 have c1 : decide (dp < 3) = true := decide_eq_true (by lia)
 have hdp1 : dp + 1 = 3 - (k : Int) := by lia
 refine start410 B _ _ _ ?_
 intro A env e cx o KK hKK
 refine Do.reS o tb410 60 ?_
 refine ite_t c1 ?_
 intro t1
 refine Do.draw o hp (ex := []) rfl (by first | decide | lia | exact Int.natCast_pos.mpr (Nat.le_of_ble_eq_true rfl)) ?_
 intro t2 t3 t4 t5 t6 t7 t8 t9 t10
 refine Do.dgetS (.inl (t6 _ _ h1)) h2 0 (by kernel_rfl) rfl ?_
 refine Do.gP o (h5.mono fun _ _ x => (t6 _ _ x)) ?_
 have hcase : t2 = 0 ∨ t2 = 1 ∨ t2 = 2 ∨ t2 = 3 ∨ t2 = 4 ∨ t2 = 5 := by lia
 rcases hcase with rfl | rfl | rfl | rfl | rfl | rfl
 ·refine if1 ?_
  intro t2
  refine Do.byContract o (leaf_spec B _ (by assumption) (hb0.mono (by exact fun _ _ x => (t6 _ _ x))) .M _) (ex := []) rfl ?_
  intro QM r20 G20 fp20 hG20 p20
  obtain ⟨hp20, hx20⟩ := p20
  have hx20' := hx20
  obtain ⟨x20, tt20, rfl, hx20r⟩ := hx20'
  clear hx20r
  refine hKK ?_; exact endV (ex := []) hp hp20 (hx20.le (Nat.zero_le _) (Nat.le_trans (Cc_le k) (by simp only [Cc]; lia)))
 ·refine if1 ?_
  intro t2
  refine Do.byContract o (leaf_spec B _ (by assumption) (hb0.mono (by exact fun _ _ x => (t6 _ _ x))) .M _) (ex := []) rfl ?_
  intro QM r20 G20 fp20 hG20 p20
  obtain ⟨hp20, hx20⟩ := p20
  have hx20' := hx20
  obtain ⟨x20, tt20, rfl, hx20r⟩ := hx20'
  clear hx20r
  refine hKK ?_; exact endV (ex := []) hp hp20 (hx20.le (Nat.zero_le _) (Nat.le_trans (Cc_le k) (by simp only [Cc]; lia)))
 ·refine if0 ?_
  refine if1 ?_
  intro t2 t11 t12 t13
  refine Do.newListG (Nat.le_of_ble_eq_true rfl) ?_
  intro t14 t15
  refine Do.draw o t7 (ex := []) rfl (by first | decide | lia | exact Int.natCast_pos.mpr (Nat.le_of_ble_eq_true rfl)) ?_
  intro t16 t17 t18 t19 t20 t21 t22 t23
  refine Do.menuS ["s+", "s-", "s*", "s/"] (.inl (t20 _ _ gadd_at)) ⟨⟨_, rfl⟩, ⟨_, rfl⟩, ⟨_, rfl⟩, ⟨_, rfl⟩, trivial⟩ 4 rfl (by assumption) (by assumption) (by decide) ?_
  intro t24 t25 t26 t27 t28
  refine Do.byContract o (iM _ _ _ _ (by assumption) (hb0.mono (by exact fun _ _ x => (t20 _ _ (.inl (t6 _ _ x))))) hdp1) (ex := []) rfl ?_
  intro QM r20 G20 fp20 hG20 p20
  obtain ⟨hp20, hx20⟩ := p20
  have hx20' := hx20
  obtain ⟨x20, tt20, rfl, hx20r⟩ := hx20'
  clear hx20r
  intro t29 t30
  refine Do.byContract o (iM _ _ _ _ (by assumption) (hb0.mono (by exact fun _ _ x => (hG20 _ _ (t20 _ _ (.inl (t6 _ _ x)))))) hdp1) (ex := []) rfl ?_
  intro QM r21 G21 fp21 hG21 p21
  obtain ⟨hp21, hx21⟩ := p21
  have hx21' := hx21
  obtain ⟨x21, tt21, rfl, hx21r⟩ := hx21'
  clear hx21r
  refine Do.newListG (Nat.le_of_ble_eq_true rfl) ?_
  intro t31
  refine Do.byContract0 o (make_spec3 B _ _ _ _ rfl rfl rfl) ?_
  intro QM r22 G22 hG22 p22
  obtain ⟨x22, rfl, hn22⟩ := p22
  refine hKK ?_; exact endV (ex := []) hp (by assumption) (.bin hn22 (by exact (hG22 _ _ gadd_at)) (hx20.mono (by exact fun _ _ x => (hG22 _ _ (.inl (hG21 _ _ x))))) (hx21.mono (by exact fun _ _ x => (hG22 _ _ (.inl x)))) (.inr (.inl ⟨by assumption, rfl, rfl, rfl⟩)))
 ·refine if0 ?_
  refine if1 ?_
  intro t2 t11 t12 t13
  refine Do.newListG (Nat.le_of_ble_eq_true rfl) ?_
  intro t14 t15
  refine Do.draw o t7 (ex := []) rfl (by first | decide | lia | exact Int.natCast_pos.mpr (Nat.le_of_ble_eq_true rfl)) ?_
  intro t16 t17 t18 t19 t20 t21 t22 t23
  refine Do.menuS ["s+", "s-", "s*", "s/"] (.inl (t20 _ _ gadd_at)) ⟨⟨_, rfl⟩, ⟨_, rfl⟩, ⟨_, rfl⟩, ⟨_, rfl⟩, trivial⟩ 4 rfl (by assumption) (by assumption) (by decide) ?_
  intro t24 t25 t26 t27 t28
  refine Do.byContract o (iM _ _ _ _ (by assumption) (hb0.mono (by exact fun _ _ x => (t20 _ _ (.inl (t6 _ _ x))))) hdp1) (ex := []) rfl ?_
  intro QM r20 G20 fp20 hG20 p20
  obtain ⟨hp20, hx20⟩ := p20
  have hx20' := hx20
  obtain ⟨x20, tt20, rfl, hx20r⟩ := hx20'
  clear hx20r
  intro t29 t30
  refine Do.byContract o (iM _ _ _ _ (by assumption) (hb0.mono (by exact fun _ _ x => (hG20 _ _ (t20 _ _ (.inl (t6 _ _ x)))))) hdp1) (ex := []) rfl ?_
  intro QM r21 G21 fp21 hG21 p21
  obtain ⟨hp21, hx21⟩ := p21
  have hx21' := hx21
  obtain ⟨x21, tt21, rfl, hx21r⟩ := hx21'
  clear hx21r
  refine Do.newListG (Nat.le_of_ble_eq_true rfl) ?_
  intro t31
  refine Do.byContract0 o (make_spec3 B _ _ _ _ rfl rfl rfl) ?_
  intro QM r22 G22 hG22 p22
  obtain ⟨x22, rfl, hn22⟩ := p22
  refine hKK ?_; exact endV (ex := []) hp (by assumption) (.bin hn22 (by exact (hG22 _ _ gadd_at)) (hx20.mono (by exact fun _ _ x => (hG22 _ _ (.inl (hG21 _ _ x))))) (hx21.mono (by exact fun _ _ x => (hG22 _ _ (.inl x)))) (.inr (.inl ⟨by assumption, rfl, rfl, rfl⟩)))
 ·refine if0 ?_
  refine if0 ?_
  refine if1 ?_
  intro t2 t11 t12
  refine Do.byContract o (iM _ _ _ _ (by assumption) (hb0.mono (by exact fun _ _ x => (t6 _ _ x))) hdp1) (ex := []) rfl ?_
  intro QM r20 G20 fp20 hG20 p20
  obtain ⟨hp20, hx20⟩ := p20
  have hx20' := hx20
  obtain ⟨x20, tt20, rfl, hx20r⟩ := hx20'
  clear hx20r
  refine Do.newListG (Nat.le_of_ble_eq_true rfl) ?_
  intro t13
  refine Do.byContract0 o (make_spec3 B _ _ _ _ rfl rfl rfl) ?_
  intro QM r22 G22 hG22 p22
  obtain ⟨x22, rfl, hn22⟩ := p22
  refine hKK ?_; exact endV (ex := []) hp (by assumption) (.un hn22 (by exact (hG22 _ _ gadd_at)) (hx20.mono (by exact fun _ _ x => (hG22 _ _ (.inl x)))) (.inr (.inr ⟨rfl, rfl⟩)))
 ·refine if0 ?_
  refine if0 ?_
  refine if0 ?_
  refine Do.newListS (Nat.le_of_ble_eq_true rfl) ?_
  intro t2 t11
  refine Do.forRp o (by intro _; rfl) ?_
  refine Do.callG ?_
  refine Do.builtinK o 4 rfl (v := (.type "range")) (by kernel_rfl) (by kernel_rfl) (by kernel_rfl) ?_
  refine Do.callWith_t1 ?_
  refine Do.reL o tb410 30 ?_
  intro t12
  refine Do.draw o t7 (ex := [_]) rfl (by first | decide | lia | exact Int.natCast_pos.mpr (Nat.le_of_ble_eq_true rfl)) ?_
  intro t13 t14 t15 t16 t17 t18 t19 t20
  refine Do.range1 ?_
  intro t21 t22 t23
  refine ⟨_, _, _, _, _, fun i σ' => (E6 fun u1 u2 vsK nK es fpk => A7 (σ'.vs = [some (.ref bd), some (.ref pa), some (.int dp td), some (.int 5 t3), some (.ref (bk.ty .M)), none, some (.ref t2), u1, u2]) (∀ a o, t4 a o → σ'.G a o) (σ'.mu = (t2, lobj vsK nK) :: fpk) (PoolIn pa fpk) (All2 (fun v e => ∃ b, v = .ref b ∧ SingleIs σ'.G bk b e) vsK es) (es.length = i) (∀ e ∈ es, 0 ≤ e ∧ e < 32)), rfl, .inl gadd_at, by lia, by lia, ?_, ?_, ?_⟩
  ·exact ⟨none, none, [], 0, [], _, rfl, fun _ _ x => .inl (t17 _ _ x), rfl, by assumption, trivial, rfl, fun e he => by cases he⟩
  ·rintro i ti p ⟨vs', G', mu'⟩ hi ⟨u1, u2, vsK, nK, es, fpk, e1, hG3, e2, hpk, hks, hel, hes⟩
   dsimp only at e1 hG3 e2 hks
   subst e1 e2
   have o2 := o.hide p
   have hb1 := (hb0.mono t6).mono hG3
   obtain ⟨g1, g2, g3, g4, g5, g6, g7, g8⟩ := id hb1
   have hkl : vsK.length ≤ 1000 := by rw [hks.length, hel]; lia
   refine Do.assignName o2 7 rfl (by first | exact Nat.le_of_ble_eq_true rfl | lia) ?_
   refine Do.reS o2 tb410 60 ?_
   intro t24
   refine Do.dgetS (.inl g1) g2 0 (by kernel_rfl) rfl ?_
   refine Do.gP o2 g4 ?_
   intro t25
   refine Do.draw o2 hpk (ex := [_]) rfl (by first | decide | lia | exact Int.natCast_pos.mpr (Nat.le_of_ble_eq_true rfl)) ?_
   intro t26 t27 t28 t29 t30 t31 t32 t33 t34
   refine Do.byContract0 o2 (const_spec B _ _ _ _) ?_
   intro QM r20 G20 hG20 p20
   obtain ⟨x20, k20, tx20, rfl, hn20, _⟩ := p20
   refine Do.methodCall ?_
   refine Do.name o2 6 rfl rfl ?_
   refine Do.mAppend (.inr (mm 0 rfl)) ?_
   refine Do.callWith_b1 ?_
   refine Do.reL o2 tb410 30 ?_
   intro t35 t36
   refine Do.dgetS (.inl (hG20 _ _ (t30 _ _ g1))) g2 0 (by kernel_rfl) rfl ?_
   refine Do.gP o2 (g4.mono fun _ _ x => (hG20 _ _ (t30 _ _ x))) ?_
   refine Do.newListG (Nat.le_of_ble_eq_true rfl) ?_
   intro t37
   refine Do.byContract0 o2 (make_spec3 B _ _ _ _ rfl rfl rfl) ?_
   intro QM r22 G22 hG22 p22
   obtain ⟨x22, rfl, hn22⟩ := p22
   refine Do.append (ex := []) rfl (by first | exact Nat.le_of_ble_eq_true rfl | assumption | lia | (simp; lia)) ?_
   have up : ∀ a o, G' a o → G22 a o := fun _ _ x => hG22 _ _ (.inl (hG20 _ _ (t30 _ _ x)))
   refine ⟨some (.int i ti), some (.ref x20), vsK ++ [.ref x22], nK + 1, es ++ [t26], t29, rfl, fun _ _ x => up _ _ (hG3 _ _ x), rfl, t31, ?_, by simp [hel], fun e he => ?_⟩
   ·exact (hks.mono fun _ _ ⟨b, e, x⟩ => ⟨b, e, x.mono up⟩).append (show All2 _ [_] [_] from ⟨⟨x22, rfl, _, _, x20, t27, _, hn22.node, hG22 _ _ gadd_at, (hn20.node).mono fun _ _ x => hG22 _ _ (.inl x)⟩, trivial⟩)
   ·rcases List.mem_append.mp he with he | he
    ·exact hes e he
    ·rw [List.mem_singleton.mp he]; exact ⟨t32, t33⟩
  ·rintro ⟨vs', G', mu'⟩ ⟨u1, u2, vsK, nK, es, fpk, e1, hG3, e2, hpk, hks, hel, hes⟩
   dsimp only at e1 hG3 e2 hks
   subst e1 e2
   intro t24
   refine Do.freeze 0 rfl rfl t11 ?_
   refine Do.byContract0 o (make_spec3 B _ _ _ _ rfl rfl rfl) ?_
   intro QM r22 G22 hG22 p22
   obtain ⟨x22, rfl, hn22⟩ := p22
   refine hKK ?_; exact endV (ex := []) hp hpk (.set hn22 (hG22 _ _ gadd_at) (by rw [hel]; lia) hes (hks.mono fun _ _ ⟨b, e, x⟩ => ⟨b, e, x.mono fun _ _ y => hG22 _ _ (.inl y)⟩))
theorem truth_zero (B : Base w hB mg mb) (n : Nat) : GenC w hB bk bd pa oB ta va nv .B 0 (n + 5) := by
 intro G fp dp td hp hb hdp
 have hb0 := hb
 obtain ⟨h1, h2, h3, h4, h5, h6, h7, h8⟩ := hb
 have c1 : decide (dp < 3) = false := decide_eq_false (by simp at hdp; lia)
 refine start417 B _ _ _ ?_
 intro A env e cx o KK hKK
 refine Do.reS o tb417 60 ?_
 refine ite_f c1 ?_
 intro t1 t2
 refine Do.dgetS (.inl h1) h2 0 (by kernel_rfl) rfl ?_
 refine Do.gP o h6 ?_
 refine if1 ?_
 intro t3
 refine Do.byContract o (leaf_spec B n hp hb0 .B _) (ex := []) rfl ?_
 intro QM r5 G5 fp5 hG5 p5
 obtain ⟨hp5, x5, t5', rfl, q1, q2, q3, q4, q5⟩ := p5
 refine hKK ?_; exact endV (ex := []) hp hp5 ⟨x5, t5', rfl, q1, q2, q3, q4, q5⟩
theorem truth_step (B : Base w hB mg mb) (k n : Nat) (iI : GenC w hB bk bd pa oB ta va nv .I k (n + 5)) (iM : GenC w hB bk bd pa oB ta va nv .M k (n + 5)) (iB : GenC w hB bk bd pa oB ta va nv .B k (n + 5)) : GenC w hB bk bd pa oB ta va nv .B (k + 1) (n + 6) := by
 intro G fp dp td hp hb hdp
 have hb0 := hb
 obtain ⟨h1, h2, h3, h4, h5, h6, h7, h8⟩ := hb
 have c1 : decide (dp < 3) = true := decide_eq_true (by lia)
 have hdp1 : dp + 1 = 3 - (k : Int) := by lia
 refine start417 B _ _ _ ?_
 intro A env e cx o KK hKK
 refine Do.reS o tb417 60 ?_
 refine ite_t c1 ?_
 intro t1
 refine Do.draw o hp (ex := []) rfl (by first | decide | lia | exact Int.natCast_pos.mpr (Nat.le_of_ble_eq_true rfl)) ?_
 intro t2 t3 t4 t5 t6 t7 t8 t9 t10
 refine Do.dgetS (.inl (t6 _ _ h1)) h2 0 (by kernel_rfl) rfl ?_
 refine Do.gP o (h6.mono fun _ _ x => (t6 _ _ x)) ?_
 have hcase : t2 = 0 ∨ t2 = 1 ∨ t2 = 2 ∨ t2 = 3 ∨ t2 = 4 ∨ t2 = 5 ∨ t2 = 6 ∨ t2 = 7 := by lia
 rcases hcase with rfl | rfl | rfl | rfl | rfl | rfl | rfl | rfl
 ·refine if1 ?_
  intro t2
  refine Do.byContract o (leaf_spec B _ (by assumption) (hb0.mono (by exact fun _ _ x => (t6 _ _ x))) .B _) (ex := []) rfl ?_
  intro QM r20 G20 fp20 hG20 p20
  obtain ⟨hp20, hx20⟩ := p20
  have hx20' := hx20
  obtain ⟨x20, tt20, rfl, hx20r⟩ := hx20'
  clear hx20r
  refine hKK ?_; exact endV (ex := []) hp hp20 (hx20.le (Nat.zero_le _) (Nat.le_trans (Cc_le k) (by simp only [Cc]; lia)))
 ·refine if1 ?_
  intro t2
  refine Do.byContract o (leaf_spec B _ (by assumption) (hb0.mono (by exact fun _ _ x => (t6 _ _ x))) .B _) (ex := []) rfl ?_
  intro QM r20 G20 fp20 hG20 p20
  obtain ⟨hp20, hx20⟩ := p20
  have hx20' := hx20
  obtain ⟨x20, tt20, rfl, hx20r⟩ := hx20'
  clear hx20r
  refine hKK ?_; exact endV (ex := []) hp hp20 (hx20.le (Nat.zero_le _) (Nat.le_trans (Cc_le k) (by simp only [Cc]; lia)))
 ·refine if0 ?_
  refine if1 ?_
  intro t2 t11 t12
  refine Do.byContract o (iB _ _ _ _ (by assumption) (hb0.mono (by exact fun _ _ x => (t6 _ _ x))) hdp1) (ex := []) rfl ?_
  intro QM r20 G20 fp20 hG20 p20
  obtain ⟨hp20, hx20⟩ := p20
  have hx20' := hx20
  obtain ⟨x20, tt20, rfl, hx20r⟩ := hx20'
  clear hx20r
  refine Do.newListG (Nat.le_of_ble_eq_true rfl) ?_
  intro t13
  refine Do.byContract0 o (make_spec3 B _ _ _ _ rfl rfl rfl) ?_
  intro QM r22 G22 hG22 p22
  obtain ⟨x22, rfl, hn22⟩ := p22
  refine hKK ?_; exact endV (ex := []) hp (by assumption) (.un hn22 (by exact (hG22 _ _ gadd_at)) (hx20.mono (by exact fun _ _ x => (hG22 _ _ (.inl x)))) (.inr (.inl ⟨rfl, rfl⟩)))
 ·refine if0 ?_
  refine if0 ?_
  refine if1 ?_
  intro t2 t11
  refine Do.newListG (Nat.le_of_ble_eq_true rfl) ?_
  intro t12 t13
  refine Do.draw o t7 (ex := []) rfl (by first | decide | lia | exact Int.natCast_pos.mpr (Nat.le_of_ble_eq_true rfl)) ?_
  intro t14 t15 t16 t17 t18 t19 t20 t21
  refine Do.menuS ["&", "OR"] (.inl (t18 _ _ gadd_at)) ⟨⟨_, rfl⟩, ⟨_, rfl⟩, trivial⟩ 2 rfl (by assumption) (by assumption) (by decide) ?_
  intro t22 t23 t24 t25 t26
  refine Do.byContract o (iB _ _ _ _ (by assumption) (hb0.mono (by exact fun _ _ x => (t18 _ _ (.inl (t6 _ _ x))))) hdp1) (ex := []) rfl ?_
  intro QM r20 G20 fp20 hG20 p20
  obtain ⟨hp20, hx20⟩ := p20
  have hx20' := hx20
  obtain ⟨x20, tt20, rfl, hx20r⟩ := hx20'
  clear hx20r
  intro t27 t28
  refine Do.byContract o (iB _ _ _ _ (by assumption) (hb0.mono (by exact fun _ _ x => (hG20 _ _ (t18 _ _ (.inl (t6 _ _ x)))))) hdp1) (ex := []) rfl ?_
  intro QM r21 G21 fp21 hG21 p21
  obtain ⟨hp21, hx21⟩ := p21
  have hx21' := hx21
  obtain ⟨x21, tt21, rfl, hx21r⟩ := hx21'
  clear hx21r
  refine Do.newListG (Nat.le_of_ble_eq_true rfl) ?_
  intro t29
  refine Do.byContract0 o (make_spec3 B _ _ _ _ rfl rfl rfl) ?_
  intro QM r22 G22 hG22 p22
  obtain ⟨x22, rfl, hn22⟩ := p22
  refine hKK ?_; exact endV (ex := []) hp (by assumption) (.bin hn22 (by exact (hG22 _ _ gadd_at)) (hx20.mono (by exact fun _ _ x => (hG22 _ _ (.inl (hG21 _ _ x))))) (hx21.mono (by exact fun _ _ x => (hG22 _ _ (.inl x)))) (.inr (.inr (.inl ⟨by assumption, rfl, rfl, rfl⟩))))
 ·refine if0 ?_
  refine if0 ?_
  refine if0 ?_
  refine if1 ?_
  intro t2 t11 t12 t13
  refine Do.newListG (Nat.le_of_ble_eq_true rfl) ?_
  intro t14 t15
  refine Do.draw o t7 (ex := []) rfl (by first | decide | lia | exact Int.natCast_pos.mpr (Nat.le_of_ble_eq_true rfl)) ?_
  intro t16 t17 t18 t19 t20 t21 t22 t23
  refine Do.menuS ["=", "#", "s<=", "s>="] (.inl (t20 _ _ gadd_at)) ⟨⟨_, rfl⟩, ⟨_, rfl⟩, ⟨_, rfl⟩, ⟨_, rfl⟩, trivial⟩ 4 rfl (by assumption) (by assumption) (by decide) ?_
  intro t24 t25 t26 t27 t28
  refine Do.byContract o (iM _ _ _ _ (by assumption) (hb0.mono (by exact fun _ _ x => (t20 _ _ (.inl (t6 _ _ x))))) hdp1) (ex := []) rfl ?_
  intro QM r20 G20 fp20 hG20 p20
  obtain ⟨hp20, hx20⟩ := p20
  have hx20' := hx20
  obtain ⟨x20, tt20, rfl, hx20r⟩ := hx20'
  clear hx20r
  intro t29 t30
  refine Do.byContract o (iM _ _ _ _ (by assumption) (hb0.mono (by exact fun _ _ x => (hG20 _ _ (t20 _ _ (.inl (t6 _ _ x)))))) hdp1) (ex := []) rfl ?_
  intro QM r21 G21 fp21 hG21 p21
  obtain ⟨hp21, hx21⟩ := p21
  have hx21' := hx21
  obtain ⟨x21, tt21, rfl, hx21r⟩ := hx21'
  clear hx21r
  refine Do.newListG (Nat.le_of_ble_eq_true rfl) ?_
  intro t31
  refine Do.byContract0 o (make_spec3 B _ _ _ _ rfl rfl rfl) ?_
  intro QM r22 G22 hG22 p22
  obtain ⟨x22, rfl, hn22⟩ := p22
  refine hKK ?_; exact endV (ex := []) hp (by assumption) (.bin hn22 (by exact (hG22 _ _ gadd_at)) (hx20.mono (by exact fun _ _ x => (hG22 _ _ (.inl (hG21 _ _ x))))) (hx21.mono (by exact fun _ _ x => (hG22 _ _ (.inl x)))) (.inr (.inr (.inr (.inl ⟨by assumption, rfl, rfl, rfl⟩)))))
 ·refine if0 ?_
  refine if0 ?_
  refine if0 ?_
  refine if0 ?_
  refine if1 ?_
  intro t2
  refine Do.dgetS (.inl (t6 _ _ h1)) h2 0 (by kernel_rfl) rfl ?_
  refine Do.gP o (h4.mono fun _ _ x => (t6 _ _ x)) ?_
  intro t11
  refine Do.draw o t7 (ex := []) rfl (by first | decide | lia | exact Int.natCast_pos.mpr (Nat.le_of_ble_eq_true rfl)) ?_
  intro t12 t13 t14 t15 t16 t17 t18 t19 t20
  refine Do.byContract0 o (const_spec B _ _ _ _) ?_
  intro QM r20 G20 hG20 p20
  obtain ⟨x20, k20, tx20, rfl, hn20, _⟩ := p20
  intro t21 t22 t23
  refine Do.byContract o (iM _ _ _ _ (by assumption) (hb0.mono (by exact fun _ _ x => (hG20 _ _ (t16 _ _ (t6 _ _ x))))) hdp1) (ex := []) rfl ?_
  intro QM r21 G21 fp21 hG21 p21
  obtain ⟨hp21, hx21⟩ := p21
  have hx21' := hx21
  obtain ⟨x21, tt21, rfl, hx21r⟩ := hx21'
  clear hx21r
  refine Do.newListG (Nat.le_of_ble_eq_true rfl) ?_
  intro t24
  refine Do.byContract0 o (make_spec3 B _ _ _ _ rfl rfl rfl) ?_
  intro QM r22 G22 hG22 p22
  obtain ⟨x22, rfl, hn22⟩ := p22
  refine hKK ?_; exact endV (ex := []) hp (by assumption) (.inn hn22 (by exact (hG22 _ _ gadd_at)) ((hn20.node).mono (by exact fun _ _ x => (hG22 _ _ (.inl (hG21 _ _ x))))) (by assumption) (by assumption) (hx21.mono (by exact fun _ _ x => (hG22 _ _ (.inl x)))))
 ·refine if0 ?_
  refine if0 ?_
  refine if0 ?_
  refine if0 ?_
  refine if0 ?_
  refine if1 ?_
  intro t2 t11 t12
  refine Do.byContract o (iI _ _ _ _ (by assumption) (hb0.mono (by exact fun _ _ x => (t6 _ _ x))) hdp1) (ex := []) rfl ?_
  intro QM r20 G20 fp20 hG20 p20
  obtain ⟨hp20, hx20⟩ := p20
  have hx20' := hx20
  obtain ⟨x20, tt20, rfl, hx20r⟩ := hx20'
  clear hx20r
  refine Do.newListG (Nat.le_of_ble_eq_true rfl) ?_
  intro t13 t14
  refine Do.byContract0 o (make_spec B _ _ _ _ _ rfl rfl rfl rfl) ?_
  intro QM r22 G22 hG22 p22
  obtain ⟨x22, rfl, hn22⟩ := p22
  refine hKK ?_; exact endV (ex := []) hp (by assumption) (.std1 hn22 (by exact (hG22 _ _ gadd_at)) (hx20.mono (by exact fun _ _ x => (hG22 _ _ (.inl x)))) (.inr (.inl ⟨rfl, rfl, rfl⟩)))
 ·refine if0 ?_
  refine if0 ?_
  refine if0 ?_
  refine if0 ?_
  refine if0 ?_
  refine if0 ?_
  intro t2 t11 t12 t13 t14 t15
  refine Do.newListG (Nat.le_of_ble_eq_true rfl) ?_
  intro t16 t17
  refine Do.draw o t7 (ex := []) rfl (by first | decide | lia | exact Int.natCast_pos.mpr (Nat.le_of_ble_eq_true rfl)) ?_
  intro t18 t19 t20 t21 t22 t23 t24 t25
  refine Do.menuS ["=", "#", "<", "<=", ">", ">="] (.inl (t22 _ _ gadd_at)) ⟨⟨_, rfl⟩, ⟨_, rfl⟩, ⟨_, rfl⟩, ⟨_, rfl⟩, ⟨_, rfl⟩, ⟨_, rfl⟩, trivial⟩ 6 rfl (by assumption) (by assumption) (by decide) ?_
  intro t26 t27 t28 t29 t30
  refine Do.byContract o (iI _ _ _ _ (by assumption) (hb0.mono (by exact fun _ _ x => (t22 _ _ (.inl (t6 _ _ x))))) hdp1) (ex := []) rfl ?_
  intro QM r20 G20 fp20 hG20 p20
  obtain ⟨hp20, hx20⟩ := p20
  have hx20' := hx20
  obtain ⟨x20, tt20, rfl, hx20r⟩ := hx20'
  clear hx20r
  intro t31 t32
  refine Do.byContract o (iI _ _ _ _ (by assumption) (hb0.mono (by exact fun _ _ x => (hG20 _ _ (t22 _ _ (.inl (t6 _ _ x)))))) hdp1) (ex := []) rfl ?_
  intro QM r21 G21 fp21 hG21 p21
  obtain ⟨hp21, hx21⟩ := p21
  have hx21' := hx21
  obtain ⟨x21, tt21, rfl, hx21r⟩ := hx21'
  clear hx21r
  refine Do.newListG (Nat.le_of_ble_eq_true rfl) ?_
  intro t33
  refine Do.byContract0 o (make_spec3 B _ _ _ _ rfl rfl rfl) ?_
  intro QM r22 G22 hG22 p22
  obtain ⟨x22, rfl, hn22⟩ := p22
  refine hKK ?_; exact endV (ex := []) hp (by assumption) (.bin hn22 (by exact (hG22 _ _ gadd_at)) (hx20.mono (by exact fun _ _ x => (hG22 _ _ (.inl (hG21 _ _ x))))) (hx21.mono (by exact fun _ _ x => (hG22 _ _ (.inl x)))) (.inr (.inr (.inr (.inr ⟨by assumption, rfl, rfl, rfl⟩)))))
end
end Mine
end
section
namespace Mine
open PySem PySem.W PyProof.Rows PySem.Calls H
noncomputable def DeedV (G : Gh) (bk : Bk) (v : Value) : Prop := (E2 fun x d => A5 (v = .ref x) (DeedIs G bk d x) (WD d) (d.tree.ht ≤ 3) (d.cost ≤ 100))
noncomputable abbrev PD (pa : Addr) (bk : Bk) : Value → Gh → Led → Prop := fun v G' fp' => PoolIn pa fp' ∧ DeedV G' bk v
theorem DeedV.mono {G G' : Gh} {bk : Bk} {v : Value} (x : DeedV G bk v) (hG : ∀ a o, G a o → G' a o) : DeedV G' bk v := let ⟨a, d, e, h, w, e1, e2⟩ := x; ⟨a, d, e, h.mono hG, w, e1, e2⟩
section
variable {w : World} {hB : Heap} {mg mb : Str → Option Value} {G : Gh} {bk : Bk} {bd pa ta va : Addr} {oB : PySem.Obj} {nv : Nat}
theorem gen_all (B : Base w hB mg mb) : ∀ k, GenC w hB bk bd pa oB ta va nv .I k (k + 5) ∧ GenC w hB bk bd pa oB ta va nv .M k (k + 5) ∧ GenC w hB bk bd pa oB ta va nv .B k (k + 5)
 | 0 => ⟨whole_zero B 0, mask_zero B 0, truth_zero B 0⟩
 | k + 1 => let ⟨h1, h2, h3⟩ := gen_all B k; ⟨whole_step B k k h1 h2 h3, mask_step B k k h2, truth_step B k k h1 h2 h3⟩
theorem form_spec (B : Base w hB mg mb) (n : Nat) {fp : Led} (hp : PoolIn pa fp) (hb : BookAt w G bk bd oB ta va nv) (f : Fm) (tf : Tok) :
  Calls w hB (n + 9) 424 [.ref bd, .ref pa, .str (S f.name) tf] G fp (PT pa bk f 3 (Cc 3)) := by
 refine start424 B _ _ _ ?_
 intro A env e cx o KK hKK
 obtain ⟨i1, i2, i3⟩ := gen_all (w := w) (hB := hB) (bk := bk) (bd := bd) (pa := pa) (oB := oB) (ta := ta) (va := va) (nv := nv) B 3
 cases f
 ·refine Do.reS o tb424 60 ?_
  refine if1 ?_
  intro t1
  refine Do.byContract o ((i1 _ _ _ _ hp hb (by decide)).le (by lia)) (ex := []) rfl ?_
  intro QM r20 G20 fp20 hG20 p20
  obtain ⟨hp20, x20, tt20, rfl, q1, q2, q3, q4, q5⟩ := p20
  refine hKK ?_; exact endV (ex := []) hp hp20 ⟨x20, tt20, rfl, q1, q2, q3, q4, q5⟩
 ·refine Do.reS o tb424 60 ?_
  refine if0 ?_
  refine if1 ?_
  intro t1
  refine Do.byContract o ((i2 _ _ _ _ hp hb (by decide)).le (by lia)) (ex := []) rfl ?_
  intro QM r20 G20 fp20 hG20 p20
  obtain ⟨hp20, x20, tt20, rfl, q1, q2, q3, q4, q5⟩ := p20
  refine hKK ?_; exact endV (ex := []) hp hp20 ⟨x20, tt20, rfl, q1, q2, q3, q4, q5⟩
 ·refine Do.reS o tb424 60 ?_
  refine if0 ?_
  refine if0 ?_
  refine if1 ?_
  intro t1
  refine Do.byContract o ((i3 _ _ _ _ hp hb (by decide)).le (by lia)) (ex := []) rfl ?_
  intro QM r20 G20 fp20 hG20 p20
  obtain ⟨hp20, x20, tt20, rfl, q1, q2, q3, q4, q5⟩ := p20
  refine hKK ?_; exact endV (ex := []) hp hp20 ⟨x20, tt20, rfl, q1, q2, q3, q4, q5⟩
 ·refine Do.reS o tb424 60 ?_
  refine if0 ?_
  refine if0 ?_
  refine if0 ?_
  intro t1
  refine Do.byContract o (leaf_spec B _ hp hb .C _) (ex := []) rfl ?_
  intro QM r20 G20 fp20 hG20 p20
  obtain ⟨hp20, hx20⟩ := p20
  obtain ⟨x20, tt20, rfl, q1, q2, q3, q4, q5⟩ := hx20.le (Nat.zero_le 3) (Cc_le 3)
  refine hKK ?_; exact endV (ex := []) hp hp20 ⟨x20, tt20, rfl, q1, q2, q3, q4, q5⟩
theorem endD {G' : Gh} {fp fp' ex : Led} {x : Addr} {vs : List (Option Value)} (hp : PoolIn pa fp) (hp' : PoolIn pa fp') (h : DeedV G' bk (.ref x)) : Left fp (PD pa bk) (.ret (.ref x)) ⟨vs, G', ex ++ fp'⟩ :=
 Left.mk ex fp' rfl (hp'.ads.trans hp.ads.symm) ⟨hp', h⟩
theorem two {x a b : String} (h : x ∈ [a, b]) : x = a ∨ x = b := by simpa using h
theorem deed_spec (B : Base w hB mg mb) (n : Nat) {fp : Led} (hp : PoolIn pa fp) (hb : BookAt w G bk bd oB ta va nv) :
  Calls w hB (n + 10) 431 [.ref bd, .ref pa] G fp (PD pa bk) := by
 have hb0 := hb
 obtain ⟨h1, h2, h3, h4, h5, h6, h7, h8⟩ := hb
 refine start431 B _ _ ?_
 intro A env e cx o KK hKK
 refine Do.reS o tb431 60 ?_
 intro t1
 refine Do.dgetS (.inl h1) h2 1 (by kernel_rfl) rfl ?_
 intro t2
 refine Do.draw o hp (ex := []) rfl (by first | decide | lia | exact Int.natCast_pos.mpr (Nat.le_of_ble_eq_true rfl)) ?_
 intro t3 t4 t5 t6 t7 t8 t9 t10
 have hj : t3.toNat < 6 := by lia
 generalize hjd : t3.toNat = j at hj
 have hjv : (bk.refs [0, 1, 2, 3, 4, 5])[t3.toNat]? = some (.ref (bk.var j)) := by
  rw [hjd]
  match j, hj with
  | 0, _ => rfl
  | 1, _ => rfl
  | 2, _ => rfl
  | 3, _ => rfl
  | 4, _ => rfl
  | 5, _ => rfl
 refine Do.itemL (.inl (t7 _ _ h3)) t9 (by lia) hjv ?_
 have hjt := ((h8.var j hj).type).mono t7
 intro t11
 refine Do.gP o hjt ?_
 refine Do.newListS (Nat.le_of_ble_eq_true rfl) ?_
 intro t12 t13
 refine Do.freeze 0 rfl rfl t13 ?_
 refine Do.byContract0 o (make_spec B _ _ _ _ _ rfl rfl rfl rfl) ?_
 intro QM r12 G12 hG12 p12
 obtain ⟨x12, rfl, hn12⟩ := p12
 have hn12' : NodeIs G12 bk (.var j) x12 := ⟨_, hn12.node⟩
 have hjt2 := hjt.mono fun a o x => hG12 a o (.inl x)
 obtain ⟨tff, hform⟩ := ((h8.ty (fmOf j)).mono t7).mono fun a o x => hG12 a o (.inl x)
 intro t14
 refine Do.draw o t8 (ex := []) rfl (by first | decide | lia | exact Int.natCast_pos.mpr (Nat.le_of_ble_eq_true rfl)) ?_
 intro t15 t16 t17 t18 t19 t20 t21 t22
 generalize hfj : fmOf j = f at hjt2 hform hn12
 by_cases h3d : t15 = 3
 ·have c0' : (t15 == 3) = true := by simp [h3d]
  cases f
  ·refine ite_t c0' ?_
   refine Do.gP o (hjt2.mono fun _ _ x => (t19 _ _ x)) ?_
   refine Do.gP o (hform.mono fun _ _ x => (t19 _ _ x)) ?_
   refine if1 ?_
   refine if1 ?_
   intro t23 t24
   refine Do.byContract o (((gen_all (w := w) (hB := hB) (bk := bk) (bd := bd) (pa := pa) (oB := oB) (ta := ta) (va := va) (nv := nv) B 1).1 _ _ _ _ (by assumption) (hb0.mono (by exact fun _ _ x => (t19 _ _ (hG12 _ _ (.inl (t7 _ _ x)))))) (by decide)).le (by lia)) (ex := []) rfl ?_
   intro QM r20 G20 fp20 hG20 p20
   obtain ⟨hp20, x20, tt20, rfl, hn20, hw20, hf20, hh20, hc20⟩ := p20
   refine Do.newListG (Nat.le_of_ble_eq_true rfl) ?_
   intro t25 t26 t27
   refine Do.newListG (Nat.le_of_ble_eq_true rfl) ?_
   intro t28 t29
   refine Do.draw o hp20 (ex := []) rfl (by first | decide | lia | exact Int.natCast_pos.mpr (Nat.le_of_ble_eq_true rfl)) ?_
   intro t30 t31 t32 t33 t34 t35 t36 t37
   refine Do.menuS ["INC", "DEC"] (.inl (t34 _ _ gadd_at)) ⟨⟨_, rfl⟩, ⟨_, rfl⟩, trivial⟩ 2 rfl (by assumption) (by assumption) (by decide) ?_
   intro t38 t39 t40
   refine Do.byContract0 o (make_spec B _ _ _ _ _ rfl rfl rfl rfl) ?_
   intro QM r22 G22 hG22 p22
   obtain ⟨x22, rfl, hn22⟩ := p22
   refine hKK ?_; exact endD (ex := []) hp (by assumption) ⟨x22, .change _ j tt20, rfl, ⟨_, _, x12, x20, _, hn22.node, (by exact (hG22 _ _ (t34 _ _ (.inl gadd_at)))), (hn12'.mono (by exact fun _ _ x => (hG22 _ _ (t34 _ _ (.inl (.inl (hG20 _ _ (t19 _ _ x)))))))), hn20.mono (by exact fun _ _ x => (hG22 _ _ (t34 _ _ (.inl (.inl x)))))⟩, .change _ j tt20 hj hw20 (.inl ⟨two (by assumption), hfj, hf20⟩), by simp only [Dd.tree]; lia, by simp only [Dd.cost, Cc] at hc20 ⊢; lia⟩
  ·refine ite_t c0' ?_
   refine Do.gP o (hjt2.mono fun _ _ x => (t19 _ _ x)) ?_
   refine Do.gP o (hform.mono fun _ _ x => (t19 _ _ x)) ?_
   refine if0 ?_
   refine if0 ?_
   refine ite_t c0' ?_
   refine Do.gP o (hjt2.mono fun _ _ x => (t19 _ _ x)) ?_
   refine Do.gP o (hform.mono fun _ _ x => (t19 _ _ x)) ?_
   refine if1 ?_
   refine if1 ?_
   intro t23
   refine Do.dgetS (.inl (t19 _ _ (hG12 _ _ (.inl (t7 _ _ h1))))) h2 0 (by kernel_rfl) rfl ?_
   refine Do.gP o (h4.mono fun _ _ x => (t19 _ _ (hG12 _ _ (.inl (t7 _ _ x))))) ?_
   intro t24
   refine Do.draw o t20 (ex := []) rfl (by first | decide | lia | exact Int.natCast_pos.mpr (Nat.le_of_ble_eq_true rfl)) ?_
   intro t25 t26 t27 t28 t29 t30 t31 t32 t33
   refine Do.byContract0 o (const_spec B _ _ _ _) ?_
   intro QM r20 G20 hG20 p20
   obtain ⟨x20, k20, tx20, rfl, hn20, _⟩ := p20
   intro t34
   refine Do.newListG (Nat.le_of_ble_eq_true rfl) ?_
   intro t35 t36 t37
   refine Do.newListG (Nat.le_of_ble_eq_true rfl) ?_
   intro t38 t39
   refine Do.draw o t30 (ex := []) rfl (by first | decide | lia | exact Int.natCast_pos.mpr (Nat.le_of_ble_eq_true rfl)) ?_
   intro t40 t41 t42 t43 t44 t45 t46 t47
   refine Do.menuS ["INCL", "EXCL"] (.inl (t44 _ _ gadd_at)) ⟨⟨_, rfl⟩, ⟨_, rfl⟩, trivial⟩ 2 rfl (by assumption) (by assumption) (by decide) ?_
   intro t48 t49 t50
   refine Do.byContract0 o (make_spec B _ _ _ _ _ rfl rfl rfl rfl) ?_
   intro QM r22 G22 hG22 p22
   obtain ⟨x22, rfl, hn22⟩ := p22
   refine hKK ?_; exact endD (ex := []) hp (by assumption) ⟨x22, .change _ j (.const .I _), rfl, ⟨_, _, x12, x20, _, hn22.node, (by exact (hG22 _ _ (t44 _ _ (.inl gadd_at)))), hn12'.mono (by exact fun _ _ x => (hG22 _ _ (t44 _ _ (.inl (.inl (hG20 _ _ (t29 _ _ (t19 _ _ x)))))))), ⟨_, _, (hn20.node).mono (by exact fun _ _ x => (hG22 _ _ (t44 _ _ (.inl (.inl x)))))⟩⟩, .change _ j _ hj (.const .I _ (by lia) (by lia) nofun nofun nofun) (.inr ⟨two (by assumption), hfj, _, rfl, by assumption, by assumption⟩), Nat.zero_le _, by simp only [Dd.cost, Tr.cost]; lia⟩
  ·refine ite_t c0' ?_
   refine Do.gP o (hjt2.mono fun _ _ x => (t19 _ _ x)) ?_
   refine Do.gP o (hform.mono fun _ _ x => (t19 _ _ x)) ?_
   refine if0 ?_
   refine if0 ?_
   refine ite_t c0' ?_
   refine Do.gP o (hjt2.mono fun _ _ x => (t19 _ _ x)) ?_
   refine Do.gP o (hform.mono fun _ _ x => (t19 _ _ x)) ?_
   refine if0 ?_
   refine if0 ?_
   intro t23
   refine Do.gP o (hjt2.mono fun _ _ x => (t19 _ _ x)) ?_
   refine Do.gP o (hform.mono fun _ _ x => (t19 _ _ x)) ?_
   refine Do.byContract o (form_spec B _ (by assumption) (hb0.mono (by exact fun _ _ x => (t19 _ _ (hG12 _ _ (.inl (t7 _ _ x)))))) .B _) (ex := []) rfl ?_
   intro QM r20 G20 fp20 hG20 p20
   obtain ⟨hp20, x20, tt20, rfl, hn20, hw20, hf20, hh20, hc20⟩ := p20
   refine Do.newListG (Nat.le_of_ble_eq_true rfl) ?_
   intro t24
   refine Do.byContract0 o (make_spec3 B _ _ _ _ rfl rfl rfl) ?_
   intro QM r22 G22 hG22 p22
   obtain ⟨x22, rfl, hn22⟩ := p22
   refine hKK ?_; exact endD (ex := []) hp hp20 ⟨x22, .assign j tt20, rfl, ⟨_, _, x12, x20, hn22.node, (by exact (hG22 _ _ gadd_at)), (hn12'.mono (by exact fun _ _ x => (hG22 _ _ (.inl (hG20 _ _ (t19 _ _ x)))))), hn20.mono (by exact fun _ _ x => (hG22 _ _ (.inl x)))⟩, .assign j tt20 hj hw20 (hf20.trans hfj.symm), hh20, by simp only [Dd.cost, Cc] at hc20 ⊢; lia⟩
  ·refine ite_t c0' ?_
   refine Do.gP o (hjt2.mono fun _ _ x => (t19 _ _ x)) ?_
   refine Do.gP o (hform.mono fun _ _ x => (t19 _ _ x)) ?_
   refine if0 ?_
   refine if0 ?_
   refine ite_t c0' ?_
   refine Do.gP o (hjt2.mono fun _ _ x => (t19 _ _ x)) ?_
   refine Do.gP o (hform.mono fun _ _ x => (t19 _ _ x)) ?_
   refine if0 ?_
   refine if0 ?_
   intro t23
   refine Do.gP o (hjt2.mono fun _ _ x => (t19 _ _ x)) ?_
   refine Do.gP o (hform.mono fun _ _ x => (t19 _ _ x)) ?_
   refine Do.byContract o (form_spec B _ (by assumption) (hb0.mono (by exact fun _ _ x => (t19 _ _ (hG12 _ _ (.inl (t7 _ _ x)))))) .C _) (ex := []) rfl ?_
   intro QM r20 G20 fp20 hG20 p20
   obtain ⟨hp20, x20, tt20, rfl, hn20, hw20, hf20, hh20, hc20⟩ := p20
   refine Do.newListG (Nat.le_of_ble_eq_true rfl) ?_
   intro t24
   refine Do.byContract0 o (make_spec3 B _ _ _ _ rfl rfl rfl) ?_
   intro QM r22 G22 hG22 p22
   obtain ⟨x22, rfl, hn22⟩ := p22
   refine hKK ?_; exact endD (ex := []) hp hp20 ⟨x22, .assign j tt20, rfl, ⟨_, _, x12, x20, hn22.node, (by exact (hG22 _ _ gadd_at)), (hn12'.mono (by exact fun _ _ x => (hG22 _ _ (.inl (hG20 _ _ (t19 _ _ x)))))), hn20.mono (by exact fun _ _ x => (hG22 _ _ (.inl x)))⟩, .assign j tt20 hj hw20 (hf20.trans hfj.symm), hh20, by simp only [Dd.cost, Cc] at hc20 ⊢; lia⟩
 ·have c0' : (t15 == 3) = false := by simpa using h3d
  refine ite_f c0' ?_
  refine if0 ?_
  refine ite_f c0' ?_
  refine if0 ?_
  intro t23
  refine Do.gP o (hjt2.mono fun _ _ x => (t19 _ _ x)) ?_
  refine Do.gP o (hform.mono fun _ _ x => (t19 _ _ x)) ?_
  refine Do.byContract o (form_spec B _ (by assumption) (hb0.mono (by exact fun _ _ x => (t19 _ _ (hG12 _ _ (.inl (t7 _ _ x)))))) f _) (ex := []) rfl ?_
  intro QM r20 G20 fp20 hG20 p20
  obtain ⟨hp20, x20, tt20, rfl, hn20, hw20, hf20, hh20, hc20⟩ := p20
  refine Do.newListG (Nat.le_of_ble_eq_true rfl) ?_
  intro t24
  refine Do.byContract0 o (make_spec3 B _ _ _ _ rfl rfl rfl) ?_
  intro QM r22 G22 hG22 p22
  obtain ⟨x22, rfl, hn22⟩ := p22
  refine hKK ?_; exact endD (ex := []) hp hp20 ⟨x22, .assign j tt20, rfl, ⟨_, _, x12, x20, hn22.node, (by exact (hG22 _ _ gadd_at)), (hn12'.mono (by exact fun _ _ x => (hG22 _ _ (.inl (hG20 _ _ (t19 _ _ x)))))), hn20.mono (by exact fun _ _ x => (hG22 _ _ (.inl x)))⟩, .assign j tt20 hj hw20 (hf20.trans hfj.symm), hh20, by simp only [Dd.cost, Cc] at hc20 ⊢; lia⟩
end
end Mine
end
section
namespace Mine
open PySem PySem.W PyProof.Rows PySem.Calls H
noncomputable def stdVal (name : String) (a b : Int) : Int :=
 if name = "ABS" then (if sgn a < 0 then -(sgn a) else sgn a).fmod W32
 else if name = "ODD" then a.fmod 2
 else if name = "LSL" then (a * 2 ^ b.toNat).fmod W32
 else if name = "ASR" then ((sgn a).fdiv (2 ^ b.toNat)).fmod W32
 else if name = "ROR" then (a.fdiv (2 ^ b.toNat) + a * 2 ^ (32 - b).toNat).fmod W32
 else a
section
variable {w : World} {hB : Heap} {mg mb : Str → Option Value} {G : Gh}
theorem lsigned_spec (B : Base w hB mg mb) (n : Nat) (x : Int) (t : Tok) : Calls w hB (n + 1) 438 [.int x t] G [] (PI (sgn x)) := by
 refine start438 B _ ?_
 intro A env e cx o KK hKK
 by_cases h : x ≥ 2147483648
 ·have h1 : decide (x ≥ 2147483648) = true := decide_eq_true h
  refine Do.reS o tb438 60 ?_
  refine ite_t h1 ?_
  intro t1 t2
  refine hKK ?_; exact Left.mk [] [] rfl rfl ⟨rfl, _, by unfold sgn; rw [if_pos h]; rfl⟩
 ·have h1 : decide (x ≥ 2147483648) = false := decide_eq_false h
  refine Do.reS o tb438 60 ?_
  refine ite_f h1 ?_
  refine hKK ?_; exact Left.mk [] [] rfl rfl ⟨rfl, _, by unfold sgn; rw [if_neg h]; rfl⟩
theorem nolong {a b : Int} (hb : b.natAbs < 2 ^ 40) : Builtin.divisionGoesByPylong a b = false := by
 refine PyProof.noPylong_of_log2 (Nat.lt_of_le_of_lt ?_ (show 40 < 9000 by decide))
 by_cases h : b.natAbs = 0
 ·rw [h]; decide
 ·exact Nat.le_of_lt ((Nat.log2_lt h).mpr hb)
theorem pow32 {b : Int} (h0 : 0 ≤ b) (h1 : b ≤ 32) : (2 : Int) ^ b.toNat ≠ 0 ∧ ((2 : Int) ^ b.toNat).natAbs < 2 ^ 40 := by
 have e : ((2 : Int) ^ b.toNat).natAbs = 2 ^ b.toNat := by rw [Int.natAbs_pow]; rfl
 have : (2 : Nat) ^ b.toNat ≤ 2 ^ 32 := Nat.pow_le_pow_right (by decide) (by lia)
 refine ⟨fun h => ?_, by rw [e]; exact Nat.lt_of_le_of_lt this (by decide)⟩
 have h2 : 0 < (2 : Nat) ^ b.toNat := Nat.pow_pos (by decide)
 rw [h] at e; simp at e; lia
theorem std1_val (B : Base w hB mg mb) (n : Nat) {a ks : Addr} {name : String} {tn : Tok} {k : Nat} {x : Int} {tx : Tok} (hv : AttrG G a 224 "value" (.str (S name) tn)) (hks : G ks (lobj [.int x tx] k)) (hx : InW x)
  (hn : name = "ABS" ∨ name = "ODD" ∨ name = "VAL" ∨ name = "ORD") : Calls w hB (n + 2) 445 [.ref a, .ref ks] G [] (PI (stdVal name x 0)) := by
 refine start445 B _ _ ?_
 intro A env e cx o KK hKK
 rcases hn with rfl | rfl | rfl | rfl
 ·refine Do.reS o tb445 60 ?_
  intro t1
  refine Do.itemL (.inl hks) (by decide) (by decide) rfl ?_
  refine Do.gP o hv ?_
  refine if1 ?_
  refine Do.callG ?_
  refine Do.builtinK o 0 rfl (v := (.builtin "abs")) (by kernel_rfl) (by kernel_rfl) (by kernel_rfl) ?_
  refine Do.callWith_b1 ?_
  refine Do.reL o tb445 30 ?_
  refine Do.byContract0 o (lsigned_spec B _ x tx) ?_
  intro QM r5 G5 hG5 p5
  obtain ⟨tk5, rfl⟩ := p5
  refine Do.abs ?_
  intro t2 t3
  refine Do.mod (by decide) ?_
  intro t4
  refine hKK ?_; exact Left.mk [] [] rfl rfl ⟨rfl, _, rfl⟩
 ·refine Do.reS o tb445 60 ?_
  intro t1
  refine Do.itemL (.inl hks) (by decide) (by decide) rfl ?_
  refine Do.gP o hv ?_
  refine if0 ?_
  refine Do.gP o hv ?_
  refine if1 ?_
  intro t2
  refine Do.mod (by decide) ?_
  intro t3
  refine hKK ?_; exact Left.mk [] [] rfl rfl ⟨rfl, _, rfl⟩
 ·refine Do.reS o tb445 60 ?_
  intro t1
  refine Do.itemL (.inl hks) (by decide) (by decide) rfl ?_
  refine Do.gP o hv ?_
  refine if0 ?_
  refine Do.gP o hv ?_
  refine if0 ?_
  refine Do.gP o hv ?_
  refine if0 ?_
  refine Do.gP o hv ?_
  refine if0 ?_
  refine Do.gP o hv ?_
  refine if0 ?_
  refine hKK ?_; exact Left.mk [] [] rfl rfl ⟨rfl, _, rfl⟩
 ·refine Do.reS o tb445 60 ?_
  intro t1
  refine Do.itemL (.inl hks) (by decide) (by decide) rfl ?_
  refine Do.gP o hv ?_
  refine if0 ?_
  refine Do.gP o hv ?_
  refine if0 ?_
  refine Do.gP o hv ?_
  refine if0 ?_
  refine Do.gP o hv ?_
  refine if0 ?_
  refine Do.gP o hv ?_
  refine if0 ?_
  refine hKK ?_; exact Left.mk [] [] rfl rfl ⟨rfl, _, rfl⟩
theorem std2_val (B : Base w hB mg mb) (n : Nat) {a ks : Addr} {name : String} {tn : Tok} {k : Nat} {x y : Int} {tx ty : Tok} (hv : AttrG G a 224 "value" (.str (S name) tn)) (hks : G ks (lobj [.int x tx, .int y ty] k)) (hx : InW x) (hy0 : 0 ≤ y) (hy1 : y < 32)
  (hn : name = "LSL" ∨ name = "ASR" ∨ name = "ROR") : Calls w hB (n + 2) 445 [.ref a, .ref ks] G [] (PI (stdVal name x y)) := by
 have hxn : x.natAbs < 2 ^ 64 := by have := hx.1; have := hx.2; lia
 have hp1 := pow32 hy0 (by lia)
 have hp2 := pow32 (b := 32 - y) (by lia) (by lia)
 refine start445 B _ _ ?_
 intro A env e cx o KK hKK
 rcases hn with rfl | rfl | rfl
 ·refine Do.reS o tb445 60 ?_
  intro t1
  refine Do.itemL (.inl hks) (by decide) (by decide) rfl ?_
  refine Do.gP o hv ?_
  refine if0 ?_
  refine Do.gP o hv ?_
  refine if0 ?_
  refine Do.gP o hv ?_
  refine if1 ?_
  intro t2 t3
  refine Do.itemL (.inl hks) (by decide) (by decide) rfl ?_
  refine Do.pow hy0 (by lia) (by decide) fun t50 => ?_
  refine Do.mul (.of_left (intBits_le64 hxn)) fun t51 => ?_
  intro t4
  refine Do.mod (by decide) ?_
  intro t5
  refine hKK ?_; exact Left.mk [] [] rfl rfl ⟨rfl, _, rfl⟩
 ·refine Do.reS o tb445 60 ?_
  intro t1
  refine Do.itemL (.inl hks) (by decide) (by decide) rfl ?_
  refine Do.gP o hv ?_
  refine if0 ?_
  refine Do.gP o hv ?_
  refine if0 ?_
  refine Do.gP o hv ?_
  refine if0 ?_
  refine Do.gP o hv ?_
  refine if1 ?_
  refine Do.byContract0 o (lsigned_spec B _ x tx) ?_
  intro QM r5 G5 hG5 p5
  obtain ⟨tk5, rfl⟩ := p5
  have hks5 := hG5 _ _ hks
  intro t2 t3
  refine Do.itemL (.inl hks5) (by decide) (by decide) rfl ?_
  refine Do.pow hy0 (by lia) (by decide) fun t50 => ?_
  refine Do.fdiv hp1.1 (nolong hp1.2) fun t51 => ?_
  intro t4
  refine Do.mod (by decide) ?_
  intro t5
  refine hKK ?_; exact Left.mk [] [] rfl rfl ⟨rfl, _, rfl⟩
 ·refine Do.reS o tb445 60 ?_
  intro t1
  refine Do.itemL (.inl hks) (by decide) (by decide) rfl ?_
  refine Do.gP o hv ?_
  refine if0 ?_
  refine Do.gP o hv ?_
  refine if0 ?_
  refine Do.gP o hv ?_
  refine if0 ?_
  refine Do.gP o hv ?_
  refine if0 ?_
  refine Do.gP o hv ?_
  refine if1 ?_
  intro t2 t3
  refine Do.itemL (.inl hks) (by decide) (by decide) rfl ?_
  refine Do.pow hy0 (by lia) (by decide) fun t50 => ?_
  refine Do.fdiv hp1.1 (nolong hp1.2) fun t51 => ?_
  intro t4 t5 t6
  refine Do.itemL (.inl hks) (by decide) (by decide) rfl ?_
  intro t7
  refine Do.pow (by lia) (by lia) (by decide) fun t52 => ?_
  refine Do.mul (.of_left (intBits_le64 hxn)) fun t53 => ?_
  intro t8 t9
  refine Do.mod (by decide) ?_
  intro t10
  refine hKK ?_; exact Left.mk [] [] rfl rfl ⟨rfl, _, rfl⟩
end
end Mine
end
section
namespace Mine
open PySem PySem.W PyProof.Rows PySem.Calls H
noncomputable def bitAt (x : Int) (i : Nat) : Int := (x.fdiv (2 ^ i)).fmod 2
noncomputable def bitF (op : String) (a b : Int) : Bool := if op = "s+" then decide (a + b > 0) else if op = "s-" then decide (a > b) else if op = "s*" then a + b == 2 else a + b == 1
noncomputable def bitsUpto (op : String) (l r : Int) : Nat → Int
 | 0 => 0
 | n + 1 => bitsUpto op l r n + (if bitF op (bitAt l n) (bitAt r n) = true then 2 ^ n else 0)
noncomputable def bitsVal (op : String) (l r : Int) : Int := bitsUpto op l r 32
section
variable {w : World} {hB : Heap} {mg mb : Str → Option Value} {G : Gh}
theorem bits_val (B : Base w hB mg mb) (n : Nat) {op : String} (hop : op = "s+" ∨ op = "s-" ∨ op = "s*" ∨ op = "s/") (t0 : Tok) (x : Int) (tx : Tok) (y : Int) (ty : Tok) :
  Calls w hB (n + 1) 452 [.str (S op) t0, .int x tx, .int y ty] G [] (PI (bitsVal op x y)) := by
 refine start452 B _ _ _ ?_
 intro A env e cx o KK hKK
 refine Do.reS o tb452 60 ?_
 intro t1
 refine Do.forRp o (by intro _; rfl) ?_
 refine Do.callG ?_
 refine Do.builtinK o 0 rfl (v := (.type "range")) (by kernel_rfl) (by kernel_rfl) (by kernel_rfl) ?_
 refine Do.callWith_t1 ?_
 refine Do.reL o tb452 30 ?_
 intro t2
 refine Do.range1 ?_
 intro t3 t4 t5
 refine forR_mk (fun i σ' => (E5 fun t u1 u2 u3 u4 => σ'.vs = [some (.str (S op) t0), some (.int x tx), some (.int y ty), some (.int (bitsUpto op x y i) t), u1, u2, u3, u4])) (.inl gadd_at) (by decide) (by decide) ⟨_, _, _, _, _, rfl⟩ ?_ ?_
 ·rintro i ti p KL hKL QM hQM ⟨vs', G', mu'⟩ hi ⟨t, u1, u2, u3, u4, e1⟩
  dsimp only at e1
  subst e1
  refine hQM _ ?_
  have o2 := o.hide p
  have hp1 := pow32 (b := (i : Int)) (by lia) (by lia)
  have ha : ∀ z : Int, (z.fdiv (2 ^ ((i : Int)).toNat)).fmod 2 = bitAt z i := fun z => by rw [Int.toNat_natCast]; rfl
  refine Do.assignName o2 4 rfl (by first | exact Nat.le_of_ble_eq_true rfl | lia) ?_
  refine Do.reS o2 tb452 60 ?_
  intro t6
  refine Do.pow (by lia) (by lia) (by decide) fun t50 => ?_
  refine Do.fdiv hp1.1 (nolong hp1.2) fun t51 => ?_
  intro t7
  refine Do.mod (by decide) ?_
  intro t8 t9
  refine Do.pow (by lia) (by lia) (by decide) fun t52 => ?_
  refine Do.fdiv hp1.1 (nolong hp1.2) fun t53 => ?_
  intro t10
  refine Do.mod (by decide) ?_
  intro t11
  refine Do.dictS (by kernel_rfl) ?_
  intro t12
  refine Do.pairs_cons ?_
  refine Do.const_str ?_
  intro t13
  refine Do.reE o2 tb452 30 ?_
  intro t14 t15
  refine Do.pairs_cons ?_
  refine Do.const_str ?_
  intro t16
  refine Do.reE o2 tb452 30 ?_
  refine Do.pairs_cons ?_
  refine Do.const_str ?_
  intro t17
  refine Do.reE o2 tb452 30 ?_
  intro t18 t19
  refine Do.pairs_cons ?_
  refine Do.const_str ?_
  intro t20
  refine Do.reE o2 tb452 30 ?_
  intro t21 t22
  refine Do.pairs_nil ?_
  refine DictEnd.mk [] rfl (by kernel_rfl) ?_
  intro t23 t24
  have hat : valueAt (strPairs [(.str (Str.ofString "s+") t13, .bool (decide (bitAt x i + bitAt y i > 0))), (.str (Str.ofString "s-") t16, .bool (decide (bitAt x i > bitAt y i))), (.str (Str.ofString "s*") t17, .bool (bitAt x i + bitAt y i == 2)), (.str (Str.ofString "s/") t20, .bool (bitAt x i + bitAt y i == 1))]) (S op) = some (.bool (bitF op (bitAt x i) (bitAt y i))) := by
   rcases hop with rfl | rfl | rfl | rfl
   ·exact valueAt_at 0 (by kernel_rfl) rfl
   ·exact valueAt_at 1 (by kernel_rfl) rfl
   ·exact valueAt_at 2 (by kernel_rfl) rfl
   ·exact valueAt_at 3 (by kernel_rfl) rfl
  refine Do.dget (.inr (mm 0 rfl)) t24 (strKind_is _ _ _ _) hat ?_
  refine Do.aug_name o2 3 rfl rfl ?_
  refine Do.reE o2 tb452 30 ?_
  cases hc : bitF op (bitAt x i) (bitAt y i)
  ·refine if0 ?_
   intro t25
   refine Do.iadd ?_
   intro t26
   refine ⟨by first | exact Nat.le_of_ble_eq_true rfl | lia, ?_⟩
   refine hKL ?_; exact ⟨_, _, _, _, _, by rw [show bitsUpto op x y (i + 1) = bitsUpto op x y i + 0 by simp only [bitsUpto, hc]; rfl]; rfl⟩
  ·refine if1 ?_
   intro t25
   refine Do.pow (by lia) (by lia) (by decide) fun t60 => ?_
   refine Do.iadd ?_
   intro t26
   refine ⟨by first | exact Nat.le_of_ble_eq_true rfl | lia, ?_⟩
   refine hKL ?_; exact ⟨_, _, _, _, _, by rw [show bitsUpto op x y (i + 1) = bitsUpto op x y i + 2 ^ i by simp only [bitsUpto, hc]; rfl]; rfl⟩
 ·rintro QM hQM ⟨vs', G', mu'⟩ ⟨t, u1, u2, u3, u4, e1⟩
  dsimp only at e1
  subst e1
  refine hQM _ ?_
  refine hKK ?_; exact Left.mk _ [] (List.append_nil _).symm rfl ⟨rfl, _, rfl⟩
end
end Mine
end
section
namespace Mine
open PySem PySem.W PyProof.Rows PySem.Calls H
noncomputable def b01 (c : Bool) : Int := if c = true then 1 else 0
noncomputable def relVal (op : String) (x y : Int) : Bool :=
 if op = "=" then x == y else if op = "#" then x != y else if op = "<" then decide (x < y) else if op = "<=" then decide (x ≤ y) else if op = ">" then decide (x > y) else decide (x ≥ y)
noncomputable def pairVal (op : String) (x y : Int) : Int :=
 if op = "+" then (x + y).fmod W32 else if op = "-" then (x - y).fmod W32 else if op = "*" then (x * y).fmod W32
 else if op = "s+" ∨ op = "s-" ∨ op = "s*" ∨ op = "s/" then bitsVal op x y
 else if op = "IN" then (y.fdiv (2 ^ x.toNat)).fmod 2
 else if op = "&" then b01 (x + y == 2) else if op = "OR" then b01 (decide (x + y > 0))
 else if op = "s<=" then b01 (bitsVal "s-" x y == 0) else if op = "s>=" then b01 (bitsVal "s-" y x == 0)
 else b01 (relVal op (sgn x) (sgn y))
theorem Do.isTrue_ifexp {c : Cx} {σ : Sg} {t a b : Expr} {p : Pos} {K : Bool → Sg → Prop}
  (x : Do c σ (isTrue t c.env (eval t c.env)) fun r σ₁ => IfB r (Do c σ₁ (isTrue a c.env (eval a c.env)) K) (Do c σ₁ (isTrue b c.env (eval b c.env)) K)) : Do c σ (isTrue (.IfExp t a b p) c.env (eval (.IfExp t a b p) c.env)) K := by
 rw [arm_isTrue_IfExp]
 refine Do.bind (x.mono fun r σ₁ y => ?_)
 cases r
 ·exact y.f rfl
 ·exact y.t rfl
theorem or4 {α : Type} {x a b c d : α} (h : x ∈ [a, b, c, d]) : x = a ∨ x = b ∨ x = c ∨ x = d := by simpa using h
theorem b01t {c : Bool} {v : Value} {z : Int} {t : Tok} (h : c = true) (hz : z = b01 c) (e : v = .int 1 t := by rfl) : v = .int z t := by rw [e, hz, h]; rfl
theorem b01f {c : Bool} {v : Value} {z : Int} {t : Tok} (h : c = false) (hz : z = b01 c) (e : v = .int 0 t := by rfl) : v = .int z t := by rw [e, hz, h]; rfl
section
variable {w : World} {hB : Heap} {mg mb : Str → Option Value} {G : Gh}
set_option maxHeartbeats 1600000 in
theorem pair_val (B : Base w hB mg mb) (n : Nat) {a : Addr} {op : String} {t0 : Tok} (ho : AttrG G a 224 "op" (.str (S op) t0)) (hop : op ∈ pairOps ++ relOps) (x : Int) (tx : Tok) (y : Int) (ty : Tok) (hx : InW x) (hy : InW y) (hin : op = "IN" → x < 32) :
  Calls w hB (n + 2) 459 [.ref a, .int x tx, .int y ty] G [] (PI (pairVal op x y)) := by
 have hxn : x.natAbs < 2 ^ 64 := by have := hx.1; have := hx.2; lia
 refine start459 B _ _ _ ?_
 intro A env e cx o KK hKK
 refine Do.reS o tb459 60 ?_
 refine Do.gP o ho ?_
 rcases pairCases hop with h1 | h1 | rfl | h1 | rfl | rfl | h1
 ·refine if1 ?_ (by apply allT (x := op) h1; kernel_rfl)
  refine Do.dictS (by kernel_rfl) ?_
  intro t1
  refine Do.pairs_cons ?_
  refine Do.const_str ?_
  intro t2
  refine Do.reE o tb459 30 ?_
  intro t3
  refine Do.pairs_cons ?_
  refine Do.const_str ?_
  intro t4
  refine Do.reE o tb459 30 ?_
  intro t5
  refine Do.pairs_cons ?_
  refine Do.const_str ?_
  intro t6
  refine Do.reE o tb459 30 ?_
  refine Do.mul (.of_left (intBits_le64 hxn)) fun t50 => ?_
  refine Do.pairs_nil ?_
  refine DictEnd.mk [] rfl (by kernel_rfl) ?_
  intro t7 t8
  revert hKK
  apply each3 (x := op) h1
  ·intro hKK
   refine Do.dgetS (.inr (mm 0 rfl)) t8 0 (by kernel_rfl) rfl ?_
   intro t9
   refine Do.mod (by decide) ?_
   intro t10
   refine hKK ?_; exact Left.mk _ [] (List.append_nil _).symm rfl ⟨rfl, _, rfl⟩
  ·intro hKK
   refine Do.dgetS (.inr (mm 0 rfl)) t8 1 (by kernel_rfl) rfl ?_
   intro t9
   refine Do.mod (by decide) ?_
   intro t10
   refine hKK ?_; exact Left.mk _ [] (List.append_nil _).symm rfl ⟨rfl, _, rfl⟩
  ·intro hKK
   refine Do.dgetS (.inr (mm 0 rfl)) t8 2 (by kernel_rfl) rfl ?_
   intro t9
   refine Do.mod (by decide) ?_
   intro t10
   refine hKK ?_; exact Left.mk _ [] (List.append_nil _).symm rfl ⟨rfl, _, rfl⟩
 ·have hv : pairVal op x y = bitsVal op x y := by apply each4 (x := op) h1 <;> rfl
  refine if0 ?_ (by apply allF (x := op) h1; kernel_rfl)
  refine if1 ?_ (by apply allT (x := op) h1; kernel_rfl)
  refine Do.byContract0 o (bits_val B _ (or4 h1) _ x tx y ty) ?_
  intro QM r5 G5 hG5 p5
  obtain ⟨tk5, rfl⟩ := p5
  refine hKK ?_; exact Left.mk _ [] (List.append_nil _).symm rfl ⟨rfl, _, by rw [hv]; rfl⟩
 ·have hp1 := pow32 hx.1 (by have := hin rfl; lia)
  refine if0 ?_
  refine if0 ?_
  refine if1 ?_
  intro t1
  refine Do.pow hx.1 (by have := hin rfl; lia) (by decide) fun t50 => ?_
  refine Do.fdiv hp1.1 (nolong hp1.2) fun t51 => ?_
  intro t2
  refine Do.mod (by decide) ?_
  intro t3
  refine hKK ?_; exact Left.mk _ [] (List.append_nil _).symm rfl ⟨rfl, _, rfl⟩
 ·refine if0 ?_ (by apply allF (x := op) h1; kernel_rfl)
  refine if0 ?_ (by apply allF (x := op) h1; kernel_rfl)
  refine if0 ?_ (by apply allF (x := op) h1; kernel_rfl)
  refine if1 ?_ (by apply allT (x := op) h1; kernel_rfl)
  refine Do.isTrue_ifexp ?_
  refine Do.reT o tb459 30 ?_
  obtain ⟨c, hcv, hc⟩ : ∃ c, pairVal op x y = b01 c ∧ c = (if op = "&" then x + y == 2 else decide (x + y > 0)) := ⟨_, by apply each2 (x := op) h1 <;> rfl, rfl⟩
  revert hKK hc hcv
  apply each2 (x := op) h1
  ·intro hKK hcv hc
   refine if1 ?_
   refine Do.reT o tb459 30 ?_
   intro t1
   cases c with
   | true =>
    refine ite_t hc.symm ?_
    intro t2
    refine hKK ?_; exact Left.mk _ [] (List.append_nil _).symm rfl ⟨rfl, _, b01t rfl hcv⟩
   | false =>
    refine ite_f hc.symm ?_
    intro t2
    refine hKK ?_; exact Left.mk _ [] (List.append_nil _).symm rfl ⟨rfl, _, b01f rfl hcv⟩
  ·intro hKK hcv hc
   refine if0 ?_
   refine Do.reT o tb459 30 ?_
   intro t1
   cases c with
   | true =>
    refine ite_t hc.symm ?_
    intro t2
    refine hKK ?_; exact Left.mk _ [] (List.append_nil _).symm rfl ⟨rfl, _, b01t rfl hcv⟩
   | false =>
    refine ite_f hc.symm ?_
    intro t2
    refine hKK ?_; exact Left.mk _ [] (List.append_nil _).symm rfl ⟨rfl, _, b01f rfl hcv⟩
 ·refine if0 ?_
  refine if0 ?_
  refine if0 ?_
  refine if0 ?_
  refine if1 ?_
  refine Do.assign_tuple rfl rfl ?_
  refine Do.reE o tb459 30 ?_
  refine if1 ?_
  refine Do.newTupG (Nat.le_of_ble_eq_true rfl) ?_
  intro t1
  refine Do.assignTuple ?_
  refine Do.unpackT o (.inl gadd_at) rfl rfl ?_
  refine Do.inOrder_cons ?_
  refine Do.assignName o 4 rfl (by first | exact Nat.le_of_ble_eq_true rfl | lia) ?_
  refine Do.inOrder_cons ?_
  refine Do.assignName o 5 rfl (by first | exact Nat.le_of_ble_eq_true rfl | lia) ?_
  refine Do.inOrder_nil ?_
  intro t2
  refine Do.byContract0 o (bits_val B _ (.inr (.inl rfl)) _ x tx y ty) ?_
  intro QM r5 G5 hG5 p5
  obtain ⟨tk5, rfl⟩ := p5
  cases hc : (bitsVal "s-" x y == 0) with
  | true =>
   refine ite_t hc ?_
   intro t3
   refine hKK ?_; exact Left.mk _ [] (List.append_nil _).symm rfl ⟨rfl, _, (b01t hc rfl)⟩
  | false =>
   refine ite_f hc ?_
   intro t3
   refine hKK ?_; exact Left.mk _ [] (List.append_nil _).symm rfl ⟨rfl, _, (b01f hc rfl)⟩
 ·refine if0 ?_
  refine if0 ?_
  refine if0 ?_
  refine if0 ?_
  refine if1 ?_
  refine Do.assign_tuple rfl rfl ?_
  refine Do.reE o tb459 30 ?_
  refine if0 ?_
  refine Do.newTupG (Nat.le_of_ble_eq_true rfl) ?_
  intro t1
  refine Do.assignTuple ?_
  refine Do.unpackT o (.inl gadd_at) rfl rfl ?_
  refine Do.inOrder_cons ?_
  refine Do.assignName o 4 rfl (by first | exact Nat.le_of_ble_eq_true rfl | lia) ?_
  refine Do.inOrder_cons ?_
  refine Do.assignName o 5 rfl (by first | exact Nat.le_of_ble_eq_true rfl | lia) ?_
  refine Do.inOrder_nil ?_
  intro t2
  refine Do.byContract0 o (bits_val B _ (.inr (.inl rfl)) _ y ty x tx) ?_
  intro QM r5 G5 hG5 p5
  obtain ⟨tk5, rfl⟩ := p5
  cases hc : (bitsVal "s-" y x == 0) with
  | true =>
   refine ite_t hc ?_
   intro t3
   refine hKK ?_; exact Left.mk _ [] (List.append_nil _).symm rfl ⟨rfl, _, (b01t hc rfl)⟩
  | false =>
   refine ite_f hc ?_
   intro t3
   refine hKK ?_; exact Left.mk _ [] (List.append_nil _).symm rfl ⟨rfl, _, (b01f hc rfl)⟩
 ·have hv : pairVal op x y = b01 (relVal op (sgn x) (sgn y)) := by apply each6 (x := op) h1 <;> rfl
  refine if0 ?_ (by apply allF (x := op) h1; kernel_rfl)
  refine if0 ?_ (by apply allF (x := op) h1; kernel_rfl)
  refine if0 ?_ (by apply allF (x := op) h1; kernel_rfl)
  refine if0 ?_ (by apply allF (x := op) h1; kernel_rfl)
  refine if0 ?_ (by apply allF (x := op) h1; kernel_rfl)
  refine Do.assign_swap2 o 1 2 rfl rfl (by kernel_rfl) (by kernel_rfl) ?_
  refine Do.reE o tb459 30 ?_
  refine Do.byContract0 o (lsigned_spec B _ x tx) ?_
  intro QM r5 G5 hG5 p5
  obtain ⟨tk5, rfl⟩ := p5
  refine Do.byContract0 o (lsigned_spec B _ y ty) ?_
  intro QM r6 G6 hG6 p6
  obtain ⟨tk6, rfl⟩ := p6
  refine Do.newTupG (Nat.le_of_ble_eq_true rfl) ?_
  intro t1
  refine SwapEnd.mk (.inl gadd_at) (by first | exact Nat.le_of_ble_eq_true rfl | lia) (by first | exact Nat.le_of_ble_eq_true rfl | lia) ?_
  refine Do.dictS (by kernel_rfl) ?_
  intro t2
  refine Do.pairs_cons ?_
  refine Do.const_str ?_
  intro t3
  refine Do.reE o tb459 30 ?_
  refine Do.pairs_cons ?_
  refine Do.const_str ?_
  intro t4
  refine Do.reE o tb459 30 ?_
  refine Do.pairs_cons ?_
  refine Do.const_str ?_
  intro t5
  refine Do.reE o tb459 30 ?_
  refine Do.pairs_cons ?_
  refine Do.const_str ?_
  intro t6
  refine Do.reE o tb459 30 ?_
  refine Do.pairs_cons ?_
  refine Do.const_str ?_
  intro t7
  refine Do.reE o tb459 30 ?_
  refine Do.pairs_cons ?_
  refine Do.const_str ?_
  intro t8
  refine Do.reE o tb459 30 ?_
  refine Do.pairs_nil ?_
  refine DictEnd.mk [] rfl (by kernel_rfl) ?_
  intro t9 t10
  refine Do.dget (.inr (mm 0 rfl)) t10 (strKind_is _ _ _ _) (v := .bool (relVal op (sgn x) (sgn y))) (by apply each6 (x := op) h1 <;> kernel_rfl) ?_
  cases hc : relVal op (sgn x) (sgn y) with
  | true =>
   refine ite_t rfl ?_
   intro t11
   refine hKK ?_; exact Left.mk _ [] (List.append_nil _).symm rfl ⟨rfl, _, (b01t hc hv)⟩
  | false =>
   refine ite_f rfl ?_
   intro t11
   refine hKK ?_; exact Left.mk _ [] (List.append_nil _).symm rfl ⟨rfl, _, (b01f hc hv)⟩
end
end Mine
end
section
namespace Mine
open PySem PySem.W PyProof.Rows
noncomputable def setVal (es : List Int) : Int := (es.map fun e => (2 : Int) ^ e.toNat).foldl (fun total one => if (total.fdiv one).fmod 2 = 1 then total else total + one) 0
noncomputable def unVal (op : String) (a : Int) : Int := if op = "neg" then (0 - a).fmod W32 else if op = "not" then 1 - a else 4294967295 - a
noncomputable def den (ws : Nat → Int) : Tr → Int
 | .const _ v => v.fmod W32
 | .var i => ws i
 | .std1 name _ t => stdVal name (den ws t) 0
 | .std2 name _ t k => stdVal name (den ws t) (k.fmod W32)
 | .set es => setVal es
 | .un op _ t => unVal op (den ws t)
 | .bin op _ l r => pairVal op (den ws l) (den ws r)
noncomputable def usd (ss : List Nat) : List Nat → Tr → List Nat
 | us, .const _ _ => us
 | us, .var i => if i ∈ ss ∨ i ∈ us then us else us ++ [i]
 | us, .std1 _ _ t => usd ss us t
 | us, .std2 _ _ t _ => usd ss us t
 | us, .set _ => us
 | us, .un _ _ t => usd ss us t
 | us, .bin _ _ l r => usd ss (usd ss us l) r
structure WordsOK (ws : Nat → Int) : Prop where
 inW : ∀ i, i < 6 → InW (ws i)
 b : ws 4 = 0 ∨ ws 4 = 1
 c : ws 5 < 256
theorem usd_len (ss : List Nat) : ∀ (t : Tr) (us : List Nat), (usd ss us t).length ≤ us.length + t.cost
 | .const _ _, us => Nat.le_add_right _ _
 | .var i, us => by unfold usd; split <;> simp [Tr.cost]
 | .std1 _ _ t, us => by have := usd_len ss t us; simp only [usd, Tr.cost]; lia
 | .std2 _ _ t _, us => by have := usd_len ss t us; simp only [usd, Tr.cost]; lia
 | .set es, us => Nat.le_add_right _ _
 | .un _ _ t, us => by have := usd_len ss t us; simp only [usd, Tr.cost]; lia
 | .bin _ _ l r, us => by have h1 := usd_len ss l us; have h2 := usd_len ss r (usd ss us l); simp only [usd, Tr.cost]; lia
theorem usd_lt (ss : List Nat) {t : Tr} (h : WT t) : ∀ {us : List Nat}, (∀ j ∈ us, j < 6) → ∀ j ∈ usd ss us t, j < 6 := by
 induction h with
 | const => exact fun h => h
 | var i hi =>
  intro us h j hj
  unfold usd at hj
  split at hj
  ·exact h j hj
  ·rcases List.mem_append.mp hj with hj | hj
   ·exact h j hj
   ·rw [List.mem_singleton.mp hj]; exact hi
 | std1 _ _ _ _ _ ih => exact fun h => ih h
 | std2 _ _ _ _ _ _ _ _ _ ih => exact fun h => ih h
 | set => exact fun h => h
 | un _ _ _ _ _ ih => exact fun h => ih h
 | bin _ _ _ _ _ _ _ ihl ihr => exact fun h => ihr (ihl h)
theorem fmod_id {x : Int} (h : InW x) : x.fmod W32 = x := by
 rw [Int.fmod_eq_emod_of_nonneg _ (by decide)]
 exact Int.emod_eq_of_lt h.1 h.2
theorem bitsUpto_in (op : String) (x y : Int) : ∀ n, 0 ≤ bitsUpto op x y n ∧ bitsUpto op x y n < 2 ^ n
 | 0 => ⟨Int.le_refl _, show (0 : Int) < 2 ^ 0 by decide⟩
 | n + 1 => by
  have ⟨h1, h2⟩ := bitsUpto_in op x y n
  have hp : (0 : Int) < 2 ^ n := Int.pow_pos (by decide)
  have e : (2 : Int) ^ (n + 1) = 2 ^ n + 2 ^ n := by rw [Int.pow_succ]; lia
  rw [e]
  unfold bitsUpto
  split <;> constructor <;> lia
theorem bitsVal_in (op : String) (x y : Int) : InW (bitsVal op x y) := bitsUpto_in op x y 32
theorem b01_in (c : Bool) : b01 c = 0 ∨ b01 c = 1 := by cases c; exact .inl rfl; exact .inr rfl
theorem in_of01 {x : Int} (h : x = 0 ∨ x = 1) : InW x := by rcases h with rfl | rfl <;> exact ⟨by decide, by decide⟩
theorem setVal_in {es : List Int} (h : ∀ e ∈ es, 0 ≤ e ∧ e < 32) (hl : es.length ≤ 2) : InW (setVal es) := by
 have hp : ∀ e : Int, 0 ≤ e → e < 32 → (1 : Int) ≤ 2 ^ e.toNat ∧ (2 : Int) ^ e.toNat ≤ 2147483648 := fun e h0 h1 => by
  have e1 : e.toNat ≤ 31 := by lia
  have a : (2 : Nat) ^ e.toNat ≤ 2 ^ 31 := Nat.pow_le_pow_right (by decide) e1
  have b : 1 ≤ (2 : Nat) ^ e.toNat := Nat.one_le_two_pow
  have c : ((2 : Int) ^ e.toNat) = ((2 ^ e.toNat : Nat) : Int) := by norm_cast
  rw [c]
  exact ⟨by lia, by lia⟩
 match es, hl with
 | [], _ => exact ⟨by decide, by decide⟩
 | [a], _ =>
  have ⟨a0, a1⟩ := h a (by simp)
  have ⟨p0, p1⟩ := hp a a0 a1
  simp only [setVal, List.map_cons, List.map_nil, List.foldl_cons, List.foldl_nil]
  split
  ·exact ⟨by lia, by lia⟩
  ·exact ⟨by lia, by lia⟩
 | [a, b], _ =>
  have ⟨a0, a1⟩ := h a (by simp)
  have ⟨b0, b1⟩ := h b (by simp)
  have ⟨p0, p1⟩ := hp a a0 a1
  have ⟨q0, q1⟩ := hp b b0 b1
  simp only [setVal, List.map_cons, List.map_nil, List.foldl_cons, List.foldl_nil]
  have key : ((0 + (2 : Int) ^ a.toNat).fdiv (2 ^ b.toNat)).fmod 2 = 1 ∨ ¬ ((0 + (2 : Int) ^ a.toNat).fdiv (2 ^ b.toNat)).fmod 2 = 1 := Classical.em _
  have key0 : ¬ ((0 : Int).fdiv (2 ^ a.toNat)).fmod 2 = 1 := by rw [Int.zero_fdiv]; decide
  rw [if_neg key0]
  rcases key with k | k
  ·rw [if_pos k]; exact ⟨by lia, by lia⟩
  ·rw [if_neg k]
   by_cases hab : a = b
   ·exfalso
    subst hab
    apply k
    rw [Int.zero_add, Int.fdiv_self (by lia)]
    decide
   ·have e1 : a.toNat ≠ b.toNat := by lia
    have f1 : a.toNat ≤ 31 := by lia
    have f2 : b.toNat ≤ 31 := by lia
    have g : (2 : Int) ^ a.toNat ≤ 1073741824 ∨ (2 : Int) ^ b.toNat ≤ 1073741824 := by
     rcases Nat.lt_or_ge a.toNat 31 with x | x
     ·refine .inl ?_
      have a1 : (2 : Nat) ^ a.toNat ≤ 2 ^ 30 := Nat.pow_le_pow_right (by decide) (by lia)
      have c : ((2 : Int) ^ a.toNat) = ((2 ^ a.toNat : Nat) : Int) := by norm_cast
      rw [c]; lia
     ·refine .inr ?_
      have a1 : (2 : Nat) ^ b.toNat ≤ 2 ^ 30 := Nat.pow_le_pow_right (by decide) (by lia)
      have c : ((2 : Int) ^ b.toNat) = ((2 ^ b.toNat : Nat) : Int) := by norm_cast
      rw [c]; lia
    exact ⟨by lia, by lia⟩
theorem un_in {op : String} {a : Int} (h : InW a) (hn : op = "not" → a = 0 ∨ a = 1) : InW (unVal op a) := by
 unfold unVal
 split
 ·exact inW_fmod _
 ·split
  ·rename_i h2
   rcases hn h2 with rfl | rfl <;> exact ⟨by decide, by decide⟩
  ·exact ⟨by have := h.2; lia, by have := h.1; lia⟩
theorem std_in {name : String} {a b : Int} (h : InW a) : InW (stdVal name a b) := by
 refine ite_in (inW_fmod _) (ite_in ?_ (ite_in (inW_fmod _) (ite_in (inW_fmod _) (ite_in (inW_fmod _) h))))
 exact ⟨Int.fmod_nonneg_of_pos _ (by decide), by have := Int.fmod_lt_of_pos a (show (0 : Int) < 2 by decide); lia⟩
theorem pair_in {op : String} {x y : Int} : InW (pairVal op x y) := by
 refine ite_in (inW_fmod _) (ite_in (inW_fmod _) (ite_in (inW_fmod _) (ite_in (bitsVal_in _ _ _) (ite_in ?_ (ite_in (in_of01 (b01_in _)) (ite_in (in_of01 (b01_in _)) (ite_in (in_of01 (b01_in _)) (ite_in (in_of01 (b01_in _)) (in_of01 (b01_in _))))))))))
 exact ⟨Int.fmod_nonneg_of_pos _ (by decide), by have := Int.fmod_lt_of_pos (y.fdiv (2 ^ x.toNat)) (show (0 : Int) < 2 by decide); lia⟩
theorem fmod2_01 (x : Int) : x.fmod 2 = 0 ∨ x.fmod 2 = 1 := by
 have h1 := Int.fmod_nonneg_of_pos x (show (0 : Int) < 2 by decide)
 have h2 := Int.fmod_lt_of_pos x (show (0 : Int) < 2 by decide)
 lia
theorem pair_01 {op : String} {x y : Int} (h : op ∈ ["&", "OR", "=", "#", "s<=", "s>=", "<", "<=", ">", ">=", "IN"]) : pairVal op x y = 0 ∨ pairVal op x y = 1 := by
 simp only [List.mem_cons, List.not_mem_nil, or_false] at h
 rcases h with rfl | rfl | rfl | rfl | rfl | rfl | rfl | rfl | rfl | rfl | rfl
 all_goals first | exact b01_in _ | exact fmod2_01 _
theorem den_in {ws : Nat → Int} (hw : WordsOK ws) {t : Tr} (h : WT t) : InW (den ws t) ∧ (t.fm = .B → den ws t = 0 ∨ den ws t = 1) ∧ (t.fm = .C → den ws t < 256) := by
 induction h with
 | const f v h1 h2 h3 h4 h5 =>
  refine ⟨inW_fmod _, fun e => ?_, fun e => ?_⟩
  ·rcases h3 e with rfl | rfl
   ·exact .inl rfl
   ·exact .inr rfl
  ·have := h4 e
   show v.fmod W32 < 256
   rw [fmod_id ⟨by lia, by lia⟩]; exact this.2
 | var i hi =>
  refine ⟨hw.inW i hi, fun e => ?_, fun e => ?_⟩
  ·have : i = 4 := by
    match i, hi, e with
    | 4, _, _ => rfl
   subst this; exact hw.b
  ·have : i = 5 := by
    match i, hi, e with
    | 5, _, _ => rfl
   subst this; exact hw.c
 | std1 name f t h w ih =>
  refine ⟨std_in ih.1, fun e => ?_, fun e => ?_⟩
  ·rcases h with ⟨_, f1, _⟩ | ⟨n1, f1, _⟩ | ⟨_, f1, _⟩ | ⟨_, f1, _⟩
   ·subst f1; cases e
   ·subst n1; exact fmod2_01 _
   ·subst f1; cases e
   ·subst f1; cases e
  ·rcases h with ⟨_, f1, _⟩ | ⟨n1, f1, _⟩ | ⟨_, f1, _⟩ | ⟨_, f1, _⟩ <;> (subst f1; cases e)
 | std2 name f t k h hf h0 h1 w ih =>
  have f1 := hf.1
  subst f1
  exact ⟨std_in ih.1, (fun e => by cases e), fun e => by cases e⟩
 | set es h hl => exact ⟨setVal_in h hl, (fun e => by cases e), fun e => by cases e⟩
 | un op f t h w ih =>
  rcases h with ⟨o1, f1, f2⟩ | ⟨o1, f1, f2⟩ | ⟨o1, f1, f2⟩
  ·subst o1 f1; exact ⟨un_in ih.1 (fun e => by simp at e), (fun e => by cases e), fun e => by cases e⟩
  ·subst o1 f1
   refine ⟨un_in ih.1 (fun e => ih.2.1 f2), fun e => ?_, fun e => by cases e⟩
   show (1 : Int) - den ws t = 0 ∨ (1 : Int) - den ws t = 1
   rcases ih.2.1 f2 with x | x <;> lia
  ·subst o1 f1; exact ⟨un_in ih.1 (fun e => by simp at e), (fun e => by cases e), fun e => by cases e⟩
 | bin op f l r h wl wr ihl ihr =>
  refine ⟨pair_in, fun e => ?_, fun e => ?_⟩
  ·refine pair_01 ?_
   rcases h with ⟨o1, f1, _⟩ | ⟨o1, f1, _⟩ | ⟨o1, f1, _⟩ | ⟨o1, f1, _⟩ | ⟨o1, f1, _⟩ | ⟨o1, f1, _⟩
   ·subst f1; cases e
   ·subst f1; cases e
   ·simp at o1 ⊢; rcases o1 with rfl | rfl <;> simp
   ·simp at o1 ⊢; rcases o1 with rfl | rfl | rfl | rfl <;> simp
   ·subst o1; simp
   ·simp at o1 ⊢; rcases o1 with rfl | rfl | rfl | rfl | rfl | rfl <;> simp
  ·rcases h with ⟨o1, f1, _⟩ | ⟨o1, f1, _⟩ | ⟨o1, f1, _⟩ | ⟨o1, f1, _⟩ | ⟨o1, f1, _⟩ | ⟨o1, f1, _⟩ <;> (subst f1; cases e)
end Mine
end
section
namespace Mine
open PySem PySem.W PyProof.Rows PySem.Calls H
noncomputable def wkv (ws : Nat → Int) (tk : Nat → Tok) (n : Nat) : List (Str × Value) := (List.range n).map fun i => (S (varLabel i), .int (ws i) (tk i))
theorem six {P : Nat → Prop} (h0 : P 0) (h1 : P 1) (h2 : P 2) (h3 : P 3) (h4 : P 4) (h5 : P 5) : ∀ i, i < 6 → P i
 | 0, _ => h0
 | 1, _ => h1
 | 2, _ => h2
 | 3, _ => h3
 | 4, _ => h4
 | 5, _ => h5
theorem wkv_get {ws : Nat → Int} {tk : Nat → Tok} {i : Nat} (hi : i < 6) : valueAt (wkv ws tk 6) (S (varLabel i)) = some (.int (ws i) (tk i)) :=
 six (P := fun i => valueAt (wkv ws tk 6) (S (varLabel i)) = some (.int (ws i) (tk i))) (valueAt_at 0 (by kernel_rfl) rfl) (valueAt_at 1 (by kernel_rfl) rfl) (valueAt_at 2 (by kernel_rfl) rfl) (valueAt_at 3 (by kernel_rfl) rfl) (valueAt_at 4 (by kernel_rfl) rfl) (valueAt_at 5 (by kernel_rfl) rfl) i hi
noncomputable def upd {α : Type} (f : Nat → α) (i : Nat) (v : α) : Nat → α := fun j => if j = i then v else f j
theorem label_eq {i j : Nat} (hi : i < 6) (hj : j < 6) : (S (varLabel i) == S (varLabel j)) = decide (i = j) := by
 have hI : i = 0 ∨ i = 1 ∨ i = 2 ∨ i = 3 ∨ i = 4 ∨ i = 5 := by lia
 have hJ : j = 0 ∨ j = 1 ∨ j = 2 ∨ j = 3 ∨ j = 4 ∨ j = 5 := by lia
 rcases hI with rfl | rfl | rfl | rfl | rfl | rfl <;> rcases hJ with rfl | rfl | rfl | rfl | rfl | rfl <;> kernel_rfl
noncomputable def LabV (vs : List Value) (us : List Nat) : Prop := All2 (fun v i => ∃ t, v = .str (S (varLabel i)) t) vs us
theorem LabV.any {i : Nat} {t : Tok} (hi : i < 6) : ∀ {vs : List Value} {us : List Nat}, LabV vs us → (∀ j ∈ us, j < 6) → vs.any (eqv (.str (S (varLabel i)) t)) = decide (i ∈ us) ∧ (vs.all fun y => (eqB y (.str (S (varLabel i)) t)).isSome) = true
 | [], [], _, _ => ⟨rfl, rfl⟩
 | v :: vs, j :: us, ⟨⟨tv, e⟩, h⟩, hs => by
  have ⟨h1, h2⟩ := LabV.any (t := t) hi h fun j hj => hs j (.tail _ hj)
  have hj := hs j (.head _)
  subst e
  have e1 : eqB (.str (S (varLabel j)) tv) (.str (S (varLabel i)) t) = some (S (varLabel j) == S (varLabel i)) := by kernel_rfl
  rw [label_eq hj hi] at e1
  constructor
  ·rw [List.any_cons, h1]
   unfold eqv
   rw [e1]
   by_cases hij : j = i
   ·subst hij; simp
   ·have : ¬ i = j := fun h => hij h.symm
    simp [hij, this]
  ·rw [List.all_cons, h2, e1]; rfl
noncomputable def FpW (w : World) (uf wd sn : Addr) (us ss : List Nat) (ws : Nat → Int) (fp : Led) : Prop := (E6 fun uvs nu oW tk svs ns => A4 (fp = [(uf, lobj uvs nu), (wd, oW), (sn, lobj svs ns)]) (LabV uvs us) (oW.IsDictOf (sKd w) (wkv ws tk 6)) (LabV svs ss))
noncomputable def WordC (w : World) (hB : Heap) (ws : Nat → Int) (uf wd sn : Addr) (n : Nat) (t : Tr) (a : Addr) (G : Gh) : Prop := ∀ G' us ss fp, (∀ a o, G a o → G' a o) → FpW w uf wd sn us ss ws fp → (∀ j ∈ us, j < 6) → (∀ j ∈ ss, j < 6) → us.length + t.cost ≤ 900000 → ss.length ≤ 900000 →
 Calls w hB n 464 [.ref a, .ref wd, .ref uf, .ref sn] G' fp (fun v G'' fp' => (∃ tk, v = .int (den ws t) tk) ∧ FpW w uf wd sn (usd ss us t) ss ws fp')
section
variable {w : World} {hB : Heap} {mg mb : Str → Option Value} {G : Gh} {bk : Bk} {uf wd sn : Addr} {ws : Nat → Int}
theorem word_const (B : Base w hB mg mb) (n : Nat) {a : Addr} {f : Fm} {v : Int} (ht : NodeIs G bk (.const f v) a) : WordC w hB ws uf wd sn (n + 1) (.const f v) a G := by
 intro G1 us ss fp hG1 F hu hs hz hz2
 obtain ⟨uvs, nu, oW, tk, svs, ns, rfl, LU, DW, LS⟩ := F
 obtain ⟨ks, t, N⟩ := NodeIs.mono hG1 ht
 obtain ⟨⟨to, n1⟩, n2, n3, n4⟩ := N
 refine start464 B _ _ _ _ ?_
 intro A env e G' c0 c1 c2 hG CE C0 C1 C2 cx o KK hKK
 refine Do.reS o tb464 60 ?_
 refine Do.gP o (n1.mono fun _ _ x => (hG _ _ x)) ?_
 refine if1 ?_
 refine Do.gP o (n4.mono fun _ _ x => (hG _ _ x)) ?_
 intro t1
 refine Do.mod (by decide) ?_
 intro t2
 refine hKK ?_; exact Left.mk [] _ rfl rfl ⟨⟨_, rfl⟩, uvs, nu, oW, tk, svs, ns, rfl, LU, DW, LS⟩
theorem word_var (B : Base w hB mg mb) (n : Nat) (hb : BookOK G bk) {a : Addr} {i : Nat} (hi : i < 6) (ht : NodeIs G bk (.var i) a) : WordC w hB ws uf wd sn (n + 1) (.var i) a G := by
 intro G1 us ss fp hG1 F hu hs hz hz2
 obtain ⟨uvs, nu, oW, tk, svs, ns, rfl, LU, DW, LS⟩ := F
 obtain ⟨ks, N⟩ := NodeIs.mono hG1 ht
 obtain ⟨⟨to, n1⟩, n2, n3, n4⟩ := N
 obtain ⟨-, ⟨tn, hn⟩, -⟩ := (hb.var i hi).mono hG1
 refine start464 B _ _ _ _ ?_
 intro A env e G' c0 c1 c2 hG CE C0 C1 C2 cx o KK hKK
 refine Do.reS o tb464 60 ?_
 refine Do.gP o (n1.mono fun _ _ x => (hG _ _ x)) ?_
 refine if0 ?_
 refine Do.gP o (n1.mono fun _ _ x => (hG _ _ x)) ?_
 refine if1 ?_
 refine Do.gP o (n4.mono fun _ _ x => (hG _ _ x)) ?_
 refine Do.gP o (hn.mono fun _ _ x => (hG _ _ x)) ?_
 refine Do.cell o CE 0 (a := c0) (by kernel_rfl) C0 ?_
 obtain ⟨as1, as2⟩ := LS.any (t := tn) hi hs
 refine Do.notInL' (.inr (mm 2 rfl)) as2 ?_
 rw [as1]
 by_cases h1 : i ∈ ss
 ·rw [decide_eq_true h1]
  refine if0 ?_
  refine if0 ?_
  refine Do.cell o CE 2 (a := c2) (by kernel_rfl) C2 ?_
  refine Do.dget (.inr (mm 1 rfl)) DW (strKind_is _ _ _ _) (wkv_get hi) ?_
  refine hKK ?_; refine Left.mk [] _ rfl rfl ⟨⟨_, rfl⟩, uvs, nu, oW, tk, svs, ns, rfl, ?_, DW, LS⟩
  rw [usd, if_pos (.inl h1)]; exact LU
 ·rw [decide_eq_false h1]
  refine if1 ?_
  refine Do.cell o CE 1 (a := c1) (by kernel_rfl) C1 ?_
  obtain ⟨au1, au2⟩ := LU.any (t := tn) hi hu
  refine Do.notInL' (.inr (mm 0 rfl)) au2 ?_
  rw [au1]
  by_cases h2 : i ∈ us
  ·rw [decide_eq_true h2]
   refine if0 ?_
   refine if0 ?_
   refine Do.cell o CE 2 (a := c2) (by kernel_rfl) C2 ?_
   refine Do.dget (.inr (mm 1 rfl)) DW (strKind_is _ _ _ _) (wkv_get hi) ?_
   refine hKK ?_; refine Left.mk [] _ rfl rfl ⟨⟨_, rfl⟩, uvs, nu, oW, tk, svs, ns, rfl, ?_, DW, LS⟩
   rw [usd, if_pos (.inr h2)]; exact LU
  ·rw [decide_eq_false h2]
   have hul : uvs.length ≤ 1000000 := by have := LU.length; lia
   refine if1 ?_
   refine if1 ?_
   refine Do.methodCall ?_
   refine Do.cell o CE 1 (a := c1) (by kernel_rfl) C1 ?_
   refine Do.mAppend (.inr (mm 0 rfl)) ?_
   refine Do.callWith_b1 ?_
   refine Do.reL o tb464 30 ?_
   refine Do.append (ex := []) rfl (by first | exact Nat.le_of_ble_eq_true rfl | assumption | lia | (simp; lia)) ?_
   refine Do.cell o CE 2 (a := c2) (by kernel_rfl) C2 ?_
   refine Do.dget (.inr (mm 1 rfl)) DW (strKind_is _ _ _ _) (wkv_get hi) ?_
   refine hKK ?_; refine Left.mk [] _ rfl rfl ⟨⟨_, rfl⟩, _, _, oW, tk, svs, ns, rfl, ?_, DW, LS⟩
   rw [usd, if_neg (by simp [h1, h2])]
   exact LU.append (show All2 _ [_] [_] from ⟨⟨_, rfl⟩, trivial⟩)
end
end Mine
end
section
namespace Mine
open PySem PySem.W PyProof.Rows PySem.Calls H
noncomputable def usds (ss : List Nat) : List Nat → List Tr → List Nat
 | us, [] => us
 | us, t :: ts => usds ss (usd ss us t) ts
theorem usds_snoc (ss : List Nat) : ∀ (ts : List Tr) (us : List Nat) (t : Tr), usds ss us (ts ++ [t]) = usd ss (usds ss us ts) t
 | [], us, t => rfl
 | u :: ts, us, t => by simp only [List.cons_append, usds, usds_snoc ss ts]
theorem usds_len (ss : List Nat) : ∀ (ts : List Tr) (us : List Nat), (usds ss us ts).length ≤ us.length + costs ts
 | [], us => Nat.le_refl _
 | t :: ts, us => by
  have h1 := usd_len ss t us
  have h2 := usds_len ss ts (usd ss us t)
  simp only [usds, costs]; lia
theorem usds_lt (ss : List Nat) : ∀ {ts : List Tr} {us : List Nat}, (∀ t ∈ ts, WT t) → (∀ j ∈ us, j < 6) → ∀ j ∈ usds ss us ts, j < 6
 | [], us, _, h => h
 | t :: ts, us, hw, h => usds_lt ss (ts := ts) (us := usd ss us t) (fun u hu => hw u (.tail _ hu)) (usd_lt ss (hw t (.head _)) h)
section
variable {w : World} {hB : Heap} {mg mb : Str → Option Value} {G : Gh} {bk : Bk} {uf wd sn : Addr} {ws : Nat → Int}
noncomputable def WCase (ws : Nat → Int) (op : String) (name : Value) : List Tr → Int → Prop
 | [t], r => (op = "std" ∧ (E2 fun s tn => A3 (name = .str (S s) tn) (s = "ABS" ∨ s = "ODD" ∨ s = "VAL" ∨ s = "ORD") (r = stdVal s (den ws t) 0))) ∨ ((op = "neg" ∨ op = "not" ∨ op = "s~") ∧ r = unVal op (den ws t))
 | [t, u], r => (op = "std" ∧ (E3 fun s tn (k : Int) => A6 (name = .str (S s) tn) (s = "LSL" ∨ s = "ASR" ∨ s = "ROR") (den ws u = k.fmod W32) (0 ≤ k) (k < 32) (r = stdVal s (den ws t) (k.fmod W32)))) ∨ (op ∈ pairOps ++ relOps ∧ (op = "IN" → den ws t < 32) ∧ r = pairVal op (den ws t) (den ws u))
 | _, _ => False
theorem WCase.len {op : String} {name : Value} {r : Int} : ∀ {ts : List Tr}, WCase ws op name ts r → (∃ t, ts = [t]) ∨ ∃ t u, ts = [t, u]
 | [t], _ => .inl ⟨t, rfl⟩
 | [t, u], _ => .inr ⟨t, u, rfl⟩
theorem ops_all {P : String → Bool} (L : List String) (h : L.all P = true) {op : String} (ho : op ∈ L) : P op = true := List.all_eq_true.mp h op ho
theorem beq4 {a b c d : Bool} (h : (!a && (!b && (!c && !d))) = true) : a = false ∧ b = false ∧ c = false ∧ d = false := by
 cases a <;> cases b <;> cases c <;> cases d <;> first | exact ⟨rfl, rfl, rfl, rfl⟩ | cases h
theorem WCase.ne2 {op : String} (h : op ∈ pairOps ++ relOps) : (S op == Str.ofString "neg") = false ∧ (S op == Str.ofString "not") = false ∧ (S op == Str.ofString "s~") = false := by
 have q := beq4 (ops_all (P := fun op => !(S op == Str.ofString "neg") && (!(S op == Str.ofString "not") && (!(S op == Str.ofString "s~") && !false))) _ (by kernel_rfl) h)
 exact ⟨q.1, q.2.1, q.2.2.1⟩
theorem WCase.ne {op : String} {name : Value} {ts : List Tr} {r : Int} (h : WCase ws op name ts r) : (S op == Str.ofString "const") = false ∧ (S op == Str.ofString "var") = false ∧ (S op == Str.ofString "set") = false ∧ (op ≠ "std" → (S op == Str.ofString "std") = false) := by
 have hx : ∀ L : List String, (L.all fun op => !(S op == Str.ofString "const") && (!(S op == Str.ofString "var") && (!(S op == Str.ofString "set") && !(S op == Str.ofString "std")))) = true → op ∈ L → (S op == Str.ofString "const") = false ∧ (S op == Str.ofString "var") = false ∧ (S op == Str.ofString "set") = false ∧ (op ≠ "std" → (S op == Str.ofString "std") = false) := fun L hL ho => by
  have q := beq4 (ops_all (P := fun op => !(S op == Str.ofString "const") && (!(S op == Str.ofString "var") && (!(S op == Str.ofString "set") && !(S op == Str.ofString "std")))) L hL ho)
  exact ⟨q.1, q.2.1, q.2.2.1, fun _ => q.2.2.2⟩
 have h0 : op = "std" → (S op == Str.ofString "const") = false ∧ (S op == Str.ofString "var") = false ∧ (S op == Str.ofString "set") = false ∧ (op ≠ "std" → (S op == Str.ofString "std") = false) := fun h => by
  subst h; exact ⟨by kernel_rfl, by kernel_rfl, by kernel_rfl, fun h => absurd rfl h⟩
 rcases h.len with ⟨t, rfl⟩ | ⟨t, u, rfl⟩
 ·rcases h with ⟨h, _⟩ | ⟨h, _⟩
  ·exact h0 h
  ·exact hx ["neg", "not", "s~"] (by kernel_rfl) (by simpa using h)
 ·rcases h with ⟨h, _⟩ | ⟨h, _⟩
  ·exact h0 h
  ·exact hx _ (by kernel_rfl) h
theorem FpW.ads {us ss : List Nat} {fp : Led} (h : FpW w uf wd sn us ss ws fp) : fp.ads = [uf, wd, sn] := by obtain ⟨uvs, nu, oW, tk, svs, ns, rfl, _⟩ := h; rfl
theorem word_kids (B : Base w hB mg mb) (n : Nat) (hws : WordsOK ws) {a kd : Addr} {nK : Nat} {op : String} {to : Tok} {vs : List Value} {ts : List Tr} {name : Value} {r : Int} (ho : AttrG G a 224 "op" (.str (S op) to)) (hkd : AttrG G a 224 "kids" (.ref kd)) (hval : AttrG G a 224 "value" name)
  (hks : G kd (lobj vs nK)) (hT : ∀ t ∈ ts, WT t) (hkids : All2 (fun v t => ∃ b, v = .ref b ∧ WordC w hB ws uf wd sn (n + 3) t b G) vs ts) (hcase : WCase ws op name ts r)
  {us ss : List Nat} {fp : Led} (F : FpW w uf wd sn us ss ws fp) (hu : ∀ j ∈ us, j < 6) (hs : ∀ j ∈ ss, j < 6) (hz : us.length + costs ts ≤ 900000) (hz2 : ss.length ≤ 900000) :
  Calls w hB (n + 4) 464 [.ref a, .ref wd, .ref uf, .ref sn] G fp (fun v G'' fp' => (∃ tk, v = .int r tk) ∧ FpW w uf wd sn (usds ss us ts) ss ws fp') := by
 obtain ⟨hne1, hne2, hne3, hne4⟩ := hcase.ne
 have hlen : vs.length ≤ 1000000 := by
  rw [hkids.length]
  match ts, hcase with
  | [t], _ => simp
  | [t, u], _ => simp
 refine start464 B _ _ _ _ ?_
 intro A env e G' c0 c1 c2 hG CE C0 C1 C2 cx o KK hKK
 have hks' := hG _ _ hks
 refine Do.reS o tb464 60 ?_
 refine Do.gP o (ho.mono fun _ _ x => (hG _ _ x)) ?_
 refine ite_f hne1 ?_
 refine Do.gP o (ho.mono fun _ _ x => (hG _ _ x)) ?_
 refine ite_f hne2 ?_
 refine Do.gP o (ho.mono fun _ _ x => (hG _ _ x)) ?_
 refine ite_f hne3 ?_
 refine Do.assign_listComp [S "_law_word"] o CE (by kernel_rfl) 2 rfl (by first | exact Nat.le_of_ble_eq_true rfl | lia) (by kernel_rfl) ?_
 refine Do.reE o tb464 30 ?_
 refine Do.gP o (hkd.mono fun _ _ x => (hG _ _ x)) ?_
 refine ⟨rfl, CompSrc.list (n := nK) (fun i ys G2 mu => (∀ a o, G' a o → G2 a o) ∧ IntsV ys ((ts.take i).map (den ws)) ∧ FpW w uf wd sn (usds ss us (ts.take i)) ss ws mu) ?_ hlen ⟨fun _ _ x => x, trivial, F⟩ ?_ ?_⟩
 ·intro i ys G2 mu ⟨h1, _, _⟩
  exact .inl (h1 _ _ hks')
 ·intro j v ys G2 mu env2 C2' hid2 hj hv ⟨hG2, hys, F2⟩ CE2 o2
  refine Do.tests_nil (ite_t rfl ?_)
  obtain ⟨t, ht, b, rfl, hlow⟩ := hkids.get hv
  have D0 := C0.mono hG2
  have D1 := C1.mono hG2
  have D2 := C2.mono hG2
  have htT := hT t (List.mem_of_getElem? ht)
  refine Do.callG ?_
  refine Do.gK o2 0 464 ?_
  refine Do.callWith_args o2 (by kernel_rfl) ?_
  refine Do.reL o2 tb464 30 ?_
  refine Do.name o2 0 rfl rfl ?_
  refine Do.cell o2 CE2 0 (a := c2) (by kernel_rfl) D2 ?_
  refine Do.cell o2 CE2 1 (a := c1) (by kernel_rfl) D1 ?_
  refine Do.cell o2 CE2 2 (a := c0) (by kernel_rfl) D0 ?_
  refine Do.byContract o2 (hlow G2 _ ss mu (fun _ _ x => hG2 _ _ (hG _ _ x)) F2 (usds_lt ss (fun t ht => hT t (List.mem_of_mem_take ht)) hu) hs ?_ hz2) (ex := []) rfl ?_
  ·have h1 := usds_len ss (ts.take j) us
   have h2 := costs_take ts j t ht
   lia
  intro QM r G3 fp3 hG3 p3
  obtain ⟨⟨tk, rfl⟩, F3⟩ := p3
  have e : ts.take (j + 1) = ts.take j ++ [t] := by rw [List.take_add_one, ht]; rfl
  refine ⟨fun _ _ x => hG3 _ _ (hG2 _ _ x), ?_, ?_⟩
  ·rw [e, List.map_append]; exact hys.append ⟨⟨tk, rfl⟩, trivial⟩
  ·rw [e, usds_snoc]; exact F3
 ·intro ys G2 mu D ⟨hG2, hys, F2⟩ hD
  have hts : ts.take vs.length = ts := List.take_of_length_le (by rw [hkids.length]; exact Nat.le_refl _)
  rw [hts] at hys F2
  have hads := F2.ads.trans F.ads.symm
  rcases hcase.len with ⟨t, rfl⟩ | ⟨t, u, rfl⟩
  ·skip
   obtain ⟨tk, rfl⟩ : ∃ tk, ys = [.int (den ws t) tk] := all2i1 (f := fun r : Int => r) (r := den ws t) hys
   have hin := den_in hws (hT t (.head _))
   rcases hcase with ⟨rfl, s, tn, rfl, hs, rfl⟩ | ⟨ho3, rfl⟩
   ·refine Do.gP o (ho.mono fun _ _ x => (hG2 _ _ (hG _ _ x))) ?_
    refine if1 ?_
    refine Do.freeze 0 rfl rfl hD ?_
    refine Do.byContract0 o (std1_val B _ (hval.mono fun _ _ x => .inl (hG2 _ _ (hG _ _ x))) gadd_at hin.1 hs) ?_
    intro QM r5 G5 hG5 p5
    obtain ⟨tk5, rfl⟩ := p5
    refine hKK ?_; exact Left.mk [] _ rfl hads ⟨⟨_, rfl⟩, F2⟩
   ·rcases ho3 with rfl | rfl | rfl
    ·refine Do.gP o (ho.mono fun _ _ x => (hG2 _ _ (hG _ _ x))) ?_
     refine if0 ?_
     refine Do.gP o (ho.mono fun _ _ x => (hG2 _ _ (hG _ _ x))) ?_
     refine if1 ?_
     intro t1 t2
     refine Do.itemL (.inr (mm 0 rfl)) (by decide) (by decide) rfl ?_
     intro t3 t4
     refine Do.mod (by decide) ?_
     intro t5
     refine hKK ?_; exact Left.mk [_] _ rfl hads ⟨⟨_, rfl⟩, F2⟩
    ·refine Do.gP o (ho.mono fun _ _ x => (hG2 _ _ (hG _ _ x))) ?_
     refine if0 ?_
     refine Do.gP o (ho.mono fun _ _ x => (hG2 _ _ (hG _ _ x))) ?_
     refine if0 ?_
     refine Do.gP o (ho.mono fun _ _ x => (hG2 _ _ (hG _ _ x))) ?_
     refine if1 ?_
     intro t1 t2
     refine Do.itemL (.inr (mm 0 rfl)) (by decide) (by decide) rfl ?_
     intro t3
     refine hKK ?_; exact Left.mk [_] _ rfl hads ⟨⟨_, rfl⟩, F2⟩
    ·refine Do.gP o (ho.mono fun _ _ x => (hG2 _ _ (hG _ _ x))) ?_
     refine if0 ?_
     refine Do.gP o (ho.mono fun _ _ x => (hG2 _ _ (hG _ _ x))) ?_
     refine if0 ?_
     refine Do.gP o (ho.mono fun _ _ x => (hG2 _ _ (hG _ _ x))) ?_
     refine if0 ?_
     refine Do.gP o (ho.mono fun _ _ x => (hG2 _ _ (hG _ _ x))) ?_
     refine if1 ?_
     intro t1 t2
     refine Do.itemL (.inr (mm 0 rfl)) (by decide) (by decide) rfl ?_
     intro t3
     refine hKK ?_; exact Left.mk [_] _ rfl hads ⟨⟨_, rfl⟩, F2⟩
  ·skip
   obtain ⟨tk, tk2, rfl⟩ : ∃ tk tk2, ys = [.int (den ws t) tk, .int (den ws u) tk2] := all2i2 (f := fun r : Int => r) (r := den ws t) (r2 := den ws u) hys
   have hin := den_in hws (hT t (.head _))
   have hin2 := den_in hws (hT u (.tail _ (.head _)))
   rcases hcase with ⟨rfl, s, tn, k, rfl, hs, hk, hk0, hk1, rfl⟩ | ⟨ho3, h32, rfl⟩
   ·refine Do.gP o (ho.mono fun _ _ x => (hG2 _ _ (hG _ _ x))) ?_
    refine if1 ?_
    refine Do.freeze 0 rfl rfl hD ?_
    have hkm : k.fmod W32 = k := fmod_id ⟨hk0, by lia⟩
    rw [hk] at hin2 ⊢
    refine Do.byContract0 o (std2_val B _ (hval.mono fun _ _ x => .inl (hG2 _ _ (hG _ _ x))) gadd_at hin.1 (by lia) (by lia) hs) ?_
    intro QM r5 G5 hG5 p5
    obtain ⟨tk5, rfl⟩ := p5
    refine hKK ?_; exact Left.mk [] _ rfl hads ⟨⟨_, rfl⟩, F2⟩
   ·have hns : op ≠ "std" := fun h => by subst h; simp [pairOps, relOps] at ho3
    have hne5 := hne4 hns
    obtain ⟨hne6, hne7, hne8⟩ := WCase.ne2 ho3
    refine Do.gP o (ho.mono fun _ _ x => (hG2 _ _ (hG _ _ x))) ?_
    refine ite_f hne5 ?_
    refine Do.gP o (ho.mono fun _ _ x => (hG2 _ _ (hG _ _ x))) ?_
    refine ite_f hne6 ?_
    refine Do.gP o (ho.mono fun _ _ x => (hG2 _ _ (hG _ _ x))) ?_
    refine ite_f hne7 ?_
    refine Do.gP o (ho.mono fun _ _ x => (hG2 _ _ (hG _ _ x))) ?_
    refine ite_f hne8 ?_
    intro t1
    refine Do.itemL (.inr (mm 0 rfl)) (by decide) (by decide) rfl ?_
    intro t2
    refine Do.itemL (.inr (mm 0 rfl)) (by decide) (by decide) rfl ?_
    refine Do.byContract0 o (pair_val B _ (ho.mono fun _ _ x => (hG2 _ _ (hG _ _ x))) ho3 _ _ _ _ hin.1 hin2.1 h32) ?_
    intro QM r5 G5 hG5 p5
    obtain ⟨tk5, rfl⟩ := p5
    refine hKK ?_; exact Left.mk [_] _ rfl hads ⟨⟨_, rfl⟩, F2⟩
end
end Mine
end
section
namespace Mine
open PySem PySem.W PyProof.Rows PySem.Calls H
noncomputable def setF (total one : Int) : Int := if (total.fdiv one).fmod 2 = 1 then total else total + one
section
variable {w : World} {hB : Heap} {mg mb : Str → Option Value} {G : Gh} {bk : Bk} {uf wd sn : Addr} {ws : Nat → Int}
theorem word_set (B : Base w hB mg mb) (n : Nat) {es : List Int} (he : ∀ e ∈ es, 0 ≤ e ∧ e < 32) (hl : es.length ≤ 2) {a : Addr} (ht : NodeIs G bk (.set es) a) : WordC w hB ws uf wd sn (n + 4) (.set es) a G := by
 intro G1 us ss fp hG1 F hu hs hz hz2
 obtain ⟨kd, nK, vs, N, hks, hkids⟩ := NodeIs.mono hG1 ht
 have hkids0 := hkids
 obtain ⟨⟨to, n1⟩, n2, n3, n4⟩ := N
 have hlen : vs.length ≤ 1000000 := by rw [hkids.length]; lia
 refine start464 B _ _ _ _ ?_
 intro A env e G' c0 c1 c2 hG CE C0 C1 C2 cx o KK hKK
 have hks' := hG _ _ hks
 refine Do.reS o tb464 60 ?_
 refine Do.gP o (n1.mono fun _ _ x => (hG _ _ x)) ?_
 refine if0 ?_
 refine Do.gP o (n1.mono fun _ _ x => (hG _ _ x)) ?_
 refine if0 ?_
 refine Do.gP o (n1.mono fun _ _ x => (hG _ _ x)) ?_
 refine if1 ?_
 refine Do.assign_listComp [S "_law_word"] o CE (by kernel_rfl) 2 rfl (by first | exact Nat.le_of_ble_eq_true rfl | lia) (by kernel_rfl) ?_
 refine Do.reE o tb464 30 ?_
 refine Do.gP o (n3.mono fun _ _ x => (hG _ _ x)) ?_
 refine ⟨rfl, CompSrc.list (n := nK) (fun i ys G2 mu => (∀ a o, G' a o → G2 a o) ∧ IntsV ys ((es.take i).map fun e => (2 : Int) ^ e.toNat) ∧ FpW w uf wd sn us ss ws mu) ?_ hlen ⟨fun _ _ x => x, trivial, F⟩ ?_ ?_⟩
 ·intro i ys G2 mu ⟨h1, _, _⟩
  exact .inl (h1 _ _ hks')
 ·intro j v ys G2 mu env2 C2' hid2 hj hv ⟨hG2, hys, F2⟩ CE2 o2
  refine Do.tests_nil (ite_t rfl ?_)
  obtain ⟨e1, ht, b, rfl, hsing⟩ := hkids.get hv
  have D0 := C0.mono hG2
  have D1 := C1.mono hG2
  have D2 := C2.mono hG2
  obtain ⟨ks3, n3, b3, t3, kb3, N3, hk3, N4⟩ := hsing.mono fun _ _ x => hG2 _ _ (hG _ _ x)
  obtain ⟨m1, m2, m3, m4⟩ := N3
  have ⟨he0, he1⟩ := he e1 (List.mem_of_getElem? ht)
  refine Do.reE o2 tb464 30 ?_
  intro t1
  refine Do.callG ?_
  refine Do.gK o2 0 464 ?_
  refine Do.callWith_args o2 (by kernel_rfl) ?_
  refine Do.reL o2 tb464 30 ?_
  refine Do.name o2 0 rfl rfl ?_
  refine Do.gP o2 m3 ?_
  intro t2
  refine Do.itemL (.inl hk3) (by decide) (by decide) rfl ?_
  refine Do.cell o2 CE2 0 (a := c2) (by kernel_rfl) D2 ?_
  refine Do.cell o2 CE2 1 (a := c1) (by kernel_rfl) D1 ?_
  refine Do.cell o2 CE2 2 (a := c0) (by kernel_rfl) D0 ?_
  refine Do.byContract o2 ((word_const (ws := ws) B _ ⟨_, _, N4⟩) _ _ _ _ (fun _ _ x => x) F2 hu hs (by have := hz; simp only [Tr.cost] at this ⊢; lia) hz2) (ex := []) rfl ?_
  intro QM r G3 fp3 hG3 p3
  obtain ⟨⟨tk, rfl⟩, F3⟩ := p3
  rw [show den ws (.const .I e1) = e1 from fmod_id ⟨he0, by lia⟩]
  refine Do.pow he0 (by lia) (by decide) fun t52 => ?_
  have e : es.take (j + 1) = es.take j ++ [e1] := by rw [List.take_add_one, ht]; rfl
  refine ⟨fun _ _ x => hG3 _ _ (hG2 _ _ x), ?_, F3⟩
  rw [e, List.map_append]; exact hys.append ⟨⟨t52, rfl⟩, trivial⟩
 ·intro ys G2 mu D ⟨hG2, hys, F2⟩ hD
  have hts : es.take vs.length = es := List.take_of_length_le (by rw [hkids.length]; exact Nat.le_refl _)
  rw [hts] at hys
  have hads := F2.ads.trans F.ads.symm
  intro t1
  refine Do.freeze 0 rfl rfl hD ?_
  refine Do.forLp o (by intro _; rfl) ?_
  refine Do.name o 2 rfl rfl ?_
  refine forL_mk (a := D) (vs := ys) (n := ys.length) (fun i σ' => ∃ t u1, σ' = ⟨[some (.ref a), none, some (.ref D), some (.int (((es.take i).map fun e => (2 : Int) ^ e.toNat).foldl setF 0) t), u1], gadd G2 D (lobj ys ys.length), mu⟩) ?_ ⟨_, _, rfl⟩ ?_ ?_
  ·rintro i σ' ⟨t, u1, rfl⟩; exact .inl gadd_at
  ·rintro i v p KL hKL QM hQM σ' hi ⟨t, u1, rfl⟩
   have o2 := o.hide p
   obtain ⟨z, hz3, tz, rfl⟩ := hys.get hi
   rw [List.getElem?_map] at hz3
   obtain ⟨e1, ht, rfl⟩ := Option.map_eq_some_iff.mp hz3
   refine hQM _ ?_
   have ⟨he0, he1⟩ := he e1 (List.mem_of_getElem? ht)
   have hp1 := pow32 (b := e1) he0 (by lia)
   have e2 : es.take (i + 1) = es.take i ++ [e1] := by rw [List.take_add_one, ht]; rfl
   refine Do.assignName o2 4 rfl (by first | exact Nat.le_of_ble_eq_true rfl | lia) ?_
   refine Do.reS o2 tb464 60 ?_
   refine Do.fdiv hp1.1 (nolong hp1.2) fun t60 => ?_
   generalize hT : ((es.take i).map fun e => (2 : Int) ^ e.toNat).foldl setF 0 = T
   have hnext : ((es.take (i + 1)).map fun e => (2 : Int) ^ e.toNat).foldl setF 0 = setF T (2 ^ e1.toNat) := by
    rw [e2, List.map_append, List.foldl_append, hT]; rfl
   cases hc : ((T.fdiv (2 ^ e1.toNat)).fmod 2 == 1) with
   | true =>
    intro t2
    refine Do.mod (by decide) ?_
    intro t3
    refine ite_t hc ?_
    refine hKL ?_; exact ⟨_, _, by rw [hnext, setF, if_pos (by simpa using hc)]; rfl⟩
   | false =>
    intro t2
    refine Do.mod (by decide) ?_
    intro t3
    refine ite_f hc ?_
    intro t4
    refine hKL ?_; exact ⟨_, _, by rw [hnext, setF, if_neg (by simpa using hc)]; rfl⟩
  ·rintro QM hQM σ' ⟨t, u1, rfl⟩
   refine hQM _ ?_
   have hes : es.take ys.length = es := List.take_of_length_le (by rw [hys.length, List.length_map]; exact Nat.le_refl _)
   refine hKK ?_; exact Left.mk [] _ rfl hads ⟨⟨_, by rw [hes]; rfl⟩, F2⟩
theorem mem_sub {op : String} {l : List String} (h : op ∈ l) (s : (l.all fun x => decide (x ∈ pairOps ++ relOps)) = true) : op ∈ pairOps ++ relOps := by have := List.all_eq_true.mp s op h; simpa using this
theorem all2_one {α β : Type} {R : α → β → Prop} {a : α} {b : β} (h : R a b) : All2 R [a] [b] := ⟨h, trivial⟩
theorem all2_two {α β : Type} {R : α → β → Prop} {a c : α} {b d : β} (h : R a b) (h2 : R c d) : All2 R [a, c] [b, d] := ⟨h, h2, trivial⟩
theorem word_spec (B : Base w hB mg mb) (hws : WordsOK ws) (hb : BookOK G bk) {t : Tr} (hw : WT t) : ∀ (n : Nat) (a : Addr), NodeIs G bk t a → t.ht + 4 ≤ n → WordC w hB ws uf wd sn n t a G := by
 induction hw with
 | const f v h1 h2 h3 h4 h5 => exact fun n a ht hn G1 us ss fp x1 x2 x3 x4 x5 x6 => (word_const B 0 ht G1 us ss fp x1 x2 x3 x4 x5 x6).le (by lia)
 | var i hi => exact fun n a ht hn G1 us ss fp x1 x2 x3 x4 x5 x6 => (word_var B 0 hb hi ht G1 us ss fp x1 x2 x3 x4 x5 x6).le (by lia)
 | set es h hl =>
  intro n a ht hn G1 us ss fp x1 x2 x3 x4 x5 x6
  exact (word_set B 0 h hl ht G1 us ss fp x1 x2 x3 x4 x5 x6).le (by lia)
 | std1 name f t h hwt ih =>
  intro n a ht hn G1 us ss fp hG1 F hu hs hz hz2
  obtain ⟨ks, nk, b, tn, N, hk, hn1⟩ := ht
  obtain ⟨⟨to, m1⟩, m2, m3, m4⟩ := N.mono hG1
  obtain ⟨k, rfl⟩ : ∃ k, n = k + 5 := ⟨n - 5, by simp only [Tr.ht] at hn; lia⟩
  have hih : WordC w hB ws uf wd sn (k + 4) t b G := ih (k + 4) b hn1 (by simp only [Tr.ht] at hn; lia)
  refine (word_kids B (k + 1) hws m1 m3 m4 (hG1 _ _ hk) (ts := [t]) (fun u hu => by rw [List.mem_singleton.mp hu]; exact hwt) (all2_one ⟨b, rfl, fun G' us ss fp h => hih G' us ss fp fun _ _ x => h _ _ (hG1 _ _ x)⟩) (.inl ⟨rfl, name, tn, rfl, ?_, rfl⟩) F hu hs (by simp only [Tr.cost, costs] at hz ⊢; lia) hz2)
  rcases h with ⟨h, _⟩ | ⟨h, _⟩ | ⟨h, _⟩ | ⟨h, _⟩ <;> simp [h]
 | std2 name f t k h hf h0 h1 hwt ih =>
  intro n a ht hn G1 us ss fp hG1 F hu hs hz hz2
  obtain ⟨ks, nk, b, d, tn, tk, kd, N, hk, hn1, hn2⟩ := ht
  obtain ⟨⟨to, m1⟩, m2, m3, m4⟩ := N.mono hG1
  obtain ⟨j, rfl⟩ : ∃ j, n = j + 5 := ⟨n - 5, by simp only [Tr.ht] at hn; lia⟩
  have hih : WordC w hB ws uf wd sn (j + 4) t b G := ih (j + 4) b hn1 (by simp only [Tr.ht] at hn; lia)
  have hc : WordC w hB ws uf wd sn (j + 4) (.const .I k) d G := word_const B (j + 3) ⟨_, _, hn2⟩
  exact (word_kids B (j + 1) hws m1 m3 m4 (hG1 _ _ hk) (ts := [t, .const .I k]) (fun u hu => by
   simp only [List.mem_cons, List.not_mem_nil, or_false] at hu
   rcases hu with rfl | rfl
   ·exact hwt
   ·exact .const .I k (by lia) (by lia) nofun nofun nofun) (all2_two ⟨b, rfl, fun G' us ss fp h => hih G' us ss fp fun _ _ x => h _ _ (hG1 _ _ x)⟩ ⟨d, rfl, fun G' us ss fp h => hc G' us ss fp fun _ _ x => h _ _ (hG1 _ _ x)⟩) (.inl ⟨rfl, name, tn, k, rfl, h, rfl, h0, h1, rfl⟩) F hu hs (by simp only [Tr.cost, costs] at hz ⊢; lia) hz2)
 | un op f t h hwt ih =>
  intro n a ht hn G1 us ss fp hG1 F hu hs hz hz2
  obtain ⟨ks, nk, b, N, hk, hn1⟩ := ht
  obtain ⟨⟨to, m1⟩, m2, m3, m4⟩ := N.mono hG1
  obtain ⟨k, rfl⟩ : ∃ k, n = k + 5 := ⟨n - 5, by simp only [Tr.ht] at hn; lia⟩
  have hih : WordC w hB ws uf wd sn (k + 4) t b G := ih (k + 4) b hn1 (by simp only [Tr.ht] at hn; lia)
  refine (word_kids B (k + 1) hws m1 m3 m4 (hG1 _ _ hk) (ts := [t]) (fun u hu => by rw [List.mem_singleton.mp hu]; exact hwt) (all2_one ⟨b, rfl, fun G' us ss fp h => hih G' us ss fp fun _ _ x => h _ _ (hG1 _ _ x)⟩) (.inr ⟨?_, rfl⟩) F hu hs (by simp only [Tr.cost, costs] at hz ⊢; lia) hz2)
  rcases h with ⟨h, _⟩ | ⟨h, _⟩ | ⟨h, _⟩ <;> simp [h]
 | bin op f l r h wl wr ihl ihr =>
  intro n a ht hn G1 us ss fp hG1 F hu hs hz hz2
  obtain ⟨ks, nk, b, d, N, hk, hn1, hn2⟩ := ht
  obtain ⟨⟨to, m1⟩, m2, m3, m4⟩ := N.mono hG1
  obtain ⟨j, rfl⟩ : ∃ j, n = j + 5 := ⟨n - 5, by simp only [Tr.ht] at hn; lia⟩
  have hih : WordC w hB ws uf wd sn (j + 4) l b G := ihl (j + 4) b hn1 (by simp only [Tr.ht] at hn; lia)
  have hc : WordC w hB ws uf wd sn (j + 4) r d G := ihr (j + 4) d hn2 (by simp only [Tr.ht] at hn; lia)
  refine (word_kids B (j + 1) hws m1 m3 m4 (hG1 _ _ hk) (ts := [l, r]) (fun u hu => by
   simp only [List.mem_cons, List.not_mem_nil, or_false] at hu
   rcases hu with rfl | rfl
   ·exact wl
   ·exact wr) (all2_two ⟨b, rfl, fun G' us ss fp h => hih G' us ss fp fun _ _ x => h _ _ (hG1 _ _ x)⟩ ⟨d, rfl, fun G' us ss fp h => hc G' us ss fp fun _ _ x => h _ _ (hG1 _ _ x)⟩) (.inr ⟨?_, ?_, rfl⟩) F hu hs (by simp only [Tr.cost, costs] at hz ⊢; lia) hz2)
  ·rcases h with ⟨h, _⟩ | ⟨h, _⟩ | ⟨h, _⟩ | ⟨h, _⟩ | ⟨h, _⟩ | ⟨h, _⟩
   ·exact mem_sub h (by decide)
   ·exact mem_sub h (by decide)
   ·exact mem_sub h (by decide)
   ·exact mem_sub h (by decide)
   ·exact mem_sub (List.mem_singleton.mpr h) (by decide)
   ·exact mem_sub h (by decide)
  ·intro ho
   subst ho
   rcases h with ⟨h, _⟩ | ⟨h, _⟩ | ⟨h, _⟩ | ⟨h, _⟩ | ⟨h, _, ⟨v, rfl, h0, h1⟩, _⟩ | ⟨h, _⟩
   ·simp at h
   ·simp at h
   ·simp at h
   ·simp at h
   ·show v.fmod W32 < 32
    rw [fmod_id ⟨h0, by lia⟩]; exact h1
   ·simp at h
end
end Mine
end
section
namespace Mine
open PySem PySem.W PyProof.Rows PySem.Calls H
structure LSt where
 us : List Nat
 ss : List Nat
 ws : Nat → Int
noncomputable def addS (ss : List Nat) (i : Nat) : List Nat := if i ∈ ss then ss else ss ++ [i]
noncomputable def chg (name : String) (old word : Int) : Int :=
 if name = "INC" then (old + word).fmod W32 else if name = "DEC" then (old + (0 - word)).fmod W32
 else if name = "INCL" then (if (old.fdiv (2 ^ word.toNat)).fmod 2 = 1 then old else old + 2 ^ word.toNat)
 else (if (old.fdiv (2 ^ word.toNat)).fmod 2 = 1 then old - 2 ^ word.toNat else old)
noncomputable def LSt.deed (l : LSt) : Dd → LSt
 | .assign i t => ⟨usd l.ss l.us t, addS l.ss i, upd l.ws i (den l.ws t)⟩
 | .change name i t => ⟨usd l.ss (usd l.ss l.us t) (.var i), addS l.ss i, upd l.ws i (chg name (l.ws i) (den l.ws t))⟩
theorem chg_INCL (a v : Int) : chg "INCL" a v = if (a.fdiv (2 ^ v.toNat)).fmod 2 = 1 then a else a + 2 ^ v.toNat := by simp [chg]
theorem chg_EXCL (a v : Int) : chg "EXCL" a v = if (a.fdiv (2 ^ v.toNat)).fmod 2 = 1 then a - 2 ^ v.toNat else a := by simp [chg]
theorem addS_pos {ss : List Nat} {i : Nat} (h : i ∈ ss) : addS ss i = ss := if_pos h
theorem addS_neg {ss : List Nat} {i : Nat} (h : ¬ i ∈ ss) : addS ss i = ss ++ [i] := if_neg h
theorem wkv_set {ws : Nat → Int} {tk : Nat → Tok} {i : Nat} {v : Int} {t : Tok} (hi : i < 6) : stored (wkv ws tk 6) (S (varLabel i)) (.int v t) = wkv (upd ws i v) (upd tk i t) 6 :=
 six (P := fun i => stored (wkv ws tk 6) (S (varLabel i)) (.int v t) = wkv (upd ws i v) (upd tk i t) 6) (by kernel_rfl) (by kernel_rfl) (by kernel_rfl) (by kernel_rfl) (by kernel_rfl) (by kernel_rfl) i hi
noncomputable def LSt.at (w : World) (uf wd sn : Addr) (l : LSt) (fp : Led) : Prop := FpW w uf wd sn l.us l.ss l.ws fp
structure LSt.OK (l : LSt) : Prop where
 us : ∀ j ∈ l.us, j < 6
 ss : ∀ j ∈ l.ss, j < 6
 ws : WordsOK l.ws
section
variable {w : World} {hB : Heap} {mg mb : Str → Option Value} {G : Gh} {bk : Bk} {uf wd sn : Addr} {ws : Nat → Int}
theorem done_spec (B : Base w hB mg mb) (n : Nat) (hb : BookOK G bk) {d : Dd} (hw : WD d) {a : Addr} (hd : DeedIs G bk d a) (hn : d.tree.ht + 4 ≤ n) {l : LSt} (hl : l.OK) {fp : Led} (F : l.at w uf wd sn fp) (hz : l.us.length + d.cost ≤ 900000) (hz2 : l.ss.length ≤ 899999) :
  Calls w hB (n + 1) 471 [.ref a, .ref wd, .ref uf, .ref sn] G fp (fun v G'' fp' => v = .none ∧ (l.deed d).at w uf wd sn fp') := by
 refine start471 B _ _ _ _ ?_
 intro A env e cx o KK hKK
 cases hw with
 | assign i t hi wt htf =>
  obtain ⟨ks, nK, b, c, N, hk, hv, ht⟩ := hd
  obtain ⟨⟨to, m1⟩, m2, m3, m4⟩ := N
  obtain ⟨kv, ⟨⟨to2, k1⟩, k2, k3, k4⟩⟩ := id hv
  obtain ⟨-, ⟨tn, hname⟩, -⟩ := hb.var i hi
  refine Do.reS o tb471 60 ?_
  refine Do.gP o m3 ?_
  intro t1
  refine Do.itemL (.inl hk) (by decide) (by decide) rfl ?_
  refine Do.gP o k4 ?_
  refine Do.gP o hname ?_
  refine Do.gP o m3 ?_
  intro t2
  refine Do.itemL (.inl hk) (by decide) (by decide) rfl ?_
  refine Do.byContract o (word_spec B hl.ws hb wt n c ht hn _ _ _ _ (fun _ _ x => x) F hl.us hl.ss (by simp only [Dd.cost] at hz; lia) (by lia)) (ex := []) rfl ?_
  intro QM r G3 fp3 hG3 p3
  obtain ⟨⟨tk, rfl⟩, F3⟩ := p3
  have hads := F3.ads.trans F.ads.symm
  obtain ⟨uvs, nu, oW, tks, svs, ns, rfl, LU, DW, LS⟩ := F3
  refine Do.gP o (m1.mono fun _ _ x => (hG3 _ _ x)) ?_
  refine if0 ?_
  refine Do.dset (ex := [_]) rfl DW (strKind_is _ _ _ _) (Nat.le_of_ble_eq_true rfl) fun o' DW' => ?_
  rw [wkv_set hi] at DW'
  obtain ⟨as1, as2⟩ := LS.any (t := tn) hi hl.ss
  refine Do.notInL' (.inr (mm 2 rfl)) as2 ?_
  rw [as1]
  by_cases h1 : i ∈ l.ss
  ·rw [decide_eq_true h1]
   refine if0 ?_
   rw [← addS_pos h1] at LS
   refine hKK ?_; exact Left.mk [] _ rfl hads ⟨rfl, _, _, _, _, _, _, rfl, LU, DW', LS⟩
  ·rw [decide_eq_false h1]
   have hsl : svs.length ≤ 1000000 := by have := LS.length; lia
   have LS2 : LabV (svs ++ [.str (S (varLabel i)) tn]) (addS l.ss i) := by rw [addS_neg h1]; exact LS.append (show All2 _ [_] [_] from ⟨⟨_, rfl⟩, trivial⟩)
   refine if1 ?_
   refine Do.methodCall ?_
   refine Do.name o 3 rfl rfl ?_
   refine Do.mAppend (.inr (mm 2 rfl)) ?_
   refine Do.callWith_b1 ?_
   refine Do.reL o tb471 30 ?_
   refine Do.append (ex := [_, _]) rfl (by first | exact Nat.le_of_ble_eq_true rfl | assumption | lia | (simp; lia)) ?_
   refine hKK ?_; exact Left.mk [] _ rfl hads ⟨rfl, _, _, _, _, _, _, rfl, LU, DW', LS2⟩
 | change name i t hi wt hc =>
  obtain ⟨ks, nK, b, c, tnm, N, hk, hv, ht⟩ := hd
  obtain ⟨⟨to, m1⟩, m2, m3, m4⟩ := N
  obtain ⟨kv, ⟨⟨to2, k1⟩, k2, k3, k4⟩⟩ := id hv
  obtain ⟨-, ⟨tn, hname⟩, -⟩ := hb.var i hi
  have hul := usd_len l.ss t l.us
  refine Do.reS o tb471 60 ?_
  refine Do.gP o m3 ?_
  intro t1
  refine Do.itemL (.inl hk) (by decide) (by decide) rfl ?_
  refine Do.gP o k4 ?_
  refine Do.gP o hname ?_
  refine Do.gP o m3 ?_
  intro t2
  refine Do.itemL (.inl hk) (by decide) (by decide) rfl ?_
  refine Do.byContract o (word_spec B hl.ws hb wt n c ht hn _ _ _ _ (fun _ _ x => x) F hl.us hl.ss (by simp only [Dd.cost] at hz; lia) (by lia)) (ex := []) rfl ?_
  intro QM r G3 fp3 hG3 p3
  obtain ⟨⟨tk, rfl⟩, F3⟩ := p3
  refine Do.gP o (m1.mono fun _ _ x => (hG3 _ _ x)) ?_
  refine if1 ?_
  refine Do.gP o (m3.mono fun _ _ x => (hG3 _ _ x)) ?_
  intro t3
  refine Do.itemL (.inl (hG3 _ _ hk)) (by decide) (by decide) rfl ?_
  refine Do.byContract o (word_spec B hl.ws (hb.mono hG3) (.var i hi) n b (hv.mono hG3) (by simp only [Tr.ht]; lia) _ _ _ _ (fun _ _ x => x) F3 (usd_lt _ wt hl.us) hl.ss (by simp only [Dd.cost, Tr.cost] at hz ⊢; lia) (by lia)) (ex := []) rfl ?_
  intro QM r G4 fp4 hG4 p4
  obtain ⟨⟨tk4, rfl⟩, F4⟩ := p4
  have hads := F4.ads.trans F.ads.symm
  have hG34 : ∀ a o, G a o → G4 a o := fun a o x => hG4 a o (hG3 a o x)
  obtain ⟨uvs, nu, oW, tks, svs, ns, rfl, LU, DW, LS⟩ := F4
  rcases hc with ⟨rfl | rfl, hf1, hf2⟩ | ⟨rfl | rfl, hf1, v, rfl, hv0, hv1⟩
  ·refine Do.gP o (m4.mono fun _ _ x => (hG34 _ _ x)) ?_
   refine if1 ?_
   refine Do.gP o (m4.mono fun _ _ x => (hG34 _ _ x)) ?_
   refine if1 ?_
   intro t4 t5
   refine Do.mod (by decide) ?_
   intro t6
   refine Do.dset (ex := [_]) rfl DW (strKind_is _ _ _ _) (Nat.le_of_ble_eq_true rfl) fun o' DW' => ?_
   rw [wkv_set hi] at DW'
   obtain ⟨as1, as2⟩ := LS.any (t := tn) hi hl.ss
   refine Do.notInL' (.inr (mm 2 rfl)) as2 ?_
   rw [as1]
   by_cases h1 : i ∈ l.ss
   ·rw [decide_eq_true h1]
    refine if0 ?_
    rw [← addS_pos h1] at LS
    refine hKK ?_; exact Left.mk [] _ rfl hads ⟨rfl, _, _, _, _, _, _, rfl, LU, DW', LS⟩
   ·rw [decide_eq_false h1]
    have hsl : svs.length ≤ 1000000 := by have := LS.length; lia
    have LS2 : LabV (svs ++ [.str (S (varLabel i)) tn]) (addS l.ss i) := by rw [addS_neg h1]; exact LS.append (show All2 _ [_] [_] from ⟨⟨_, rfl⟩, trivial⟩)
    refine if1 ?_
    refine Do.methodCall ?_
    refine Do.name o 3 rfl rfl ?_
    refine Do.mAppend (.inr (mm 2 rfl)) ?_
    refine Do.callWith_b1 ?_
    refine Do.reL o tb471 30 ?_
    refine Do.append (ex := [_, _]) rfl (by first | exact Nat.le_of_ble_eq_true rfl | assumption | lia | (simp; lia)) ?_
    refine hKK ?_; exact Left.mk [] _ rfl hads ⟨rfl, _, _, _, _, _, _, rfl, LU, DW', LS2⟩
  ·refine Do.gP o (m4.mono fun _ _ x => (hG34 _ _ x)) ?_
   refine if1 ?_
   refine Do.gP o (m4.mono fun _ _ x => (hG34 _ _ x)) ?_
   refine if0 ?_
   intro t4 t5 t6 t7
   refine Do.mod (by decide) ?_
   intro t8
   refine Do.dset (ex := [_]) rfl DW (strKind_is _ _ _ _) (Nat.le_of_ble_eq_true rfl) fun o' DW' => ?_
   rw [wkv_set hi] at DW'
   obtain ⟨as1, as2⟩ := LS.any (t := tn) hi hl.ss
   refine Do.notInL' (.inr (mm 2 rfl)) as2 ?_
   rw [as1]
   by_cases h1 : i ∈ l.ss
   ·rw [decide_eq_true h1]
    refine if0 ?_
    rw [← addS_pos h1] at LS
    refine hKK ?_; exact Left.mk [] _ rfl hads ⟨rfl, _, _, _, _, _, _, rfl, LU, DW', LS⟩
   ·rw [decide_eq_false h1]
    have hsl : svs.length ≤ 1000000 := by have := LS.length; lia
    have LS2 : LabV (svs ++ [.str (S (varLabel i)) tn]) (addS l.ss i) := by rw [addS_neg h1]; exact LS.append (show All2 _ [_] [_] from ⟨⟨_, rfl⟩, trivial⟩)
    refine if1 ?_
    refine Do.methodCall ?_
    refine Do.name o 3 rfl rfl ?_
    refine Do.mAppend (.inr (mm 2 rfl)) ?_
    refine Do.callWith_b1 ?_
    refine Do.reL o tb471 30 ?_
    refine Do.append (ex := [_, _]) rfl (by first | exact Nat.le_of_ble_eq_true rfl | assumption | lia | (simp; lia)) ?_
    refine hKK ?_; exact Left.mk [] _ rfl hads ⟨rfl, _, _, _, _, _, _, rfl, LU, DW', LS2⟩
  ·have hden : den l.ws (.const .I v) = v := fmod_id ⟨hv0, by lia⟩
   dsimp only [QM, mkQ]
   rw [hden, show den l.ws (.var i) = l.ws i from rfl]
   refine Do.gP o (m4.mono fun _ _ x => (hG34 _ _ x)) ?_
   refine if0 ?_
   intro t4
   refine Do.pow hv0 (by lia) (by decide) fun t52 => ?_
   have hp1 := pow32 (b := v) hv0 (by lia)
   refine Do.fdiv hp1.1 (nolong hp1.2) fun t60 => ?_
   intro t5
   refine Do.mod (by decide) ?_
   intro t6 t7
   refine Do.gP o (m4.mono fun _ _ x => (hG34 _ _ x)) ?_
   refine if1 ?_
   cases hc : (((l.ws i).fdiv (2 ^ v.toNat)).fmod 2 == 1) with
   | true =>
    have hx : chg "INCL" (l.ws i) (den l.ws (.const .I v)) = l.ws i := by rw [hden, chg_INCL, if_pos (by simpa using hc)]
    refine if1 ?_
    refine Do.dset (ex := [_]) rfl DW (strKind_is _ _ _ _) (Nat.le_of_ble_eq_true rfl) fun o' DW' => ?_
    rw [wkv_set hi, ← hx] at DW'
    obtain ⟨as1, as2⟩ := LS.any (t := tn) hi hl.ss
    refine Do.notInL' (.inr (mm 2 rfl)) as2 ?_
    rw [as1]
    by_cases h1 : i ∈ l.ss
    ·rw [decide_eq_true h1]
     refine if0 ?_
     rw [← addS_pos h1] at LS
     refine hKK ?_; exact Left.mk [] _ rfl hads ⟨rfl, _, _, _, _, _, _, rfl, LU, DW', LS⟩
    ·rw [decide_eq_false h1]
     have hsl : svs.length ≤ 1000000 := by have := LS.length; lia
     have LS2 : LabV (svs ++ [.str (S (varLabel i)) tn]) (addS l.ss i) := by rw [addS_neg h1]; exact LS.append (show All2 _ [_] [_] from ⟨⟨_, rfl⟩, trivial⟩)
     refine if1 ?_
     refine Do.methodCall ?_
     refine Do.name o 3 rfl rfl ?_
     refine Do.mAppend (.inr (mm 2 rfl)) ?_
     refine Do.callWith_b1 ?_
     refine Do.reL o tb471 30 ?_
     refine Do.append (ex := [_, _]) rfl (by first | exact Nat.le_of_ble_eq_true rfl | assumption | lia | (simp; lia)) ?_
     refine hKK ?_; exact Left.mk [] _ rfl hads ⟨rfl, _, _, _, _, _, _, rfl, LU, DW', LS2⟩
   | false =>
    have hx : chg "INCL" (l.ws i) (den l.ws (.const .I v)) = l.ws i + 2 ^ v.toNat := by rw [hden, chg_INCL, if_neg (by simpa using hc)]
    refine if0 ?_
    intro t8
    refine Do.dset (ex := [_]) rfl DW (strKind_is _ _ _ _) (Nat.le_of_ble_eq_true rfl) fun o' DW' => ?_
    rw [wkv_set hi, ← hx] at DW'
    obtain ⟨as1, as2⟩ := LS.any (t := tn) hi hl.ss
    refine Do.notInL' (.inr (mm 2 rfl)) as2 ?_
    rw [as1]
    by_cases h1 : i ∈ l.ss
    ·rw [decide_eq_true h1]
     refine if0 ?_
     rw [← addS_pos h1] at LS
     refine hKK ?_; exact Left.mk [] _ rfl hads ⟨rfl, _, _, _, _, _, _, rfl, LU, DW', LS⟩
    ·rw [decide_eq_false h1]
     have hsl : svs.length ≤ 1000000 := by have := LS.length; lia
     have LS2 : LabV (svs ++ [.str (S (varLabel i)) tn]) (addS l.ss i) := by rw [addS_neg h1]; exact LS.append (show All2 _ [_] [_] from ⟨⟨_, rfl⟩, trivial⟩)
     refine if1 ?_
     refine Do.methodCall ?_
     refine Do.name o 3 rfl rfl ?_
     refine Do.mAppend (.inr (mm 2 rfl)) ?_
     refine Do.callWith_b1 ?_
     refine Do.reL o tb471 30 ?_
     refine Do.append (ex := [_, _]) rfl (by first | exact Nat.le_of_ble_eq_true rfl | assumption | lia | (simp; lia)) ?_
     refine hKK ?_; exact Left.mk [] _ rfl hads ⟨rfl, _, _, _, _, _, _, rfl, LU, DW', LS2⟩
  ·have hden : den l.ws (.const .I v) = v := fmod_id ⟨hv0, by lia⟩
   dsimp only [QM, mkQ]
   rw [hden, show den l.ws (.var i) = l.ws i from rfl]
   refine Do.gP o (m4.mono fun _ _ x => (hG34 _ _ x)) ?_
   refine if0 ?_
   intro t4
   refine Do.pow hv0 (by lia) (by decide) fun t52 => ?_
   have hp1 := pow32 (b := v) hv0 (by lia)
   refine Do.fdiv hp1.1 (nolong hp1.2) fun t60 => ?_
   intro t5
   refine Do.mod (by decide) ?_
   intro t6 t7
   refine Do.gP o (m4.mono fun _ _ x => (hG34 _ _ x)) ?_
   refine if0 ?_
   cases hc : (((l.ws i).fdiv (2 ^ v.toNat)).fmod 2 == 1) with
   | true =>
    have hx : chg "EXCL" (l.ws i) (den l.ws (.const .I v)) = l.ws i - 2 ^ v.toNat := by rw [hden, chg_EXCL, if_pos (by simpa using hc)]
    refine if1 ?_
    intro t8
    refine Do.dset (ex := [_]) rfl DW (strKind_is _ _ _ _) (Nat.le_of_ble_eq_true rfl) fun o' DW' => ?_
    rw [wkv_set hi, ← hx] at DW'
    obtain ⟨as1, as2⟩ := LS.any (t := tn) hi hl.ss
    refine Do.notInL' (.inr (mm 2 rfl)) as2 ?_
    rw [as1]
    by_cases h1 : i ∈ l.ss
    ·rw [decide_eq_true h1]
     refine if0 ?_
     rw [← addS_pos h1] at LS
     refine hKK ?_; exact Left.mk [] _ rfl hads ⟨rfl, _, _, _, _, _, _, rfl, LU, DW', LS⟩
    ·rw [decide_eq_false h1]
     have hsl : svs.length ≤ 1000000 := by have := LS.length; lia
     have LS2 : LabV (svs ++ [.str (S (varLabel i)) tn]) (addS l.ss i) := by rw [addS_neg h1]; exact LS.append (show All2 _ [_] [_] from ⟨⟨_, rfl⟩, trivial⟩)
     refine if1 ?_
     refine Do.methodCall ?_
     refine Do.name o 3 rfl rfl ?_
     refine Do.mAppend (.inr (mm 2 rfl)) ?_
     refine Do.callWith_b1 ?_
     refine Do.reL o tb471 30 ?_
     refine Do.append (ex := [_, _]) rfl (by first | exact Nat.le_of_ble_eq_true rfl | assumption | lia | (simp; lia)) ?_
     refine hKK ?_; exact Left.mk [] _ rfl hads ⟨rfl, _, _, _, _, _, _, rfl, LU, DW', LS2⟩
   | false =>
    have hx : chg "EXCL" (l.ws i) (den l.ws (.const .I v)) = l.ws i := by rw [hden, chg_EXCL, if_neg (by simpa using hc)]
    refine if0 ?_
    refine Do.dset (ex := [_]) rfl DW (strKind_is _ _ _ _) (Nat.le_of_ble_eq_true rfl) fun o' DW' => ?_
    rw [wkv_set hi, ← hx] at DW'
    obtain ⟨as1, as2⟩ := LS.any (t := tn) hi hl.ss
    refine Do.notInL' (.inr (mm 2 rfl)) as2 ?_
    rw [as1]
    by_cases h1 : i ∈ l.ss
    ·rw [decide_eq_true h1]
     refine if0 ?_
     rw [← addS_pos h1] at LS
     refine hKK ?_; exact Left.mk [] _ rfl hads ⟨rfl, _, _, _, _, _, _, rfl, LU, DW', LS⟩
    ·rw [decide_eq_false h1]
     have hsl : svs.length ≤ 1000000 := by have := LS.length; lia
     have LS2 : LabV (svs ++ [.str (S (varLabel i)) tn]) (addS l.ss i) := by rw [addS_neg h1]; exact LS.append (show All2 _ [_] [_] from ⟨⟨_, rfl⟩, trivial⟩)
     refine if1 ?_
     refine Do.methodCall ?_
     refine Do.name o 3 rfl rfl ?_
     refine Do.mAppend (.inr (mm 2 rfl)) ?_
     refine Do.callWith_b1 ?_
     refine Do.reL o tb471 30 ?_
     refine Do.append (ex := [_, _]) rfl (by first | exact Nat.le_of_ble_eq_true rfl | assumption | lia | (simp; lia)) ?_
     refine hKK ?_; exact Left.mk [] _ rfl hads ⟨rfl, _, _, _, _, _, _, rfl, LU, DW', LS2⟩
end
end Mine
end
section
namespace Mine
open PySem PySem.W PyProof.Rows PySem.Calls H
theorem start376N {w : World} {hB : Heap} {mg mb : Str → Option Value} (B : Base w hB mg mb) (a0 : Value) {n : Nat} {G : Gh} {fp : Led} {P : Value → Gh → Led → Led → Prop}
  (k : ∀ A env e, (⟨w, hB, A, env, e, [S "script"] ++ [S "figures", S "cell", S "left_over", S "lap"], [S "range"], []⟩ : Cx).Ok mg mb n → Do ⟨w, hB, A, env, e, [S "script"] ++ [S "figures", S "cell", S "left_over", S "lap"], [S "range"], []⟩ ⟨List.map some [a0] ++ List.replicate 4 none, G, fp⟩ (execs (dF 40).2.1 env) (LeftN fp P)) :
  CallsN w hB (n + 1) 376 [a0] G fp P := enterN (fo := o376) (fd := fd376) (bs := [a0]) B (by kernel_rfl) rfl ok376 (by kernel_rfl) (fun _ _ _ _ _ _ => BindsTo.of_eq (by kernel_rfl)) rfl k
noncomputable abbrev c376 (w : World) (hB : Heap) (A : Around) (env : Env) (e : Ent) : Cx := ⟨w, hB, A, env, e, [S "script"] ++ [S "figures", S "cell", S "left_over", S "lap"], [S "range"], []⟩
noncomputable def IntL (vs : List Value) : Prop := ∀ v ∈ vs, ∃ i t, v = .int i t
section
variable {w : World} {hB : Heap} {mg mb : Str → Option Value} {G : Gh}
theorem pool_spec (B : Base w hB mg mb) (n : Nat) {sa : Addr} {zs : List Value} {nz : Nat} (hs : G sa (lobj zs nz)) (hz : IntL zs) (hl : zs.length ≤ 63) :
  CallsN w hB (n + 1) 376 [.ref sa] G [] (fun v G' nw fp' => fp' = [] ∧ ∃ pa, v = .ref pa ∧ PoolIn pa nw) := by
 refine start376N B _ fun A env e o => ?_
 refine Do.reS1 o tb376 30 ?_
 refine Do.newListS (Nat.le_of_ble_eq_true rfl) ?_
 intro t1 t2
 refine Do.reS1 o tb376 30 ?_
 refine Do.forLp o (by intro _; rfl) ?_
 refine Do.reE o tb376 30 ?_
 refine Do.slice ?_
 refine Do.part_none ?_
 refine Do.part_some ?_
 refine Do.const_int ?_
 intro t3 t4
 refine Do.sliceUpto (i := 60) (.inl (.inl hs)) (.inl gadd_at) (by first | exact Nat.le_of_ble_eq_true rfl | assumption | lia | (simp; lia)) ?_
 intro t5 t6
 have hl60 : (zs.take 60).length ≤ 60 := by simp; lia
 have hz60 : IntL (zs.take 60) := fun v hv => hz v (List.mem_of_mem_take hv)
 generalize zs.take 60 = ys at hl60 hz60 ⊢
 refine forL_mk (vs := ys) (n := 0) (fun i σ' => (E6 fun figs nf u2 u3 u4 G' => A3 (σ' = ⟨[some (.ref sa), some (.ref t1), u2, u3, u4], G', [(t5, lobj ys), (t1, lobj figs nf)]⟩) (IntL figs) (figs.length ≤ 40 * i))) ?_ ⟨[], 0, _, _, _, _, rfl, nofun, Nat.zero_le _⟩ ?_ ?_
 ·rintro i σ' ⟨figs, nf, u2, u3, u4, G', rfl, _⟩; exact .inr (mm 0 rfl)
 ·rintro i v p KL0 hKL0 QM hQM σ' hi ⟨figs, nf, u2, u3, u4, G', rfl, hf, hfl⟩
  obtain ⟨z, tz, rfl⟩ := hz60 v (List.mem_of_getElem? hi)
  refine hQM _ ?_
  have o2 := o.hide p
  have inner : ∀ z' tz', Do ((c376 w hB A env e).hide p) ⟨[some (.ref sa), some (.ref t1), some (.int z tz), some (.int z' tz'), u4], G', [(t5, lobj ys), (t1, lobj figs nf)]⟩ (execs (tlS (sBody (hdS (tlS (dF 40).2.1)))) env) KL0 := by
   intro z' tz'
   refine Do.reS1 o2 tb376 30 ?_
   refine Do.forRp o2 (by intro _; rfl) ?_
   refine Do.callG ?_
   refine Do.builtinK o2 0 rfl (v := (.type "range")) (by kernel_rfl) (by kernel_rfl) (by kernel_rfl) ?_
   refine Do.callWith_t1 ?_
   refine Do.reL o2 tb376 30 ?_
   intro t7
   refine Do.range1 ?_
   intro t8 t9 t10
   refine forR_mk (fun j σ' => (E6 fun figs nf x tx u4 G' => A3 (σ' = ⟨[some (.ref sa), some (.ref t1), some (.int z tz), some (.int x tx), u4], G', [(t5, lobj ys), (t1, lobj figs nf)]⟩) (IntL figs) (figs.length ≤ 40 * i + j))) (.inl gadd_at) (by decide) (by decide) ⟨_, _, _, _, _, _, rfl, hf, hfl⟩ ?_ ?_
   ·rintro j tj p2 KL hKL QM hQM σ2 hj ⟨figs2, nf2, x, tx, u42, G2, rfl, hf2, hfl2⟩
    refine hQM _ ?_
    have o3 := o2.hide p2
    have hle : figs2.length ≤ 1000000 := by
     have : i < 60 := Nat.lt_of_lt_of_le (List.getElem?_eq_some_iff.mp hi).1 hl60
     lia
    have hf3 : ∀ q tq, IntL (figs2 ++ [.int q tq]) := fun q tq v hv => by
     rcases List.mem_append.mp hv with hv | hv
     ·exact hf2 v hv
     ·exact ⟨q, tq, List.mem_singleton.mp hv⟩
    have hl3 : ∀ v : Value, (figs2 ++ [v]).length ≤ 40 * i + (j + 1) := fun v => by simp; lia
    refine Do.assignName o3 4 rfl (by first | exact Nat.le_of_ble_eq_true rfl | lia) ?_
    refine Do.reS1 o3 tb376 30 ?_
    refine Do.methodCall ?_
    refine Do.name o3 1 rfl rfl ?_
    refine Do.mAppend (.inr (mm 1 rfl)) ?_
    refine Do.callWith_b1 ?_
    refine Do.reL o3 tb376 30 ?_
    intro t11
    refine Do.mod (by decide) ?_
    intro t12
    refine Do.append (ex := [_]) rfl (by first | exact Nat.le_of_ble_eq_true rfl | assumption | lia | (simp; lia)) ?_
    refine Do.reS1 o3 tb376 30 ?_
    intro t13
    refine Do.fdiv (by decide) (nolong (by decide)) fun t40 => ?_
    refine Do.reS1 o3 tb376 30 ?_
    cases hc : (x.fdiv 997 == 0) with
    | true =>
     refine ite_t hc ?_
     refine Do.reS1 o3 tb376 30 ?_
     refine hKL ?_
     refine hKL0 ?_; exact ⟨_, _, _, _, _, _, rfl, hf3 _ _, by have := hl3 (.int 0 t40); simp at this ⊢; omega⟩
    | false =>
     refine ite_f hc ?_
     refine hKL ?_; exact ⟨_, _, _, _, _, _, rfl, hf3 _ _, hl3 _⟩
   ·rintro QM hQM σ2 ⟨figs2, nf2, x, tx, u42, G2, rfl, hf2, hfl2⟩
    refine hQM _ ?_
    refine hKL0 ?_; exact ⟨_, _, _, _, _, _, rfl, hf2, by simp at hfl2 ⊢; omega⟩
  refine Do.assignName o2 2 rfl (by first | exact Nat.le_of_ble_eq_true rfl | lia) ?_
  refine Do.reS1 o2 tb376 30 ?_
  cases hc0 : decide (z ≥ 0) with
  | true =>
   refine ite_t hc0 ?_
   exact inner _ _
  | false =>
   refine ite_f hc0 ?_
   intro t7 t8
   refine Do.mul (.of_left (intBits_le64 (by decide))) fun t50 => ?_
   intro t9
   exact inner _ _
 ·rintro QM hQM σ' ⟨figs, nf, u2, u3, u4, G', rfl, hf, hfl⟩
  refine hQM _ ?_
  have hfl' : figs.length ≤ 1000000 := by lia
  refine Do.execs_cons ?_
  refine Do.assign_name o 1 rfl rfl ?_
  refine Do.subscr ?_
  refine Do.name o 1 rfl rfl ?_
  refine Do.slice ?_
  refine Do.part_none ?_
  refine Do.part_some ?_
  refine Do.const_int ?_
  intro t7 t8
  refine Do.sliceUpto (i := 240) (.inr (mm 1 rfl)) (.inl gadd_at) (by lia) ?_
  intro t9 t10
  refine ⟨by first | exact Nat.le_of_ble_eq_true rfl | lia, ?_⟩
  refine Do.drop 2 rfl rfl ?_
  refine Do.drop 1 rfl rfl ?_
  refine Do.reS1 o tb376 30 ?_
  refine Do.methodCall ?_
  refine Do.name o 1 rfl rfl ?_
  refine Do.mReverse (.inr (mm 0 rfl)) ?_
  refine Do.reverse (ex := []) rfl (by first | exact Nat.le_of_ble_eq_true rfl | assumption | lia | (simp; lia)) ?_
  refine Do.reS1 o tb376 30 ?_
  refine LeftN.mk [] [(t9, lobj (figs.take 240).reverse)] [] rfl rfl ⟨rfl, t9, rfl, _, _, rfl, ?_, ?_⟩
  ·exact fun v hv => hf v (List.mem_of_mem_take (List.mem_reverse.mp hv))
  ·simp; lia
end
end Mine
end
section
namespace Mine
open PySem PySem.W PyProof.Rows PySem.Calls
open PyProof.Rows.LCg (NsObj ns_obj)
theorem enterM {w : World} {hB : Heap} {mg mb : Str → Option Value} {n : Nat} {F : Addr} {lbs : List Value} {G : Gh} {fp : Led} {P : Value → Gh → Led → Prop} {fo : Obj} {fd : FuncData} {lps rest gs cns : List Str} {body : List Stmt}
    (Bs : Base w hB mg mb) (hF : (H.K w.params).lookup F = some fo) (hd : fo.data = .func fd) (I : FnOkC fd (lps ++ rest) gs cns body) (hcd : codeIn (H.K w.params) fd.code fd.qualname = true)
    (hbind : bindArgs fd ⟨lbs, []⟩ = Pure.pure (lps.zip lbs)) (hpk : (lps.all fun x => fd.scope.names.lookup x == some .local) = true) (hll : lps.length = lbs.length)
    (k : ∀ A env e (as : List Addr) (oc : Addr → Obj), as.length = cns.length → (∀ a ∈ as, (oc a).data = .cell none) → (∀ a ∈ as, e.h₀.objs.size ≤ a) → e.fa = fp.ads → CellOK env (cns.zip as) →
      (⟨w, hB, A, env, e, lps ++ rest, gs, []⟩ : Cx).Ok mg mb n → Do ⟨w, hB, A, env, e, lps ++ rest, gs, []⟩ ⟨lbs.map some ++ List.replicate rest.length none, G, as.map (fun a => (a, oc a)) ++ fp⟩ (execs body env) (Left fp P)) : Calls w hB (n + 1) F lbs G fp P := by
  intro A s Q R Hs ret
  obtain ⟨h, g, d, t, os⟩ := s
  have kp : ∀ a o, hB.get? a = some o → h.get? a = some o := fun a o x => Hs.sub a o (Hs.bs a o x)
  have hcd' : hB.CodeRec fd.code fd.qualname := codeRec_of Bs.K hcd
  have keys : ∀ m, (cellsFrom m fd.scope.names []).map (·.1) = cns := fun m => (cellsFrom_keys _ _ 0 _ [] rfl).trans I.cells
  refine codeAny_call_cells (fd := fd) (body := body) (binds := lps.zip lbs) R.lt (kp _ _ (Bs.K _ _ hF)) hd (Bs.nolimit.keeps kp) (hcd'.keeps kp) I.body hbind I.clo (fun x hx => ?_) (fun s₁ X => ?_) I.co I.gen I.kind
  · have hm := (List.of_mem_zip hx).1
    have := List.all_eq_true.mp hpk x.1 hm
    exact .inl (by simpa using this)
  · generalize henv : callEnvC fd (Shared.heap ⟨h, g, d, t, os⟩).objs.size F = env at X ⊢
    have hL : env.locals = h.objs.size := by rw [← henv]; rfl
    have hcells : env.cells = cellsFrom (h.objs.size + 1) fd.scope.names [] := by rw [← henv]; rfl
    have hkind : ∀ x, env.kindOf x = fd.scope.names.lookup x := fun x => by rw [← henv]; rfl
    have hsc : env.scope = fd.scope := by rw [← henv]; rfl
    have hgl : env.globals = fd.globals := by rw [← henv]; rfl
    have hbl : env.builtins = fd.builtins := by rw [← henv]; rfl
    clear henv
    obtain ⟨h₁, tk, rfl⟩ := X.toInCall.same
    have keep := X.toInCall.keep
    have hns := X.toInCall.ns
    have hcell := X.cell
    have habove := X.above
    dsimp only at keep hns hcell
    have hck : env.cells.map (·.1) = cns := by rw [hcells]; exact keys _
    have hz : env.cells = cns.zip (env.cells.map (·.2)) := by
      rw [← hck]
      generalize env.cells = l
      induction l with
      | nil => rfl
      | cons p l ih => simpa using ih
    have hall : ∀ p ∈ lps.zip lbs, (env.kindOf p.1 == some .local) = true := fun p hp => by rw [hkind]; exact List.all_eq_true.mp hpk p.1 (List.of_mem_zip hp).1
    have hfm : (bindL env.kindOf (lps.zip lbs) fun _ => none) = fm (lps ++ rest) (lbs.map some ++ List.replicate rest.length none) := by
      funext x
      rw [bindL_eq]
      have e : ((lps.zip lbs).filter fun p => env.kindOf p.1 == some .local) = lps.zip lbs := List.filter_eq_self.mpr hall
      rw [e]
      rw [fm_binds lps rest lbs (of_decide_eq_true I.nd) hll]
      cases fm (lps ++ rest) (lbs.map some ++ List.replicate rest.length none) x <;> rfl
    have hcm : ∀ x, bindC env.kindOf (lps.zip lbs) (fun _ => none) x = none := fun x => by
      rw [bindC_eq]
      have e : ((lps.zip lbs).filter fun p => !(env.kindOf p.1 == some .local)) = [] := List.filter_eq_nil_iff.mpr fun p hp => by rw [hall p hp]; decide
      rw [e]; rfl
    rw [hfm] at hns
    rw [hL] at hns
    have size : h.objs.size ≤ h₁.objs.size := Nat.le_of_lt hns.lt
    have cge : ∀ p ∈ env.cells, h.objs.size < p.2 := fun p hp => by have := habove p.1 p.2 hp; rw [hL] at this; exact this
    have hap := X.apart
    have hoc : ∀ p ∈ env.cells, h₁.get? p.2 = some ((h₁.get? p.2).getD default) ∧ ((h₁.get? p.2).getD default).data = .cell none := fun p hp => by
      obtain ⟨i, hi⟩ := List.mem_iff_getElem?.mp hp
      have hl := lookup_of_nodup (l := env.cells) (x := p.1) (a := p.2) (by rw [hck]; exact of_decide_eq_true I.ndc) hi
      obtain ⟨o, ho, hod⟩ := hcell p.1 p.2 hl
      rw [hcm] at hod
      rw [ho]; exact ⟨rfl, hod⟩
    have hmm : ∀ {q : Addr × Obj}, q ∈ (env.cells.map (·.2)).map (fun a => (a, (h₁.get? a).getD default)) → ∃ p ∈ env.cells, q = (p.2, (h₁.get? p.2).getD default) := fun hq => by
      rw [List.map_map] at hq
      obtain ⟨p, hp, e⟩ := List.mem_map.mp hq
      exact ⟨p, hp, e.symm⟩
    have S : St hB ⟨h, G, fp.ads, h.objs.size⟩ G (fm (lps ++ rest) (lbs.map some ++ List.replicate rest.length none)) ((env.cells.map (·.2)).map (fun a => (a, (h₁.get? a).getD default)) ++ fp) h₁ :=
      { bs := fun a o x => Hs.bs a o x, ns := hns
        sub := fun a o x => keep a o (Hs.sub a o x)
        own := fun q hq => by
          rcases List.mem_append.mp hq with hq | hq
          · obtain ⟨p, hp, rfl⟩ := hmm hq; exact (hoc p hp).1
          · exact keep _ _ (Hs.own q hq)
        gL := fun o x => absurd (Heap.lt_size (Hs.sub _ _ x)) (Nat.lt_irrefl _)
        gmu := fun q hq o x => by
          rcases List.mem_append.mp hq with hq | hq
          · obtain ⟨p, hp, rfl⟩ := hmm hq
            exact absurd (Nat.lt_trans (cge p hp) (Heap.lt_size (Hs.sub _ _ x))) (Nat.lt_irrefl _)
          · exact Hs.gmu q hq o x
        nd := by
          have e1 : Led.ads ((env.cells.map (·.2)).map (fun a => (a, (h₁.get? a).getD default)) ++ fp) = env.cells.map (·.2) ++ fp.ads := by simp [Led.ads, Function.comp_def]
          rw [e1]
          refine List.nodup_cons.mpr ⟨fun q => ?_, List.nodup_append.mpr ⟨List.pairwise_map.mpr hap, Hs.nd, fun a ha b hb hab => ?_⟩⟩
          · rcases List.mem_append.mp q with q | q
            · obtain ⟨p, hp, e⟩ := List.mem_map.mp q
              have := cge p hp; rw [e] at this; exact Nat.lt_irrefl _ this
            · obtain ⟨p, hp, eq⟩ := List.mem_map.mp q
              exact absurd (Heap.lt_size (Hs.own p hp)) (by rw [eq]; exact Nat.lt_irrefl _)
          · obtain ⟨p, hp, rfl⟩ := List.mem_map.mp ha
            obtain ⟨p2, hp2, rfl⟩ := List.mem_map.mp hb
            have l1 := cge p hp
            have l2 := Heap.lt_size (Hs.own p2 hp2)
            rw [hab] at l1
            exact Nat.lt_asymm l1 l2
        base := fun a o x _ => keep a o x
        le := fun _ _ x => x
        new := fun a o x => .inl x
        aL := Nat.le_refl _
        amu := fun q hq => by
          rcases List.mem_append.mp hq with hq | hq
          · obtain ⟨p, hp, rfl⟩ := hmm hq; exact .inr (Nat.le_of_lt (cge p hp))
          · exact .inl (mem_ads hq)
        size := size }
    have CE : CellOK env (cns.zip (env.cells.map (·.2))) := ⟨fun i x a hx => by
      rw [← hz] at hx
      have hm : x ∈ cns := by rw [← hck]; exact List.mem_map_of_mem (f := (·.1)) (List.mem_of_getElem? hx)
      have := List.all_eq_true.mp I.ck x hm
      simp only [Bool.and_eq_true, beq_iff_eq, bne_iff_ne] at this
      refine ⟨(hkind x).trans this.1, lookup_of_nodup (by rw [hck]; exact of_decide_eq_true I.ndc) hx, beq_eq_false_iff_ne.mpr this.2⟩⟩
    have X' : EnvOK env (lps ++ rest) gs h.objs.size :=
      { kind := by rw [hsc]; exact I.kind
        loc := hL
        glob := hgl.trans I.glob
        blt := hbl.trans I.blt
        lk := fun i x hx => by
          have := List.all_eq_true.mp I.lk x (List.mem_of_getElem? hx)
          simp only [Bool.and_eq_true, beq_iff_eq, bne_iff_ne] at this
          exact ⟨(hkind x).trans this.1, this.2⟩
        gk := fun i x hx => by
          have := List.all_eq_true.mp I.gk x (List.mem_of_getElem? hx)
          simp only [Bool.and_eq_true, beq_iff_eq, bne_iff_ne] at this
          exact ⟨(hkind x).trans this.1, this.2⟩
        nd := of_decide_eq_true I.nd }
    have OK : (⟨w, hB, A.deeper env, env, ⟨h, G, fp.ads, h.objs.size⟩, lps ++ rest, gs, []⟩ : Cx).Ok mg mb n := ⟨X', Bs, R.deeper⟩
    have key := (k (A.deeper env) env ⟨h, G, fp.ads, h.objs.size⟩ (env.cells.map (·.2)) (fun a => (h₁.get? a).getD default) (by rw [← hck]; simp) (fun a ha => by obtain ⟨p, hp, rfl⟩ := List.mem_map.mp ha; exact (hoc p hp).2)
      (fun a ha => by obtain ⟨p, hp, rfl⟩ := List.mem_map.mp ha; exact Nat.le_of_lt (cge p hp)) rfl CE OK).run h₁ g d tk os
      (fun f s' => Q (.ok (.ret (match f with | .ret v => v | _ => .none))) s') (fun e s' => wpAny (Md w) (A.deeper env) (leaving env e) (fun _ s'' => Q (.error e) s'') (fun e' s'' => Q (.error e') s'') s')
      (show Mine.St _ _ _ _ (((env.cells.map (·.2)).map (fun a => (a, (h₁.get? a).getD default)) ++ fp) ++ []) _ from (List.append_nil _).symm ▸ S) ?_
    · exact key
    · rintro fl ⟨vs, G₁, mu⟩ h' t' hL Z'
      replace Z' : Mine.St hB ⟨h, G, fp.ads, h.objs.size⟩ G₁ (fm (lps ++ rest) vs) mu h' := List.append_nil mu ▸ (show Mine.St hB _ G₁ (fm (lps ++ rest) vs) (mu ++ []) h' from Z')
      obtain ⟨G', ex, fp', Z2, e2, e3⟩ := Left.out hL rfl Z'
      have := ret (retv fl) G' fp' h' t' (Z2.toEff rfl e2 (fun _ _ x => x) rfl) e3
      cases fl <;> exact this
end Mine
end
section
namespace Mine
open PySem PySem.W PyProof.Rows PySem.Calls H
noncomputable abbrev tyDict (P : Params) (v1 v2 v3 : Value) (v : Nat → Value) (k : Nat → Tok) : List DictEntry :=
 [e P "number" (k 0) v1, e P "form" (k 1) v2, e P "size" (k 2) v3, e P "base" (k 3) (v 0), e P "length" (k 4) (v 1), e P "fields" (k 5) (v 2), e P "level" (k 6) (v 3), e P "params" (k 7) (v 4), e P "module" (k 8) (v 5), e P "label" (k 9) (v 6), e P "hidden" (k 10) (v 7), e P "exno" (k 11) (v 8)]
noncomputable abbrev obDict (P : Params) (v1 v2 v3 v4 : Value) (v : Nat → Value) (k : Nat → Tok) : List DictEntry :=
 [e P "name" (k 0) v1, e P "kind" (k 1) v2, e P "type" (k 2) v3, e P "place" (k 3) v4, e P "exported" (k 4) (v 0), e P "readonly" (k 5) (v 1), e P "level" (k 6) (v 2), e P "module" (k 7) (v 3), e P "value" (k 8) (v 4), e P "slot" (k 9) (v 5), e P "offset" (k 10) (v 6), e P "number" (k 11) (v 7), e P "isparam" (k 12) (v 8), e P "narrowed" (k 13) (v 9)]
section
variable {w : World} {hB : Heap} {mg mb : Str → Option Value} {G : Gh}
theorem type_init (B : Base w hB mg mb) (n : Nat) (x dx : Addr) (v1 v2 v3 : Value) (hx : G x (instObj 252 dx)) :
  Calls w hB (n + 1) 249 [.ref x, v1, v2, v3] G [(dx, emptyDict)] (fun r G' fp' => r = .none ∧ ∃ v k, fp' = [(dx, dictOf (tyDict w.params v1 v2 v3 v k) 12)]) := by
 refine start249 B _ _ _ _ ?_
 intro A env e cx o KK hKK
 refine Do.ini o tb249 hx ?_
 intro k0 k1 k2 k3 t4 k4 a5 k5 t6 k6 a7 k7 t8 k8 t9 k9 a10 k10 t11 k11
 refine hKK ?_; exact Left.mk [_, _, _] [_] rfl rfl ⟨rfl, fun i => [_, .int 0 t4, .ref a5, .int 0 t6, .ref a7, .str (S "") t8, .str (S "") t9, .ref a10, .int 0 t11].getD i .none, fun i => [k0, k1, k2, k3, k4, k5, k6, k7, k8, k9, k10, k11].getD i 0, rfl⟩
theorem obj_init (B : Base w hB mg mb) (n : Nat) (x dx : Addr) (v1 v2 v3 v4 : Value) (hx : G x (instObj 273 dx)) :
  Calls w hB (n + 1) 270 [.ref x, v1, v2, v3, v4] G [(dx, emptyDict)] (fun r G' fp' => r = .none ∧ ∃ v k, fp' = [(dx, dictOf (obDict w.params v1 v2 v3 v4 v k) 14)]) := by
 refine start270 B _ _ _ _ _ ?_
 intro A env e cx o KK hKK
 refine Do.ini o tb270 hx ?_
 intro k0 k1 k2 k3 k4 k5 t6 k6 t7 k7 k8 t9 k9 t10 k10 t11 k11 k12 k13
 refine hKK ?_; exact Left.mk [] [_] rfl rfl ⟨rfl, fun i => [.bool false, .bool false, .int 0 t6, .str (S "") t7, .none, .int 0 t9, .int 0 t10, .int 0 t11, .bool false, .none].getD i .none, fun i => [k0, k1, k2, k3, k4, k5, k6, k7, k8, k9, k10, k11, k12, k13].getD i 0, rfl⟩
theorem new_spec (B : Base w hB mg mb) (n : Nat) {x dT : Addr} {es : List DictEntry} {nn : Nat} {c : Int} {kc tc : Tok} (hx : G x (instObj 309 dT)) (hes : es.length ≤ 100) (tf : Tok) (v2 : Value) (h2 : handedIn v2 = true) (fs : String) :
  Calls w hB (n + 3) 299 [.ref x, .str (S fs) tf, v2] G [(dT, dictOf (e w.params "counter" kc (.int c tc) :: es) nn)] (fun v G' fp' => (E2 fun y t' => A3 (v = .ref y) (FormOf G' y fs) (fp' = [(dT, dictOf (e w.params "counter" kc (.int (c + 1) t') :: es) nn)]))) := by
 refine start299d B _ _ _ ?_
 intro A env e cx o KK hKK
 refine Do.reS o tb299 60 ?_
 refine Do.aug_attr ?_
 refine Do.name o 0 rfl rfl ?_
 refine Do.getA o (.inl hx) (.inr (mm 0 rfl)) 0 (by kernel_rfl) rfl (by kernel_rfl) (by first | rfl | assumption) ?_
 refine Do.const_int ?_
 intro t1
 refine Do.iadd ?_
 intro t2
 refine Do.setOld o (.inl hx) (ex := []) rfl 0 (by kernel_rfl) rfl (by kernel_rfl) (by simp; lia) ?_
 refine Do.getA o (.inl hx) (.inr (mm 0 rfl)) 0 (by kernel_rfl) rfl (by kernel_rfl) (by first | rfl | assumption) ?_
 refine Do.make (C := 252) (fI := 249) o (by kernel_rfl) (fun y dx => type_init B _ y dx _ _ _ gadd_at) fun y dx G3 od3 hdx hG3 p3 => ?_
 obtain ⟨v, k, e3⟩ := p3
 obtain ⟨_, rfl⟩ : True ∧ od3 = _ := ⟨trivial, (Prod.mk.inj (List.cons.inj e3).1).2⟩
 have hy : G3 y (instObj 252 dx) := hG3 _ _ gadd_at
 have hx3 : G3 x (instObj 309 dT) := hG3 _ _ (.inl hx)
 refine Do.setOld o (.inl hy) (ex := []) rfl 8 (by kernel_rfl) rfl (by kernel_rfl) (Nat.le_of_ble_eq_true rfl) ?_
 refine Do.setOld o (.inl hy) (ex := []) rfl 9 (by kernel_rfl) rfl (by kernel_rfl) (Nat.le_of_ble_eq_true rfl) ?_
 refine if0 ?_
 refine hKK ?_; exact Left.mkF [(dx, _)] _ rfl rfl ⟨y, t2, rfl, ⟨tf, dx, _, _, .inl hy, .inr (.head _), getL_at 1 (by kernel_rfl) rfl⟩, rfl⟩
noncomputable def snOk (P : Params) (ks : List Str) (fs : String) (nm : Str) : Expr → List Expr → Bool
 | .Name y _, [.Constant (.str s) _ _, .Constant (.int _) _ _] => ks[0]? == some y && (s == S fs && (methIn (H.K P) 309 nm 299 && keepIn (H.K P) (.ref 299)))
 | _, _ => false
theorem Do.selfNew {c : Cx} {σ : Sg} {mg mb : Str → Option Value} {n : Nat} {x dT : Addr} {ex : Led} {es : List DictEntry} {nn : Nat} {cc : Int} {kc tc : Tok} {e0 : Expr} {pl : Sem Bool} {K : Value → Sg → Prop} (o : c.Ok mg mb (n + 3)) (fs : String)
  (hx : σ.G x (instObj 309 dT)) (hmu : σ.mu = ex ++ [(dT, dictOf (e c.w.params "counter" kc (.int cc tc) :: es) nn)])
  (q : ∀ y t G', (∀ a o, σ.G a o → G' a o) → FormOf G' y fs → K (.ref y) ⟨σ.vs, G', ex ++ [(dT, dictOf (e c.w.params "counter" kc (.int (cc + 1) t) :: es) nn)]⟩)
  (hes : Nat.ble es.length 100 = true := by kernel_rfl) (hv : σ.vs[0]? = some (some (.ref x)) := by rfl) (hc : snOk c.w.params c.ks fs (nmOf (mcAt e0)) (mcOb e0) (kids e0) = true := by kernel_rfl)
  (hl : getL (nmOf (mcAt e0)) (e c.w.params "counter" kc (.int cc tc) :: es) = some none := by kernel_rfl)
  (he : eval e0 c.env = (do
   let ov ← eval (mcOb e0) c.env
   PySem.standAt (posOf (mcAt e0)).atName
   let (f, first) ← PySem.holding [ov] (getMethod ov (nmOf (mcAt e0)) pl)
   callWith (psOf e0) f first (backTo (psOf e0) (starEach (kids e0) c.env)) []) := by rfl) : Do c σ (eval e0 c.env) K := by
 rw [he]
 clear he
 generalize mcOb e0 = b at hc
 generalize kids e0 = as at hc
 unfold snOk at hc
 split at hc
 ·obtain ⟨h1, hc⟩ := and2 hc
  obtain ⟨h2, hc⟩ := and2 hc
  obtain ⟨h3, h4⟩ := and2 hc
  obtain rfl := eq_of_beq h2
  obtain ⟨vs, G, mu⟩ := σ
  dsimp only at hmu hx q hv
  subst hmu
  refine Do.bind (Do.name o 0 (eq_of_beq h1) hv (Do.bind (Do.standAt (Do.bind (Do.holding (Do.methD o (.inl hx) (.inr (List.mem_append_right _ (.head _))) h3 hl (Do.callWith_args o h4 (DoL.cons (Do.const_str fun t => DoL.cons (Do.const_int fun u => DoL.nil ?_))))))))))
  refine Do.byContract o (new_spec o.B n hx (Nat.le_of_ble_eq_true hes) t (.int _ u) rfl fs) rfl ?_
  intro QM r G' fp' hG p
  obtain ⟨y, t', rfl, hf, rfl⟩ := p
  exact q y t' G' hG hf
 ·cases hc
theorem types_init (B : Base w hB mg mb) (n : Nat) {x dx : Addr} (hx : G x (instObj 309 dx)) :
  Calls w hB (n + 4) 291 [.ref x] G [(dx, emptyDict)] (fun r G' fp' => r = .none ∧ ∀ G2, (∀ a o, G' a o → G2 a o) → (∀ p ∈ fp', G2 p.1 p.2) → ∃ (ty : Fm → Addr), A5 (∀ f, FormOf G2 (ty f) f.name) (AttrG G2 x 309 "integer" (.ref (ty .I))) (AttrG G2 x 309 "mask" (.ref (ty .M))) (AttrG G2 x 309 "boolean" (.ref (ty .B))) (AttrG G2 x 309 "char" (.ref (ty .C)))) := by
 refine start291 B _ ?_
 intro A env e cx o KK hKK
 refine Do.reS o tb291 60 ?_
 intro t1
 refine Do.setNew o (.inl hx) (ex := []) rfl (by kernel_rfl) (by kernel_rfl) (by kernel_rfl) (Nat.le_of_ble_eq_true rfl) ?_
 intro t2
 refine Do.newDict ?_
 intro t3
 refine Do.setNew o (.inl hx) (ex := [_]) rfl (by kernel_rfl) (by kernel_rfl) (by kernel_rfl) (Nat.le_of_ble_eq_true rfl) ?_
 intro t4
 refine Do.selfNew o "boolean" (ex := [_]) hx rfl fun y1 tc1 G1 hG1 hf1 => ?_
 have hx1 : G1 x (instObj 309 dx) := hG1 _ _ hx
 refine Do.setNew o (.inl hx1) (ex := [_]) rfl (by kernel_rfl) (by kernel_rfl) (by kernel_rfl) (Nat.le_of_ble_eq_true rfl) ?_
 intro t5
 refine Do.selfNew o "char" (ex := [_]) hx1 rfl fun y2 tc2 G2 hG2 hf2 => ?_
 have hx2 : G2 x (instObj 309 dx) := hG2 _ _ hx1
 refine Do.setNew o (.inl hx2) (ex := [_]) rfl (by kernel_rfl) (by kernel_rfl) (by kernel_rfl) (Nat.le_of_ble_eq_true rfl) ?_
 intro t6
 refine Do.selfNew o "byte" (ex := [_]) hx2 rfl fun y3 tc3 G3 hG3 hf3 => ?_
 have hx3 : G3 x (instObj 309 dx) := hG3 _ _ hx2
 refine Do.setNew o (.inl hx3) (ex := [_]) rfl (by kernel_rfl) (by kernel_rfl) (by kernel_rfl) (Nat.le_of_ble_eq_true rfl) ?_
 intro t7
 refine Do.selfNew o "integer" (ex := [_]) hx3 rfl fun y4 tc4 G4 hG4 hf4 => ?_
 have hx4 : G4 x (instObj 309 dx) := hG4 _ _ hx3
 refine Do.setNew o (.inl hx4) (ex := [_]) rfl (by kernel_rfl) (by kernel_rfl) (by kernel_rfl) (Nat.le_of_ble_eq_true rfl) ?_
 intro t8
 refine Do.selfNew o "set" (ex := [_]) hx4 rfl fun y5 tc5 G5 hG5 hf5 => ?_
 have hx5 : G5 x (instObj 309 dx) := hG5 _ _ hx4
 refine Do.setNew o (.inl hx5) (ex := [_]) rfl (by kernel_rfl) (by kernel_rfl) (by kernel_rfl) (Nat.le_of_ble_eq_true rfl) ?_
 intro t9
 refine Do.selfNew o "nil" (ex := [_]) hx5 rfl fun y6 tc6 G6 hG6 hf6 => ?_
 have hx6 : G6 x (instObj 309 dx) := hG6 _ _ hx5
 refine Do.setNew o (.inl hx6) (ex := [_]) rfl (by kernel_rfl) (by kernel_rfl) (by kernel_rfl) (Nat.le_of_ble_eq_true rfl) ?_
 intro t10
 refine Do.selfNew o "none" (ex := [_]) hx6 rfl fun y7 tc7 G7 hG7 hf7 => ?_
 have hx7 : G7 x (instObj 309 dx) := hG7 _ _ hx6
 refine Do.setNew o (.inl hx7) (ex := [_]) rfl (by kernel_rfl) (by kernel_rfl) (by kernel_rfl) (Nat.le_of_ble_eq_true rfl) ?_
 intro t11
 refine hKK ?_; refine Left.mk [_] [_] rfl rfl ⟨rfl, fun G2 h1 h2 => ?_⟩
 have hd := h2 _ (.head _)
 have hi := h1 _ _ hx7
 refine ⟨fun f => match f with | .I => y4 | .M => y5 | .B => y1 | .C => y2, fun f => ?_, ⟨dx, _, _, hi, hd, getL_at 5 (by kernel_rfl) rfl⟩, ⟨dx, _, _, hi, hd, getL_at 6 (by kernel_rfl) rfl⟩, ⟨dx, _, _, hi, hd, getL_at 2 (by kernel_rfl) rfl⟩, ⟨dx, _, _, hi, hd, getL_at 3 (by kernel_rfl) rfl⟩⟩
 cases f with
 | I => exact (((hf4.mono hG5).mono hG6).mono hG7).mono h1
 | M => exact ((hf5.mono hG6).mono hG7).mono h1
 | B => exact ((((((hf1.mono hG2).mono hG3).mono hG4).mono hG5).mono hG6).mono hG7).mono h1
 | C => exact (((((hf2.mono hG3).mono hG4).mono hG5).mono hG6).mono hG7).mono h1
end
end Mine
end
section
namespace Mine
open PySem PySem.W PyProof.Rows PySem.Calls H
noncomputable def fd476 : FuncData := mkF (dF 55) (S "law") (S "law") 3 .none .none .none (v "law_pb0359_01" 734) (.ref 475) .none 0
noncomputable abbrev ks476 : List Str := [S "script"] ++ [S "types", S "rows_of", S "label", S "t", S "obj", S "deeds", S "alone", S "draw", S "told", S "used_first", S "due", S "stored_now", S "deed", S "quotient", S "left", S "spoiled"]
noncomputable abbrev gs476 : List Str := [S "_law_pool", S "Types", S "Obj", S "len", S "range", S "_law_draw", S "_law_whole", S "lower_expression", S "_law_word", S "problems", S "sorted", S "meaning", S "lower_block", S "_law_make", S "dict", S "_law_done", S "const"]
theorem ok476 : FnOkC fd476 ks476 gs476 [S "given_words", S "words", S "book", S "pool"] (dF 55).2.1 := ⟨by kernel_rfl, by kernel_rfl, by kernel_rfl, by kernel_rfl, by kernel_rfl, by kernel_rfl, by kernel_rfl, by kernel_rfl, by kernel_rfl, by kernel_rfl, by kernel_rfl, by kernel_rfl, by kernel_rfl⟩
noncomputable abbrev cLaw (w : World) (hB : Heap) (A : Around) (env : Env) (e : Ent) : Cx := ⟨w, hB, A, env, e, ks476, gs476, []⟩
theorem start476 {w : World} {hB : Heap} {mg mb : Str → Option Value} (B : Base w hB mg mb) (a0 : Value) {n : Nat} {G : Gh} {P : Value → Gh → Led → Prop}
  (k : ∀ A env e c0 c1 c2 c3 (o0 o1 o2 o3 : PySem.Obj), o0.data = .cell none → o1.data = .cell none → o2.data = .cell none → o3.data = .cell none → e.h₀.objs.size ≤ c0 → e.h₀.objs.size ≤ c1 → e.h₀.objs.size ≤ c2 → e.h₀.objs.size ≤ c3 → e.fa = [] →
   CellOK env [(S "given_words", c0), (S "words", c1), (S "book", c2), (S "pool", c3)] → (cLaw w hB A env e).Ok mg mb n →
   Do (cLaw w hB A env e) ⟨List.map some [a0] ++ List.replicate 16 none, G, [(c0, o0), (c1, o1), (c2, o2), (c3, o3)]⟩ (execs (dF 55).2.1 env) (Left [] P)) :
  Calls w hB (n + 1) 476 [a0] G [] P := enterM (fo := o476) (fd := fd476) (lps := [S "script"]) (lbs := [a0]) B (by kernel_rfl) rfl ok476 (by kernel_rfl) (by kernel_rfl) (by kernel_rfl) rfl
 fun A env e as oc hl hd hz hfa CE ok => match as, hl with
  | [c0, c1, c2, c3], _ => k A env e c0 c1 c2 c3 _ _ _ _ (hd c0 (by simp)) (hd c1 (by simp)) (hd c2 (by simp)) (hd c3 (by simp)) (hz c0 (by simp)) (hz c1 (by simp)) (hz c2 (by simp)) (hz c3 (by simp)) hfa CE ok
section
variable {w : World} {hB : Heap} {mg mb : Str → Option Value} {G : Gh}
end
end Mine
end
section
namespace Mine
open PySem PySem.W PyProof.Rows PySem.Calls H
noncomputable def RowsV (G : Gh) (rl : Addr) (ty : Fm → Addr) : Prop := (E2 fun vs n => (G rl (lobj vs n)) ∧ All2 (fun v i => (E3 fun a t k => (v = .ref a) ∧ G a (tobj [.str (S (varLabel i)) t, .ref (ty (fmOf i))] k))) vs [0, 1, 2, 3, 4, 5])
theorem RowsV.mono {G G' : Gh} {rl : Addr} {ty : Fm → Addr} (x : RowsV G rl ty) (h : ∀ a o, G a o → G' a o) : RowsV G' rl ty := let ⟨vs, n, g, x⟩ := x; ⟨vs, n, h _ _ g, x.mono fun _ _ ⟨a, t, k, e, g⟩ => ⟨a, t, k, e, h _ _ g⟩⟩
structure Hid (p : Prop) : Prop where
 out : p
theorem get6 {i j : Nat} (h : [0, 1, 2, 3, 4, 5][i]? = some j) : j = i ∧ i < 6 := by
 match i, h with
 | 0, h => exact ⟨(Option.some.inj h).symm, by decide⟩
 | 1, h => exact ⟨(Option.some.inj h).symm, by decide⟩
 | 2, h => exact ⟨(Option.some.inj h).symm, by decide⟩
 | 3, h => exact ⟨(Option.some.inj h).symm, by decide⟩
 | 4, h => exact ⟨(Option.some.inj h).symm, by decide⟩
 | 5, h => exact ⟨(Option.some.inj h).symm, by decide⟩
noncomputable abbrev cs476 (c0 c1 c2 c3 : Addr) : List (Str × Addr) := [(S "given_words", c0), (S "words", c1), (S "book", c2), (S "pool", c3)]
section
variable {w : World} {hB : Heap} {mg mb : Str → Option Value} {G : Gh} {A : Around} {env : Env} {e : Ent} {n : Nat} {c0 c1 c2 c3 : Addr} {P : Value → Gh → Led → Prop}
theorem law_vars (B0 : Base w hB mg mb) (o : (cLaw w hB A env e).Ok mg mb (n + 29)) (hfa : e.fa = []) (CE : CellOK env (cs476 c0 c1 c2 c3)) {ta bd va wd rl pa sa : Addr} {o0 oB : PySem.Obj} {ty : Fm → Addr} {fpP : Led} (C2 : CellG G c2 (.ref bd)) (hr : RowsV G rl ty)
  (hB0 : G bd oB) (hB1 : oB.IsDictOf (sKd w) [(S "types", .ref ta), (S "vars", .ref va)]) (hI : AttrG G ta 309 "integer" (.ref (ty .I))) (hM : AttrG G ta 309 "mask" (.ref (ty .M))) (hBo : AttrG G ta 309 "boolean" (.ref (ty .B))) (hC : AttrG G ta 309 "char" (.ref (ty .C)))
  (hty : ∀ f, FormOf G (ty f) f.name)
  (k : ∀ bk G' nv v3 v4 v5, (∀ a o, G a o → G' a o) → bk.ty = ty → BookAt w G' bk bd oB ta va nv →
   Do (cLaw w hB A env e) ⟨[some (.ref sa), some (.ref ta), some (.ref rl), v3, v4, v5] ++ List.replicate 11 none, G', [(wd, emptyDict), (c0, o0)] ++ fpP⟩ (execs ((dF 55).2.1.drop 6) env) (Left [] P)) :
  Do (cLaw w hB A env e) ⟨[some (.ref sa), some (.ref ta), some (.ref rl)] ++ List.replicate 14 none, G, [(wd, emptyDict), (va, lobj []), (c0, o0)] ++ fpP⟩ (execs ((dF 55).2.1.drop 5) env) (Left [] P) := by
 obtain ⟨rvs, rn, hrl, hrv⟩ := hr
 refine Do.reS1 o tb476 30 ?_
 refine Do.forLp o (by intro _; rfl) ?_
 refine Do.name o 2 rfl rfl ?_
 refine forL_mk (a := rl) (vs := rvs) (n := rn) (fun i σ' => (E6 fun (var : Nat → Addr) v3 v4 v5 G' nv => A3 (σ' = ⟨[some (.ref sa), some (.ref ta), some (.ref rl), v3, v4, v5] ++ List.replicate 11 none, G', [(wd, emptyDict), (va, lobj ((List.range i).map fun j => .ref (var j)) nv), (c0, o0)] ++ fpP⟩) (∀ a o, G a o → G' a o) (∀ j, j < i → VarAt G' (var j) j (ty (fmOf j))))) ?_ ⟨fun _ => 0, _, _, _, _, _, rfl, fun _ _ x => x, fun j hj => absurd hj (Nat.not_lt_zero j)⟩ ?_ ?_
 ·rintro i σ' ⟨var, v3, v4, v5, G', nv, rfl, hG, hv⟩; exact .inl (hG _ _ hrl)
 ·rintro i v p KL hKL QM hQM σ' hi ⟨var, v3, v4, v5, G', nv, rfl, hG, hv⟩
  have o2 := o.hide p
  obtain ⟨j, hj, a, tl, kt, rfl, hat⟩ := hrv.get hi
  obtain ⟨rfl, hj6⟩ := get6 hj
  refine hQM _ ?_
  have C2' := C2.mono hG
  have hlb : (S (varLabel j) == Str.ofString "b") = decide (j = 1) := label_eq (j := 1) hj6 (by decide)
  have hlen : ((List.range j).map fun j => Value.ref (var j)).length = j := by simp
  have hlz : ((List.range j).map fun j => Value.ref (var j)).length ≤ 1000000 := by rw [hlen]; lia
  generalize hL : ((List.range j).map fun j => Value.ref (var j)) = L at hlen hlz
  refine Do.assignTuple ?_
  refine Do.unpackT o2 (.inl (hG _ _ hat)) rfl rfl ?_
  refine Do.inOrder_cons ?_
  refine Do.assignName o2 3 rfl (by first | exact Nat.le_of_ble_eq_true rfl | lia) ?_
  refine Do.inOrder_cons ?_
  refine Do.assignName o2 4 rfl (by first | exact Nat.le_of_ble_eq_true rfl | lia) ?_
  refine Do.inOrder_nil ?_
  refine Do.reS1 o2 tb476 30 ?_
  intro t1 t2
  refine Do.make (C := 273) (fI := 270) o2 (by kernel_rfl) (fun y dx => (obj_init B0 n y dx _ _ _ _ gadd_at).le (by lia)) fun y dx G3 od3 hdx hG3 p3 => ?_
  obtain ⟨vv, kk, e3⟩ := p3
  obtain rfl : od3 = _ := (Prod.mk.inj (List.cons.inj e3).1).2
  have hy : G3 y (instObj 273 dx) := hG3 _ _ gadd_at
  have hB3 : G3 bd oB := hG3 _ _ (.inl (hG _ _ hB0))
  have C2'' : CellG G3 c2 (.ref bd) := C2'.mono fun _ _ x => hG3 _ _ (.inl x)
  refine Do.reS1 o2 tb476 30 ?_
  intro t3
  refine Do.setOld o2 (.inl hy) (ex := []) rfl 7 (by kernel_rfl) rfl (by kernel_rfl) (Nat.le_of_ble_eq_true rfl) ?_
  refine Do.reS1 o2 tb476 30 ?_
  refine Do.callG ?_
  refine Do.builtinK o2 3 rfl (v := (.builtin "len")) (by kernel_rfl) (by kernel_rfl) (by kernel_rfl) ?_
  refine Do.callWith_b1 ?_
  refine Do.reL o2 tb476 30 ?_
  refine Do.cell o2 CE 2 (a := c2) (by kernel_rfl) C2'' ?_
  intro t4
  refine Do.dgetS (.inl hB3) hB1 1 (by kernel_rfl) rfl ?_
  refine Do.lenL (.inr (mm 2 rfl)) (by first | exact Nat.le_of_ble_eq_true rfl | assumption | lia | (simp; lia)) ?_
  intro t5
  refine Do.setOld o2 (.inl hy) (ex := []) rfl 9 (by kernel_rfl) rfl (by kernel_rfl) (Nat.le_of_ble_eq_true rfl) ?_
  refine Do.reS1 o2 tb476 30 ?_
  have hlz' : Hid (L.length ≤ 1000000 ∧ L.length = j) := ⟨hlz, hlen⟩
  have hnew : (List.range (j + 1)).map (fun m => Value.ref (if m = j then y else var m)) = L ++ [.ref y] := by
   rw [List.range_succ, List.map_append, ← hL]
   congr 1
   ·exact List.map_congr_left fun m hm => by rw [if_neg (by have := List.mem_range.mp hm; lia)]
   ·simp
  clear hlz hlen
  by_cases h1 : j = 1
  ·refine ite_t (hlb.trans (decide_eq_true h1)) ?_
   intro t8
   refine Do.setOld o2 (.inl hy) (ex := []) rfl 6 (by kernel_rfl) rfl (by kernel_rfl) (Nat.le_of_ble_eq_true rfl) ?_
   have hlz := hlz'.out.1
   refine Do.freezeF hfa 0 rfl rfl ?_
   refine Do.reS1 o2 tb476 30 ?_
   refine Do.methodCall ?_
   refine Do.reE o2 tb476 30 ?_
   refine Do.cell o2 CE 2 (a := c2) (by kernel_rfl) (C2''.mono fun _ _ x => (.inl x)) ?_
   intro t6
   refine Do.dgetS (.inl (.inl hB3)) hB1 1 (by kernel_rfl) rfl ?_
   refine Do.mAppend (.inr (mm 1 rfl)) ?_
   refine Do.callWith_b1 ?_
   refine Do.reL o2 tb476 30 ?_
   refine Do.append (ex := [_]) rfl (by first | exact Nat.le_of_ble_eq_true rfl | assumption | lia | (simp; lia)) ?_
   refine hKL ?_; refine ⟨fun m => if m = j then y else var m, _, _, _, _, _, by rw [hnew]; rfl, ?_, ?_⟩
   ·exact fun a o x => .inl (hG3 _ _ (.inl (hG _ _ x)))
   intro m hm
   show VarAt _ (if m = j then y else var m) m (ty (fmOf m))
   by_cases hmj : m = j
   ·subst hmj
    rw [if_pos rfl]
    refine ⟨⟨_, dx, _, _, .inl hy, gadd_at, getL_at 1 (by kernel_rfl) rfl⟩, ⟨tl, dx, _, _, .inl hy, gadd_at, getL_at 0 (by kernel_rfl) rfl⟩, ⟨dx, _, _, .inl hy, gadd_at, getL_at 2 (by kernel_rfl) rfl⟩, ⟨_, dx, _, _, .inl hy, gadd_at, getL_at 6 (by kernel_rfl) (by rw [if_pos h1]; rfl)⟩, ⟨_, dx, _, _, .inl hy, gadd_at, getL_at 7 (by kernel_rfl) rfl⟩, ⟨_, dx, _, _, .inl hy, gadd_at, getL_at 9 (by kernel_rfl) (by rw [hlz'.out.2]; rfl)⟩⟩
   ·rw [if_neg hmj]
    exact (hv m (by lia)).mono fun a o x => .inl (hG3 _ _ (.inl x))
  ·refine ite_f (hlb.trans (decide_eq_false h1)) ?_
   intro t8
   refine Do.setOld o2 (.inl hy) (ex := []) rfl 6 (by kernel_rfl) rfl (by kernel_rfl) (Nat.le_of_ble_eq_true rfl) ?_
   have hlz := hlz'.out.1
   refine Do.freezeF hfa 0 rfl rfl ?_
   refine Do.reS1 o2 tb476 30 ?_
   refine Do.methodCall ?_
   refine Do.reE o2 tb476 30 ?_
   refine Do.cell o2 CE 2 (a := c2) (by kernel_rfl) (C2''.mono fun _ _ x => (.inl x)) ?_
   intro t6
   refine Do.dgetS (.inl (.inl hB3)) hB1 1 (by kernel_rfl) rfl ?_
   refine Do.mAppend (.inr (mm 1 rfl)) ?_
   refine Do.callWith_b1 ?_
   refine Do.reL o2 tb476 30 ?_
   refine Do.append (ex := [_]) rfl (by first | exact Nat.le_of_ble_eq_true rfl | assumption | lia | (simp; lia)) ?_
   refine hKL ?_; refine ⟨fun m => if m = j then y else var m, _, _, _, _, _, by rw [hnew]; rfl, ?_, ?_⟩
   ·exact fun a o x => .inl (hG3 _ _ (.inl (hG _ _ x)))
   intro m hm
   show VarAt _ (if m = j then y else var m) m (ty (fmOf m))
   by_cases hmj : m = j
   ·subst hmj
    rw [if_pos rfl]
    refine ⟨⟨_, dx, _, _, .inl hy, gadd_at, getL_at 1 (by kernel_rfl) rfl⟩, ⟨tl, dx, _, _, .inl hy, gadd_at, getL_at 0 (by kernel_rfl) rfl⟩, ⟨dx, _, _, .inl hy, gadd_at, getL_at 2 (by kernel_rfl) rfl⟩, ⟨_, dx, _, _, .inl hy, gadd_at, getL_at 6 (by kernel_rfl) (by rw [if_neg h1]; rfl)⟩, ⟨_, dx, _, _, .inl hy, gadd_at, getL_at 7 (by kernel_rfl) rfl⟩, ⟨_, dx, _, _, .inl hy, gadd_at, getL_at 9 (by kernel_rfl) (by rw [hlz'.out.2]; rfl)⟩⟩
   ·rw [if_neg hmj]
    exact (hv m (by lia)).mono fun a o x => .inl (hG3 _ _ (.inl x))
 ·rintro QM hQM σ' ⟨var, v3, v4, v5, G', nv, rfl, hG, hv⟩
  have h6 : rvs.length = 6 := hrv.length
  rw [h6] at hv ⊢
  refine hQM _ ?_
  refine Do.freezeF hfa 1 rfl rfl ?_
  have up : ∀ a o, G a o → gadd G' va (lobj ((List.range 6).map fun j => .ref (var j)) nv) a o := fun a o x => .inl (hG a o x)
  exact k ⟨var, ty⟩ (gadd G' va _) nv v3 v4 v5 up rfl ⟨up _ _ hB0, hB1, gadd_at, hI.mono up, hM.mono up, hBo.mono up, hC.mono up, ⟨fun f => (hty f).mono up, fun i hi => (hv i hi).mono fun _ _ x => .inl x⟩⟩
end
end Mine
end
section
namespace Mine
open PySem PySem.W PyProof.Rows PySem.Calls H
noncomputable def DeedsV (G : Gh) (bk : Bk) (vs : List Value) (ds : List Dd) : Prop := All2 (fun v d => ∃ b, v = .ref b ∧ DeedIs G bk d b) vs ds ∧ ∀ d ∈ ds, WD d ∧ d.tree.ht ≤ 3 ∧ d.cost ≤ 100
theorem deedsV_of {G : Gh} {bk : Bk} : ∀ {vs : List Value}, (∀ v ∈ vs, DeedV G bk v) → ∃ ds, DeedsV G bk vs ds
 | [], _ => ⟨[], trivial, nofun⟩
 | v :: vs, h => by
  obtain ⟨ds, h1, h2⟩ := deedsV_of (vs := vs) fun u hu => h u (.tail _ hu)
  obtain ⟨x, d, rfl, hd, hw, hh, hc⟩ := h v (.head _)
  refine ⟨d :: ds, ⟨⟨x, rfl, hd⟩, h1⟩, fun e he => ?_⟩
  rcases List.mem_cons.mp he with rfl | he
  ·exact ⟨hw, hh, hc⟩
  ·exact h2 e he
section
variable {w : World} {hB : Heap} {mg mb : Str → Option Value} {G : Gh} {A : Around} {env : Env} {e : Ent} {n : Nat} {c0 c1 c2 c3 : Addr} {P : Value → Gh → Led → Prop}
theorem law_trees (B : Base w hB mg mb) (o : (cLaw w hB A env e).Ok mg mb (n + 29)) (hfa : e.fa = []) (CE : CellOK env (cs476 c0 c1 c2 c3)) {ta bd va wd rl pa sa : Addr} {o0 oB : PySem.Obj} {bk : Bk} {nv : Nat} {fpP : Led} {v3 v4 v5 : Option Value} (C2 : CellG G c2 (.ref bd)) (C3 : CellG G c3 (.ref pa)) (hP : PoolIn pa fpP)
  (hb : BookAt w G bk bd oB ta va nv)
  (k : ∀ dl dvs dn ds al t G' fp', (∀ a o, G a o → G' a o) → G' dl (lobj dvs dn) → DeedsV G' bk dvs ds → ds.length ≤ 6 → NodeIs G' bk t al → WT t → t.fm = .I → t.ht ≤ 3 → t.cost ≤ Cc 3 → PoolIn pa fp' →
   Do (cLaw w hB A env e) ⟨[some (.ref sa), some (.ref ta), some (.ref rl), v3, v4, v5, some (.ref dl), some (.ref al)] ++ List.replicate 9 none, G', [(wd, emptyDict), (c0, o0)] ++ fp'⟩ (execs ((dF 55).2.1.drop 8) env) (Left [] P)) :
  Do (cLaw w hB A env e) ⟨[some (.ref sa), some (.ref ta), some (.ref rl), v3, v4, v5] ++ List.replicate 11 none, G, [(wd, emptyDict), (c0, o0)] ++ fpP⟩ (execs ((dF 55).2.1.drop 6) env) (Left [] P) := by
 refine Do.reS1 o tb476 30 ?_
 refine Do.assign_listComp [S "_law_deed"] o CE (by kernel_rfl) 6 rfl (by first | exact Nat.le_of_ble_eq_true rfl | lia) (by kernel_rfl) ?_
 refine Do.callG ?_
 refine Do.builtinK o 4 rfl (v := (.type "range")) (by kernel_rfl) (by kernel_rfl) (by kernel_rfl) ?_
 refine Do.callWith_t1 ?_
 refine Do.reL o tb476 30 ?_
 refine Do.cell o CE 3 (a := c3) (by kernel_rfl) C3 ?_
 intro t1
 refine Do.draw o hP (ex := [_, _]) rfl (by first | decide | lia | exact Int.natCast_pos.mpr (Nat.le_of_ble_eq_true rfl)) ?_
 intro t2 t3 t4 t5 t6 t7 t8 t9
 refine Do.range1 ?_
 intro t10 t11 t12
 have upg : ∀ a o, G a o → gadd t4 t10 (robj t2 t11 t3 t12) a o := fun a o x => .inl (t6 a o x)
 refine ⟨rfl, CompSrc.range (fun i ys G2 mu => (∀ a o, gadd t4 t10 (robj t2 t11 t3 t12) a o → G2 a o) ∧ ys.length = i ∧ (∀ v ∈ ys, DeedV G2 bk v) ∧ ∃ fp2, PoolIn pa fp2 ∧ mu = [(wd, emptyDict), (c0, o0)] ++ fp2) (.inl gadd_at) t8 (by lia) ⟨fun _ _ x => x, rfl, nofun, t5, t7, rfl⟩ ?_ ?_⟩
 ·rintro i v ys G2 mu env2 Cc2 hid2 hi ⟨ti, rfl⟩ ⟨hG2, hlen, hys, fp2, hP2, rfl⟩ CE2 o2
  refine Do.tests_nil (ite_t rfl ?_)
  have D2 := C2.mono fun a o x => hG2 a o (upg a o x)
  have D3 := C3.mono fun a o x => hG2 a o (upg a o x)
  refine Do.callG ?_
  refine Do.gK o2 0 431 ?_
  refine Do.callWith_args o2 (by kernel_rfl) ?_
  refine Do.reL o2 tb476 30 ?_
  refine Do.cell o2 CE2 1 (a := c2) (by kernel_rfl) D2 ?_
  refine Do.cell o2 CE2 0 (a := c3) (by kernel_rfl) D3 ?_
  refine Do.byContract o2 ((deed_spec B n hP2 (hb.mono fun a o x => hG2 a o (upg a o x))).le (by lia)) (ex := [_, _]) rfl ?_
  intro QM r G3 fp3 hG3 p3
  obtain ⟨hP3, hd3⟩ := p3
  refine ⟨fun a o x => hG3 a o (hG2 a o x), by simp [hlen], fun u hu => ?_, fp3, hP3, rfl⟩
  rcases List.mem_append.mp hu with hu | hu
  ·exact (hys u hu).mono hG3
  ·rw [List.mem_singleton.mp hu]; exact hd3
 ·rintro ys G2 mu D ⟨hG2, hlen, hys, fp2, hP2, rfl⟩ hD
  obtain ⟨ds, hds⟩ := deedsV_of hys
  refine Do.freeze 0 rfl rfl hD ?_
  have D2 := C2.mono fun a o x => hG2 a o (upg a o x)
  have D3 := C3.mono fun a o x => hG2 a o (upg a o x)
  refine Do.reS1 o tb476 30 ?_
  refine Do.cell o CE 2 (a := c2) (by kernel_rfl) (D2.mono fun _ _ x => (.inl x)) ?_
  refine Do.cell o CE 3 (a := c3) (by kernel_rfl) (D3.mono fun _ _ x => (.inl x)) ?_
  intro t13
  obtain ⟨i1, i2, i3⟩ := gen_all (w := w) (hB := hB) (bk := bk) (bd := bd) (pa := pa) (oB := oB) (ta := ta) (va := va) (nv := nv) B 3
  refine Do.byContract o ((i1 _ _ _ _ hP2 (hb.mono fun a o x => .inl (hG2 a o (upg a o x))) (by decide)).le (by lia)) (ex := [_, _]) rfl ?_
  intro QM r20 G20 fp20 hG20 p20
  obtain ⟨hp20, x20, tt20, rfl, hx20, hw20, hf20, hh20, hc20⟩ := p20
  have up20 : ∀ a o, G2 a o → G20 a o := fun a o x => hG20 a o (.inl x)
  exact k D ys _ ds x20 tt20 G20 fp20 (fun a o x => up20 a o (hG2 a o (upg a o x))) (hG20 _ _ gadd_at) ⟨hds.1.mono fun _ _ ⟨b, e1, e2⟩ => ⟨b, e1, e2.mono up20⟩, hds.2⟩ (by have := hds.1.length; lia) hx20 hw20 hf20 hh20 hc20 hp20
end
end Mine
end
section
namespace Mine
open PySem PySem.W PyProof.Rows PySem.Calls H
theorem wkv_new {ws : Nat → Int} {tk : Nat → Tok} {i : Nat} {v : Int} {t : Tok} (hi : i < 6) : stored (wkv ws tk i) (S (varLabel i)) (.int v t) = wkv (upd ws i v) (upd tk i t) (i + 1) :=
 six (P := fun i => stored (wkv ws tk i) (S (varLabel i)) (.int v t) = wkv (upd ws i v) (upd tk i t) (i + 1)) (by kernel_rfl) (by kernel_rfl) (by kernel_rfl) (by kernel_rfl) (by kernel_rfl) (by kernel_rfl) i hi
theorem wkv_len {ws : Nat → Int} {tk : Nat → Tok} {i : Nat} : (wkv ws tk i).length = i := by simp [wkv]
noncomputable def WordIn (f : Fm) (x : Int) : Prop := InW x ∧ (f = .B → x = 0 ∨ x = 1) ∧ (f = .C → x < 256)
noncomputable def modOf : Fm → Int
 | .B => 2
 | .C => 256
 | _ => 4294967296
theorem modOf_ne (f : Fm) : modOf f ≠ 0 := by cases f <;> decide
theorem wordIn_mod (f : Fm) (z : Int) : WordIn f (z.fmod (modOf f)) := by
 cases f
 ·exact ⟨inW_fmod _, nofun, nofun⟩
 ·exact ⟨inW_fmod _, nofun, nofun⟩
 ·exact ⟨in_of01 (fmod2_01 _), fun _ => fmod2_01 _, nofun⟩
 ·exact ⟨⟨Int.fmod_nonneg_of_pos _ (by decide), Int.lt_trans (Int.fmod_lt_of_pos _ (by decide)) (by decide)⟩, nofun, fun _ => Int.fmod_lt_of_pos _ (by decide)⟩
theorem wordsOK_of {ws : Nat → Int} (h : ∀ j, j < 6 → WordIn (fmOf j) (ws j)) : WordsOK ws := ⟨fun i hi => (h i hi).1, (h 4 (by decide)).2.1 rfl, (h 5 (by decide)).2.2 rfl⟩
section
variable {w : World} {hB : Heap} {mg mb : Str → Option Value} {G : Gh} {A : Around} {env : Env} {e : Ent} {n : Nat} {c0 c1 c2 c3 : Addr} {P : Value → Gh → Led → Prop}
theorem law_words (B : Base w hB mg mb) (o : (cLaw w hB A env e).Ok mg mb (n + 29)) (hfa : e.fa = []) (CE : CellOK env (cs476 c0 c1 c2 c3)) {ta wd rl pa sa : Addr} {o0 : PySem.Obj} {bk : Bk} {fpP : Led} {v3 v4 v5 v6 v7 : Option Value} (C1 : CellG G c1 (.ref wd)) (C3 : CellG G c3 (.ref pa)) (hP : PoolIn pa fpP)
  (hr : RowsV G rl bk.ty) (hb : BookOK G bk)
  (k : ∀ v3 v4 v8 ws tk oW G' fp', (∀ a o, G a o → G' a o) → WordsOK ws → oW.IsDictOf (sKd w) (wkv ws tk 6) → PoolIn pa fp' →
   Do (cLaw w hB A env e) ⟨[some (.ref sa), some (.ref ta), some (.ref rl), v3, v4, v5, v6, v7, v8] ++ List.replicate 8 none, G', [(wd, oW), (c0, o0)] ++ fp'⟩ (execs ((dF 55).2.1.drop 9) env) (Left [] P)) :
  Do (cLaw w hB A env e) ⟨[some (.ref sa), some (.ref ta), some (.ref rl), v3, v4, v5, v6, v7] ++ List.replicate 9 none, G, [(wd, emptyDict), (c0, o0)] ++ fpP⟩ (execs ((dF 55).2.1.drop 8) env) (Left [] P) := by
 obtain ⟨rvs, rn, hrl, hrv⟩ := hr
 refine Do.reS1 o tb476 30 ?_
 refine Do.forLp o (by intro _; rfl) ?_
 refine Do.name o 2 rfl rfl ?_
 refine forL_mk (a := rl) (vs := rvs) (n := rn) (fun i σ' => (E8 fun v3 v4 v8 ws tk oW G' fp' => A5 (σ' = ⟨[some (.ref sa), some (.ref ta), some (.ref rl), v3, v4, v5, v6, v7, v8] ++ List.replicate 8 none, G', [(wd, oW), (c0, o0)] ++ fp'⟩) (∀ a o, G a o → G' a o) (PoolIn pa fp') (oW.IsDictOf (sKd w) (wkv ws tk i)) (∀ j, j < i → WordIn (fmOf j) (ws j)))) ?_ ⟨_, _, _, fun _ => 0, fun _ => 0, _, _, _, rfl, fun _ _ x => x, hP, (show emptyDict.IsDictOf (sKd w) [] from empty_dict (c := cLaw w hB A env e)), fun j hj => absurd hj (Nat.not_lt_zero j)⟩ ?_ ?_
 ·rintro i σ' ⟨v3, v4, v8, ws, tk, oW, G', fp', rfl, hG, _⟩; exact .inl (hG _ _ hrl)
 ·rintro i v p KL hKL QM hQM σ' hi ⟨v3, v4, v8, ws, tk, oW, G', fp', rfl, hG, hP', hW, hws⟩
  have o2 := o.hide p
  obtain ⟨j, hj, a, tl, kt, rfl, hat⟩ := hrv.get hi
  obtain ⟨rfl, hj6⟩ := get6 hj
  refine hQM _ ?_
  have D1 := C1.mono hG
  have D3 := C3.mono hG
  refine Do.assignTuple ?_
  refine Do.unpackT o2 (.inl (hG _ _ hat)) rfl rfl ?_
  refine Do.inOrder_cons ?_
  refine Do.assignName o2 3 rfl (by first | exact Nat.le_of_ble_eq_true rfl | lia) ?_
  refine Do.inOrder_cons ?_
  refine Do.assignName o2 4 rfl (by first | exact Nat.le_of_ble_eq_true rfl | lia) ?_
  refine Do.inOrder_nil ?_
  refine Do.reS1 o2 tb476 30 ?_
  intro t1 t2 t3 t4 t5
  refine Do.newListG (Nat.le_of_ble_eq_true rfl) ?_
  intro t6
  refine Do.cell o2 CE 3 (a := c3) (by kernel_rfl) (D3.mono fun _ _ x => (.inl x)) ?_
  intro t7
  refine Do.draw o2 hP' (ex := [_, _]) rfl (by first | decide | lia | exact Int.natCast_pos.mpr (Nat.le_of_ble_eq_true rfl)) ?_
  intro t8 t9 t10 t11 t12 t13 t14 t15
  refine Do.menuI (zs := [0, 1, 4294967295, 2147483648, 2147483647]) (fun z => True) (.inl (t12 _ _ gadd_at)) ⟨⟨_, rfl⟩, ⟨_, rfl⟩, ⟨_, rfl⟩, ⟨_, rfl⟩, ⟨_, rfl⟩, trivial⟩ (fun _ _ => trivial) t14 (by exact t15) (by decide) fun z tz hz => ?_
  have upg : ∀ a o, G' a o → t10 a o := fun a o x => t12 a o (.inl x)
  obtain ⟨tff, hform⟩ := ((hb.ty (fmOf j)).mono hG).mono upg
  have E1 := D1.mono upg
  generalize hfj : fmOf j = f at hform ⊢
  refine Do.cell o2 CE 3 (a := c3) (by kernel_rfl) (D3.mono fun _ _ x => (upg _ _ x)) ?_
  intro t16
  refine Do.draw o2 t13 (ex := [_, _]) rfl (by first | decide | lia | exact Int.natCast_pos.mpr (Nat.le_of_ble_eq_true rfl)) ?_
  intro t17 t18 t19 t20 t21 t22 t23 t24 t25
  refine Do.reS1 o2 tb476 30 ?_
  refine Do.dictS (by kernel_rfl) ?_
  intro t26
  refine Do.pairs_cons ?_
  refine Do.const_str ?_
  intro t27
  refine Do.const_int ?_
  intro t28
  refine Do.pairs_cons ?_
  refine Do.const_str ?_
  intro t29
  refine Do.const_int ?_
  intro t30
  refine Do.pairs_cons ?_
  refine Do.const_str ?_
  intro t31
  refine Do.const_int ?_
  intro t32
  refine Do.pairs_cons ?_
  refine Do.const_str ?_
  intro t33
  refine Do.const_int ?_
  intro t34
  refine Do.pairs_nil ?_
  refine DictEnd.mk [] rfl (by kernel_rfl) ?_
  intro t35 t36
  refine Do.gP o2 (hform.mono fun _ _ x => (t21 _ _ x)) ?_
  refine Do.dget (.inr (mm 0 rfl)) t36 (strKind_is _ _ _ _) (v := .int (modOf f) (match f with | .I => t28 | .M => t30 | .B => t32 | .C => t34)) (by cases f <;> kernel_rfl) ?_
  refine Do.mod (modOf_ne f) ?_
  intro t37
  refine Do.cell o2 CE 1 (a := c1) (by kernel_rfl) (E1.mono fun _ _ x => (t21 _ _ x)) ?_
  refine Do.drop 0 rfl rfl ?_
  refine Do.dset (ex := []) rfl hW (strKind_is _ _ _ _) (by rw [wkv_len]; lia) fun o' DW' => ?_
  rw [wkv_new hj6] at DW'
  refine hKL ?_; refine ⟨_, _, _, _, _, _, _, t20, rfl, fun a o x => t21 a o (upg a o (hG a o x)), t22, DW', fun m hm => ?_⟩
  unfold upd
  by_cases hmj : m = j
  ·rw [if_pos hmj, hmj, hfj]
   exact wordIn_mod f _
  ·rw [if_neg hmj]; exact hws m (by lia)
 ·rintro QM hQM σ' ⟨v3, v4, v8, ws, tk, oW, G', fp', rfl, hG, hP', hW, hws⟩
  have h6 : rvs.length = 6 := hrv.length
  rw [h6] at hW hws
  refine hQM _ ?_
  exact k _ _ _ _ _ _ _ _ hG (wordsOK_of hws) hW hP'
end
end Mine
end
section
namespace Mine
open PySem PySem.W PyProof.Rows PySem.Calls H
open PySem.Spec (ltCps)
noncomputable def codeS (s : Str) : Nat := s.cps.toList.head?.getD 0
noncomputable def Lab (s : Str) : Prop := ∃ i, i < 6 ∧ s = S (varLabel i)
theorem code_lt {a b : Str} (ha : Lab a) (hb : Lab b) : ltCps a.cps.toList b.cps.toList = decide (codeS a < codeS b) := by
 obtain ⟨i, hi, rfl⟩ := ha
 obtain ⟨j, hj, rfl⟩ := hb
 have hI : i = 0 ∨ i = 1 ∨ i = 2 ∨ i = 3 ∨ i = 4 ∨ i = 5 := by lia
 have hJ : j = 0 ∨ j = 1 ∨ j = 2 ∨ j = 3 ∨ j = 4 ∨ j = 5 := by lia
 rcases hI with rfl | rfl | rfl | rfl | rfl | rfl <;> rcases hJ with rfl | rfl | rfl | rfl | rfl | rfl <;> kernel_rfl
theorem code_inj {a b : Str} (ha : Lab a) (hb : Lab b) (h : codeS a = codeS b) : a = b := by
 obtain ⟨i, hi, rfl⟩ := ha
 obtain ⟨j, hj, rfl⟩ := hb
 have hc : ∀ i, i < 6 → codeS (S (varLabel i)) = [97, 98, 115, 116, 112, 99].getD i 0 := six (by kernel_rfl) (by kernel_rfl) (by kernel_rfl) (by kernel_rfl) (by kernel_rfl) (by kernel_rfl)
 rw [hc i hi, hc j hj] at h
 have hI : i = 0 ∨ i = 1 ∨ i = 2 ∨ i = 3 ∨ i = 4 ∨ i = 5 := by lia
 have hJ : j = 0 ∨ j = 1 ∨ j = 2 ∨ j = 3 ∨ j = 4 ∨ j = 5 := by lia
 rcases hI with rfl | rfl | rfl | rfl | rfl | rfl <;> rcases hJ with rfl | rfl | rfl | rfl | rfl | rfl <;> first | rfl | exact absurd h (by decide)
theorem rising_pw : ∀ (l : List Str) (p : Str), (∀ x ∈ p :: l, Lab x) → risingS p l = true → (p :: l).Pairwise (fun a b => codeS a ≤ codeS b)
 | [], p, _, _ => List.pairwise_singleton _ _
 | x :: r, p, hl, h => by
  simp only [risingS, Bool.and_eq_true, Bool.not_eq_true'] at h
  have h2 := rising_pw r x (fun y hy => hl y (.tail _ hy)) h.2
  have h1 : codeS p ≤ codeS x := by
   have := h.1
   rw [code_lt (hl x (.tail _ (.head _))) (hl p (.head _))] at this
   have := of_decide_eq_false this
   lia
  refine List.pairwise_cons.mpr ⟨fun y hy => ?_, h2⟩
  rcases List.mem_cons.mp hy with rfl | hy
  ·exact h1
  ·exact Nat.le_trans h1 ((List.pairwise_cons.mp h2).1 y hy)
theorem sorted_pw {l : List Str} (hl : ∀ x ∈ l, Lab x) (h : sortedS l = true) : l.Pairwise (fun a b => codeS a ≤ codeS b) := by
 cases l with
 | nil => exact List.Pairwise.nil
 | cons x r => exact rising_pw r x hl h
theorem sorted_uniq {l l1 l2 : List Str} (hl : ∀ x ∈ l, Lab x) (p1 : l1.Perm l) (p2 : l2.Perm l) (s1 : sortedS l1 = true) (s2 : sortedS l2 = true) : l1 = l2 := by
 have h1 : ∀ x ∈ l1, Lab x := fun x hx => hl x (p1.mem_iff.mp hx)
 have h2 : ∀ x ∈ l2, Lab x := fun x hx => hl x (p2.mem_iff.mp hx)
 exact List.Perm.eq_of_pairwise (le := fun a b => codeS a ≤ codeS b) (fun a b ha hb hab hba => code_inj (h1 a ha) (h2 b hb) (by lia)) (sorted_pw h1 s1) (sorted_pw h2 s2) (p1.trans p2.symm)
theorem strsAre_eq : ∀ {vs ws : List Value} {ss : List Str}, StrsAre vs ss → StrsAre ws ss → All2 (fun x y => eqB x y = some true) vs ws
 | _, _, _, .nil, .nil => trivial
 | _, _, _, .cons y t h, .cons _ t2 h2 => ⟨by show some (y == y) = some true; rw [beq_self_eq_true], strsAre_eq h h2⟩
theorem LabV.strs : ∀ {vs : List Value} {us : List Nat}, LabV vs us → StrsAre vs (us.map fun i => S (varLabel i))
 | [], [], _ => .nil
 | v :: vs, j :: us, ⟨⟨tv, e⟩, h⟩ => by subst e; exact .cons _ _ (LabV.strs h)
theorem labs_lab {us : List Nat} (h : ∀ j ∈ us, j < 6) : ∀ x ∈ us.map (fun i => S (varLabel i)), Lab x := fun x hx => by
 obtain ⟨i, hi, rfl⟩ := List.mem_map.mp hx
 exact ⟨i, h i hi, rfl⟩
theorem sorted_same {us : List Nat} {vs1 vs2 : List Value} {s1 s2 : List Str} (h : ∀ j ∈ us, j < 6) (h1 : StrsAre vs1 s1) (h2 : StrsAre vs2 s2) (p1 : s1.Perm (us.map fun i => S (varLabel i))) (p2 : s2.Perm (us.map fun i => S (varLabel i))) (o1 : sortedS s1 = true) (o2 : sortedS s2 = true) : All2 (fun x y => eqB x y = some true) vs1 vs2 := by
 have e := sorted_uniq (labs_lab h) p1 p2 o1 o2
 subst e
 exact strsAre_eq h1 h2
end Mine
end
section
namespace Mine
open PySem PySem.W PyProof.Rows PySem.Calls H
theorem perm_dbca {α : Type} {a b c d : α} : [a, b, c, d].Perm [d, b, c, a] :=
 (List.perm_append_comm (l₁ := [a]) (l₂ := [b, c, d])).trans ((List.perm_append_comm (l₁ := [b, c]) (l₂ := [d])).append_right [a])
theorem intL_same : ∀ {xs : List Int} {vs ws : List Value}, All2 (fun v x => ∃ t, v = .int x t) vs xs → All2 (fun v x => ∃ t, v = .int x t) ws xs → All2 (fun x y => eqB x y = some true) vs ws
 | [], [], [], _, _ => trivial
 | [], _ :: _, _, h, _ => h.elim
 | [], [], _ :: _, _, h2 => h2.elim
 | _ :: _, [], _, h, _ => h.elim
 | _ :: _, _ :: _, [], _, h2 => h2.elim
 | _ :: _, _ :: _, _ :: _, ⟨⟨t, e⟩, h⟩, ⟨⟨t2, e2⟩, h2⟩ => ⟨by subst e e2; show some (_ == _) = some true; rw [beq_self_eq_true], intL_same h h2⟩
structure ExprOK (ws : Nat → Int) (t : Tr) : Prop where
 rows : RowsOK ((MS.empty.low t).2.rows ++ [⟨"out", 0, (MS.empty.low t).1, 0⟩]) (MS.empty.low t).2.rows.length
 ins : (MS.empty.low t).2.inputs = usd [] [] t
 out : outVals ((usd [] [] t).map ws) ((MS.empty.low t).2.rows ++ [⟨"out", 0, (MS.empty.low t).1, 0⟩]) (MS.empty.low t).2.rows.length = [den ws t]
section
variable {w : World} {hB : Heap} {mg mb : Str → Option Value} {G : Gh} {A : Around} {env : Env} {e : Ent} {n : Nat} {c0 c1 c2 c3 : Addr} {P : Value → Gh → Led → Prop}
set_option maxHeartbeats 800000 in
theorem law_expr (B : Base w hB mg mb) (o : (cLaw w hB A env e).Ok mg mb (n + 29)) (hfa : e.fa = []) (CE : CellOK env (cs476 c0 c1 c2 c3)) {ta wd rl sa al : Addr} {o0 oW : PySem.Obj} {bk : Bk} {v3 v4 v5 v6 v8 : Option Value} {ws : Nat → Int} {tk : Nat → Tok} {t : Tr} (C1 : CellG G c1 (.ref wd))
  (hb : BookOK G bk) (hws : WordsOK ws) (hW : oW.IsDictOf (sKd w) (wkv ws tk 6)) (ht : NodeIs G bk t al) (hw : WT t) (hh : t.ht ≤ 3) (hc : t.cost ≤ 60) (hE : ExprOK ws t)
  (k : ∀ v9 v10 v11 oW' tk' G', (∀ a o, G a o → G' a o) → oW'.IsDictOf (sKd w) (wkv ws tk' 6) →
   Do (cLaw w hB A env e) ⟨[some (.ref sa), some (.ref ta), some (.ref rl), v3, v4, v5, v6, some (.ref al), v8, v9, v10, v11] ++ List.replicate 5 none, G', [(wd, oW'), (c0, o0)]⟩ (execs ((dF 55).2.1.drop 14) env) (Left [] P)) :
  Do (cLaw w hB A env e) ⟨[some (.ref sa), some (.ref ta), some (.ref rl), v3, v4, v5, v6, some (.ref al), v8] ++ List.replicate 8 none, G, [(wd, oW), (c0, o0)]⟩ (execs ((dF 55).2.1.drop 9) env) (Left [] P) := by
 refine Do.reS1 o tb476 30 ?_
 refine Do.byContract0 o ((lower_expr_spec B (n + 12) hw (by lia) hb ht (by lia)).le (by lia)) ?_
 intro QM r1 G1 hG1 p1
 obtain ⟨x, rfl, L⟩ := p1
 refine Do.reS1 o tb476 30 ?_
 refine Do.newListS (Nat.le_of_ble_eq_true rfl) ?_
 intro t1 t2
 refine Do.reS1 o tb476 30 ?_
 refine Do.cell o CE 1 (a := c1) (by kernel_rfl) (C1.mono fun _ _ x => (hG1 _ _ x)) ?_
 refine Do.newListS (Nat.le_of_ble_eq_true rfl) ?_
 intro t3 t4
 refine Do.perm perm_dbca ?_
 refine Do.byContract o ((word_spec (ws := ws) (uf := t1) (wd := wd) (sn := t3) B hws (hb.mono hG1) hw (n + 20) al (ht.mono hG1) (by lia) _ [] [] [(t1, lobj []), (wd, oW), (t3, lobj [])] (fun _ _ x => x) ⟨_, _, _, tk, _, _, rfl, trivial, hW, trivial⟩ nofun nofun (by simp; lia) (by simp)).le (by lia)) (ex := [(c0, o0)]) rfl ?_
 intro QM r2 G2 fp2 hG2 p2
 obtain ⟨⟨tk2, rfl⟩, uvs, nu, oW2, tks2, svs, ns, rfl, LU, DW, LS⟩ := p2
 have hus : ∀ j ∈ usd [] [] t, j < 6 := usd_lt [] hw nofun
 have hul := usd_len [] t []
 have hG12 : ∀ a o, G a o → G2 a o := fun a o x => hG2 a o (hG1 a o x)
 obtain ⟨⟨ra, rvs, rn, hra1, hra2, hra3⟩, ⟨ia, inn, hia1, hia2⟩, _⟩ := L
 rw [hE.ins] at hia2
 have hrl : ((MS.empty.low t).2.rows ++ [⟨"out", 0, (MS.empty.low t).1, 0⟩] : List Row).length ≤ 900000 := by
  have h2 := MS.low_sz t MS.empty
  have h3 := MS.rows_sz (s := (MS.empty.low t).2)
  have h4 : MS.empty.sz = 0 := rfl
  simp; lia
 refine Do.newListG (Nat.le_of_ble_eq_true rfl) ?_
 intro t5
 refine Do.reS1 o tb476 30 ?_
 refine Do.is_ (by rfl) ?_
 refine if0 ?_
 refine Do.gP o (hra1.mono fun _ _ x => (.inl (hG2 _ _ x))) ?_
 refine Do.freezeF hfa 1 rfl rfl ?_
 refine Do.drop 2 rfl rfl ?_
 have m2 : ∀ a o, G2 a o → gadd (gadd G2 t5 (lobj [.int (den ws t) tk2])) t1 (lobj uvs nu) a o := fun a o x => .inl (.inl x)
 have g5 : gadd (gadd G2 t5 (lobj [.int (den ws t) tk2])) t1 (lobj uvs nu) t5 (lobj [.int (den ws t) tk2]) := .inl gadd_at
 have g1 : gadd (gadd G2 t5 (lobj [.int (den ws t) tk2])) t1 (lobj uvs nu) t1 (lobj uvs nu) := gadd_at
 generalize hG3 : gadd (gadd G2 t5 (lobj [.int (den ws t) tk2])) t1 (lobj uvs nu) = G3 at m2 g5 g1
 refine Do.byContract0 o ((problems_spec B n (m2 _ _ (hG2 _ _ hra2)) (hra3.mono fun _ _ => RowIn.mono fun a o x => m2 _ _ (hG2 _ _ x)) hE.rows (by lia)).le (by lia)) ?_
 intro QM r4 G4 hG4 p4
 obtain ⟨pl, pk, rfl, hpl⟩ := p4
 refine Do.newListS (Nat.le_of_ble_eq_true rfl) ?_
 intro t6 t7
 refine Do.neL_same o (.inl hpl) (.inr (mm 0 rfl)) trivial ?_
 refine if0 ?_
 refine Do.callG ?_
 refine Do.builtinK o 10 rfl (v := (.builtin "sorted")) (by kernel_rfl) (by kernel_rfl) (by kernel_rfl) ?_
 refine Do.callWith_b1 ?_
 refine Do.reL o tb476 30 ?_
 refine Do.drop 0 rfl rfl ?_
 refine Do.listComp [] o CE (by kernel_rfl) ?_
 refine Do.reE o tb476 30 ?_
 refine Do.gP o (hia1.mono fun _ _ x => (hG4 _ _ (m2 _ _ (hG2 _ _ x)))) ?_
 have huL : (usd [] [] t).length ≤ 60 := by simp at hul; lia
 have hrefs : (bk.refs (usd [] [] t)).length = (usd [] [] t).length := by simp [Bk.refs]
 have hia4 : G4 ia (lobj (bk.refs (usd [] [] t)) inn) := hG4 _ _ (m2 _ _ (hG2 _ _ hia2))
 have hb4 : BookOK G4 bk := hb.mono fun a o x => hG4 a o (m2 a o (hG12 a o x))
 refine ⟨rfl, CompSrc.list (vs := bk.refs (usd [] [] t)) (n := inn) (fun i ys Gx mu => (∀ a o, G4 a o → Gx a o) ∧ LabV ys ((usd [] [] t).take i) ∧ mu = [(c0, o0), (wd, oW2)]) ?_ (by lia) ⟨fun _ _ x => x, trivial, rfl⟩ ?_ ?_⟩
 ·rintro i ys Gx mu ⟨h, _, _⟩
  exact .inl (h _ _ hia4)
 ·rintro i v ys Gx mu env2 Cc2 hid2 hi hv ⟨hGx, hys, rfl⟩ CE2 o2
  refine Do.tests_nil (ite_t rfl ?_)
  have hv' : (bk.refs (usd [] [] t))[i]? = some v := hv
  rw [Bk.refs, List.getElem?_map] at hv'
  obtain ⟨j, hj, rfl⟩ := Option.map_eq_some_iff.mp hv'
  obtain ⟨-, ⟨tn, hname⟩, -⟩ := (hb4.var j (hus j (List.mem_of_getElem? hj))).mono hGx
  have htake : (usd [] [] t).take (i + 1) = (usd [] [] t).take i ++ [j] := by rw [List.take_add_one, hj]; rfl
  refine Do.reE o2 tb476 30 ?_
  refine Do.name o2 0 rfl rfl ?_
  refine Do.gP o2 hname ?_
  exact ⟨hGx, by rw [htake]; exact hys.append (all2_one ⟨tn, rfl⟩), rfl⟩
 ·rintro ys G5 mu D ⟨hG5, hys, rfl⟩ hD
  rw [hrefs, List.take_length] at hys
  refine Do.sortedS (.inr (mm 0 rfl)) hys.strs (by have := hys.length; lia) fun r6 vs6 ss6 e6 a1 a2 a3 => ?_
  refine Do.callG ?_
  refine Do.builtinK o 10 rfl (v := (.builtin "sorted")) (by kernel_rfl) (by kernel_rfl) (by kernel_rfl) ?_
  refine Do.callWith_b1 ?_
  refine Do.reL o tb476 30 ?_
  refine Do.sortedS (.inl (.inl (hG5 _ _ (hG4 _ _ g1)))) LU.strs (by have := LU.length; lia) fun r7 vs7 ss7 e7 b1 b2 b3 => ?_
  refine Do.neL_same o (.inl (.inl gadd_at)) (.inl gadd_at) (sorted_same hus a1 b1 a2 b2 a3 b3) ?_
  refine if0 ?_
  refine if0 ?_
  refine Do.reS1 o tb476 30 ?_
  refine Do.gP o (hra1.mono fun _ _ x => (.inl (.inl (hG5 _ _ (hG4 _ _ (m2 _ _ (hG2 _ _ x))))))) ?_
  refine Do.drop 0 rfl rfl ?_
  have up5 : ∀ a o, G4 a o → gadd (gadd G5 r6 (lobj vs6 e6)) r7 (lobj vs7 e7) a o := fun a o x => .inl (.inl (hG5 a o x))
  refine Do.listComp [] o CE (by kernel_rfl) ?_
  refine Do.reE o tb476 30 ?_
  refine Do.gP o (hia1.mono fun _ _ x => (.inl (.inl (hG5 _ _ (hG4 _ _ (m2 _ _ (hG2 _ _ x))))))) ?_
  refine ⟨rfl, CompSrc.list (vs := bk.refs (usd [] [] t)) (n := inn) (fun i ys Gx mu => (∀ a o, gadd (gadd G5 r6 (lobj vs6 e6)) r7 (lobj vs7 e7) a o → Gx a o) ∧ All2 (fun v x => ∃ t, v = .int x t) ys (((usd [] [] t).take i).map ws) ∧ mu = [(c0, o0), (wd, oW2)]) ?_ (by lia) ⟨fun _ _ x => x, trivial, rfl⟩ ?_ ?_⟩
  ·rintro i ys Gx mu ⟨h, _, _⟩
   exact .inl (h _ _ (up5 _ _ hia4))
  ·rintro i v ys Gx mu env2 Cc2 hid2 hi hv ⟨hGx, hys, rfl⟩ CE2 o2
   refine Do.tests_nil (ite_t rfl ?_)
   have hv' : (bk.refs (usd [] [] t))[i]? = some v := hv
   rw [Bk.refs, List.getElem?_map] at hv'
   obtain ⟨j, hj, rfl⟩ := Option.map_eq_some_iff.mp hv'
   have hj6 := hus j (List.mem_of_getElem? hj)
   obtain ⟨-, ⟨tn, hname⟩, -⟩ := ((hb4.var j hj6).mono up5).mono hGx
   have htake : (usd [] [] t).take (i + 1) = (usd [] [] t).take i ++ [j] := by rw [List.take_add_one, hj]; rfl
   have D1 : CellG Gx c1 (.ref wd) := C1.mono fun a o x => hGx _ _ (up5 _ _ (hG4 _ _ (m2 _ _ (hG12 _ _ x))))
   refine Do.reE o2 tb476 30 ?_
   refine Do.cell o2 CE2 0 (a := c1) (by kernel_rfl) D1 ?_
   refine Do.name o2 0 rfl rfl ?_
   refine Do.gP o2 hname ?_
   refine Do.dget (.inr (mm 1 rfl)) DW (strKind_is _ _ _ _) (wkv_get hj6) ?_
   exact ⟨hGx, by rw [htake, List.map_append]; exact hys.append (all2_one ⟨_, rfl⟩), rfl⟩
  ·rintro ys2 G7 mu D2 ⟨hG7, hys2, rfl⟩ hD2
   rw [hrefs, List.take_length] at hys2
   refine Do.freezeF hfa 0 rfl rfl ?_
   have up7 : ∀ a o, G4 a o → gadd G7 D2 (lsto ys2) a o := fun a o x => .inl (hG7 a o (up5 a o x))
   refine Do.byContract0 o ((meaning_spec B n (up7 _ _ (hG4 _ _ (m2 _ _ (hG2 _ _ hra2)))) (hra3.mono fun _ _ => RowIn.mono fun a o x => up7 _ _ (hG4 _ _ (m2 _ _ (hG2 _ _ x)))) hE.rows ?_ gadd_at hys2 hrl (by simp; lia)).le (by lia)) ?_
   ·intro i r hi hr
    rw [List.getElem?_append_right hi] at hr
    have h0 : i - (MS.empty.low t).2.rows.length = 0 := by
     rcases Nat.eq_zero_or_pos (i - (MS.empty.low t).2.rows.length) with h | h
     ·exact h
     ·rw [List.getElem?_eq_none (by simp; lia)] at hr; cases hr
    rw [h0] at hr ⊢
    rw [← Option.some.inj hr]; rfl
   intro QM r8 G8 hG8 p8
   obtain ⟨ml, os, mk, rfl, hml, hos⟩ := p8
   rw [hE.out] at hos
   refine Do.neL_same o (.inl hml) (.inl (hG8 _ _ (up7 _ _ (hG4 _ _ g5)))) (intL_same hos (all2_one ⟨_, rfl⟩)) ?_
   refine ite_f (by kernel_rfl) ?_
   skip
   refine Do.perm (List.Perm.swap _ _ _) ?_
   exact k _ _ _ oW2 tks2 G8 (fun a o x => hG8 _ _ (up7 _ _ (hG4 _ _ (m2 _ _ (hG12 _ _ x))))) DW
end
end Mine
end
section
namespace Mine
open PySem PySem.W PyProof.Rows PySem.Calls H
noncomputable def LSt.deeds (l : LSt) (ds : List Dd) : LSt := ds.foldl LSt.deed l
theorem LSt.deeds_snoc (l : LSt) (ds : List Dd) (d : Dd) : l.deeds (ds ++ [d]) = (l.deeds ds).deed d := by simp [LSt.deeds]
theorem usd_nd (ss : List Nat) : ∀ (t : Tr) {us : List Nat}, us.Nodup → (usd ss us t).Nodup
 | .const _ _, us, h => h
 | .var i, us, h => by
  unfold usd
  split
  ·exact h
  ·rename_i hn
   refine List.nodup_append.mpr ⟨h, List.nodup_cons.mpr ⟨by simp, List.nodup_nil⟩, fun a ha b hb hab => ?_⟩
   rw [List.mem_singleton.mp hb] at hab
   exact hn (.inr (hab ▸ ha))
 | .std1 _ _ t, us, h => usd_nd ss t h
 | .std2 _ _ t _, us, h => usd_nd ss t h
 | .set _, us, h => h
 | .un _ _ t, us, h => usd_nd ss t h
 | .bin _ _ l r, us, h => usd_nd ss r (usd_nd ss l h)
theorem nd_len_n : ∀ (n : Nat) {l : List Nat}, l.Nodup → (∀ j ∈ l, j < n) → l.length ≤ n
 | 0, [], _, _ => Nat.le_refl _
 | 0, x :: l, _, h => absurd (h x (.head _)) (Nat.not_lt_zero x)
 | n + 1, l, hd, h => by
  by_cases hn : n ∈ l
  ·have h1 := nd_len_n n (hd.erase n) fun j hj => by
    have := (List.Nodup.mem_erase_iff hd).mp hj
    have := h j this.2
    lia
   have h2 := List.length_erase_of_mem hn
   have h3 := List.length_pos_of_mem hn
   lia
  ·have := nd_len_n n hd fun j hj => by
    have h1 := h j hj
    have h2 : j ≠ n := fun e => hn (e ▸ hj)
    lia
   lia
theorem nd_len {l : List Nat} (h : l.Nodup) (h6 : ∀ j ∈ l, j < 6) : l.length ≤ 6 := nd_len_n 6 h h6
theorem addS_lt {ss : List Nat} {i : Nat} (h : ∀ j ∈ ss, j < 6) (hi : i < 6) : ∀ j ∈ addS ss i, j < 6 := fun j hj => by
 unfold addS at hj
 split at hj
 ·exact h j hj
 ·rcases List.mem_append.mp hj with hj | hj
  ·exact h j hj
  ·rw [List.mem_singleton.mp hj]; exact hi
theorem addS_nd {ss : List Nat} {i : Nat} (h : ss.Nodup) : (addS ss i).Nodup := by
 unfold addS
 split
 ·exact h
 ·rename_i hn
  refine List.nodup_append.mpr ⟨h, List.nodup_cons.mpr ⟨by simp, List.nodup_nil⟩, fun a ha b hb hab => ?_⟩
  rw [List.mem_singleton.mp hb] at hab
  exact hn (hab ▸ ha)
theorem upd_ok {ws : Nat → Int} {i : Nat} {v : Int} (h : WordsOK ws) (hi : i < 6) (hv : WordIn (fmOf i) v) : WordsOK (upd ws i v) := by
 have hw : ∀ j, j < 6 → WordIn (fmOf j) (ws j) := fun j hj => ⟨h.inW j hj, fun e => by
   have : j = 4 := by
    match j, hj, e with
    | 4, _, _ => rfl
   subst this; exact h.b, fun e => by
   have : j = 5 := by
    match j, hj, e with
    | 5, _, _ => rfl
   subst this; exact h.c⟩
 refine wordsOK_of fun j hj => ?_
 unfold upd
 by_cases e : j = i
 ·rw [if_pos e, e]; exact hv
 ·rw [if_neg e]; exact hw j hj
theorem bit_split {v : Int} (h0 : 0 ≤ v) (h1 : v < 32) : (0 : Int) < 2 ^ v.toNat ∧ ∃ m : Int, 2 ^ v.toNat * (2 * m) = 4294967296 := by
 have hp : (0 : Int) < 2 ^ v.toNat := Int.pow_pos (by decide)
 refine ⟨hp, 2 ^ (31 - v.toNat), ?_⟩
 have e : (2 : Int) ^ v.toNat * (2 * 2 ^ (31 - v.toNat)) = 2 ^ (v.toNat + (31 - v.toNat) + 1) := by rw [Int.pow_succ, Int.pow_add]; simp only [Int.mul_assoc, Int.mul_comm, Int.mul_left_comm]
 rw [e]
 have : v.toNat + (31 - v.toNat) + 1 = 32 := by lia
 rw [this]; decide
theorem incl_in {a v : Int} (ha : InW a) (h0 : 0 ≤ v) (h1 : v < 32) : InW (chg "INCL" a v) ∧ InW (chg "EXCL" a v) := by
 obtain ⟨hp, m, hm⟩ := bit_split h0 h1
 rw [chg_INCL, chg_EXCL]
 generalize hP : (2 : Int) ^ v.toNat = p at hp hm
 have hf : a.fdiv p = a / p := Int.fdiv_eq_ediv_of_nonneg _ (by lia)
 have hq := Int.mul_ediv_add_emod a p
 have hr0 := Int.emod_nonneg a (show p ≠ 0 by lia)
 have hr1 := Int.emod_lt_of_pos a hp
 have h2 : (a.fdiv p).fmod 2 = (a / p) % 2 := by rw [hf, Int.fmod_eq_emod_of_nonneg _ (by decide)]
 have hq0 : 0 ≤ a / p := Int.ediv_nonneg ha.1 (by lia)
 rw [h2]
 have hlt : a < p * (2 * m) := hm ▸ ha.2
 have hqm : a / p < 2 * m := Int.ediv_lt_of_lt_mul hp (by rw [Int.mul_comm]; exact hlt)
 constructor
 ·split
  ·exact ha
  ·rename_i hn
   have h3 : a / p + 2 ≤ 2 * m := by lia
   have h4 : p * (a / p + 2) ≤ p * (2 * m) := Int.mul_le_mul_of_nonneg_left h3 (by lia)
   rw [hm, Int.mul_add] at h4
   exact ⟨by have := ha.1; lia, by lia⟩
 ·split
  ·rename_i hy
   have h3 : 1 ≤ a / p := by lia
   have h4 : p * 1 ≤ p * (a / p) := Int.mul_le_mul_of_nonneg_left h3 (by lia)
   exact ⟨by lia, by have := ha.2; lia⟩
  ·exact ha
theorem LSt.deed_ok {l : LSt} (h : l.OK) {d : Dd} (hw : WD d) : (l.deed d).OK := by
 cases hw with
 | assign i t hi wt hf =>
  refine ⟨usd_lt _ wt h.us, addS_lt h.ss hi, upd_ok h.ws hi ?_⟩
  rw [← hf]; exact den_in h.ws wt
 | change name i t hi wt hc =>
  refine ⟨usd_lt _ (.var i hi) (usd_lt _ wt h.us), addS_lt h.ss hi, upd_ok h.ws hi ?_⟩
  rcases hc with ⟨hn, hf, _⟩ | ⟨hn, hf, v, rfl, h0, h1⟩
  ·rw [hf]
   refine ⟨?_, nofun, nofun⟩
   rcases hn with rfl | rfl
   ·exact inW_fmod _
   ·exact inW_fmod _
  ·rw [hf]
   refine ⟨?_, nofun, nofun⟩
   have hden : den l.ws (.const .I v) = v := fmod_id ⟨h0, by lia⟩
   rw [hden]
   have := incl_in (h.ws.inW i hi) h0 h1
   rcases hn with rfl | rfl
   ·exact this.1
   ·exact this.2
theorem LSt.deed_nd {l : LSt} (hu : l.us.Nodup) (hs : l.ss.Nodup) (d : Dd) : (l.deed d).us.Nodup ∧ (l.deed d).ss.Nodup := by
 cases d with
 | assign i t => exact ⟨usd_nd _ _ hu, addS_nd hs⟩
 | change name i t => exact ⟨usd_nd _ _ (usd_nd _ _ hu), addS_nd hs⟩
theorem LSt.deeds_ok {ds : List Dd} (hw : ∀ d ∈ ds, WD d) : ∀ {l : LSt}, l.OK → l.us.Nodup → l.ss.Nodup → (l.deeds ds).OK ∧ (l.deeds ds).us.Nodup ∧ (l.deeds ds).ss.Nodup := by
 induction ds with
 | nil => exact fun h1 h2 h3 => ⟨h1, h2, h3⟩
 | cons d ds ih => exact fun {l} h1 h2 h3 => ih (fun x hx => hw x (.tail _ hx)) (LSt.deed_ok h1 (hw d (.head _))) (LSt.deed_nd h2 h3 d).1 (LSt.deed_nd h2 h3 d).2
end Mine
end
section
namespace Mine
open PySem PySem.W PyProof.Rows PySem.Calls H
noncomputable abbrev bM (ds : List Dd) : MS := MS.empty.deeds ds
noncomputable abbrev bRows (ds : List Dd) : List Row := (bM ds).rows ++ outs (bM ds).held 0 (bM ds).stored
noncomputable abbrev bL (ws : Nat → Int) (ds : List Dd) : LSt := (⟨[], [], ws⟩ : LSt).deeds ds
structure BlockOK (ws : Nat → Int) (ds : List Dd) : Prop where
 ho : (bM ds).HoOK
 rows : RowsOK (bRows ds) (bM ds).rows.length
 d : ∀ i r, (bM ds).rows.length ≤ i → (bRows ds)[i]? = some r → r.d = ((i - (bM ds).rows.length : Nat) : Int)
 ins : (bM ds).inputs = (bL ws ds).us
 sts : (bM ds).stored = (bL ws ds).ss
 out : outVals ((bL ws ds).us.map ws) (bRows ds) (bM ds).rows.length = (bL ws ds).ss.map (bL ws ds).ws
theorem costD_le {ds : List Dd} (h : ∀ d ∈ ds, d.cost ≤ 100) : costD ds ≤ 100 * ds.length := by
 induction ds with
 | nil => exact Nat.le_refl _
 | cons d ds ih =>
  have := h d (.head _)
  have := ih fun x hx => h x (.tail _ hx)
  simp only [costD, List.length_cons]; lia
section
variable {w : World} {hB : Heap} {mg mb : Str → Option Value} {G : Gh} {A : Around} {env : Env} {e : Ent} {n : Nat} {c0 c1 c2 c3 : Addr} {P : Value → Gh → Led → Prop}
set_option maxHeartbeats 800000 in
theorem law_block1 (B : Base w hB mg mb) (o : (cLaw w hB A env e).Ok mg mb (n + 29)) (hfa : e.fa = []) (CE : CellOK env (cs476 c0 c1 c2 c3)) {ta wd rl sa dl al : Addr} {o0 oW : PySem.Obj} {bk : Bk} {v3 v4 v5 v8 v9 v10 v11 : Option Value} {ws : Nat → Int} {tk : Nat → Tok} {dvs : List Value} {dn : Nat} {ds : List Dd} (C1 : CellG G c1 (.ref wd)) (d0 : o0.data = .cell none)
  (hb : BookOK G bk) (hws : WordsOK ws) (hW : oW.IsDictOf (sKd w) (wkv ws tk 6)) (hdl : G dl (lobj dvs dn)) (hds : DeedsV G bk dvs ds) (hd6 : ds.length ≤ 6) (hE : BlockOK ws ds)
  (k : ∀ gd oG x uf sn uvs nu svs ns v13 oW' tk' G', (∀ a o, G a o → G' a o) → CellG G' c0 (.ref gd) → G' gd oG → oG.IsDictOf (sKd w) (wkv ws tk 6) → LowIs G' bk x (bRows ds) (bM ds).inputs (bM ds).stored → G' uf (lobj uvs nu) → LabV uvs (bL ws ds).us → G' sn (lobj svs ns) → LabV svs (bL ws ds).ss → oW'.IsDictOf (sKd w) (wkv (bL ws ds).ws tk' 6) →
   Do (cLaw w hB A env e) ⟨[some (.ref sa), some (.ref ta), some (.ref rl), v3, v4, v5, some (.ref dl), some (.ref al), v8, some (.ref x), some (.ref uf), v11, some (.ref sn), v13] ++ List.replicate 3 none, G', [(wd, oW')]⟩ (execs ((dF 55).2.1.drop 19) env) (Left [] P)) :
  Do (cLaw w hB A env e) ⟨[some (.ref sa), some (.ref ta), some (.ref rl), v3, v4, v5, some (.ref dl), some (.ref al), v8, v9, v10, v11] ++ List.replicate 5 none, G, [(wd, oW), (c0, o0)]⟩ (execs ((dF 55).2.1.drop 14) env) (Left [] P) := by
 have hcost := costD_le fun d hd => (hds.2 d hd).2.2
 refine Do.reS1 o tb476 30 ?_
 intro t1
 refine Do.byContract0 o ((make_spec3 B n _ _ _ rfl rfl rfl).le (by lia)) ?_
 intro QM r1 G1 hG1 p1
 obtain ⟨bx, rfl, hbx⟩ := p1
 refine Do.byContract0 o ((lower_block_spec B (n + 20) (fun d hd => (hds.2 d hd).1) (fun d hd => by have := (hds.2 d hd).2.1; lia) (hb.mono hG1) hbx.node (hG1 _ _ hdl) (hds.1.mono fun _ _ ⟨b, e1, e2⟩ => ⟨b, e1, e2.mono hG1⟩) (by lia) hE.ho).le (by lia)) ?_
 intro QM r2 G2 hG2 p2
 obtain ⟨x, rfl, L⟩ := p2
 have hG12 : ∀ a o, G a o → G2 a o := fun a o x => hG2 a o (hG1 a o x)
 refine Do.reS1 o tb476 30 ?_
 refine Do.assign_cell o CE 0 rfl (by rfl) ?_
 refine Do.callG ?_
 refine Do.builtinK o 14 rfl (v := (.type "dict")) (by kernel_rfl) (by kernel_rfl) (by kernel_rfl) ?_
 refine Do.callWith_t1 ?_
 refine Do.reL o tb476 30 ?_
 refine Do.cell o CE 1 (a := c1) (by kernel_rfl) (C1.mono fun _ _ x => (hG12 _ _ x)) ?_
 refine Do.dictCopy o (mm 0 rfl) hW (by rw [wkv_len]; lia) fun gd oG hgd hGd => ?_
 refine ⟨[(gd, oG), (wd, oW)], [], o0, none, rfl, d0, fun o0' d0' => ?_⟩
 refine Do.freezeF hfa 2 rfl rfl ?_
 refine Do.freezeF hfa 0 rfl rfl ?_
 have up : ∀ a o, G2 a o → gadd (gadd G2 c0 o0') gd oG a o := fun a o x => .inl (.inl x)
 have C0 : CellG (gadd (gadd G2 c0 o0') gd oG) c0 (.ref gd) := ⟨o0', .inl gadd_at, d0'⟩
 have hdl3 : gadd (gadd G2 c0 o0') gd oG dl (lobj dvs dn) := up _ _ (hG12 _ _ hdl)
 have l0 : (⟨[], [], ws⟩ : LSt).OK := ⟨nofun, nofun, hws⟩
 refine Do.reS1 o tb476 30 ?_
 refine Do.newListS (Nat.le_of_ble_eq_true rfl) ?_
 intro t2 t3
 refine Do.reS1 o tb476 30 ?_
 refine Do.newListS (Nat.le_of_ble_eq_true rfl) ?_
 intro t4 t5
 refine Do.reS1 o tb476 30 ?_
 refine Do.perm (List.perm_append_comm (l₁ := [(t4, lobj [])]) (l₂ := [(t2, lobj []), (wd, oW)])) ?_
 refine Do.forLp o (by intro _; rfl) ?_
 refine Do.name o 6 rfl rfl ?_
 refine forL_mk (a := dl) (vs := dvs) (n := dn) (fun i σ' => (E3 fun v13 G' fp' => A3 (σ' = ⟨[some (.ref sa), some (.ref ta), some (.ref rl), v3, v4, v5, some (.ref dl), some (.ref al), v8, some (.ref x), some (.ref t2), v11, some (.ref t4), v13] ++ List.replicate 3 none, G', fp'⟩) (∀ a o, gadd (gadd G2 c0 o0') gd oG a o → G' a o) (((⟨[], [], ws⟩ : LSt).deeds (ds.take i)).at w t2 wd t4 fp'))) ?_ ⟨_, _, _, rfl, fun _ _ x => x, ⟨[], 0, oW, tk, [], 0, rfl, trivial, hW, trivial⟩⟩ ?_ ?_
 ·rintro i σ' ⟨v13, G', fp', rfl, hG', F⟩; exact .inl (hG' _ _ hdl3)
 ·rintro i v p KL hKL QM hQM σ' hi ⟨v13, G', fp', rfl, hG', F⟩
  have o2 := o.hide p
  obtain ⟨d, hd, b, rfl, hdi⟩ := hds.1.get hi
  obtain ⟨hdw, hdh, hdc⟩ := hds.2 d (List.mem_of_getElem? hd)
  have htk : ∀ u ∈ ds.take i, WD u := fun u hu => (hds.2 u (List.mem_of_mem_take hu)).1
  obtain ⟨lok, lun, lsn⟩ := LSt.deeds_ok htk l0 List.nodup_nil List.nodup_nil
  refine hQM _ ?_
  have hul := nd_len lun lok.us
  have hsl := nd_len lsn lok.ss
  have upd : ∀ a o, G a o → G' a o := fun a o x => hG' a o (up a o (hG12 a o x))
  have C1' := C1.mono upd
  refine Do.assignName o2 13 rfl (by first | exact Nat.le_of_ble_eq_true rfl | lia) ?_
  refine Do.reS1 o2 tb476 30 ?_
  refine Do.cell o2 CE 1 (a := c1) (by kernel_rfl) C1' ?_
  refine Do.byContract o2 ((done_spec B (n + 20) (hb.mono upd) hdw (hdi.mono upd) (by lia) lok F (by lia) (by lia)).le (by lia)) (ex := []) rfl ?_
  intro QM r3 G3 fp3 hG3 p3
  obtain ⟨rfl, F3⟩ := p3
  have e2 : ds.take (i + 1) = ds.take i ++ [d] := by rw [List.take_add_one, hd]; rfl
  refine hKL ?_; exact ⟨_, G3, fp3, rfl, fun a o x => hG3 a o (hG' a o x), by rw [e2, LSt.deeds_snoc]; exact F3⟩
 ·rintro QM hQM σ' ⟨v13, G', fp', rfl, hG', F⟩
  have hlen : ds.take dvs.length = ds := List.take_of_length_le (by rw [hds.1.length]; exact Nat.le_refl _)
  rw [hlen] at F
  obtain ⟨uvs, nu, oW', tk', svs, ns, rfl, LU, DW, LS⟩ := F
  refine hQM _ ?_
  refine Do.freezeF hfa 2 rfl rfl ?_
  refine Do.freezeF hfa 0 rfl rfl ?_
  have up2 : ∀ a o, G' a o → gadd (gadd G' t4 (lobj svs ns)) t2 (lobj uvs nu) a o := fun a o x => .inl (.inl x)
  obtain ⟨⟨ra, rvs, rn, q1, q2, q3⟩, ⟨ia, inn, q4, q5⟩, ⟨oa, on, q6, q7⟩⟩ := L
  have up3 : ∀ a o, G2 a o → gadd (gadd G' t4 (lobj svs ns)) t2 (lobj uvs nu) a o := fun a o x => up2 a o (hG' a o (up a o x))
  exact k gd oG x t2 t4 uvs nu svs ns v13 oW' tk' _ (fun a o x => up3 a o (hG12 a o x)) (C0.mono fun a o x => up2 a o (hG' a o x)) (up2 _ _ (hG' _ _ gadd_at)) hGd ⟨⟨ra, rvs, rn, q1.mono up3, up3 _ _ q2, q3.mono fun _ _ => RowIn.mono up3⟩, ⟨ia, inn, q4.mono up3, up3 _ _ q5⟩, ⟨oa, on, q6.mono up3, up3 _ _ q7⟩⟩ gadd_at LU (.inl gadd_at) LS DW
end
end Mine
end
section
namespace Mine
open PySem PySem.W PyProof.Rows PySem.Calls H
theorem labV_same : ∀ {us : List Nat} {vs ws : List Value}, LabV vs us → LabV ws us → All2 (fun x y => eqB x y = some true) vs ws
 | [], [], [], _, _ => trivial
 | [], _ :: _, _, h, _ => h.elim
 | [], [], _ :: _, _, h2 => h2.elim
 | _ :: _, [], _, h, _ => h.elim
 | _ :: _, _ :: _, [], _, h2 => h2.elim
 | _ :: _, _ :: _, _ :: _, ⟨⟨t, e⟩, h⟩, ⟨⟨t2, e2⟩, h2⟩ => ⟨by subst e e2; show some (_ == _) = some true; rw [beq_self_eq_true], labV_same h h2⟩
section
variable {w : World} {hB : Heap} {mg mb : Str → Option Value} {G : Gh} {A : Around} {env : Env} {e : Ent} {n : Nat} {c0 c1 c2 c3 : Addr} {P : Value → Gh → Led → Prop}
set_option maxHeartbeats 1600000 in
theorem law_block2 (B : Base w hB mg mb) (o : (cLaw w hB A env e).Ok mg mb (n + 29)) (hfa : e.fa = []) (CE : CellOK env (cs476 c0 c1 c2 c3)) {ta wd rl sa dl al x uf sn gd : Addr} {oG oW : PySem.Obj} {bk : Bk} {v3 v4 v5 v8 v11 v13 : Option Value} {ws : Nat → Int} {tk tk0 : Nat → Tok} {ds : List Dd} {uvs svs : List Value} {nu ns : Nat}
  (C1 : CellG G c1 (.ref wd)) (C0 : CellG G c0 (.ref gd)) (hgd : G gd oG) (hGd : oG.IsDictOf (sKd w) (wkv ws tk0 6)) (hb : BookOK G bk) (L : LowIs G bk x (bRows ds) (bM ds).inputs (bM ds).stored) (hrl : (bRows ds).length ≤ 900000)
  (huf : G uf (lobj uvs nu)) (LU : LabV uvs (bL ws ds).us) (hsn : G sn (lobj svs ns)) (LS : LabV svs (bL ws ds).ss) (DW : oW.IsDictOf (sKd w) (wkv (bL ws ds).ws tk 6)) (hE : BlockOK ws ds) (hus : ∀ j ∈ (bL ws ds).us, j < 6) (hss : ∀ j ∈ (bL ws ds).ss, j < 6) (huL : (bL ws ds).us.length ≤ 6) (hsL : (bL ws ds).ss.length ≤ 6)
  (k : ∀ G', (∀ a o, G a o → G' a o) →
   Do (cLaw w hB A env e) ⟨[some (.ref sa), some (.ref ta), some (.ref rl), v3, v4, v5, some (.ref dl), some (.ref al), v8, some (.ref x), some (.ref uf), v11, some (.ref sn), v13] ++ List.replicate 3 none, G', [(wd, oW)]⟩ (execs ((dF 55).2.1.drop 22) env) (Left [] P)) :
  Do (cLaw w hB A env e) ⟨[some (.ref sa), some (.ref ta), some (.ref rl), v3, v4, v5, some (.ref dl), some (.ref al), v8, some (.ref x), some (.ref uf), v11, some (.ref sn), v13] ++ List.replicate 3 none, G, [(wd, oW)]⟩ (execs ((dF 55).2.1.drop 19) env) (Left [] P) := by
 obtain ⟨⟨ra, rvs, rn, hra1, hra2, hra3⟩, ⟨ia, inn, hia1, hia2⟩, ⟨oa, on, hoa1, hoa2⟩⟩ := L
 rw [hE.ins] at hia2
 rw [hE.sts] at hoa2
 have hout := hE.out
 have hrows := hE.rows
 have hd := hE.d
 generalize (bL ws ds).us = us at *
 generalize (bL ws ds).ss = ss at *
 generalize (bL ws ds).ws = wf at *
 have hrefs : (bk.refs us).length = us.length := by simp [Bk.refs]
 have hrefs2 : (bk.refs ss).length = ss.length := by simp [Bk.refs]
 have name_at : ∀ {l : List Nat} {i : Nat} {v : Value}, (∀ j ∈ l, j < 6) → (bk.refs l)[i]? = some v → ∃ j, A3 (v = .ref (bk.var j)) (j < 6) (l.take (i + 1) = l.take i ++ [j]) := fun {l i v} hl hv => by
  rw [Bk.refs, List.getElem?_map] at hv
  obtain ⟨j, hj, rfl⟩ := Option.map_eq_some_iff.mp hv
  exact ⟨j, rfl, hl j (List.mem_of_getElem? hj), by rw [List.take_add_one, hj]; rfl⟩
 refine Do.reS1 o tb476 30 ?_
 refine Do.is_ (by rfl) ?_
 refine if0 ?_
 refine Do.gP o hra1 ?_
 refine Do.byContract0 o ((problems_spec B n hra2 hra3 hrows (by lia)).le (by lia)) ?_
 intro QM r4 G4 hG4 p4
 obtain ⟨pl, pk, rfl, hpl⟩ := p4
 refine Do.newListS (Nat.le_of_ble_eq_true rfl) ?_
 intro t1 t2
 refine Do.neL_same o (.inl hpl) (.inr (mm 0 rfl)) trivial ?_
 refine if0 ?_
 refine Do.callG ?_
 refine Do.builtinK o 10 rfl (v := (.builtin "sorted")) (by kernel_rfl) (by kernel_rfl) (by kernel_rfl) ?_
 refine Do.callWith_b1 ?_
 refine Do.reL o tb476 30 ?_
 refine Do.drop 0 rfl rfl ?_
 refine Do.listComp [] o CE (by kernel_rfl) ?_
 refine Do.reE o tb476 30 ?_
 refine Do.gP o (hia1.mono fun _ _ x => (hG4 _ _ x)) ?_
 have hb4 : BookOK G4 bk := hb.mono hG4
 refine ⟨rfl, CompSrc.list (vs := bk.refs us) (n := inn) (fun i ys Gx mu => (∀ a o, G4 a o → Gx a o) ∧ LabV ys (us.take i) ∧ mu = [(wd, oW)]) ?_ (by lia) ⟨fun _ _ x => x, trivial, rfl⟩ ?_ ?_⟩
 ·rintro i ys Gx mu ⟨h, _, _⟩
  exact .inl (h _ _ (hG4 _ _ hia2))
 ·rintro i v ys Gx mu env2 Cc2 hid2 hi hv ⟨hGx, hys, rfl⟩ CE2 o2
  refine Do.tests_nil (ite_t rfl ?_)
  obtain ⟨j, rfl, hj6, htake⟩ := name_at hus hv
  obtain ⟨-, ⟨tn, hname⟩, -⟩ := (hb4.var j hj6).mono hGx
  refine Do.reE o2 tb476 30 ?_
  refine Do.name o2 0 rfl rfl ?_
  refine Do.gP o2 hname ?_
  exact ⟨hGx, by rw [htake]; exact hys.append (all2_one ⟨tn, rfl⟩), rfl⟩
 ·rintro ys G5 mu D ⟨hG5, hys, rfl⟩ hD
  rw [hrefs, List.take_length] at hys
  have h05 : ∀ a o, G a o → G5 a o := fun a o x => hG5 _ _ (hG4 _ _ x)
  refine Do.sortedS (.inr (mm 0 rfl)) hys.strs (by have := hys.length; lia) fun r6 vs6 ss6 e6 a1 a2 a3 => ?_
  refine Do.callG ?_
  refine Do.builtinK o 10 rfl (v := (.builtin "sorted")) (by kernel_rfl) (by kernel_rfl) (by kernel_rfl) ?_
  refine Do.callWith_b1 ?_
  refine Do.reL o tb476 30 ?_
  refine Do.sortedS (.inl (.inl (h05 _ _ huf))) LU.strs (by have := LU.length; lia) fun r7 vs7 ss7 e7 b1 b2 b3 => ?_
  refine Do.neL_same o (.inl (.inl gadd_at)) (.inl gadd_at) (sorted_same hus a1 b1 a2 b2 a3 b3) ?_
  refine if0 ?_
  refine if0 ?_
  refine Do.reS1 o tb476 30 ?_
  refine Do.drop 0 rfl rfl ?_
  have up5 : ∀ a o, G a o → gadd (gadd G5 r6 (lobj vs6 e6)) r7 (lobj vs7 e7) a o := fun a o x => .inl (.inl (h05 a o x))
  refine Do.listComp [] o CE (by kernel_rfl) ?_
  refine Do.reE o tb476 30 ?_
  refine Do.gP o (hoa1.mono fun _ _ x => (.inl (.inl (h05 _ _ x)))) ?_
  refine ⟨rfl, CompSrc.list (vs := bk.refs ss) (n := on) (fun i ys Gx mu => (∀ a o, gadd (gadd G5 r6 (lobj vs6 e6)) r7 (lobj vs7 e7) a o → Gx a o) ∧ LabV ys (ss.take i) ∧ mu = [(wd, oW)]) ?_ (by lia) ⟨fun _ _ x => x, trivial, rfl⟩ ?_ ?_⟩
  ·rintro i ys Gx mu ⟨h, _, _⟩
   exact .inl (h _ _ (up5 _ _ hoa2))
  ·rintro i v ys Gx mu env2 Cc2 hid2 hi hv ⟨hGx, hys, rfl⟩ CE2 o2
   refine Do.tests_nil (ite_t rfl ?_)
   obtain ⟨j, rfl, hj6, htake⟩ := name_at hss hv
   obtain ⟨-, ⟨tn, hname⟩, -⟩ := ((hb.var j hj6).mono up5).mono hGx
   refine Do.reE o2 tb476 30 ?_
   refine Do.name o2 0 rfl rfl ?_
   refine Do.gP o2 hname ?_
   exact ⟨hGx, by rw [htake]; exact hys.append (all2_one ⟨tn, rfl⟩), rfl⟩
  ·rintro ys8 G8 mu D8 ⟨hG8, hys8, rfl⟩ hD8
   rw [hrefs2, List.take_length] at hys8
   have up8 : ∀ a o, G a o → G8 a o := fun a o x => hG8 a o (up5 a o x)
   refine Do.neL_same o (.inr (mm 0 rfl)) (.inl (up8 _ _ hsn)) (labV_same hys8 LS) ?_
   refine if0 ?_
   refine Do.reS1 o tb476 30 ?_
   refine Do.gP o (hra1.mono fun _ _ x => (up8 _ _ x)) ?_
   refine Do.drop 0 rfl rfl ?_
   refine Do.listComp [] o CE (by kernel_rfl) ?_
   refine Do.reE o tb476 30 ?_
   refine Do.gP o (hia1.mono fun _ _ x => (up8 _ _ x)) ?_
   refine ⟨rfl, CompSrc.list (vs := bk.refs us) (n := inn) (fun i ys Gx mu => (∀ a o, G8 a o → Gx a o) ∧ All2 (fun v x => ∃ t, v = .int x t) ys ((us.take i).map ws) ∧ mu = [(wd, oW)]) ?_ (by lia) ⟨fun _ _ x => x, trivial, rfl⟩ ?_ ?_⟩
   ·rintro i ys Gx mu ⟨h, _, _⟩
    exact .inl (h _ _ (up8 _ _ hia2))
   ·rintro i v ys Gx mu env2 Cc2 hid2 hi hv ⟨hGx, hys, rfl⟩ CE2 o2
    refine Do.tests_nil (ite_t rfl ?_)
    obtain ⟨j, rfl, hj6, htake⟩ := name_at hus hv
    have upx : ∀ a o, G a o → Gx a o := fun a o x => hGx a o (up8 a o x)
    obtain ⟨-, ⟨tn, hname⟩, -⟩ := (hb.var j hj6).mono upx
    have D0 : CellG Gx c0 (.ref gd) := C0.mono upx
    refine Do.reE o2 tb476 30 ?_
    refine Do.cell o2 CE2 0 (a := c0) (by kernel_rfl) D0 ?_
    refine Do.name o2 0 rfl rfl ?_
    refine Do.gP o2 hname ?_
    refine Do.dget (.inl (upx _ _ hgd)) hGd (strKind_is _ _ _ _) (wkv_get hj6) ?_
    exact ⟨hGx, by rw [htake, List.map_append]; exact hys.append (all2_one ⟨_, rfl⟩), rfl⟩
   ·rintro ys9 G9 mu D9 ⟨hG9, hys9, rfl⟩ hD9
    rw [hrefs, List.take_length] at hys9
    refine Do.freezeF hfa 0 rfl rfl ?_
    have up9 : ∀ a o, G a o → gadd G9 D9 (lsto ys9) a o := fun a o x => .inl (hG9 a o (up8 a o x))
    refine Do.byContract0 o ((meaning_spec B n (up9 _ _ hra2) (hra3.mono fun _ _ => RowIn.mono up9) hrows hd gadd_at hys9 hrl (by simp; lia)).le (by lia)) ?_
    intro QM rA GA hGA pA
    obtain ⟨ml, os, mk, rfl, hml, hos⟩ := pA
    rw [hout] at hos
    have upA : ∀ a o, G a o → GA a o := fun a o x => hGA a o (up9 a o x)
    refine Do.listComp [] o CE (by kernel_rfl) ?_
    refine Do.name o 12 rfl rfl ?_
    have hsvl : svs.length = ss.length := LS.length
    refine ⟨rfl, CompSrc.list (vs := svs) (n := ns) (fun i ys Gx mu => (∀ a o, GA a o → Gx a o) ∧ All2 (fun v x => ∃ t, v = .int x t) ys ((ss.take i).map wf) ∧ mu = [(wd, oW)]) ?_ (by lia) ⟨fun _ _ x => x, trivial, rfl⟩ ?_ ?_⟩
    ·rintro i ys Gx mu ⟨h, _, _⟩
     exact .inl (h _ _ (upA _ _ hsn))
    ·rintro i v ys Gx mu env2 Cc2 hid2 hi hv ⟨hGx, hys, rfl⟩ CE2 o2
     refine Do.tests_nil (ite_t rfl ?_)
     obtain ⟨j, hj, tn, rfl⟩ := LS.get hv
     have hj6 := hss j (List.mem_of_getElem? hj)
     have htake : ss.take (i + 1) = ss.take i ++ [j] := by rw [List.take_add_one, hj]; rfl
     have D1 : CellG Gx c1 (.ref wd) := C1.mono fun a o x => hGx a o (upA a o x)
     refine Do.reE o2 tb476 30 ?_
     refine Do.cell o2 CE2 0 (a := c1) (by kernel_rfl) D1 ?_
     refine Do.name o2 0 rfl rfl ?_
     refine Do.dget (.inr (mm 0 rfl)) DW (strKind_is _ _ _ _) (wkv_get hj6) ?_
     exact ⟨hGx, by rw [htake, List.map_append]; exact hys.append (all2_one ⟨_, rfl⟩), rfl⟩
    ·rintro ysB GB mu DB ⟨hGB, hysB, rfl⟩ hDB
     rw [hsvl, List.take_length] at hysB
     refine Do.neL_same o (.inl (hGB _ _ hml)) (.inr (mm 0 rfl)) (intL_same hos hysB) ?_
     refine ite_f (by kernel_rfl) ?_
     skip
     refine Do.drop 0 rfl rfl ?_
     exact k GB fun a o x => hGB a o (upA a o x)
end
end Mine
end
section
namespace Mine
open PySem PySem.W PyProof.Rows PySem.Calls H
section
variable {w : World} {hB : Heap} {mg mb : Str → Option Value} {G : Gh} {A : Around} {env : Env} {e : Ent} {n : Nat} {c0 c1 c2 c3 : Addr}
theorem stmt_none (B : Base w hB mg mb) (n : Nat) {bk : Bk} {m : MA} {s : MS} {fp : Led} (M : MakerIn w G bk m s fp) {a ks b d : Addr} {nK : Nat} {ty val : Value} {i : Nat} (hi : i < 6) (hb : BookOK G bk)
  (hN : NodeAt G a "assign" ty (.ref ks) val) (hks : G ks (lobj [.ref b, .ref d] nK)) (hbn : NodeIs G bk (.var i) b)
  (hnone : ∀ G1, (∀ a o, G a o → G1 a o) → Calls w hB (n + 3) 171 [.ref m.x, .ref d] G1 fp (fun v G'' fp' => v = .none ∧ ∃ s', MakerIn w G'' bk m s' fp')) :
  Calls w hB (n + 5) 192 [.ref m.x, .ref a] G fp (fun v G' fp' => v = .bool false ∧ ∃ s', MakerIn w G' bk m s' fp') := by
 obtain ⟨⟨t0, hop⟩, _⟩ := id hN
 refine start192 B _ _ ?_
 intro A env e cx o KK hKK
 refine Do.reS o tb192 60 ?_
 refine Do.gP o hop ?_
 refine if0 ?_
 refine Do.gP o hop ?_
 refine if1 ?_
 refine Do.byContract o (assign_none B n M hi hb hN hks hbn hnone) (ex := []) rfl ?_
 intro QM r4 G4 fp4 hG4 p4
 obtain ⟨rfl, s', M4⟩ := p4
 refine hKK ?_; exact M.left (ex := []) M4 ⟨rfl, s', M4⟩
theorem law_end (B : Base w hB mg mb) (o : (cLaw w hB A env e).Ok mg mb (n + 29)) (hfa : e.fa = []) (CE : CellOK env (cs476 c0 c1 c2 c3)) {ta bd va wd rl sa dl al : Addr} {oB oW : PySem.Obj} {bk : Bk} {nv : Nat} {v3 v4 v5 v8 v9 v10 v11 v12 v13 : Option Value} {dvs : List Value} {dn : Nat} {ds : List Dd} {t : Tr}
  (C2 : CellG G c2 (.ref bd)) (hb : BookAt w G bk bd oB ta va nv) (hdl : G dl (lobj dvs dn)) (hds : DeedsV G bk dvs ds) (hd6 : ds.length ≤ 6) (ht : NodeIs G bk t al) (hw : WT t) (hf : t.fm = .I) (hh : t.ht ≤ 3) (hc : t.cost ≤ 60) :
  Do (cLaw w hB A env e) ⟨[some (.ref sa), some (.ref ta), some (.ref rl), v3, v4, v5, some (.ref dl), some (.ref al), v8, v9, v10, v11, v12, v13] ++ List.replicate 3 none, G, [(wd, oW)]⟩ (execs ((dF 55).2.1.drop 22) env) (Left [] fun v G' fp' => fp' = [] ∧ v = .bool true) := by
 have hcost := costD_le fun d hd => (hds.2 d hd).2.2
 obtain ⟨h1, h2, h3, h4, h5, h6, h7, h8⟩ := id hb
 have hdl6 : dvs.length ≤ 6 := by rw [hds.1.length]; exact hd6
 refine Do.reS1 o tb476 30 ?_
 intro t1
 refine Do.gP o h4 ?_
 refine Do.gP o h4 ?_
 intro t2 t3
 refine Do.byContract0 o ((const_spec B n _ _ _).le (by lia)) ?_
 intro QM r1 G1 hG1 p1
 obtain ⟨y1, k1, t5, rfl, hn1, _⟩ := p1
 have hk2 : NodeIs G1 bk (.const .I 2) y1 := ⟨_, _, hn1.node⟩
 refine Do.newListG (Nat.le_of_ble_eq_true rfl) ?_
 intro t4
 refine Do.byContract0 o ((make_spec3 B n _ _ _ rfl rfl rfl).le (by lia)) ?_
 intro QM r2 G2 hG2 p2
 obtain ⟨qx, rfl, hq⟩ := p2
 have hG2' : ∀ a o, G1 a o → G2 a o := fun a o x => hG2 a o (.inl x)
 have hq2 : G2 t4 (lobj [.ref al, .ref y1]) := hG2 _ _ gadd_at
 have hG02 : ∀ a o, G a o → G2 a o := fun a o x => hG2' a o (hG1 a o x)
 have C22 := C2.mono hG02
 have h42 := h4.mono hG02
 have h12 := hG02 _ _ h1
 have h32 := hG02 _ _ h3
 refine Do.reS1 o tb476 30 ?_
 intro t6
 refine Do.gP o h42 ?_
 refine Do.newListS (Nat.le_of_ble_eq_true rfl) ?_
 intro t7 t8
 refine Do.cell o CE 2 (a := c2) (by kernel_rfl) C22 ?_
 intro t9
 refine Do.dgetS (.inl h12) h2 1 (by kernel_rfl) rfl ?_
 intro t10
 refine Do.itemL (.inl h32) (by decide) (by decide) rfl ?_
 refine Do.drop 0 rfl rfl ?_
 refine Do.byContract0 o ((make_spec B n _ _ _ _ rfl rfl rfl rfl).le (by lia)) ?_
 intro QM r3 G3 hG3 p3
 obtain ⟨lx, rfl, hl3⟩ := p3
 have hl3' : NodeIs G3 bk (.var 0) lx := ⟨_, hl3.node⟩
 refine Do.reS1 o tb476 30 ?_
 intro t11
 refine Do.newListG (Nat.le_of_ble_eq_true rfl) ?_
 intro t12
 refine Do.byContract0 o ((make_spec3 B n _ _ _ rfl rfl rfl).le (by lia)) ?_
 intro QM r4 G4 hG4 p4
 obtain ⟨ax, rfl, ha4⟩ := p4
 refine Do.newListG (Nat.le_of_ble_eq_true rfl) ?_
 intro t13
 have ha4' : NodeAt G4 ax "assign" .none (.ref t12) .none := ha4.node
 have hk4 : G4 t12 (lobj [.ref lx, .ref qx]) := hG4 _ _ gadd_at
 have hG34 : ∀ a o, G3 a o → G4 a o := fun a o x => hG4 a o (.inl x)
 have hG24 : ∀ a o, G2 a o → G4 a o := fun a o x => hG34 a o (hG3 a o x)
 have hG04 : ∀ a o, G a o → G4 a o := fun a o x => hG24 a o (hG02 a o x)
 refine Do.addL (.inl (.inl (hG04 _ _ hdl))) (.inl gadd_at) (by simp; lia) fun r5 => ?_
 refine Do.reS1 o tb476 30 ?_
 refine Do.boolop ?_
 refine Do.boolop_and ?_
 refine Do.reE o tb476 30 ?_
 intro t14
 refine Do.byContract0 o ((make_spec3 B n _ _ _ rfl rfl rfl).le (by lia)) ?_
 intro QM r6 G6 hG6 p6
 obtain ⟨bx, rfl, hbx⟩ := p6
 have hk6 : G6 r5 (lobj (dvs ++ [.ref ax])) := hG6 _ _ gadd_at
 have hG46 : ∀ a o, G4 a o → G6 a o := fun a o x => hG6 a o (.inl (.inl x))
 have hG06 : ∀ a o, G a o → G6 a o := fun a o x => hG46 a o (hG04 a o x)
 have divs : ∀ (Gm : Gh) (m : MA) (s1 : MS) (fp1 : Led), (∀ a o, G6 a o → Gm a o) → MakerIn w Gm bk m s1 fp1 → s1.sz ≤ 890000 → Calls w hB (n + 19) 171 [.ref m.x, .ref qx] Gm fp1 (fun v G'' fp' => v = .none ∧ ∃ s', MakerIn w G'' bk m s' fp') := fun Gm m s1 fp1 hGm M hsz =>
  (div_spec B (n + 13) (h8.mono hG02) hq.node hq2 (ht.mono hG02) (hk2.mono hG2') (lowered_spec B hw (n + 18) (by lia) (h8.mono hG02) (ht.mono hG02)) (lowered_spec B (.const .I 2 (by decide) (by decide) nofun nofun nofun) (n + 18) (by simp only [Tr.ht]; lia) (h8.mono hG02) (hk2.mono hG2')) (fun a o x => hGm a o (hG46 a o (hG24 a o x))) M (by simp only [Tr.cost]; lia))
 refine Do.byContract0₀ o ((lower_block_none B (n + 20) (h8.mono hG06) fun Gm m fp1 hGm M => block_bad B (n + 16) M (fun d hd => (hds.2 d hd).1) (fun d hd => by have := (hds.2 d hd).2.1; lia) (h8.mono fun a o x => hGm a o (hG06 a o x)) (fun j hj => by cases hj) (hbx.node.mono hGm) (hGm _ _ hk6) (hds.1.mono fun _ _ ⟨b, e1, e2⟩ => ⟨b, e1, e2.mono fun a o x => hGm a o (hG06 a o x)⟩) (by simp [MS.empty, MS.sz]; lia) fun G1' s1 fp1' hG1' M1 hs1 =>
  stmt_none B (n + 16) M1 (i := 0) (by decide) (h8.mono fun a o x => hG1' a o (hGm a o (hG06 a o x))) (ha4'.mono fun a o x => hG1' a o (hGm a o (hG46 a o x))) (hG1' _ _ (hGm _ _ (hG46 _ _ hk4))) (hl3'.mono fun a o x => hG1' a o (hGm a o (hG46 a o (hG34 a o x)))) fun G2' hG2'' => divs G2' m s1 fp1' (fun a o x => hG2'' a o (hG1' a o (hGm a o x))) (M1.mono hG2'') hs1).le (by lia)) fun r7 G7 hG7 p7 => ?_
 subst p7
 refine Do.is_ (by rfl) ?_
 refine Do.truthy_bool ?_
 refine if1 ?_
 refine Do.boolop_one ?_
 refine Do.reE o tb476 30 ?_
 have hG67 : ∀ a o, G6 a o → G7 a o := hG7
 refine Do.byContract0 o ((lower_expr_none B (n + 20) (h8.mono fun a o x => hG67 a o (hG06 a o x)) fun Gm m fp1 hGm M => (divs Gm m MS.empty fp1 (fun a o x => hGm a o (hG67 a o x)) M (by simp [MS.empty, MS.sz])).le (by lia)).le (by lia)) ?_
 intro QM r8 G8 hG8 p8
 subst p8
 refine Do.is_ (by rfl) ?_
 exact Left.mk _ [] (List.append_nil _).symm rfl ⟨rfl, rfl⟩
end
end Mine
end
section
namespace Mine
open PySem PySem.W PyProof.Rows PySem.Calls H
section
variable {w : World} {hB : Heap} {mg mb : Str → Option Value} {G : Gh}
set_option maxHeartbeats 800000 in
theorem law_spec (hPE : ∀ ws t, WordsOK ws → WT t → ExprOK ws t) (hPB : ∀ ws ds, WordsOK ws → (∀ d ∈ ds, WD d) → BlockOK ws ds) (B : Base w hB mg mb) (n : Nat) {sa : Addr} {zs : List Value} {nz : Nat} (hs : G sa (lobj zs nz)) (hz : IntL zs) (hl : zs.length ≤ 63) :
  Calls w hB (n + 30) 476 [.ref sa] G [] (PV (.bool true)) := by
 refine start476 B _ fun A env e c0 c1 c2 c3 o0 o1 o2 o3 d0 d1 d2 d3 z0 z1 z2 z3 hfa CE o => ?_
 refine Do.reS1 o tb476 30 ?_
 refine Do.assign_cell o CE 3 rfl (by rfl) ?_
 refine Do.reE o tb476 30 ?_
 refine Do.byContractN o ((pool_spec B n hs hz hl).le (by lia)) (ex := _) (fp := []) (List.append_nil _).symm fun r G1 nw fp1 hG1 p1 hnw => ?_
 obtain ⟨rfl, pa, rfl, hP⟩ := p1
 refine ⟨nw ++ [(c0, o0), (c1, o1), (c2, o2)], [], o3, none, by simp, d3, fun o3' d3' => ?_⟩
 refine Do.perm (mu' := [(c3, o3'), (c0, o0), (c1, o1), (c2, o2)] ++ nw) ?_ ?_
 ·exact (List.perm_append_comm (l₁ := nw ++ [(c0, o0), (c1, o1), (c2, o2)]) (l₂ := [(c3, o3')])).trans (List.Perm.cons _ (List.perm_append_comm (l₁ := nw) (l₂ := [(c0, o0), (c1, o1), (c2, o2)])))
 refine Do.freeze 0 rfl rfl z3 ?_
 have C3 : CellG (gadd G1 c3 o3') c3 (.ref pa) := ⟨o3', gadd_at, d3'⟩
 refine Do.reS1 o tb476 30 ?_
 refine Do.callG ?_
 refine Do.gK o 1 309 ?_
 refine Do.callWith_none o (by kernel_rfl) ?_
 refine Do.makeG (C := 309) (fI := 291) o (by kernel_rfl) (fun x dx => (types_init B n (x := x) (dx := dx) gadd_at).le (by lia)) fun ta dxt G2 odt hG2 p2 => ?_
 obtain ⟨ty, hty, hI, hM, hB', hC⟩ := p2 (gadd G2 dxt odt) (fun _ _ x => .inl x) (fun p hp => by rw [List.mem_singleton.mp hp]; exact gadd_at)
 refine Do.reS1 o tb476 30 ?_
 refine Do.assign_cell o CE 2 rfl (by rfl) ?_
 refine Do.dictS (by kernel_rfl) ?_
 intro t1
 refine Do.pairs_cons ?_
 refine Do.const_str ?_
 intro t2
 refine Do.name o 1 rfl rfl ?_
 refine Do.pairs_cons ?_
 refine Do.const_str ?_
 intro t3
 refine Do.reE o tb476 30 ?_
 refine Do.newListS (Nat.le_of_ble_eq_true rfl) ?_
 intro t4 t5
 refine Do.pairs_nil ?_
 refine DictEnd.mk [_] rfl (by kernel_rfl) ?_
 intro t6 t7
 refine ⟨[(t4, _), (t1, _), (c0, o0), (c1, o1)], nw, o2, none, rfl, d2, fun o2' d2' => ?_⟩
 refine Do.freezeF hfa 4 rfl rfl ?_
 refine Do.freezeF hfa 1 rfl rfl ?_
 refine Do.reS1 o tb476 30 ?_
 refine Do.assign_cell o CE 1 rfl (by rfl) ?_
 refine Do.newDict ?_
 intro t8
 refine ⟨[(t8, _), (t4, _), (c0, o0)], nw, o1, none, rfl, d1, fun o1' d1' => ?_⟩
 refine Do.freezeF hfa 3 rfl rfl ?_
 refine Do.reS1 o tb476 30 ?_
 intro t9
 refine Do.gP o (hI.mono fun _ _ x => (.inl (.inl (.inl x)))) ?_
 refine Do.newTupG (Nat.le_of_ble_eq_true rfl) ?_
 intro t10 t11
 refine Do.gP o (hI.mono fun _ _ x => (.inl (.inl (.inl (.inl x))))) ?_
 refine Do.newTupG (Nat.le_of_ble_eq_true rfl) ?_
 intro t12 t13
 refine Do.gP o (hM.mono fun _ _ x => (.inl (.inl (.inl (.inl (.inl x)))))) ?_
 refine Do.newTupG (Nat.le_of_ble_eq_true rfl) ?_
 intro t14 t15
 refine Do.gP o (hM.mono fun _ _ x => (.inl (.inl (.inl (.inl (.inl (.inl x))))))) ?_
 refine Do.newTupG (Nat.le_of_ble_eq_true rfl) ?_
 intro t16 t17
 refine Do.gP o (hB'.mono fun _ _ x => (.inl (.inl (.inl (.inl (.inl (.inl (.inl x)))))))) ?_
 refine Do.newTupG (Nat.le_of_ble_eq_true rfl) ?_
 intro t18 t19
 refine Do.gP o (hC.mono fun _ _ x => (.inl (.inl (.inl (.inl (.inl (.inl (.inl (.inl x))))))))) ?_
 refine Do.newTupG (Nat.le_of_ble_eq_true rfl) ?_
 intro t20
 refine Do.newListG (Nat.le_of_ble_eq_true rfl) ?_
 intro t21
 have l60 : Cc 3 ≤ 60 := by decide
 refine law_vars B o hfa CE (pa := pa) (ty := ty) (bd := t1) (oB := t6) ?_ ?_ ?_ t7 ?_ ?_ ?_ ?_ ?_ fun bk G3 nv v3 v4 v5 hG3 hty3 hbook => ?_
 ·exact ⟨o2', (.inl (.inl (.inl (.inl (.inl (.inl (.inl (.inl (.inl gadd_at))))))))), d2'⟩
 ·exact ⟨_, _, gadd_at, ⟨t10, t9, _, rfl, (.inl (.inl (.inl (.inl (.inl (.inl gadd_at))))))⟩, ⟨t12, t11, _, rfl, (.inl (.inl (.inl (.inl (.inl gadd_at)))))⟩, ⟨t14, t13, _, rfl, (.inl (.inl (.inl (.inl gadd_at))))⟩, ⟨t16, t15, _, rfl, (.inl (.inl (.inl gadd_at)))⟩, ⟨t18, t17, _, rfl, (.inl (.inl gadd_at))⟩, ⟨t20, t19, _, rfl, (.inl gadd_at)⟩, trivial⟩
 ·exact (.inl (.inl (.inl (.inl (.inl (.inl (.inl (.inl gadd_at))))))))
 ·exact hI.mono fun _ _ x => (.inl (.inl (.inl (.inl (.inl (.inl (.inl (.inl (.inl (.inl x))))))))))
 ·exact hM.mono fun _ _ x => (.inl (.inl (.inl (.inl (.inl (.inl (.inl (.inl (.inl (.inl x))))))))))
 ·exact hB'.mono fun _ _ x => (.inl (.inl (.inl (.inl (.inl (.inl (.inl (.inl (.inl (.inl x))))))))))
 ·exact hC.mono fun _ _ x => (.inl (.inl (.inl (.inl (.inl (.inl (.inl (.inl (.inl (.inl x))))))))))
 ·exact fun f => (hty f).mono fun _ _ x => (.inl (.inl (.inl (.inl (.inl (.inl (.inl (.inl (.inl (.inl x))))))))))
 have C23 : CellG G3 c2 (.ref t1) := ⟨o2', hG3 _ _ (.inl (.inl (.inl (.inl (.inl (.inl (.inl (.inl (.inl gadd_at))))))))), d2'⟩
 have C13 : CellG G3 c1 (.ref t8) := ⟨o1', hG3 _ _ (.inl (.inl (.inl (.inl (.inl (.inl (.inl gadd_at))))))), d1'⟩
 have C33 : CellG G3 c3 (.ref pa) := C3.mono fun a o x => hG3 a o (.inl (.inl (.inl (.inl (.inl (.inl (.inl (.inl (.inl (.inl (.inl (hG2 _ _ (.inl x)))))))))))))
 have hr3 : RowsV G3 t21 bk.ty := by
  rw [hty3]
  exact ⟨_, _, hG3 _ _ gadd_at, ⟨t10, t9, _, rfl, hG3 _ _ (.inl (.inl (.inl (.inl (.inl (.inl gadd_at))))))⟩, ⟨t12, t11, _, rfl, hG3 _ _ (.inl (.inl (.inl (.inl (.inl gadd_at)))))⟩, ⟨t14, t13, _, rfl, hG3 _ _ (.inl (.inl (.inl (.inl gadd_at))))⟩, ⟨t16, t15, _, rfl, hG3 _ _ (.inl (.inl (.inl gadd_at)))⟩, ⟨t18, t17, _, rfl, hG3 _ _ (.inl (.inl gadd_at))⟩, ⟨t20, t19, _, rfl, hG3 _ _ (.inl gadd_at)⟩, trivial⟩
 have l60 : Cc 3 ≤ 60 := by decide
 refine law_trees B o hfa CE C23 C33 hP hbook fun dl dvs dn ds al t G4 fp4 hG4 hdl hds hd6 ht hw hf hh hc hP4 => ?_
 refine law_words B o hfa CE (C13.mono hG4) (C33.mono hG4) hP4 (hr3.mono hG4) (hbook.ok.mono hG4) fun w3 w4 w8 ws tk oW G5 fp5 hG5 hws hW hP5 => ?_
 obtain ⟨pv, pn, rfl, _⟩ := hP5
 refine Do.drop 2 rfl rfl ?_
 have h35 : ∀ a o, G3 a o → G5 a o := fun a o x => hG5 a o (hG4 a o x)
 refine law_expr B o hfa CE (C13.mono h35) (hbook.ok.mono h35) hws hW (ht.mono hG5) hw hh (by lia) (hPE ws t hws hw) fun v9 v10 v11 oW' tk' G6 hG6 hW' => ?_
 have h46 : ∀ a o, G4 a o → G6 a o := fun a o x => hG6 a o (hG5 a o x)
 have h36 : ∀ a o, G3 a o → G6 a o := fun a o x => h46 a o (hG4 a o x)
 have hdW : ∀ d ∈ ds, WD d := fun d hd => (hds.2 d hd).1
 have hE := hPB ws ds hws hdW
 obtain ⟨lok, lun, lsn⟩ := LSt.deeds_ok (l := ⟨[], [], ws⟩) hdW ⟨nofun, nofun, hws⟩ List.nodup_nil List.nodup_nil
 refine law_block1 B o hfa CE (C13.mono h36) d0 (hbook.ok.mono h36) hws hW' (h46 _ _ hdl) ⟨hds.1.mono fun _ _ ⟨b, e1, e2⟩ => ⟨b, e1, e2.mono h46⟩, hds.2⟩ hd6 hE fun gd oG x uf sn uvs nu svs ns v13 oW2 tk2 G7 hG7 C0 hgd hGd L huf LU hsn LS DW => ?_
 have h37 : ∀ a o, G3 a o → G7 a o := fun a o x => hG7 a o (h36 a o x)
 have hrl : (bRows ds).length ≤ 900000 := by
  have h1 := costD_le fun d hd => (hds.2 d hd).2.2
  have h2 := deeds_sz ds MS.empty
  have h3 := MS.rows_sz (s := bM ds)
  have h4 : MS.empty.sz = 0 := rfl
  have h5 : (bM ds).stored.length ≤ 6 := by rw [hE.sts]; exact nd_len lsn lok.ss
  have h6 := outs_len (bM ds).held (bM ds).stored 0
  simp only [bRows, List.length_append]
  simp only [bM] at *
  lia
 refine law_block2 B o hfa CE (C13.mono h37) C0 hgd hGd (hbook.ok.mono h37) L hrl huf LU hsn LS DW hE lok.us lok.ss (nd_len lun lok.us) (nd_len lsn lok.ss) fun G8 hG8 => ?_
 have h38 : ∀ a o, G3 a o → G8 a o := fun a o x => hG8 a o (h37 a o x)
 have h48 : ∀ a o, G4 a o → G8 a o := fun a o x => hG8 a o (hG7 a o (h46 a o x))
 exact law_end B o hfa CE (C23.mono h38) (hbook.mono h38) (h48 _ _ hdl) ⟨hds.1.mono fun _ _ ⟨b, e1, e2⟩ => ⟨b, e1, e2.mono h48⟩, hds.2⟩ hd6 (ht.mono h48) hw hf hh (by lia)
end
end Mine
end
section
namespace Mine
open PySem PySem.W PyProof.Rows
theorem mod_succ (x n : Nat) : x % 2 ^ (n + 1) = x % 2 ^ n + 2 ^ n * (x / 2 ^ n % 2) := by
 rw [Nat.pow_succ, Nat.mod_mul]
theorem tb (x n : Nat) : x / 2 ^ n % 2 = (x.testBit n).toNat := by
 rw [Nat.toNat_testBit]
theorem bitAt_nat (x n : Nat) : bitAt (x : Int) n = ((x / 2 ^ n % 2 : Nat) : Int) := by
 unfold bitAt
 have hp : (0 : Int) ≤ 2 ^ n := Int.le_of_lt (Int.pow_pos (by decide))
 rw [Int.fdiv_eq_ediv_of_nonneg _ hp, Int.fmod_eq_emod_of_nonneg _ (by decide)]
 norm_cast
noncomputable def bitsNat (op : String) (x y : Nat) : Nat := if op = "s+" then x ||| y else if op = "s-" then x &&& (y ^^^ 4294967295) else if op = "s*" then x &&& y else x ^^^ y
theorem allones_bit {n : Nat} (hn : n < 32) : (4294967295 : Nat).testBit n = true := by
 have : (4294967295 : Nat) = 2 ^ 32 - 1 := by decide
 rw [this, Nat.testBit_two_pow_sub_one]; simpa using hn
theorem bitsUpto_nat {op : String} (hop : op = "s+" ∨ op = "s-" ∨ op = "s*" ∨ op = "s/") (x y : Nat) : ∀ n, n ≤ 32 → bitsUpto op x y n = ((bitsNat op x y % 2 ^ n : Nat) : Int)
 | 0, _ => by simp [bitsUpto, Nat.mod_one]
 | n + 1, hn => by
  have ih := bitsUpto_nat hop x y n (by lia)
  rw [bitsUpto, ih, mod_succ, tb]
  have e1 := bitAt_nat x n
  have e2 := bitAt_nat y n
  rw [tb] at e1 e2
  rw [e1, e2]
  have hb := allones_bit (n := n) (by lia)
  have hc : (if bitF op (((x.testBit n).toNat : Nat) : Int) (((y.testBit n).toNat : Nat) : Int) = true then (2 : Int) ^ n else 0) = ((2 ^ n * ((bitsNat op x y).testBit n).toNat : Nat) : Int) := by
   rcases hop with rfl | rfl | rfl | rfl
   ·simp only [bitsNat, if_true, Nat.testBit_or]
    cases x.testBit n <;> cases y.testBit n <;> simp [bitF]
   ·have : bitsNat "s-" x y = x &&& (y ^^^ 4294967295) := by simp [bitsNat]
    rw [this, Nat.testBit_and, Nat.testBit_xor, hb]
    cases x.testBit n <;> cases y.testBit n <;> simp [bitF]
   ·have : bitsNat "s*" x y = x &&& y := by simp [bitsNat]
    rw [this, Nat.testBit_and]
    cases x.testBit n <;> cases y.testBit n <;> simp [bitF]
   ·have : bitsNat "s/" x y = x ^^^ y := by simp [bitsNat]
    rw [this, Nat.testBit_xor]
    cases x.testBit n <;> cases y.testBit n <;> simp [bitF]
  rw [hc]
  norm_cast
theorem bitsNat_lt {op : String} {x y : Nat} (hx : x < 2 ^ 32) (hy : y < 2 ^ 32) : bitsNat op x y < 2 ^ 32 := by
 unfold bitsNat
 split
 ·exact Nat.or_lt_two_pow hx hy
 ·split
  ·exact Nat.lt_of_le_of_lt Nat.and_le_left hx
  ·split
   ·exact Nat.lt_of_le_of_lt Nat.and_le_left hx
   ·exact Nat.xor_lt_two_pow hx hy
theorem toNat_lt {x : Int} (h : InW x) : x.toNat < 2 ^ 32 := by have := h.1; have := h.2; lia
theorem toNat_cast {x : Int} (h : InW x) : ((x.toNat : Nat) : Int) = x := Int.toNat_of_nonneg h.1
theorem bitsVal_nat {op : String} (hop : op = "s+" ∨ op = "s-" ∨ op = "s*" ∨ op = "s/") {x y : Int} (hx : InW x) (hy : InW y) : bitsVal op x y = ((bitsNat op x.toNat y.toNat : Nat) : Int) := by
 have h := bitsUpto_nat hop x.toNat y.toNat 32 (Nat.le_refl _)
 rw [toNat_cast hx, toNat_cast hy, Nat.mod_eq_of_lt (bitsNat_lt (toNat_lt hx) (toNat_lt hy))] at h
 exact h
theorem or_bits {x y : Int} (hx : InW x) (hy : InW y) : Builtin.bitOr x y = bitsVal "s+" x y := by
 rw [bitsVal_nat (.inl rfl) hx hy, bitOr_pp hx.1 hy.1]; simp [bitsNat]
theorem and_bits {x y : Int} (hx : InW x) (hy : InW y) : Builtin.bitAnd x y = bitsVal "s*" x y := by
 rw [bitsVal_nat (.inr (.inr (.inl rfl))) hx hy, bitAnd_pp hx.1 hy.1]; simp [bitsNat]
theorem xor_bits {x y : Int} (hx : InW x) (hy : InW y) : Builtin.bitXor x y = bitsVal "s/" x y := by
 rw [bitsVal_nat (.inr (.inr (.inr rfl))) hx hy, bitXor_pp hx.1 hy.1]; simp [bitsNat]
theorem minus_bits {x y : Int} (hx : InW x) (hy : InW y) : Builtin.bitAnd x (Builtin.bitXor y 4294967295) = bitsVal "s-" x y := by
 rw [bitsVal_nat (.inr (.inl rfl)) hx hy, bitXor_pp hy.1 (by decide), bitAnd_pp hx.1 (by lia)]
 simp [bitsNat]
theorem xor_ones {x : Nat} (hx : x < 2 ^ 32) : (x ^^^ 4294967295) + x = 4294967295 := by
 have h := xor_add x 4294967295
 have h2 : x &&& 4294967295 = x := by
  have e : (4294967295 : Nat) = 2 ^ 32 - 1 := by decide
  rw [e, Nat.and_two_pow_sub_one_eq_mod, Nat.mod_eq_of_lt hx]
 rw [h2] at h
 lia
theorem xor_onesR {x : Int} (hx : InW x) : Builtin.bitXor x 4294967295 = 4294967295 - x := by
 rw [bitXor_pp hx.1 (by decide)]
 have := xor_ones (toNat_lt hx)
 have e : ((4294967295 : Int)).toNat = 4294967295 := rfl
 rw [e]
 have := hx.1
 lia
end Mine
end
section
namespace Mine
open PySem PySem.W PyProof.Rows
theorem x01 {a : Int} (h : a = 0 ∨ a = 1) : Builtin.bitXor a 1 = 1 - a := by rcases h with rfl | rfl <;> decide
theorem and01 {a b : Int} (h : a = 0 ∨ a = 1) (h2 : b = 0 ∨ b = 1) : Builtin.bitAnd a b = b01 (a + b == 2) := by rcases h with rfl | rfl <;> rcases h2 with rfl | rfl <;> decide
theorem or01 {a b : Int} (h : a = 0 ∨ a = 1) (h2 : b = 0 ∨ b = 1) : Builtin.bitOr a b = b01 (decide (a + b > 0)) := by rcases h with rfl | rfl <;> rcases h2 with rfl | rfl <;> decide
theorem and_one {a : Int} (h : 0 ≤ a) : Builtin.bitAnd a 1 = a.fmod 2 := by
 rw [bitAnd_pp h (by decide)]
 have e : ((1 : Int)).toNat = 2 ^ 1 - 1 := rfl
 rw [e, Nat.and_two_pow_sub_one_eq_mod, Int.fmod_eq_emod_of_nonneg _ (by decide)]
 lia
theorem sgn_inj {a b : Int} (ha : InW a) (hb : InW b) : (sgn a == sgn b) = decide (a = b) := by
 have h1 := ha.1; have h2 := ha.2; have h3 := hb.1; have h4 := hb.2
 by_cases e : a = b
 ·subst e; simp
 ·have : sgn a ≠ sgn b := by
   unfold sgn
   split <;> split <;> lia
  simp [e, this]
theorem ABS_eq {a : Int} (h : InW a) : Builtin.bitXor ((a + ((sgn a).fdiv (2 ^ ((31 : Int).fmod 32).toNat)).fmod W32).fmod W32) (((sgn a).fdiv (2 ^ ((31 : Int).fmod 32).toNat)).fmod W32) = (if sgn a < 0 then -(sgn a) else sgn a).fmod W32 := by
 have h1 := h.1; have h2 := h.2
 have e31 : (2 : Int) ^ ((31 : Int).fmod 32).toNat = 2147483648 := by decide
 rw [e31]
 have hw : W32 = 4294967296 := rfl
 by_cases hn : a ≥ 2147483648
 ·have es : sgn a = a - 4294967296 := if_pos hn
  rw [es]
  have ed : (a - 4294967296).fdiv 2147483648 = -1 := by
   rw [Int.fdiv_eq_ediv_of_nonneg _ (by decide)]; lia
  rw [ed]
  have em : (-1 : Int).fmod W32 = 4294967295 := by decide
  rw [em]
  have ea : (a + 4294967295).fmod W32 = a - 1 := by
   rw [Int.fmod_eq_emod_of_nonneg _ (by decide), hw]; lia
  rw [ea, xor_onesR ⟨by lia, by lia⟩, if_pos (by lia), Int.fmod_eq_emod_of_nonneg _ (by decide), hw]
  lia
 ·have es : sgn a = a := if_neg hn
  rw [es]
  have ed : a.fdiv 2147483648 = 0 := by
   rw [Int.fdiv_eq_ediv_of_nonneg _ (by decide)]; lia
  rw [ed]
  have em : (0 : Int).fmod W32 = 0 := by decide
  rw [em, Int.add_zero, fmod_id h, if_neg (by lia), fmod_id h, bitXor_pp h1 (by decide)]
  simp; lia
theorem ROR_eq {a k : Int} (h : InW a) (k0 : 0 ≤ k) (k1 : k < 32) : Builtin.bitOr (a.fdiv (2 ^ k.toNat)) (a * 2 ^ (32 - k).toNat) = a.fdiv (2 ^ k.toNat) + a * 2 ^ (32 - k).toNat := by
 have h1 := h.1; have h2 := h.2
 have hp : (0 : Int) < 2 ^ k.toNat := Int.pow_pos (by decide)
 have hf : a.fdiv (2 ^ k.toNat) = ((a.toNat / 2 ^ k.toNat : Nat) : Int) := by
  rw [Int.fdiv_eq_ediv_of_nonneg _ (Int.le_of_lt hp)]
  have := toNat_cast h
  rw [← this]; norm_cast
 have hm : a * 2 ^ (32 - k).toNat = ((2 ^ (32 - k).toNat * a.toNat : Nat) : Int) := by
  have := toNat_cast h
  rw [← this, Int.mul_comm]; norm_cast
 rw [hf, hm, bitOr_pp (Int.natCast_nonneg _) (Int.natCast_nonneg _)]
 have hlt : a.toNat / 2 ^ k.toNat < 2 ^ (32 - k).toNat := by
  rw [Nat.div_lt_iff_lt_mul (Nat.pow_pos (by decide)), ← Nat.pow_add]
  have : (32 - k).toNat + k.toNat = 32 := by lia
  rw [this]; exact toNat_lt h
 rw [Int.toNat_natCast, Int.toNat_natCast, Nat.or_comm, ← Nat.two_pow_add_eq_or_of_lt hlt, Nat.add_comm]
 norm_cast
theorem IN_eq {x y : Int} (hx0 : 0 ≤ x) (hx1 : x < 32) (hy : InW y) : (((sgn y).fdiv (2 ^ x.toNat)).fmod W32).fmod 2 = (y.fdiv (2 ^ x.toNat)).fmod 2 := by
 obtain ⟨hp, m, hm⟩ := bit_split hx0 hx1
 generalize (2 : Int) ^ x.toNat = p at hp hm
 have e1 : ∀ z : Int, (z.fmod W32).fmod 2 = z.fmod 2 := fun z => by
  have hw : W32 = 4294967296 := rfl
  rw [Int.fmod_eq_emod_of_nonneg _ (by decide), Int.fmod_eq_emod_of_nonneg _ (by decide), Int.fmod_eq_emod_of_nonneg _ (by decide), hw]; lia
 rw [e1]
 by_cases hn : y ≥ 2147483648
 ·have es : sgn y = y - 4294967296 := if_pos hn
  rw [es, Int.fdiv_eq_ediv_of_nonneg _ (by lia), Int.fdiv_eq_ediv_of_nonneg _ (by lia), ← hm]
  have : y - p * (2 * m) = y + p * (-(2 * m)) := by rw [Int.mul_neg]; lia
  rw [this, Int.add_mul_ediv_left _ _ (by lia), Int.fmod_eq_emod_of_nonneg _ (by decide), Int.fmod_eq_emod_of_nonneg _ (by decide)]
  lia
 ·have es : sgn y = y := if_neg hn
  rw [es]
theorem set_eq {total e : Int} (ht : InW total) (h0 : 0 ≤ e) (h1 : e < 32) : Builtin.bitOr total (((1 : Int) * 2 ^ ((e.fmod W32).fmod 32).toNat).fmod W32) = setF total (2 ^ e.toNat) := by
 have hf : (e.fmod W32).fmod 32 = e := by
  rw [fmod_id ⟨h0, by lia⟩, Int.fmod_eq_emod_of_nonneg _ (by decide)]; exact Int.emod_eq_of_lt h0 h1
 rw [hf, Int.one_mul]
 have hk : e.toNat < 32 := by lia
 have hpw : (2 : Int) ^ e.toNat = ((2 ^ e.toNat : Nat) : Int) := by norm_cast
 have hlt : (2 : Nat) ^ e.toNat < 2 ^ 32 := Nat.pow_lt_pow_right (by decide) hk
 have hW : InW ((2 : Int) ^ e.toNat) := by
  rw [hpw]
  generalize (2 : Nat) ^ e.toNat = q at hlt
  exact ⟨Int.natCast_nonneg _, by lia⟩
 rw [fmod_id hW, or_bits ht hW, bitsVal_nat (.inl rfl) ht hW]
 unfold setF
 have hb := bitAt_nat total.toNat e.toNat
 rw [toNat_cast ht] at hb
 unfold bitAt at hb
 rw [hb, tb]
 have hx : (2 ^ e.toNat : Int).toNat = 2 ^ e.toNat := by rw [hpw]; rfl
 rw [hx]
 have e1 : bitsNat "s+" total.toNat (2 ^ e.toNat) = total.toNat ||| 2 ^ e.toNat := by simp [bitsNat]
 rw [e1]
 have hxa := xor_add total.toNat (2 ^ e.toNat)
 cases hbit : total.toNat.testBit e.toNat with
 | true =>
  have : total.toNat ||| 2 ^ e.toNat = total.toNat := by
   apply Nat.eq_of_testBit_eq
   intro i
   rw [Nat.testBit_or, Nat.testBit_two_pow]
   by_cases hi : e.toNat = i
   ·subst hi; simp [hbit]
   ·simp [hi]
  rw [this, if_pos (by rfl)]; exact toNat_cast ht
 | false =>
  have h3 : total.toNat ||| 2 ^ e.toNat = total.toNat ^^^ 2 ^ e.toNat := by
   apply Nat.eq_of_testBit_eq
   intro i
   rw [Nat.testBit_or, Nat.testBit_xor, Nat.testBit_two_pow]
   by_cases hi : e.toNat = i
   ·subst hi; simp [hbit]
   ·simp [hi]
  have h4 : total.toNat &&& 2 ^ e.toNat = 0 := by
   apply Nat.eq_of_testBit_eq
   intro i
   rw [Nat.testBit_and, Nat.testBit_two_pow, Nat.zero_testBit]
   by_cases hi : e.toNat = i
   ·subst hi; simp [hbit]
   ·simp [hi]
  rw [h3, if_neg (by decide)]
  have := toNat_cast ht
  lia
end Mine
end
section
namespace Mine
open PySem PySem.W PyProof.Rows
noncomputable def Ext (s s' : MS) : Prop := s.rows <+: s'.rows ∧ s.inputs <+: s'.inputs
theorem Ext.refl (s : MS) : Ext s s := ⟨List.prefix_refl _, List.prefix_refl _⟩
theorem Ext.trans {s t u : MS} (h : Ext s t) (h2 : Ext t u) : Ext s u := ⟨h.1.trans h2.1, h.2.trans h2.2⟩
noncomputable def Has (w0 : Nat → Int) (s : MS) (r v : Int) : Prop := 0 ≤ r ∧ r < s.rows.length ∧ ∀ ins, (s.inputs.map w0) <+: ins → (evalRows ins [] s.rows).getD r.toNat 0 = v
structure QInv (w0 cur : Nat → Int) (us ss : List Nat) (s : MS) : Prop where
 body : ∀ i r, s.rows[i]? = some r → BodyOK i r
 held : ∀ i r, s.held.lookup i = some r → Has w0 s r (cur i)
 known : ∀ i, (s.held.lookup i).isSome = decide (i ∈ ss ∨ i ∈ us)
 ins : s.inputs = us
 sts : s.stored = ss
 fresh : ∀ i, i ∉ ss → cur i = w0 i
 ok0 : WordsOK w0
 okc : WordsOK cur
theorem evalRows_pre (ins : List Int) : ∀ (rs : List Row) (vs : List Int), vs <+: evalRows ins vs rs
 | [], vs => List.prefix_refl _
 | q :: rs, vs => (List.prefix_append vs _).trans (evalRows_pre ins rs _)
theorem evalRows_app (ins : List Int) : ∀ (a b : List Row) (vs : List Int), evalRows ins vs (a ++ b) = evalRows ins (evalRows ins vs a) b
 | [], b, vs => rfl
 | q :: a, b, vs => evalRows_app ins a b _
theorem getD_pre {a b : List Int} (h : a <+: b) {i : Nat} (hi : i < a.length) : b.getD i 0 = a.getD i 0 := by
 obtain ⟨c, rfl⟩ := h
 rw [List.getD_eq_getElem?_getD, List.getD_eq_getElem?_getD, List.getElem?_append_left hi]
theorem Has.ext {w0 : Nat → Int} {s s' : MS} {r v : Int} (h : Has w0 s r v) (e : Ext s s') : Has w0 s' r v := by
 obtain ⟨h0, h1, h2⟩ := h
 obtain ⟨⟨b, hb⟩, e2⟩ := e
 refine ⟨h0, by rw [← hb, List.length_append]; lia, fun ins hi => ?_⟩
 rw [← hb, evalRows_app, getD_pre (evalRows_pre ins b _) (by rw [evalRows_len]; simp; lia)]
 exact h2 ins (List.IsPrefix.trans (e2.map w0) hi)
theorem put_ext (s : MS) (op : String) (x y : Int) : Ext s (s.put op x y) := ⟨List.prefix_append _ _, List.prefix_refl _⟩
theorem val_new (ins : List Int) (rows : List Row) (q : Row) : (evalRows ins [] (rows ++ [q])).getD rows.length 0 = rowVal ins (evalRows ins [] rows) q := by
 rw [evalRows_snoc, List.getD_eq_getElem?_getD, List.getElem?_append_right (by rw [evalRows_len]; simp)]
 simp [evalRows_len]
theorem body_snoc {rows : List Row} {q : Row} (h : ∀ i r, rows[i]? = some r → BodyOK i r) (hq : BodyOK rows.length q) : ∀ i r, (rows ++ [q])[i]? = some r → BodyOK i r := fun i r hr => by
 rcases Nat.lt_trichotomy i rows.length with hi | hi | hi
 ·rw [List.getElem?_append_left hi] at hr; exact h i r hr
 ·subst hi
  rw [List.getElem?_append_right (Nat.le_refl _)] at hr
  simp at hr; rw [← hr]; exact hq
 ·rw [List.getElem?_eq_none (by simp; lia)] at hr; cases hr
section
variable {w0 cur : Nat → Int} {us ss : List Nat} {s : MS}
theorem QInv.put (I : QInv w0 cur us ss s) {op : String} {x y : Int} (hq : BodyOK s.rows.length ⟨op, s.rows.length, x, y⟩) : QInv w0 cur us ss (s.put op x y) :=
 ⟨body_snoc I.body hq, fun i r h => (I.held i r h).ext (put_ext s op x y), I.known, I.ins, I.sts, I.fresh, I.ok0, I.okc⟩
noncomputable def Step (w0 cur : Nat → Int) (us ss : List Nat) (s : MS) (r v : Int) (s' : MS) : Prop := QInv w0 cur us ss s' ∧ Has w0 s' r v ∧ Ext s s'
theorem ops2_ne {op : String} (h : op ∈ ops2) : op ≠ "const" ∧ op ≠ "in" := by
 constructor
 ·rintro rfl; revert h; decide
 ·rintro rfl; revert h; decide
theorem put2 (I : QInv w0 cur us ss s) {op : String} {x y a b : Int} (hop : op ∈ ops2) (hx : Has w0 s x a) (hy : Has w0 s y b) : Step w0 cur us ss s s.rows.length (opVal op a b) (s.put op x y) := by
 refine ⟨I.put ⟨rfl, .inr (.inr ⟨hop, hx.1, hx.2.1, hy.1, hy.2.1⟩)⟩, ⟨Int.natCast_nonneg _, by simp [MS.put]; lia, fun ins hi => ?_⟩, put_ext s op x y⟩
 have ⟨n1, n2⟩ := ops2_ne hop
 show (evalRows ins [] (s.rows ++ [⟨op, s.rows.length, x, y⟩])).getD ((s.rows.length : Int)).toNat 0 = _
 rw [Int.toNat_natCast, val_new]
 unfold rowVal
 rw [if_neg n1, if_neg n2, hx.2.2 ins hi, hy.2.2 ins hi]
theorem putc (I : QInv w0 cur us ss s) {x : Int} (h1 : -2147483648 ≤ x) (h2 : x < 4294967296) : Step w0 cur us ss s s.rows.length (x.fmod W32) (s.put "const" x 0) := by
 refine ⟨I.put ⟨rfl, .inl ⟨rfl, h1, h2⟩⟩, ⟨Int.natCast_nonneg _, by simp [MS.put]; lia, fun ins hi => ?_⟩, put_ext s _ _ _⟩
 show (evalRows ins [] (s.rows ++ [⟨"const", s.rows.length, x, 0⟩])).getD ((s.rows.length : Int)).toNat 0 = _
 rw [Int.toNat_natCast, val_new]
 unfold rowVal
 rw [if_pos rfl]
theorem Step.val {r v v' : Int} {s' : MS} (h : Step w0 cur us ss s r v s') (e : v = v') : Step w0 cur us ss s r v' s' := e ▸ h
theorem Step.after {r2 v2 : Int} {s' s'' : MS} (h : Ext s s') (h2 : Step w0 cur us ss s' r2 v2 s'') : Step w0 cur us ss s r2 v2 s'' := ⟨h2.1, h2.2.1, h.trans h2.2.2⟩
end
end Mine
end
section
namespace Mine
open PySem PySem.W PyProof.Rows
theorem ov_add (x y : Int) : opVal "add" x y = (x + y).fmod W32 := by simp [opVal]
theorem ov_sub (x y : Int) : opVal "sub" x y = (x - y).fmod W32 := by simp [opVal]
theorem ov_mul (x y : Int) : opVal "mul" x y = (x * y).fmod W32 := by simp [opVal]
theorem ov_and (x y : Int) : opVal "and" x y = Builtin.bitAnd x y := by simp [opVal]
theorem ov_or (x y : Int) : opVal "or" x y = Builtin.bitOr x y := by simp [opVal]
theorem ov_xor (x y : Int) : opVal "xor" x y = Builtin.bitXor x y := by simp [opVal]
theorem ov_shl (x y : Int) : opVal "shl" x y = (x * 2 ^ (y.fmod 32).toNat).fmod W32 := by simp [opVal]
theorem ov_asr (x y : Int) : opVal "asr" x y = ((sgn x).fdiv (2 ^ (y.fmod 32).toNat)).fmod W32 := by simp [opVal]
theorem ov_ror (x y : Int) : opVal "ror" x y = (Builtin.bitOr (x.fdiv (2 ^ (y.fmod 32).toNat)) (x * 2 ^ (32 - y.fmod 32).toNat)).fmod W32 := by simp [opVal]
theorem ov_less (x y : Int) : opVal "less" x y = b01 (decide (sgn x < sgn y)) := by
 have : opVal "less" x y = if sgn x < sgn y then 1 else 0 := by simp [opVal]
 rw [this]; unfold b01; simp
theorem ov_equal (x y : Int) : opVal "equal" x y = b01 (decide (x = y)) := by
 have : opVal "equal" x y = if x = y then 1 else 0 := by simp [opVal]
 rw [this]; unfold b01; simp
section
variable {w0 cur : Nat → Int} {us ss : List Nat} {s : MS}
theorem st_turned (I : QInv w0 cur us ss s) {r a : Int} (hr : Has w0 s r a) (h : a = 0 ∨ a = 1) : Step w0 cur us ss s (turnedM s r).1 (1 - a) (turnedM s r).2 := by
 obtain ⟨I1, H1, E1⟩ := putc I (x := 1) (by decide) (by decide)
 exact (Step.after E1 (put2 I1 (op := "xor") (by decide) (hr.ext E1) H1)).val (by rw [ov_xor]; exact x01 h)
theorem st_subset (I : QInv w0 cur us ss s) {x y a b : Int} (hx : Has w0 s x a) (hy : Has w0 s y b) (ha : InW a) (hb : InW b) : Step w0 cur us ss s (subsetM s x y).1 (b01 (bitsVal "s-" a b == 0)) (subsetM s x y).2 := by
 obtain ⟨I1, H1, E1⟩ := putc I (x := 4294967295) (by decide) (by decide)
 obtain ⟨I2, H2, E2⟩ := Step.after E1 (put2 I1 (op := "xor") (by decide) (hy.ext E1) H1)
 obtain ⟨I3, H3, E3⟩ := Step.after E2 (put2 I2 (op := "and") (by decide) (hx.ext E2) H2)
 obtain ⟨I4, H4, E4⟩ := putc I3 (x := 0) (by decide) (by decide)
 refine (Step.after (E3.trans E4) (put2 I4 (op := "equal") (by decide) (H3.ext E4) H4)).val ?_
 have e0 : (0 : Int).fmod W32 = 0 := by decide
 have e1 : (4294967295 : Int).fmod W32 = 4294967295 := by decide
 rw [ov_equal, ov_and, ov_xor, e0, e1, minus_bits ha hb]
 congr 1
theorem st_abs (I : QInv w0 cur us ss s) {x a : Int} (hx : Has w0 s x a) (ha : InW a) : Step w0 cur us ss s (absoluteM s x).1 (stdVal "ABS" a 0) (absoluteM s x).2 := by
 obtain ⟨I1, H1, E1⟩ := putc I (x := 31) (by decide) (by decide)
 obtain ⟨I2, H2, E2⟩ := Step.after E1 (put2 I1 (op := "asr") (by decide) (hx.ext E1) H1)
 obtain ⟨I3, H3, E3⟩ := put2 I2 (op := "add") (by decide) (hx.ext E2) H2
 refine (Step.after (E2.trans E3) (put2 I3 (op := "xor") (by decide) H3 (H2.ext E3))).val ?_
 have e0 : (31 : Int).fmod W32 = 31 := by decide
 rw [ov_xor, ov_add, ov_asr, e0, ABS_eq ha]
 rfl
theorem st_odd (I : QInv w0 cur us ss s) {x a : Int} (hx : Has w0 s x a) (ha : InW a) : Step w0 cur us ss s ((s.put "const" 1 0).putR "and" x s.rows.length).1 (stdVal "ODD" a 0) ((s.put "const" 1 0).putR "and" x s.rows.length).2 := by
 obtain ⟨I1, H1, E1⟩ := putc I (x := 1) (by decide) (by decide)
 refine (Step.after E1 (put2 I1 (op := "and") (by decide) (hx.ext E1) H1)).val ?_
 have e0 : (1 : Int).fmod W32 = 1 := by decide
 rw [ov_and, e0, and_one ha.1]; rfl
theorem st_std2 (I : QInv w0 cur us ss s) {name : String} {x a k : Int} (hx : Has w0 s x a) (ha : InW a) (hn : name = "LSL" ∨ name = "ASR" ∨ name = "ROR") (k0 : 0 ≤ k) (k1 : k < 32) : Step w0 cur us ss s ((s.put "const" k 0).putR (std2Name name) x s.rows.length).1 (stdVal name a (k.fmod W32)) ((s.put "const" k 0).putR (std2Name name) x s.rows.length).2 := by
 obtain ⟨I1, H1, E1⟩ := putc I (x := k) (by lia) (by lia)
 have hk : k.fmod W32 = k := fmod_id ⟨k0, by lia⟩
 have hk2 : k.fmod 32 = k := by rw [Int.fmod_eq_emod_of_nonneg _ (by decide)]; exact Int.emod_eq_of_lt k0 k1
 rw [hk] at H1
 rw [hk]
 rcases hn with rfl | rfl | rfl
 ·exact (Step.after E1 (put2 I1 (op := "shl") (by decide) (hx.ext E1) H1)).val (by rw [ov_shl, hk2]; simp [stdVal])
 ·exact (Step.after E1 (put2 I1 (op := "asr") (by decide) (hx.ext E1) H1)).val (by rw [ov_asr, hk2]; simp [stdVal])
 ·exact (Step.after E1 (put2 I1 (op := "ror") (by decide) (hx.ext E1) H1)).val (by rw [ov_ror, hk2, ROR_eq ha k0 k1]; simp [stdVal])
theorem st_un (I : QInv w0 cur us ss s) {op : String} {x a : Int} (hx : Has w0 s x a) (ha : InW a) (hn : op = "neg" ∨ (op = "not" ∧ (a = 0 ∨ a = 1)) ∨ op = "s~") : Step w0 cur us ss s (unM s op x).1 (unVal op a) (unM s op x).2 := by
 rcases hn with rfl | ⟨rfl, h⟩ | rfl
 ·obtain ⟨I1, H1, E1⟩ := putc I (x := 0) (by decide) (by decide)
  have e0 : (0 : Int).fmod W32 = 0 := by decide
  rw [e0] at H1
  exact (Step.after E1 (put2 I1 (op := "sub") (by decide) H1 (hx.ext E1))).val (by rw [ov_sub]; rfl)
 ·exact st_turned I hx h
 ·obtain ⟨I1, H1, E1⟩ := putc I (x := 4294967295) (by decide) (by decide)
  have e0 : (4294967295 : Int).fmod W32 = 4294967295 := by decide
  rw [e0] at H1
  have e1 : unVal "s~" a = 4294967295 - a := by simp [unVal]
  have e2 : unM s "s~" x = (s.put "const" 4294967295 0).putR "xor" x s.rows.length := by simp [unM]
  rw [e1, e2]
  exact (Step.after E1 (put2 I1 (op := "xor") (by decide) (hx.ext E1) H1)).val (by rw [ov_xor, xor_onesR ha])
theorem st_set (I : QInv w0 cur us ss s) {p : Int × MS} {total e : Int} (hp : Step w0 cur us ss s p.1 total p.2) (ht : InW total) (h0 : 0 ≤ e) (h1 : e < 32) : Step w0 cur us ss s (setStep p e).1 (setF total (2 ^ e.toNat)) (setStep p e).2 := by
 obtain ⟨I0, H0, E0⟩ := hp
 obtain ⟨I1, H1, E1⟩ := putc I0 (x := e) (by lia) (by lia)
 obtain ⟨I2, H2, E2⟩ := putc I1 (x := 1) (by decide) (by decide)
 obtain ⟨I3, H3, E3⟩ := put2 I2 (op := "shl") (by decide) H2 (H1.ext E2)
 have E13 := (E1.trans E2).trans E3
 refine (Step.after (E0.trans E13) (put2 I3 (op := "or") (by decide) (H0.ext E13) H3)).val ?_
 have e0 : (1 : Int).fmod W32 = 1 := by decide
 rw [ov_or, ov_shl, e0]
 exact set_eq ht h0 h1
end
end Mine
end
section
namespace Mine
open PySem PySem.W PyProof.Rows
theorem nlt (p q : Int) : (!decide (p < q)) = decide (q ≤ p) := by rw [← decide_not]; exact decide_eq_decide.mpr Int.not_lt
section
variable {w0 cur : Nat → Int} {us ss : List Nat} {s : MS}
theorem st_turn2 (I : QInv w0 cur us ss s) {r : Int} {c : Bool} {s1 : MS} (h : Step w0 cur us ss s r (b01 c) s1) (hr : r = s.rows.length) : Step w0 cur us ss s (turnedM s1 s.rows.length).1 (b01 !c) (turnedM s1 s.rows.length).2 := by
 subst hr
 refine (Step.after h.2.2 (st_turned h.1 h.2.1 (b01_in c))).val ?_
 cases c <;> rfl
theorem st_rel (I : QInv w0 cur us ss s) {op : String} {x y a b : Int} (hx : Has w0 s x a) (hy : Has w0 s y b) (ha : InW a) (hb : InW b) (hop : op ∈ relOps) : Step w0 cur us ss s (relationM s op x y).1 (b01 (relVal op (sgn a) (sgn b))) (relationM s op x y).2 := by
 have heq := put2 I (op := "equal") (by decide) hx hy
 have hless := put2 I (op := "less") (by decide) hx hy
 have hless2 := put2 I (op := "less") (by decide) hy hx
 rw [ov_equal] at heq
 rw [ov_less] at hless hless2
 rw [← sgn_inj ha hb] at heq
 apply each6 (x := op) hop heq ((st_turn2 I heq rfl).val (by congr 1)) hless
 ·refine (st_turn2 I hless rfl).val ?_
  congr 1
  show (!decide (sgn a < sgn b)) = relVal ">=" (sgn a) (sgn b)
  rw [nlt]; simp [relVal]
 ·refine hless2.val ?_
  congr 1
 ·refine (st_turn2 I hless2 rfl).val ?_
  congr 1
  show (!decide (sgn b < sgn a)) = relVal "<=" (sgn a) (sgn b)
  rw [nlt]; simp [relVal]
theorem st_pair (I : QInv w0 cur us ss s) {op : String} {x y a b : Int} (hx : Has w0 s x a) (hy : Has w0 s y b) (ha : InW a) (hb : InW b) (hop : op ∈ pairOps ++ relOps) (h01 : op = "&" ∨ op = "OR" → (a = 0 ∨ a = 1) ∧ (b = 0 ∨ b = 1)) (hin : op = "IN" → a < 32) :
  Step w0 cur us ss s (pairM s op x y).1 (pairVal op a b) (pairM s op x y).2 := by
 rcases pairCases2 hop with h1 | rfl | rfl | rfl | rfl | h1
 ·clear hin hop
  revert h01
  apply each8 (x := op) h1
  ·intro _; exact (put2 I (op := "add") (by decide) hx hy).val (by rw [ov_add]; rfl)
  ·intro _; exact (put2 I (op := "sub") (by decide) hx hy).val (by rw [ov_sub]; rfl)
  ·intro _; exact (put2 I (op := "mul") (by decide) hx hy).val (by rw [ov_mul]; rfl)
  ·intro _; exact (put2 I (op := "or") (by decide) hx hy).val (by rw [ov_or, or_bits ha hb]; rfl)
  ·intro _; exact (put2 I (op := "and") (by decide) hx hy).val (by rw [ov_and, and_bits ha hb]; rfl)
  ·intro _; exact (put2 I (op := "xor") (by decide) hx hy).val (by rw [ov_xor, xor_bits ha hb]; rfl)
  ·intro h01
   have := h01 (.inl rfl)
   exact (put2 I (op := "and") (by decide) hx hy).val (by rw [ov_and, and01 this.1 this.2]; rfl)
  ·intro h01
   have := h01 (.inr rfl)
   exact (put2 I (op := "or") (by decide) hx hy).val (by rw [ov_or, or01 this.1 this.2]; rfl)
 ·obtain ⟨I1, H1, E1⟩ := putc I (x := 4294967295) (by decide) (by decide)
  obtain ⟨I2, H2, E2⟩ := Step.after E1 (put2 I1 (op := "xor") (by decide) (hy.ext E1) H1)
  have e0 : (4294967295 : Int).fmod W32 = 4294967295 := by decide
  exact (Step.after E2 (put2 I2 (op := "and") (by decide) (hx.ext E2) H2)).val (by rw [ov_and, ov_xor, e0, minus_bits ha hb]; rfl)
 ·exact (st_subset I hx hy ha hb).val (by rfl)
 ·exact (st_subset I hy hx hb ha).val (by rfl)
 ·have h32 := hin rfl
  obtain ⟨I1, H1, E1⟩ := put2 I (op := "asr") (by decide) hy hx
  obtain ⟨I2, H2, E2⟩ := putc I1 (x := 1) (by decide) (by decide)
  have e0 : (1 : Int).fmod W32 = 1 := by decide
  have em : a.fmod 32 = a := by rw [Int.fmod_eq_emod_of_nonneg _ (by decide)]; exact Int.emod_eq_of_lt ha.1 h32
  refine (Step.after (E1.trans E2) (put2 I2 (op := "and") (by decide) (H1.ext E2) H2)).val ?_
  rw [ov_and, ov_asr, e0, em, and_one (inW_fmod _).1, IN_eq ha.1 h32 hb]
  rfl
 ·have e1 : pairM s op x y = relationM s op x y := by apply each6 (x := op) h1 <;> rfl
  have e2 : pairVal op a b = b01 (relVal op (sgn a) (sgn b)) := by apply each6 (x := op) h1 <;> rfl
  rw [e1, e2]; exact st_rel I hx hy ha hb h1
end
end Mine
end
section
namespace Mine
open PySem PySem.W PyProof.Rows
section
variable {w0 cur : Nat → Int} {us ss : List Nat} {s : MS}
theorem st_var (I : QInv w0 cur us ss s) {i : Nat} (hi : i < 6) : Step w0 cur (usd ss us (.var i)) ss s (s.variable i).1 (cur i) (s.variable i).2 := by
 have hk := I.known i
 unfold MS.variable usd
 cases hl : s.held.lookup i with
 | some r =>
  rw [hl] at hk
  rw [if_pos (of_decide_eq_true hk.symm)]
  exact ⟨I, I.held i r hl, Ext.refl s⟩
 | none =>
  rw [hl] at hk
  have hn := of_decide_eq_false hk.symm
  rw [if_neg hn]
  have hE : Ext s { (s.put "in" s.inputs.length 0) with held := s.held ++ [(i, (s.rows.length : Int))], inputs := s.inputs ++ [i] } := ⟨List.prefix_append _ _, List.prefix_append _ _⟩
  have hcur : cur i = w0 i := I.fresh i fun h => hn (.inl h)
  have hH : Has w0 { (s.put "in" s.inputs.length 0) with held := s.held ++ [(i, (s.rows.length : Int))], inputs := s.inputs ++ [i] } s.rows.length (cur i) := by
   refine ⟨Int.natCast_nonneg _, by simp [MS.put]; lia, fun ins hp => ?_⟩
   show (evalRows ins [] (s.rows ++ [⟨"in", s.rows.length, s.inputs.length, 0⟩])).getD ((s.rows.length : Int)).toNat 0 = _
   rw [Int.toNat_natCast, val_new]
   obtain ⟨t, ht⟩ := hp
   have hlen : s.inputs.length < ins.length := by rw [← ht]; simp
   unfold rowVal
   rw [if_neg (show ¬ ("in" = "const") by decide), if_pos rfl, if_pos (by show ((s.inputs.length : Nat) : Int) < _; lia)]
   have hget : ins.getD s.inputs.length 0 = w0 i := by
    rw [← ht, List.getD_eq_getElem?_getD]
    simp [List.map_append]
   show (ins.getD ((s.inputs.length : Int)).toNat 0).fmod W32 = _
   rw [Int.toNat_natCast, hget, hcur]
   exact fmod_id (I.ok0.inW i hi)
  refine ⟨⟨body_snoc I.body ⟨rfl, .inr (.inl ⟨rfl, Int.natCast_nonneg _⟩)⟩, fun j r h => ?_, fun j => ?_, by show s.inputs ++ [i] = us ++ [i]; rw [I.ins], I.sts, I.fresh, I.ok0, I.okc⟩, hH, hE⟩
  ·have h' : (s.held ++ [(i, (s.rows.length : Int))]).lookup j = some r := h
   rw [List.lookup_append] at h'
   cases hj : s.held.lookup j with
   | some q =>
    rw [hj] at h'
    rw [← Option.some.inj h']
    exact (I.held j q hj).ext hE
   | none =>
    rw [hj] at h'
    by_cases e : j = i
    ·subst e
     simp at h'
     rw [← h']; exact hH
    ·have e' : (j == i) = false := by simpa using e
     simp [List.lookup_cons, e'] at h'
  ·show ((s.held ++ [(i, (s.rows.length : Int))]).lookup j).isSome = _
   rw [List.lookup_append]
   have hkj := I.known j
   by_cases e : j = i
   ·subst e
    rw [hl]; simp
   ·have e' : (j == i) = false := by simpa using e
    have e2 : ([(i, (s.rows.length : Int))]).lookup j = none := by simp [List.lookup_cons, e']
    rw [e2]
    simp only [Option.or_none]
    rw [hkj]
    simp [e]
end
end Mine
end
section
namespace Mine
open PySem PySem.W PyProof.Rows
section
variable {w0 cur : Nat → Int} {ss : List Nat}
theorem st_low {t : Tr} (hw : WT t) : ∀ {us : List Nat} {s : MS}, QInv w0 cur us ss s → Step w0 cur (usd ss us t) ss s (s.low t).1 (den cur t) (s.low t).2 := by
 induction hw with
 | const f v h1 h2 h3 h4 h5 => exact fun {us s} I => putc I h1 (by lia)
 | var i hi => exact fun {us s} I => st_var I hi
 | std1 name f t h hwt ih =>
  intro us s I
  obtain ⟨I1, H1, E1⟩ := ih I
  have hin := (den_in I.okc hwt).1
  rcases h with ⟨rfl, _⟩ | ⟨rfl, _⟩ | ⟨rfl, _⟩ | ⟨rfl, _⟩
  ·exact Step.after E1 (st_abs I1 H1 hin)
  ·exact Step.after E1 (st_odd I1 H1 hin)
  ·refine Step.after E1 ⟨I1, ?_, Ext.refl _⟩
   exact H1
  ·refine Step.after E1 ⟨I1, ?_, Ext.refl _⟩
   exact H1
 | std2 name f t k h hf h0 h1 hwt ih =>
  intro us s I
  obtain ⟨I1, H1, E1⟩ := ih I
  exact Step.after E1 (st_std2 I1 H1 (den_in I.okc hwt).1 h h0 h1)
 | set es h hl =>
  intro us s I
  have e0 : (0 : Int).fmod W32 = 0 := by decide
  have h0 : Step w0 cur us ss s (s.putR "const" 0 0).1 0 (s.putR "const" 0 0).2 := (putc I (x := 0) (by decide) (by decide)).val e0
  match es, hl with
  | [], _ => exact h0
  | [a], _ =>
   have ⟨a0, a1⟩ := h a (by simp)
   exact st_set I h0 ⟨by decide, by decide⟩ a0 a1
  | [a, b], _ =>
   have ⟨a0, a1⟩ := h a (by simp)
   have ⟨b0, b1⟩ := h b (by simp)
   have hs1 : InW (setVal [a]) := setVal_in (es := [a]) (fun e he => h e (by simp at he; simp [he])) (by simp)
   exact st_set I (st_set I h0 ⟨by decide, by decide⟩ a0 a1) hs1 b0 b1
 | un op f t h hwt ih =>
  intro us s I
  obtain ⟨I1, H1, E1⟩ := ih I
  have hin := den_in I.okc hwt
  refine Step.after E1 (st_un I1 H1 hin.1 ?_)
  rcases h with ⟨h, _⟩ | ⟨h, _, h2⟩ | ⟨h, _⟩
  ·exact .inl h
  ·exact .inr (.inl ⟨h, hin.2.1 h2⟩)
  ·exact .inr (.inr h)
 | bin op f l r h wl wr ihl ihr =>
  intro us s I
  obtain ⟨I1, H1, E1⟩ := ihl I
  obtain ⟨I2, H2, E2⟩ := ihr I1
  have hl := den_in I.okc wl
  have hr := den_in I.okc wr
  refine Step.after (E1.trans E2) (st_pair I2 (H1.ext E2) H2 hl.1 hr.1 ?_ ?_ ?_)
  ·rcases h with ⟨h, _⟩ | ⟨h, _⟩ | ⟨h, _⟩ | ⟨h, _⟩ | ⟨h, _⟩ | ⟨h, _⟩
   ·exact mem_sub h (by decide)
   ·exact mem_sub h (by decide)
   ·exact mem_sub h (by decide)
   ·exact mem_sub h (by decide)
   ·exact mem_sub (List.mem_singleton.mpr h) (by decide)
   ·exact mem_sub h (by decide)
  ·intro ho
   rcases h with ⟨h, _⟩ | ⟨h, _⟩ | ⟨h, _, h2, h3⟩ | ⟨h, _⟩ | ⟨h, _⟩ | ⟨h, _⟩
   ·rcases ho with rfl | rfl <;> simp at h
   ·rcases ho with rfl | rfl <;> simp at h
   ·exact ⟨hl.2.1 h2, hr.2.1 h3⟩
   ·rcases ho with rfl | rfl <;> simp at h
   ·rcases ho with rfl | rfl <;> simp at h
   ·rcases ho with rfl | rfl <;> simp at h
  ·rintro rfl
   rcases h with ⟨h, _⟩ | ⟨h, _⟩ | ⟨h, _⟩ | ⟨h, _⟩ | ⟨h, _, ⟨v, rfl, h0, h1⟩, _⟩ | ⟨h, _⟩
   ·simp at h
   ·simp at h
   ·simp at h
   ·simp at h
   ·show v.fmod W32 < 32
    rw [fmod_id ⟨h0, by lia⟩]; exact h1
   ·simp at h
end
end Mine
end
section
namespace Mine
open PySem PySem.W PyProof.Rows
theorem map_lookup_ne {i j : Nat} {r : Int} (hj : j ≠ i) : ∀ (held : List (Nat × Int)), (held.map fun p => if p.1 = i then (i, r) else p).lookup j = held.lookup j
 | [] => rfl
 | (k, q) :: held => by
  have ih := map_lookup_ne (r := r) hj held
  rw [List.map_cons]
  by_cases hk : k = i
  ·subst hk
   have e : (j == k) = false := by simpa using hj
   rw [if_pos rfl]
   simp only [List.lookup_cons, e]; exact ih
  ·rw [if_neg hk]
   simp only [List.lookup_cons]
   rw [ih]
theorem map_lookup_eq {i : Nat} {r : Int} : ∀ (held : List (Nat × Int)), (held.lookup i).isSome = true → (held.map fun p => if p.1 = i then (i, r) else p).lookup i = some r
 | [], h => by simp at h
 | (k, q) :: held, h => by
  rw [List.map_cons]
  by_cases hk : k = i
  ·subst hk; simp
  ·have e : (i == k) = false := by simpa using fun h => hk h.symm
   rw [if_neg hk]
   simp only [List.lookup_cons, e] at h ⊢
   exact map_lookup_eq held h
theorem heldPut_lookup (i : Nat) (r : Int) (j : Nat) (held : List (Nat × Int)) : (heldPut held i r).lookup j = if j = i then some r else held.lookup j := by
 unfold heldPut
 cases hl : (held.lookup i).isSome with
 | true =>
  simp only [if_true]
  by_cases hj : j = i
  ·subst hj; rw [map_lookup_eq held hl, if_pos rfl]
  ·rw [map_lookup_ne hj, if_neg hj]
 | false =>
  have hn : held.lookup i = none := by simpa using hl
  simp only [Bool.false_eq_true, if_false]
  rw [List.lookup_append]
  by_cases hj : j = i
  ·subst hj; rw [hn]; simp
  ·have e : (j == i) = false := by simpa using hj
   rw [if_neg hj]
   simp [List.lookup_cons, e]
theorem excl_eq {a e : Int} (ha : InW a) (h0 : 0 ≤ e) (h1 : e < 32) : Builtin.bitAnd a (Builtin.bitXor (2 ^ e.toNat) 4294967295) = if (a.fdiv (2 ^ e.toNat)).fmod 2 = 1 then a - 2 ^ e.toNat else a := by
 have hk : e.toNat < 32 := by lia
 have hpw : (2 : Int) ^ e.toNat = ((2 ^ e.toNat : Nat) : Int) := by norm_cast
 have hlt : (2 : Nat) ^ e.toNat < 2 ^ 32 := Nat.pow_lt_pow_right (by decide) hk
 have hb := bitAt_nat a.toNat e.toNat
 rw [toNat_cast ha] at hb
 unfold bitAt at hb
 rw [hb, tb, hpw, bitXor_pp (Int.natCast_nonneg _) (by decide), bitAnd_pp ha.1 (Int.natCast_nonneg _), Int.toNat_natCast, Int.toNat_natCast]
 have e1 : ((4294967295 : Int)).toNat = 4294967295 := rfl
 rw [e1]
 have hx := xor_add (a.toNat &&& (2 ^ e.toNat ^^^ 4294967295)) (a.toNat &&& 2 ^ e.toNat)
 have hz : (a.toNat &&& (2 ^ e.toNat ^^^ 4294967295)) &&& (a.toNat &&& 2 ^ e.toNat) = 0 := by
  apply Nat.eq_of_testBit_eq
  intro i
  simp only [Nat.testBit_and, Nat.testBit_xor, Nat.testBit_two_pow, Nat.zero_testBit]
  by_cases hi : e.toNat = i
  ·subst hi; simp [allones_bit hk]
  ·simp [hi]
 have hxx : (a.toNat &&& (2 ^ e.toNat ^^^ 4294967295)) ^^^ (a.toNat &&& 2 ^ e.toNat) = a.toNat := by
  apply Nat.eq_of_testBit_eq
  intro i
  simp only [Nat.testBit_and, Nat.testBit_xor, Nat.testBit_two_pow]
  by_cases h32 : i < 32
  ·rw [allones_bit h32]
   cases a.toNat.testBit i <;> cases decide (e.toNat = i) <;> rfl
  ·have : a.toNat.testBit i = false := Nat.testBit_lt_two_pow (Nat.lt_of_lt_of_le (toNat_lt ha) (Nat.pow_le_pow_right (by decide) (by lia)))
   rw [this]; rfl
 rw [hz, hxx] at hx
 have hp : a.toNat &&& 2 ^ e.toNat = if a.toNat.testBit e.toNat = true then 2 ^ e.toNat else 0 := by
  apply Nat.eq_of_testBit_eq
  intro i
  rw [Nat.testBit_and, Nat.testBit_two_pow]
  by_cases hi : e.toNat = i
  ·subst hi
   cases hb2 : a.toNat.testBit e.toNat <;> simp
  ·cases hb2 : a.toNat.testBit e.toNat <;> simp [hi, Nat.testBit_two_pow]
 rw [hp] at hx
 have hc := toNat_cast ha
 generalize (2 : Nat) ^ e.toNat = q at *
 cases hbit : a.toNat.testBit e.toNat with
 | true =>
  rw [hbit] at hx
  simp only [if_true] at hx
  rw [if_pos (by rfl)]; lia
 | false =>
  rw [hbit] at hx
  simp only [Bool.false_eq_true, if_false] at hx
  rw [if_neg (by decide)]; lia
section
variable {w0 cur : Nat → Int} {us ss : List Nat} {s : MS}
theorem st_keep (I : QInv w0 cur us ss s) {i : Nat} {r v : Int} (hi : i < 6) (hr : Has w0 s r v) (hv : WordIn (fmOf i) v) : QInv w0 (upd cur i v) us (addS ss i) (s.keep i r) := by
 have hE : Ext s (s.keep i r) := ⟨List.prefix_refl _, List.prefix_refl _⟩
 refine ⟨I.body, fun j q h => ?_, fun j => ?_, I.ins, ?_, fun j hj => ?_, I.ok0, upd_ok I.okc hi hv⟩
 ·have h' : (heldPut s.held i r).lookup j = some q := h
  rw [heldPut_lookup] at h'
  unfold upd
  by_cases e : j = i
  ·rw [if_pos e] at h' ⊢
   rw [← Option.some.inj h']; exact hr.ext hE
  ·rw [if_neg e] at h' ⊢
   exact (I.held j q h').ext hE
 ·show ((heldPut s.held i r).lookup j).isSome = _
  rw [heldPut_lookup]
  have hk := I.known j
  unfold addS
  by_cases e : j = i
  ·subst e
   rw [if_pos rfl]
   by_cases hs : j ∈ ss <;> simp [hs]
  ·rw [if_neg e, hk]
   by_cases hs : i ∈ ss
   ·rw [if_pos hs]
   ·rw [if_neg hs]; simp [e]
 ·show (if i ∈ s.stored then s.stored else s.stored ++ [i]) = addS ss i
  rw [I.sts]; rfl
 ·unfold addS at hj
  unfold upd
  have hne : j ≠ i := by
   rintro rfl
   by_cases hs : j ∈ ss
   ·rw [if_pos hs] at hj; exact hj hs
   ·rw [if_neg hs] at hj; exact hj (by simp)
  rw [if_neg hne]
  refine I.fresh j fun h => hj ?_
  by_cases hs : i ∈ ss
  ·rw [if_pos hs]; exact h
  ·rw [if_neg hs]; exact List.mem_append_left _ h
end
end Mine
end
section
namespace Mine
open PySem PySem.W PyProof.Rows
theorem st_deed {w0 : Nat → Int} {l : LSt} {s : MS} (I : QInv w0 l.ws l.us l.ss s) {d : Dd} (hw : WD d) : QInv w0 (l.deed d).ws (l.deed d).us (l.deed d).ss (s.deed d) := by
 cases hw with
 | assign i t hi wt hf =>
  obtain ⟨I1, H1, E1⟩ := st_low wt I
  refine st_keep I1 hi H1 ?_
  rw [← hf]; exact den_in I.okc wt
 | change name i t hi wt hc =>
  obtain ⟨I1, H1, E1⟩ := st_low wt I
  obtain ⟨I2, H2, E2⟩ := st_var I1 hi
  have H1' := H1.ext E2
  rcases hc with ⟨hn, hf, _⟩ | ⟨hn, hf, v, rfl, h0, h1⟩
  ·rcases hn with rfl | rfl
   ·obtain ⟨I3, H3, E3⟩ := put2 I2 (op := "add") (by decide) H2 H1'
    rw [ov_add] at H3
    exact st_keep I3 hi H3 (by rw [hf]; exact ⟨inW_fmod _, nofun, nofun⟩)
   ·obtain ⟨I3, H3, E3⟩ := put2 I2 (op := "sub") (by decide) H2 H1'
    rw [ov_sub, show l.ws i - den l.ws t = l.ws i + (0 - den l.ws t) by lia] at H3
    exact st_keep I3 hi H3 (by rw [hf]; exact ⟨inW_fmod _, nofun, nofun⟩)
  ·have hden : den l.ws (.const .I v) = v := fmod_id ⟨h0, by lia⟩
   have hfv : v.fmod W32 = v := fmod_id ⟨h0, by lia⟩
   have hio := incl_in (I.okc.inW i hi) h0 h1
   obtain ⟨I3, H3, E3⟩ := putc I2 (x := 1) (by decide) (by decide)
   obtain ⟨I4, H4, E4⟩ := put2 I3 (op := "shl") (by decide) H3 (H1'.ext E3)
   have e1 : (1 : Int).fmod W32 = 1 := by decide
   rw [ov_shl, e1, show den l.ws (.const .I v) = v.fmod W32 from rfl] at H4
   rcases hn with rfl | rfl
   ·obtain ⟨I5, H5, E5⟩ := put2 I4 (op := "or") (by decide) (H2.ext (E3.trans E4)) H4
    rw [ov_or, set_eq (I.okc.inW i hi) h0 h1] at H5
    have hx : setF (l.ws i) (2 ^ v.toNat) = chg "INCL" (l.ws i) (den l.ws (.const .I v)) := by rw [hden, chg_INCL]; rfl
    rw [hx] at H5
    exact st_keep I5 hi H5 (by rw [hf, hden]; exact ⟨hio.1, nofun, nofun⟩)
   ·obtain ⟨I5, H5, E5⟩ := putc I4 (x := 4294967295) (by decide) (by decide)
    obtain ⟨I6, H6, E6⟩ := put2 I5 (op := "xor") (by decide) (H4.ext E5) H5
    obtain ⟨I7, H7, E7⟩ := put2 I6 (op := "and") (by decide) (H2.ext (((E3.trans E4).trans E5).trans E6)) H6
    have e2 : (4294967295 : Int).fmod W32 = 4294967295 := by decide
    have hm : (v.fmod W32).fmod 32 = v := by rw [hfv, Int.fmod_eq_emod_of_nonneg _ (by decide)]; exact Int.emod_eq_of_lt h0 h1
    have hp : InW ((2 : Int) ^ v.toNat) := by
     have hlt : (2 : Nat) ^ v.toNat < 2 ^ 32 := Nat.pow_lt_pow_right (by decide) (by lia)
     have hpw : (2 : Int) ^ v.toNat = ((2 ^ v.toNat : Nat) : Int) := by norm_cast
     rw [hpw]
     generalize (2 : Nat) ^ v.toNat = q at hlt
     exact ⟨Int.natCast_nonneg _, by lia⟩
    rw [ov_and, ov_xor, e2, hm, Int.one_mul, fmod_id hp, excl_eq (I.okc.inW i hi) h0 h1] at H7
    have hx : (if ((l.ws i).fdiv (2 ^ v.toNat)).fmod 2 = 1 then l.ws i - 2 ^ v.toNat else l.ws i) = chg "EXCL" (l.ws i) (den l.ws (.const .I v)) := by rw [hden, chg_EXCL]
    rw [hx] at H7
    exact st_keep I7 hi H7 (by rw [hf, hden]; exact ⟨hio.2, nofun, nofun⟩)
end Mine
end
section
namespace Mine
open PySem PySem.W PyProof.Rows
theorem inv_empty {ws : Nat → Int} (h : WordsOK ws) : QInv ws ws [] [] MS.empty := ⟨fun i r hr => by simp [MS.empty] at hr, fun i r hr => by simp [MS.empty] at hr, fun i => by simp [MS.empty], rfl, rfl, fun _ _ => rfl, h, h⟩
theorem rowsOK_of {rows out : List Row} (h1 : ∀ i r, rows[i]? = some r → BodyOK i r) (h2 : ∀ r ∈ out, TailOK rows.length r) : RowsOK (rows ++ out) rows.length :=
 ⟨by simp, fun i r hi hr => by rw [List.getElem?_append_left hi] at hr; exact h1 i r hr, fun i r hi hr => by rw [List.getElem?_append_right hi] at hr; exact h2 r (List.mem_of_getElem? hr)⟩
theorem outVals_app (ins : List Int) (rows out : List Row) : outVals ins (rows ++ out) rows.length = out.map fun r => (evalRows ins [] rows).getD r.x.toNat 0 := by
 unfold outVals
 rw [List.drop_left, List.take_left]
theorem pure_expr (ws : Nat → Int) (t : Tr) (h : WordsOK ws) (hw : WT t) : ExprOK ws t := by
 obtain ⟨I, H, E⟩ := st_low hw (inv_empty h)
 refine ⟨rowsOK_of I.body fun r hr => ?_, I.ins, ?_⟩
 ·rw [List.mem_singleton.mp hr]; exact ⟨rfl, Int.le_refl _, H.1, H.2.1⟩
 ·rw [outVals_app]
  have := H.2.2 ((usd [] [] t).map ws) (by rw [I.ins]; exact List.prefix_refl _)
  simp only [List.map_cons, List.map_nil, this]
theorem st_deeds {w0 : Nat → Int} {ds : List Dd} (hw : ∀ d ∈ ds, WD d) : ∀ {l : LSt} {s : MS}, QInv w0 l.ws l.us l.ss s → QInv w0 (l.deeds ds).ws (l.deeds ds).us (l.deeds ds).ss (s.deeds ds) := by
 induction ds with
 | nil => exact fun I => I
 | cons d ds ih => exact fun {l s} I => ih (fun x hx => hw x (.tail _ hx)) (st_deed I (hw d (.head _)))
theorem outs_get (held : List (Nat × Int)) : ∀ (l : List Nat) (k i : Nat) (r : Row), (outs held k l)[i]? = some r → ∃ j, l[i]? = some j ∧ r = ⟨"out", ((k + i : Nat) : Int), (held.lookup j).getD 0, 0⟩
 | [], k, i, r, h => by simp [outs] at h
 | j :: l, k, 0, r, h => by
  simp only [outs, List.getElem?_cons_zero, Option.some.injEq] at h
  exact ⟨j, rfl, by rw [← h]; rfl⟩
 | j :: l, k, i + 1, r, h => by
  simp only [outs, List.getElem?_cons_succ] at h
  obtain ⟨j2, h1, h2⟩ := outs_get held l (k + 1) i r h
  exact ⟨j2, h1, by rw [h2, show k + 1 + i = k + (i + 1) by lia]⟩
theorem outs_map (held : List (Nat × Int)) (f : Int → Int) : ∀ (l : List Nat) (k : Nat), (outs held k l).map (fun r => f r.x) = l.map fun j => f ((held.lookup j).getD 0)
 | [], k => rfl
 | j :: l, k => by simp only [outs, List.map_cons, outs_map held f l]
theorem pure_block (ws : Nat → Int) (ds : List Dd) (h : WordsOK ws) (hw : ∀ d ∈ ds, WD d) : BlockOK ws ds := by
 have I := st_deeds (w0 := ws) hw (l := ⟨[], [], ws⟩) (inv_empty h)
 have hho : (bM ds).HoOK := fun j hj => by
  have hk := I.known j
  rw [decide_eq_true (.inl (I.sts ▸ hj))] at hk
  exact Option.isSome_iff_exists.mp hk
 have hlook : ∀ j ∈ (bM ds).stored, ∃ r, (bM ds).held.lookup j = some r ∧ Has ws (bM ds) r ((bL ws ds).ws j) := fun j hj => by
  obtain ⟨r, hr⟩ := hho j hj
  exact ⟨r, hr, I.held j r hr⟩
 refine ⟨hho, rowsOK_of I.body fun r hr => ?_, fun i r hi hr => ?_, I.ins, I.sts, ?_⟩
 ·obtain ⟨i, hi⟩ := List.mem_iff_getElem?.mp hr
  obtain ⟨j, hj, rfl⟩ := outs_get _ _ _ _ _ hi
  obtain ⟨q, hq, H⟩ := hlook j (List.mem_of_getElem? hj)
  refine ⟨rfl, Int.natCast_nonneg _, ?_, ?_⟩
  ·rw [hq]; exact H.1
  ·rw [hq]; exact H.2.1
 ·rw [bRows, List.getElem?_append_right hi] at hr
  obtain ⟨j, hj, rfl⟩ := outs_get _ _ _ _ _ hr
  simp
 ·rw [bRows, outVals_app, outs_map (bM ds).held (fun x => (evalRows ((bL ws ds).us.map ws) [] (bM ds).rows).getD x.toNat 0), I.sts]
  refine List.map_congr_left fun j hj => ?_
  obtain ⟨q, hq, H⟩ := hlook j (I.sts ▸ hj)
  rw [hq]
  exact H.2.2 _ (by rw [I.ins]; exact List.prefix_refl _)
theorem law_true {w : World} {hB : Heap} {mg mb : Str → Option Value} {G : Gh} (B : Base w hB mg mb) (n : Nat) {sa : Addr} {zs : List Value} {nz : Nat} (hs : G sa (lobj zs nz)) (hz : IntL zs) (hl : zs.length ≤ 63) :
  Calls w hB (n + 30) 476 [.ref sa] G [] (PV (.bool true)) := law_spec pure_expr pure_block B n hs hz hl
end Mine
end
section
namespace Mine
open PySem PySem.W PyProof.Rows PySem.Calls H
theorem ints_of {P : Params} {R : WRecords} {h : Heap} : ∀ {xs : List WData} {vs : List Value}, WellAll P h vs xs → WShape.hasItems R xs .int = true → IntL vs ∧ vs.length = xs.length
 | [], _, .nil, _ => ⟨nofun, rfl⟩
 | x :: xs, _, .cons hv hvs, hi => by
  have hi' : (WShape.has R x .int && WShape.hasItems R xs .int) = true := by simpa [WShape.hasItems] using hi
  obtain ⟨h1, h2⟩ := Bool.and_eq_true_iff.mp hi'
  obtain ⟨i, rfl⟩ := hasW_int h1
  obtain ⟨h3, h4⟩ := ints_of hvs h2
  cases hv with
  | int _ t =>
   refine ⟨fun v hm => ?_, by simp [h4]⟩
   rcases List.mem_cons.mp hm with rfl | hm
   ·exact ⟨i, t, rfl⟩
   ·exact h3 v hm
theorem room_caller : Room callerA 40 := ⟨rfl, by decide, by decide⟩
theorem hs0 (h : Heap) : HS h (fun a o => h.get? a = some o) [] h := ⟨fun _ _ x => x, fun _ _ x => x, fun p hp => (List.not_mem_nil hp).elim, fun p hp => (List.not_mem_nil hp).elim, List.nodup_nil⟩
theorem finish {c : ClaimW} {cl : Str → Option Addr} {mean : ExcName → Option Value} {args : List WData} {w : World} {s₁ : Shared} {sa : Addr} (hr : ∀ cls, c.raises args cls = false) (hp : c.post args (.bool true) args = true)
  (C : Calls w s₁.heap 35 476 [.ref sa] (fun a o => s₁.heap.get? a = some o) [] (PV (.bool true))) (hg : s₁.gens = #[]) :
  wpAny (model rw_.prog w) callerA (PySem.call (.ref 476) [.ref sa]) (fun v s' => GoodWG c cl mean args s₁ (.ok (.ret v)) s') (fun e s' => GoodWG c cl mean args s₁ (.error e) s') s₁ := by
 have key : ∀ r G' fp' h' tk', Eff (fun a o => s₁.heap.get? a = some o) [] s₁.heap G' fp' h' → (fp' = [] ∧ r = .bool true) → GoodWG c cl mean args s₁ (.ok (.ret r)) { s₁ with heap := h', toks := tk' } := by
  rintro r G' fp' h' tk' E ⟨rfl, rfl⟩
  exact GoodW.toG ⟨.inl ⟨.bool true, .bool true, [], rfl, hr, .bool true, hp, fun _ => ⟨List.nodup_nil, fun a ha => (List.not_mem_nil ha).elim⟩⟩, fun b o x => E.keep b o x (fun q => (List.not_mem_nil q).elim), rfl, hg⟩
 exact wpAny_call (C callerA s₁ _ (room_caller.le (by decide)) (hs0 s₁.heap) key)
theorem pre63 (xs : List WData) (h : WTm.holds [] (.and (.not (.lt (.lit (.int 63)) (.len (.arg 0)))) (.lit (.bool true))) { args := [.list xs] } = true) : xs.length ≤ 63 := by
 have hl : less? (.int 63) (.int (xs.length : Int)) = some (decide ((63 : Int) < (xs.length : Int))) := by rfl
 have hv : WTm.value [] (.not (.lt (.lit (.int 63)) (.len (.arg 0)))) { args := [.list xs] } = some (.bool (!decide ((63 : Int) < (xs.length : Int)))) := by
  simp [WTm.value, hl]
 rcases Nat.lt_or_ge 63 xs.length with q | q
 ·have hd : decide ((63 : Int) < (xs.length : Int)) = true := decide_eq_true (by omega)
  rw [hd] at hv
  simp [WTm.holds, WTm.value] at h hv
  simp [hv] at h
 ·exact q
theorem walk : WalkO q loose (XL q []) hk.says rw_ d [] fun f vs => PySem.call f vs := by
 intro w s₀ s₁ mg mb G Y a o pm cd doc dV kV ha hd hcode hdf hmg hgens args vals as hpre hlay hread hwell hlow
 have B : Base w s₁.heap mg mb := ⟨Y, G.T.g, G.T.b, G.T.nolimit, G.T.builtins⟩
 obtain ⟨hshape, hpre2⟩ := pre_splitW hpre
 obtain ⟨d1, r, rfl, h1, h2⟩ := hasAllW_cons hshape
 obtain rfl := hasAllW_nil h2
 obtain ⟨xs, rfl, hitems⟩ := hasW_list h1
 have hpre3 : WTm.holds [] (.and (.not (.lt (.lit (.int 63)) (.len (.arg 0)))) (.lit (.bool true))) { args := [.list xs] } = true := hpre2
 have hlen : xs.length ≤ 63 := pre63 xs hpre3
 cases hwell with
 | cons hv hvs =>
  cases hvs
  cases hv with
  | list hget hw =>
   rename_i sa zs
   obtain ⟨hz, hzl⟩ := ints_of hw hitems
   have h2 : mg d.name = some (.ref 476) := mg_of B.K B.g (show nsIn (H.K w.params) mainGlobals (S "law") = some (some (.ref 476)) by kernel_rfl)
   have ha476 : a = 476 := by
    have h3 := hmg.symm.trans h2
    injection h3 with h3
    injection h3
   subst ha476
   have C := law_true (G := fun a o => s₁.heap.get? a = some o) B 5 (sa := sa) (zs := zs) (nz := 0) hget hz (by omega)
   exact finish (c := rw_.claim) (fun cls => rfl) (by kernel_rfl) C hgens
end Mine
end
theorem PySem.Challenge.cw_pb0359_01_holds : PySem.Challenge.rw_pb0359_01.Holds :=
  Mine.H.head Mine.walk
