import PyProof.Rows.All
import Wide.All
import OpenK.AllK
import Wide.FinOn
import Lean
import PySem.Challenge.RW_pq0763_01
open PySem PySem.W PyProof.Rows
set_option Elab.async false
set_option rowWalk.seconds 0
namespace Mine
noncomputable abbrev pw : Program := PySem.Challenge.pw_pq0763_01
noncomputable def stAt (i : Nat) : Stmt := pw.main.body.getD i (.Pass ⟨0, 0, 0, 0⟩)
noncomputable def inCls (s : Stmt) (j : Nat) : Stmt := match s with
  | .ClassDef _ _ _ b _ _ _ _ _ _ _ => b.getD j (.Pass ⟨0, 0, 0, 0⟩)
  | _ => .Pass ⟨0, 0, 0, 0⟩
noncomputable def fo {nm : Str} {pr : Arguments} {b : List Stmt} {sc : Scope} {bd : Str} {ps : Pos} (name qual : String) (gl bl : Nat) (dV doc pm : Value) (cd : Nat) (st : Stmt) (_ : st = Stmt.FunctionDef nm pr b [] none [] sc none bd ps) : Obj :=
  { cls := .type "function", data := .func { name := Str.ofString name, qualname := Str.ofString qual, params := pr, body := .stmts b, scope := sc, globals := gl, closure := [], defaults := dV, kwdefaults := .none, doc := doc, pyModule := pm, code := .ref cd, builtins := bl } }
noncomputable def en (P : Params) (n : String) (t : Tok) (v : Value) : DictEntry := ⟨PyData.keyHash P (Str.ofString n), .str (Str.ofString n) t, v⟩
noncomputable def vs (s : String) (t : Tok) : Value := .str (Str.ofString s) t
set_option maxRecDepth 100000
noncomputable def o2 (P : Params) : Obj := ⟨.none, none, (.dict [].toArray 0), [].toArray⟩
noncomputable def o3 (P : Params) : Obj := ⟨(.type "dict"), none, (.dict [(en P "__name__" 165 (vs "law_pq0763_01" 905)), (en P "__doc__" 166 .none), (en P "__package__" 167 .none), (en P "__loader__" 168 (.builtin "__main__.__loader__#opaque")), (en P "__spec__" 169 .none), (en P "__annotations__" 170 (.ref 6)), (en P "__builtins__" 171 (.ref 4)), (en P "__file__" 173 (vs "/claim/cut.py" 172)), (en P "__cached__" 174 .none), (en P "_wall" 193 (.ref 21)), (en P "MOST_INTEGER" 197 (.int (2147483647) 196)), (en P "MOST_WORD" 199 (.int (4294967295) 198)), (en P "Token" 232 (.ref 38)), (en P "keywords" 238 (.ref 49)), (en P "is_letter" 245 (.ref 56)), (en P "is_digit" 252 (.ref 63)), (en P "is_hex_digit" 259 (.ref 70)), (en P "digits_value" 270 (.ref 77)), (en P "Scanner" 426 (.ref 186)), (en P "Type" 470 (.ref 207)), (en P "Obj" 515 (.ref 228)), (en P "Types" 574 (.ref 264)), (en P "Scope" 610 (.ref 285)), (en P "Scopes" 697 (.ref 348)), (en P "std_functions" 705 (.ref 359)), (en P "std_procedures" 711 (.ref 366)), (en P "fill" 720 (.ref 373)), (en P "Reader" 850 (.ref 468)), (en P "ErrorList" 904 (.ref 510)), (en P "_law_take" 916 (.ref 521)), (en P "law" 922 (.ref 526))].toArray 31), [].toArray⟩
noncomputable def o34 : Obj := ⟨(.type "code"), none, (.fields [(vs "__init__" 212), (vs "Token.__init__" 213), (vs "/claim/cut.py" 214), (.int (9) 0), (.int (4) 0), (.int (0) 0), (.int (0) 0), (.int (3) 0), (.ref 29), (.bool true), (.int (181) 0), (.ref 30), .none, (.ref 31), (.ref 32), (.ref 33), (.int (219) 0), (.int (9) 0), (vs "/claim/cut.py" 220)].toArray), [].toArray⟩
noncomputable def o35 : Obj := fo "__init__" "Token.__init__" 3 0 .none .none (vs "moduleyard.scanner" 194) 34 (inCls (stAt 4) 0) rfl
noncomputable def o37 (P : Params) : Obj := ⟨(.type "dict"), none, (.dict [(en P "__module__" 207 (vs "moduleyard.scanner" 194)), (en P "__firstlineno__" 211 (.int (7) 210)), (en P "__init__" 221 (.ref 35)), (en P "__static_attributes__" 225 (.ref 36)), (en P "__dict__" 227 (.ref 39)), (en P "__weakref__" 229 (.ref 40)), (en P "__doc__" 230 .none)].toArray 4), [].toArray⟩
noncomputable def o38 : Obj := ⟨(.type "type"), none, (.cls { name := Str.ofString "Token", bases := [(.type "object")], mro := [(.ref 38), (.type "object")], ns := 37, qualname := Str.ofString "Token", hasDict := true, slotNames := [], subclasses := [], abstract := false, collection := none, hasDel := false }), [none, none, (some (vs "Token" 200)), (some (vs "Token" 208)), (some (.builtin "object.__new__")), (some (.bool true))].toArray⟩
noncomputable def o39 : Obj := ⟨(.type "getset_descriptor"), none, (.fields [(vs "__dict__" 226), (.ref 38), (.builtin "function.__dict__"), (.builtin "function.__dict__#set")].toArray), [].toArray⟩
noncomputable def o40 : Obj := ⟨(.type "getset_descriptor"), none, (.fields [(vs "__weakref__" 228), (.ref 38), (.builtin "ExceptionGroup.__weakref__"), .none].toArray), [].toArray⟩
noncomputable def o48 : Obj := ⟨(.type "code"), none, (.fields [(vs "keywords" 233), (vs "keywords" 234), (vs "/claim/cut.py" 235), (.int (13) 0), (.int (0) 0), (.int (0) 0), (.int (0) 0), (.int (3) 0), (.ref 43), (.bool true), (.int (181) 0), (.ref 44), .none, (.ref 45), (.ref 46), (.ref 47), (.int (236) 0), (.int (13) 0), (vs "/claim/cut.py" 237)].toArray), [].toArray⟩
noncomputable def o49 : Obj := fo "keywords" "keywords" 3 0 .none .none (vs "moduleyard.scanner" 194) 48 (stAt 5) rfl
noncomputable def o55 : Obj := ⟨(.type "code"), none, (.fields [(vs "is_letter" 239), (vs "is_letter" 240), (vs "/claim/cut.py" 241), (.int (15) 0), (.int (1) 0), (.int (0) 0), (.int (0) 0), (.int (3) 0), (.ref 50), (.bool true), (.int (181) 0), (.ref 51), .none, (.ref 52), (.ref 53), (.ref 54), (.int (243) 0), (.int (15) 0), (vs "/claim/cut.py" 244)].toArray), [].toArray⟩
noncomputable def o56 : Obj := fo "is_letter" "is_letter" 3 0 .none .none (vs "moduleyard.scanner" 194) 55 (stAt 6) rfl
noncomputable def o62 : Obj := ⟨(.type "code"), none, (.fields [(vs "is_digit" 246), (vs "is_digit" 247), (vs "/claim/cut.py" 248), (.int (17) 0), (.int (1) 0), (.int (0) 0), (.int (0) 0), (.int (3) 0), (.ref 57), (.bool true), (.int (181) 0), (.ref 58), .none, (.ref 59), (.ref 60), (.ref 61), (.int (250) 0), (.int (17) 0), (vs "/claim/cut.py" 251)].toArray), [].toArray⟩
noncomputable def o63 : Obj := fo "is_digit" "is_digit" 3 0 .none .none (vs "moduleyard.scanner" 194) 62 (stAt 7) rfl
noncomputable def o69 : Obj := ⟨(.type "code"), none, (.fields [(vs "is_hex_digit" 253), (vs "is_hex_digit" 254), (vs "/claim/cut.py" 255), (.int (19) 0), (.int (1) 0), (.int (0) 0), (.int (0) 0), (.int (3) 0), (.ref 64), (.bool true), (.int (181) 0), (.ref 65), .none, (.ref 66), (.ref 67), (.ref 68), (.int (257) 0), (.int (19) 0), (vs "/claim/cut.py" 258)].toArray), [].toArray⟩
noncomputable def o70 : Obj := fo "is_hex_digit" "is_hex_digit" 3 0 .none .none (vs "moduleyard.scanner" 194) 69 (stAt 8) rfl
noncomputable def o76 : Obj := ⟨(.type "code"), none, (.fields [(vs "digits_value" 260), (vs "digits_value" 261), (vs "/claim/cut.py" 262), (.int (21) 0), (.int (3) 0), (.int (0) 0), (.int (0) 0), (.int (3) 0), (.ref 71), (.bool true), (.int (181) 0), (.ref 72), .none, (.ref 73), (.ref 74), (.ref 75), (.int (268) 0), (.int (21) 0), (vs "/claim/cut.py" 269)].toArray), [].toArray⟩
noncomputable def o77 : Obj := fo "digits_value" "digits_value" 3 0 .none .none (vs "moduleyard.scanner" 194) 76 (stAt 9) rfl
noncomputable def o90 : Obj := ⟨(.type "code"), none, (.fields [(vs "__init__" 283), (vs "Scanner.__init__" 284), (vs "/claim/cut.py" 285), (.int (30) 0), (.int (3) 0), (.int (0) 0), (.int (0) 0), (.int (3) 0), (.ref 85), (.bool true), (.int (181) 0), (.ref 86), .none, (.ref 87), (.ref 88), (.ref 89), (.int (289) 0), (.int (30) 0), (vs "/claim/cut.py" 290)].toArray), [].toArray⟩
noncomputable def o91 : Obj := fo "__init__" "Scanner.__init__" 3 0 .none .none (vs "moduleyard.scanner" 194) 90 (inCls (stAt 10) 0) rfl
noncomputable def o92 : Obj := ⟨(.type "tuple"), none, (.seq [(.int (0) 292)].toArray 0), [].toArray⟩
noncomputable def o98 : Obj := ⟨(.type "code"), none, (.fields [(vs "char" 293), (vs "Scanner.char" 294), (vs "/claim/cut.py" 295), (.int (36) 0), (.int (2) 0), (.int (0) 0), (.int (0) 0), (.int (3) 0), (.ref 93), (.bool true), (.int (181) 0), (.ref 94), .none, (.ref 95), (.ref 96), (.ref 97), (.int (298) 0), (.int (36) 0), (vs "/claim/cut.py" 299)].toArray), [].toArray⟩
noncomputable def o99 : Obj := fo "char" "Scanner.char" 3 0 (.ref 92) .none (vs "moduleyard.scanner" 194) 98 (inCls (stAt 10) 1) rfl
noncomputable def o105 : Obj := ⟨(.type "code"), none, (.fields [(vs "take" 301), (vs "Scanner.take" 302), (vs "/claim/cut.py" 303), (.int (39) 0), (.int (1) 0), (.int (0) 0), (.int (0) 0), (.int (3) 0), (.ref 100), (.bool true), (.int (181) 0), (.ref 101), .none, (.ref 102), (.ref 103), (.ref 104), (.int (308) 0), (.int (39) 0), (vs "/claim/cut.py" 309)].toArray), [].toArray⟩
noncomputable def o106 : Obj := fo "take" "Scanner.take" 3 0 .none .none (vs "moduleyard.scanner" 194) 105 (inCls (stAt 10) 2) rfl
noncomputable def o112 : Obj := ⟨(.type "code"), none, (.fields [(vs "skip" 311), (vs "Scanner.skip" 312), (vs "/claim/cut.py" 313), (.int (59) 0), (.int (1) 0), (.int (0) 0), (.int (0) 0), (.int (3) 0), (.ref 107), (.bool true), (.int (181) 0), (.ref 108), .none, (.ref 109), (.ref 110), (.ref 111), (.int (316) 0), (.int (59) 0), (vs "/claim/cut.py" 317)].toArray), [].toArray⟩
noncomputable def o113 : Obj := fo "skip" "Scanner.skip" 3 0 .none .none (vs "moduleyard.scanner" 194) 112 (inCls (stAt 10) 3) rfl
noncomputable def o119 : Obj := ⟨(.type "code"), none, (.fields [(vs "remark" 319), (vs "Scanner.remark" 320), (vs "/claim/cut.py" 321), (.int (69) 0), (.int (1) 0), (.int (0) 0), (.int (0) 0), (.int (3) 0), (.ref 114), (.bool true), (.int (181) 0), (.ref 115), .none, (.ref 116), (.ref 117), (.ref 118), (.int (326) 0), (.int (69) 0), (vs "/claim/cut.py" 327)].toArray), [].toArray⟩
noncomputable def o120 : Obj := fo "remark" "Scanner.remark" 3 0 .none .none (vs "moduleyard.scanner" 194) 119 (inCls (stAt 10) 4) rfl
noncomputable def o126 : Obj := ⟨(.type "code"), none, (.fields [(vs "word" 329), (vs "Scanner.word" 330), (vs "/claim/cut.py" 331), (.int (87) 0), (.int (2) 0), (.int (0) 0), (.int (0) 0), (.int (3) 0), (.ref 121), (.bool true), (.int (181) 0), (.ref 122), .none, (.ref 123), (.ref 124), (.ref 125), (.int (336) 0), (.int (87) 0), (vs "/claim/cut.py" 337)].toArray), [].toArray⟩
noncomputable def o127 : Obj := fo "word" "Scanner.word" 3 0 .none .none (vs "moduleyard.scanner" 194) 126 (inCls (stAt 10) 5) rfl
noncomputable def o133 : Obj := ⟨(.type "code"), none, (.fields [(vs "numeral" 339), (vs "Scanner.numeral" 340), (vs "/claim/cut.py" 341), (.int (97) 0), (.int (2) 0), (.int (0) 0), (.int (0) 0), (.int (3) 0), (.ref 128), (.bool true), (.int (181) 0), (.ref 129), .none, (.ref 130), (.ref 131), (.ref 132), (.int (348) 0), (.int (97) 0), (vs "/claim/cut.py" 349)].toArray), [].toArray⟩
noncomputable def o134 : Obj := fo "numeral" "Scanner.numeral" 3 0 .none .none (vs "moduleyard.scanner" 194) 133 (inCls (stAt 10) 6) rfl
noncomputable def o140 : Obj := ⟨(.type "code"), none, (.fields [(vs "whole" 351), (vs "Scanner.whole" 352), (vs "/claim/cut.py" 353), (.int (117) 0), (.int (4) 0), (.int (0) 0), (.int (0) 0), (.int (3) 0), (.ref 135), (.bool true), (.int (181) 0), (.ref 136), .none, (.ref 137), (.ref 138), (.ref 139), (.int (358) 0), (.int (117) 0), (vs "/claim/cut.py" 359)].toArray), [].toArray⟩
noncomputable def o141 : Obj := fo "whole" "Scanner.whole" 3 0 .none .none (vs "moduleyard.scanner" 194) 140 (inCls (stAt 10) 7) rfl
noncomputable def o175 : Obj := ⟨(.type "code"), none, (.fields [(vs "string" 397), (vs "Scanner.string" 398), (vs "/claim/cut.py" 399), (.int (153) 0), (.int (2) 0), (.int (0) 0), (.int (0) 0), (.int (3) 0), (.ref 170), (.bool true), (.int (181) 0), (.ref 171), .none, (.ref 172), (.ref 173), (.ref 174), (.int (404) 0), (.int (153) 0), (vs "/claim/cut.py" 405)].toArray), [].toArray⟩
noncomputable def o176 : Obj := fo "string" "Scanner.string" 3 0 .none .none (vs "moduleyard.scanner" 194) 175 (inCls (stAt 10) 12) rfl
noncomputable def o182 : Obj := ⟨(.type "code"), none, (.fields [(vs "symbol" 407), (vs "Scanner.symbol" 408), (vs "/claim/cut.py" 409), (.int (169) 0), (.int (1) 0), (.int (0) 0), (.int (0) 0), (.int (3) 0), (.ref 177), (.bool true), (.int (181) 0), (.ref 178), .none, (.ref 179), (.ref 180), (.ref 181), (.int (412) 0), (.int (169) 0), (vs "/claim/cut.py" 413)].toArray), [].toArray⟩
noncomputable def o183 : Obj := fo "symbol" "Scanner.symbol" 3 0 .none .none (vs "moduleyard.scanner" 194) 182 (inCls (stAt 10) 13) rfl
noncomputable def o185 (P : Params) : Obj := ⟨(.type "dict"), none, (.dict [(en P "__module__" 278 (vs "moduleyard.scanner" 194)), (en P "__firstlineno__" 282 (.int (28) 281)), (en P "__init__" 291 (.ref 91)), (en P "char" 300 (.ref 99)), (en P "take" 310 (.ref 106)), (en P "skip" 318 (.ref 113)), (en P "remark" 328 (.ref 120)), (en P "word" 338 (.ref 127)), (en P "numeral" 350 (.ref 134)), (en P "whole" 360 (.ref 141)), (en P "hexadecimal" 370 (.ref 148)), (en P "character" 380 (.ref 155)), (en P "real" 389 (.ref 162)), (en P "skip_digits" 396 (.ref 169)), (en P "string" 406 (.ref 176)), (en P "symbol" 414 (.ref 183)), (en P "__static_attributes__" 419 (.ref 184)), (en P "__dict__" 421 (.ref 187)), (en P "__weakref__" 423 (.ref 188)), (en P "__doc__" 424 .none)].toArray 4), [].toArray⟩
noncomputable def o186 : Obj := ⟨(.type "type"), none, (.cls { name := Str.ofString "Scanner", bases := [(.type "object")], mro := [(.ref 186), (.type "object")], ns := 185, qualname := Str.ofString "Scanner", hasDict := true, slotNames := [], subclasses := [], abstract := false, collection := none, hasDel := false }), [none, none, (some (vs "Scanner" 271)), (some (vs "Scanner" 279)), (some (.builtin "object.__new__")), (some (.bool true))].toArray⟩
noncomputable def o187 : Obj := ⟨(.type "getset_descriptor"), none, (.fields [(vs "__dict__" 420), (.ref 186), (.builtin "function.__dict__"), (.builtin "function.__dict__#set")].toArray), [].toArray⟩
noncomputable def o188 : Obj := ⟨(.type "getset_descriptor"), none, (.fields [(vs "__weakref__" 422), (.ref 186), (.builtin "ExceptionGroup.__weakref__"), .none].toArray), [].toArray⟩
noncomputable def o203 : Obj := ⟨(.type "code"), none, (.fields [(vs "__init__" 441), (vs "Type.__init__" 442), (vs "/claim/cut.py" 443), (.int (179) 0), (.int (4) 0), (.int (0) 0), (.int (0) 0), (.int (3) 0), (.ref 198), (.bool true), (.int (181) 0), (.ref 199), .none, (.ref 200), (.ref 201), (.ref 202), (.int (448) 0), (.int (179) 0), (vs "/claim/cut.py" 449)].toArray), [].toArray⟩
noncomputable def o204 : Obj := fo "__init__" "Type.__init__" 3 0 .none .none (vs "moduleyard.types" 427) 203 (inCls (stAt 12) 0) rfl
noncomputable def o206 (P : Params) : Obj := ⟨(.type "dict"), none, (.dict [(en P "__module__" 436 (vs "moduleyard.types" 427)), (en P "__firstlineno__" 440 (.int (177) 439)), (en P "__init__" 450 (.ref 204)), (en P "__static_attributes__" 463 (.ref 205)), (en P "__dict__" 465 (.ref 208)), (en P "__weakref__" 467 (.ref 209)), (en P "__doc__" 468 .none)].toArray 4), [].toArray⟩
noncomputable def o207 : Obj := ⟨(.type "type"), none, (.cls { name := Str.ofString "Type", bases := [(.type "object")], mro := [(.ref 207), (.type "object")], ns := 206, qualname := Str.ofString "Type", hasDict := true, slotNames := [], subclasses := [], abstract := false, collection := none, hasDel := false }), [none, none, (some (vs "Type" 429)), (some (vs "Type" 437)), (some (.builtin "object.__new__")), (some (.bool true))].toArray⟩
noncomputable def o208 : Obj := ⟨(.type "getset_descriptor"), none, (.fields [(vs "__dict__" 464), (.ref 207), (.builtin "function.__dict__"), (.builtin "function.__dict__#set")].toArray), [].toArray⟩
noncomputable def o209 : Obj := ⟨(.type "getset_descriptor"), none, (.fields [(vs "__weakref__" 466), (.ref 207), (.builtin "ExceptionGroup.__weakref__"), .none].toArray), [].toArray⟩
noncomputable def o224 : Obj := ⟨(.type "code"), none, (.fields [(vs "__init__" 483), (vs "Obj.__init__" 484), (vs "/claim/cut.py" 485), (.int (194) 0), (.int (5) 0), (.int (0) 0), (.int (0) 0), (.int (3) 0), (.ref 219), (.bool true), (.int (181) 0), (.ref 220), .none, (.ref 221), (.ref 222), (.ref 223), (.int (491) 0), (.int (194) 0), (vs "/claim/cut.py" 492)].toArray), [].toArray⟩
noncomputable def o225 : Obj := fo "__init__" "Obj.__init__" 3 0 .none .none (vs "moduleyard.types" 427) 224 (inCls (stAt 13) 0) rfl
noncomputable def o227 (P : Params) : Obj := ⟨(.type "dict"), none, (.dict [(en P "__module__" 478 (vs "moduleyard.types" 427)), (en P "__firstlineno__" 482 (.int (192) 481)), (en P "__init__" 493 (.ref 225)), (en P "__static_attributes__" 508 (.ref 226)), (en P "__dict__" 510 (.ref 229)), (en P "__weakref__" 512 (.ref 230)), (en P "__doc__" 513 .none)].toArray 4), [].toArray⟩
noncomputable def o228 : Obj := ⟨(.type "type"), none, (.cls { name := Str.ofString "Obj", bases := [(.type "object")], mro := [(.ref 228), (.type "object")], ns := 227, qualname := Str.ofString "Obj", hasDict := true, slotNames := [], subclasses := [], abstract := false, collection := none, hasDel := false }), [none, none, (some (vs "Obj" 471)), (some (vs "Obj" 479)), (some (.builtin "object.__new__")), (some (.bool true))].toArray⟩
noncomputable def o229 : Obj := ⟨(.type "getset_descriptor"), none, (.fields [(vs "__dict__" 509), (.ref 228), (.builtin "function.__dict__"), (.builtin "function.__dict__#set")].toArray), [].toArray⟩
noncomputable def o230 : Obj := ⟨(.type "getset_descriptor"), none, (.fields [(vs "__weakref__" 511), (.ref 228), (.builtin "ExceptionGroup.__weakref__"), .none].toArray), [].toArray⟩
noncomputable def o245 : Obj := ⟨(.type "code"), none, (.fields [(vs "__init__" 528), (vs "Types.__init__" 529), (vs "/claim/cut.py" 530), (.int (211) 0), (.int (1) 0), (.int (0) 0), (.int (0) 0), (.int (3) 0), (.ref 240), (.bool true), (.int (181) 0), (.ref 241), .none, (.ref 242), (.ref 243), (.ref 244), (.int (532) 0), (.int (211) 0), (vs "/claim/cut.py" 533)].toArray), [].toArray⟩
noncomputable def o246 : Obj := fo "__init__" "Types.__init__" 3 0 .none .none (vs "moduleyard.types" 427) 245 (inCls (stAt 14) 0) rfl
noncomputable def o247 : Obj := ⟨(.type "tuple"), none, (.seq [(vs "" 535), (vs "" 536)].toArray 0), [].toArray⟩
noncomputable def o253 : Obj := ⟨(.type "code"), none, (.fields [(vs "new" 537), (vs "Types.new" 538), (vs "/claim/cut.py" 539), (.int (222) 0), (.int (5) 0), (.int (0) 0), (.int (0) 0), (.int (3) 0), (.ref 248), (.bool true), (.int (181) 0), (.ref 249), .none, (.ref 250), (.ref 251), (.ref 252), (.int (546) 0), (.int (222) 0), (vs "/claim/cut.py" 547)].toArray), [].toArray⟩
noncomputable def o254 : Obj := fo "new" "Types.new" 3 0 (.ref 247) .none (vs "moduleyard.types" 427) 253 (inCls (stAt 14) 1) rfl
noncomputable def o263 (P : Params) : Obj := ⟨(.type "dict"), none, (.dict [(en P "__module__" 523 (vs "moduleyard.types" 427)), (en P "__firstlineno__" 527 (.int (209) 526)), (en P "__init__" 534 (.ref 246)), (en P "new" 548 (.ref 254)), (en P "string" 557 (.ref 261)), (en P "__static_attributes__" 567 (.ref 262)), (en P "__dict__" 569 (.ref 265)), (en P "__weakref__" 571 (.ref 266)), (en P "__doc__" 572 .none)].toArray 4), [].toArray⟩
noncomputable def o264 : Obj := ⟨(.type "type"), none, (.cls { name := Str.ofString "Types", bases := [(.type "object")], mro := [(.ref 264), (.type "object")], ns := 263, qualname := Str.ofString "Types", hasDict := true, slotNames := [], subclasses := [], abstract := false, collection := none, hasDel := false }), [none, none, (some (vs "Types" 516)), (some (vs "Types" 524)), (some (.builtin "object.__new__")), (some (.bool true))].toArray⟩
noncomputable def o265 : Obj := ⟨(.type "getset_descriptor"), none, (.fields [(vs "__dict__" 568), (.ref 264), (.builtin "function.__dict__"), (.builtin "function.__dict__#set")].toArray), [].toArray⟩
noncomputable def o266 : Obj := ⟨(.type "getset_descriptor"), none, (.fields [(vs "__weakref__" 570), (.ref 264), (.builtin "ExceptionGroup.__weakref__"), .none].toArray), [].toArray⟩
noncomputable def o281 : Obj := ⟨(.type "code"), none, (.fields [(vs "__init__" 589), (vs "Scope.__init__" 590), (vs "/claim/cut.py" 591), (.int (239) 0), (.int (3) 0), (.int (0) 0), (.int (0) 0), (.int (3) 0), (.ref 276), (.bool true), (.int (181) 0), (.ref 277), .none, (.ref 278), (.ref 279), (.ref 280), (.int (595) 0), (.int (239) 0), (vs "/claim/cut.py" 596)].toArray), [].toArray⟩
noncomputable def o282 : Obj := fo "__init__" "Scope.__init__" 3 0 .none .none (vs "moduleyard.scopes" 575) 281 (inCls (stAt 16) 0) rfl
noncomputable def o284 (P : Params) : Obj := ⟨(.type "dict"), none, (.dict [(en P "__module__" 584 (vs "moduleyard.scopes" 575)), (en P "__firstlineno__" 588 (.int (237) 587)), (en P "__init__" 597 (.ref 282)), (en P "__static_attributes__" 603 (.ref 283)), (en P "__dict__" 605 (.ref 286)), (en P "__weakref__" 607 (.ref 287)), (en P "__doc__" 608 .none)].toArray 4), [].toArray⟩
noncomputable def o285 : Obj := ⟨(.type "type"), none, (.cls { name := Str.ofString "Scope", bases := [(.type "object")], mro := [(.ref 285), (.type "object")], ns := 284, qualname := Str.ofString "Scope", hasDict := true, slotNames := [], subclasses := [], abstract := false, collection := none, hasDel := false }), [none, none, (some (vs "Scope" 577)), (some (vs "Scope" 585)), (some (.builtin "object.__new__")), (some (.bool true))].toArray⟩
noncomputable def o286 : Obj := ⟨(.type "getset_descriptor"), none, (.fields [(vs "__dict__" 604), (.ref 285), (.builtin "function.__dict__"), (.builtin "function.__dict__#set")].toArray), [].toArray⟩
noncomputable def o287 : Obj := ⟨(.type "getset_descriptor"), none, (.fields [(vs "__weakref__" 606), (.ref 285), (.builtin "ExceptionGroup.__weakref__"), .none].toArray), [].toArray⟩
noncomputable def o302 : Obj := ⟨(.type "code"), none, (.fields [(vs "__init__" 623), (vs "Scopes.__init__" 624), (vs "/claim/cut.py" 625), (.int (247) 0), (.int (3) 0), (.int (0) 0), (.int (0) 0), (.int (3) 0), (.ref 297), (.bool true), (.int (181) 0), (.ref 298), .none, (.ref 299), (.ref 300), (.ref 301), (.int (629) 0), (.int (247) 0), (vs "/claim/cut.py" 630)].toArray), [].toArray⟩
noncomputable def o303 : Obj := fo "__init__" "Scopes.__init__" 3 0 .none .none (vs "moduleyard.scopes" 575) 302 (inCls (stAt 17) 0) rfl
noncomputable def o330 : Obj := ⟨(.type "code"), none, (.fields [(vs "add" 656), (vs "Scopes.add" 657), (vs "/claim/cut.py" 658), (.int (267) 0), (.int (2) 0), (.int (0) 0), (.int (0) 0), (.int (3) 0), (.ref 325), (.bool true), (.int (181) 0), (.ref 326), .none, (.ref 327), (.ref 328), (.ref 329), (.int (662) 0), (.int (267) 0), (vs "/claim/cut.py" 663)].toArray), [].toArray⟩
noncomputable def o331 : Obj := fo "add" "Scopes.add" 3 0 .none .none (vs "moduleyard.scopes" 575) 330 (inCls (stAt 17) 4) rfl
noncomputable def o337 : Obj := ⟨(.type "code"), none, (.fields [(vs "insert" 665), (vs "Scopes.insert" 666), (vs "/claim/cut.py" 667), (.int (278) 0), (.int (5) 0), (.int (0) 0), (.int (0) 0), (.int (3) 0), (.ref 332), (.bool true), (.int (181) 0), (.ref 333), .none, (.ref 334), (.ref 335), (.ref 336), (.int (674) 0), (.int (278) 0), (vs "/claim/cut.py" 675)].toArray), [].toArray⟩
noncomputable def o338 : Obj := fo "insert" "Scopes.insert" 3 0 .none .none (vs "moduleyard.scopes" 575) 337 (inCls (stAt 17) 5) rfl
noncomputable def o347 (P : Params) : Obj := ⟨(.type "dict"), none, (.dict [(en P "__module__" 618 (vs "moduleyard.scopes" 575)), (en P "__firstlineno__" 622 (.int (245) 621)), (en P "__init__" 631 (.ref 303)), (en P "open" 640 (.ref 310)), (en P "close" 648 (.ref 317)), (en P "current" 655 (.ref 324)), (en P "add" 664 (.ref 331)), (en P "insert" 676 (.ref 338)), (en P "find" 685 (.ref 345)), (en P "__static_attributes__" 690 (.ref 346)), (en P "__dict__" 692 (.ref 349)), (en P "__weakref__" 694 (.ref 350)), (en P "__doc__" 695 .none)].toArray 4), [].toArray⟩
noncomputable def o348 : Obj := ⟨(.type "type"), none, (.cls { name := Str.ofString "Scopes", bases := [(.type "object")], mro := [(.ref 348), (.type "object")], ns := 347, qualname := Str.ofString "Scopes", hasDict := true, slotNames := [], subclasses := [], abstract := false, collection := none, hasDel := false }), [none, none, (some (vs "Scopes" 611)), (some (vs "Scopes" 619)), (some (.builtin "object.__new__")), (some (.bool true))].toArray⟩
noncomputable def o349 : Obj := ⟨(.type "getset_descriptor"), none, (.fields [(vs "__dict__" 691), (.ref 348), (.builtin "function.__dict__"), (.builtin "function.__dict__#set")].toArray), [].toArray⟩
noncomputable def o350 : Obj := ⟨(.type "getset_descriptor"), none, (.fields [(vs "__weakref__" 693), (.ref 348), (.builtin "ExceptionGroup.__weakref__"), .none].toArray), [].toArray⟩
noncomputable def o358 : Obj := ⟨(.type "code"), none, (.fields [(vs "std_functions" 700), (vs "std_functions" 701), (vs "/claim/cut.py" 702), (.int (293) 0), (.int (0) 0), (.int (0) 0), (.int (0) 0), (.int (3) 0), (.ref 353), (.bool true), (.int (181) 0), (.ref 354), .none, (.ref 355), (.ref 356), (.ref 357), (.int (703) 0), (.int (293) 0), (vs "/claim/cut.py" 704)].toArray), [].toArray⟩
noncomputable def o359 : Obj := fo "std_functions" "std_functions" 3 0 .none .none (vs "moduleyard.universe" 698) 358 (stAt 19) rfl
noncomputable def o365 : Obj := ⟨(.type "code"), none, (.fields [(vs "std_procedures" 706), (vs "std_procedures" 707), (vs "/claim/cut.py" 708), (.int (295) 0), (.int (0) 0), (.int (0) 0), (.int (0) 0), (.int (3) 0), (.ref 360), (.bool true), (.int (181) 0), (.ref 361), .none, (.ref 362), (.ref 363), (.ref 364), (.int (709) 0), (.int (295) 0), (vs "/claim/cut.py" 710)].toArray), [].toArray⟩
noncomputable def o366 : Obj := fo "std_procedures" "std_procedures" 3 0 .none .none (vs "moduleyard.universe" 698) 365 (stAt 20) rfl
noncomputable def o372 : Obj := ⟨(.type "code"), none, (.fields [(vs "fill" 712), (vs "fill" 713), (vs "/claim/cut.py" 714), (.int (297) 0), (.int (1) 0), (.int (0) 0), (.int (0) 0), (.int (3) 0), (.ref 367), (.bool true), (.int (181) 0), (.ref 368), .none, (.ref 369), (.ref 370), (.ref 371), (.int (718) 0), (.int (297) 0), (vs "/claim/cut.py" 719)].toArray), [].toArray⟩
noncomputable def o373 : Obj := fo "fill" "fill" 3 0 .none .none (vs "moduleyard.universe" 698) 372 (stAt 21) rfl
noncomputable def o381 : Obj := ⟨(.type "tuple"), none, (.seq [.none].toArray 0), [].toArray⟩
noncomputable def o387 : Obj := ⟨(.type "code"), none, (.fields [(vs "__init__" 735), (vs "Reader.__init__" 736), (vs "/claim/cut.py" 737), (.int (311) 0), (.int (5) 0), (.int (0) 0), (.int (0) 0), (.int (3) 0), (.ref 382), (.bool true), (.int (181) 0), (.ref 383), .none, (.ref 384), (.ref 385), (.ref 386), (.int (743) 0), (.int (311) 0), (vs "/claim/cut.py" 744)].toArray), [].toArray⟩
noncomputable def o388 : Obj := fo "__init__" "Reader.__init__" 3 0 (.ref 381) .none (vs "moduleyard.reader" 721) 387 (inCls (stAt 23) 0) rfl
noncomputable def o394 : Obj := ⟨(.type "code"), none, (.fields [(vs "step" 746), (vs "Reader.step" 747), (vs "/claim/cut.py" 748), (.int (327) 0), (.int (1) 0), (.int (0) 0), (.int (0) 0), (.int (3) 0), (.ref 389), (.bool true), (.int (181) 0), (.ref 390), .none, (.ref 391), (.ref 392), (.ref 393), (.int (751) 0), (.int (327) 0), (vs "/claim/cut.py" 752)].toArray), [].toArray⟩
noncomputable def o395 : Obj := fo "step" "Reader.step" 3 0 .none .none (vs "moduleyard.reader" 721) 394 (inCls (stAt 23) 1) rfl
noncomputable def o401 : Obj := ⟨(.type "code"), none, (.fields [(vs "at" 754), (vs "Reader.at" 755), (vs "/claim/cut.py" 756), (.int (332) 0), (.int (2) 0), (.int (0) 0), (.int (0) 0), (.int (3) 0), (.ref 396), (.bool true), (.int (181) 0), (.ref 397), .none, (.ref 398), (.ref 399), (.ref 400), (.int (759) 0), (.int (332) 0), (vs "/claim/cut.py" 760)].toArray), [].toArray⟩
noncomputable def o402 : Obj := fo "at" "Reader.at" 3 0 .none .none (vs "moduleyard.reader" 721) 401 (inCls (stAt 23) 2) rfl
noncomputable def o408 : Obj := ⟨(.type "code"), none, (.fields [(vs "skip" 762), (vs "Reader.skip" 763), (vs "/claim/cut.py" 764), (.int (335) 0), (.int (2) 0), (.int (0) 0), (.int (0) 0), (.int (3) 0), (.ref 403), (.bool true), (.int (181) 0), (.ref 404), .none, (.ref 405), (.ref 406), (.ref 407), (.int (767) 0), (.int (335) 0), (vs "/claim/cut.py" 768)].toArray), [].toArray⟩
noncomputable def o409 : Obj := fo "skip" "Reader.skip" 3 0 .none .none (vs "moduleyard.reader" 721) 408 (inCls (stAt 23) 3) rfl
noncomputable def o415 : Obj := ⟨(.type "code"), none, (.fields [(vs "expect" 770), (vs "Reader.expect" 771), (vs "/claim/cut.py" 772), (.int (341) 0), (.int (2) 0), (.int (0) 0), (.int (0) 0), (.int (3) 0), (.ref 410), (.bool true), (.int (181) 0), (.ref 411), .none, (.ref 412), (.ref 413), (.ref 414), (.int (776) 0), (.int (341) 0), (vs "/claim/cut.py" 777)].toArray), [].toArray⟩
noncomputable def o416 : Obj := fo "expect" "Reader.expect" 3 0 .none .none (vs "moduleyard.reader" 721) 415 (inCls (stAt 23) 4) rfl
noncomputable def o422 : Obj := ⟨(.type "code"), none, (.fields [(vs "mark" 779), (vs "Reader.mark" 780), (vs "/claim/cut.py" 781), (.int (350) 0), (.int (2) 0), (.int (0) 0), (.int (0) 0), (.int (3) 0), (.ref 417), (.bool true), (.int (181) 0), (.ref 418), .none, (.ref 419), (.ref 420), (.ref 421), (.int (784) 0), (.int (350) 0), (vs "/claim/cut.py" 785)].toArray), [].toArray⟩
noncomputable def o423 : Obj := fo "mark" "Reader.mark" 3 0 .none .none (vs "moduleyard.reader" 721) 422 (inCls (stAt 23) 5) rfl
noncomputable def o429 : Obj := ⟨(.type "code"), none, (.fields [(vs "name" 787), (vs "Reader.name" 788), (vs "/claim/cut.py" 789), (.int (353) 0), (.int (1) 0), (.int (0) 0), (.int (0) 0), (.int (3) 0), (.ref 424), (.bool true), (.int (181) 0), (.ref 425), .none, (.ref 426), (.ref 427), (.ref 428), (.int (791) 0), (.int (353) 0), (vs "/claim/cut.py" 792)].toArray), [].toArray⟩
noncomputable def o430 : Obj := fo "name" "Reader.name" 3 0 .none .none (vs "moduleyard.reader" 721) 429 (inCls (stAt 23) 6) rfl
noncomputable def o464 : Obj := ⟨(.type "code"), none, (.fields [(vs "skip_to" 822), (vs "Reader.skip_to" 823), (vs "/claim/cut.py" 824), (.int (371) 0), (.int (2) 0), (.int (0) 0), (.int (0) 0), (.int (3) 0), (.ref 459), (.bool true), (.int (181) 0), (.ref 460), .none, (.ref 461), (.ref 462), (.ref 463), (.int (827) 0), (.int (371) 0), (vs "/claim/cut.py" 828)].toArray), [].toArray⟩
noncomputable def o465 : Obj := fo "skip_to" "Reader.skip_to" 3 0 .none .none (vs "moduleyard.reader" 721) 464 (inCls (stAt 23) 11) rfl
noncomputable def o467 (P : Params) : Obj := ⟨(.type "dict"), none, (.dict [(en P "__module__" 730 (vs "moduleyard.reader" 721)), (en P "__firstlineno__" 734 (.int (309) 733)), (en P "__init__" 745 (.ref 388)), (en P "step" 753 (.ref 395)), (en P "at" 761 (.ref 402)), (en P "skip" 769 (.ref 409)), (en P "expect" 778 (.ref 416)), (en P "mark" 786 (.ref 423)), (en P "name" 793 (.ref 430)), (en P "give_up" 800 (.ref 437)), (en P "enter" 807 (.ref 444)), (en P "leave" 814 (.ref 451)), (en P "part" 821 (.ref 458)), (en P "skip_to" 829 (.ref 465)), (en P "__static_attributes__" 843 (.ref 466)), (en P "__dict__" 845 (.ref 469)), (en P "__weakref__" 847 (.ref 470)), (en P "__doc__" 848 .none)].toArray 4), [].toArray⟩
noncomputable def o468 : Obj := ⟨(.type "type"), none, (.cls { name := Str.ofString "Reader", bases := [(.type "object")], mro := [(.ref 468), (.type "object")], ns := 467, qualname := Str.ofString "Reader", hasDict := true, slotNames := [], subclasses := [], abstract := false, collection := none, hasDel := false }), [none, none, (some (vs "Reader" 723)), (some (vs "Reader" 731)), (some (.builtin "object.__new__")), (some (.bool true))].toArray⟩
noncomputable def o469 : Obj := ⟨(.type "getset_descriptor"), none, (.fields [(vs "__dict__" 844), (.ref 468), (.builtin "function.__dict__"), (.builtin "function.__dict__#set")].toArray), [].toArray⟩
noncomputable def o470 : Obj := ⟨(.type "getset_descriptor"), none, (.fields [(vs "__weakref__" 846), (.ref 468), (.builtin "ExceptionGroup.__weakref__"), .none].toArray), [].toArray⟩
noncomputable def o485 : Obj := ⟨(.type "code"), none, (.fields [(vs "__init__" 865), (vs "ErrorList.__init__" 866), (vs "/claim/cut.py" 867), (.int (377) 0), (.int (1) 0), (.int (0) 0), (.int (0) 0), (.int (3) 0), (.ref 480), (.bool true), (.int (181) 0), (.ref 481), .none, (.ref 482), (.ref 483), (.ref 484), (.int (869) 0), (.int (377) 0), (vs "/claim/cut.py" 870)].toArray), [].toArray⟩
noncomputable def o486 : Obj := fo "__init__" "ErrorList.__init__" 3 0 .none .none (vs "moduleyard.errors" 851) 485 (inCls (stAt 25) 0) rfl
noncomputable def o492 : Obj := ⟨(.type "code"), none, (.fields [(vs "mark" 872), (vs "ErrorList.mark" 873), (vs "/claim/cut.py" 874), (.int (381) 0), (.int (3) 0), (.int (0) 0), (.int (0) 0), (.int (3) 0), (.ref 487), (.bool true), (.int (181) 0), (.ref 488), .none, (.ref 489), (.ref 490), (.ref 491), (.int (878) 0), (.int (381) 0), (vs "/claim/cut.py" 879)].toArray), [].toArray⟩
noncomputable def o493 : Obj := fo "mark" "ErrorList.mark" 3 0 .none .none (vs "moduleyard.errors" 851) 492 (inCls (stAt 25) 1) rfl
noncomputable def o509 (P : Params) : Obj := ⟨(.type "dict"), none, (.dict [(en P "__module__" 860 (vs "moduleyard.errors" 851)), (en P "__firstlineno__" 864 (.int (375) 863)), (en P "__init__" 871 (.ref 486)), (en P "mark" 880 (.ref 493)), (en P "first" 887 (.ref 500)), (en P "ok" 894 (.ref 507)), (en P "__static_attributes__" 897 (.ref 508)), (en P "__dict__" 899 (.ref 511)), (en P "__weakref__" 901 (.ref 512)), (en P "__doc__" 902 .none)].toArray 4), [].toArray⟩
noncomputable def o510 : Obj := ⟨(.type "type"), none, (.cls { name := Str.ofString "ErrorList", bases := [(.type "object")], mro := [(.ref 510), (.type "object")], ns := 509, qualname := Str.ofString "ErrorList", hasDict := true, slotNames := [], subclasses := [], abstract := false, collection := none, hasDel := false }), [none, none, (some (vs "ErrorList" 853)), (some (vs "ErrorList" 861)), (some (.builtin "object.__new__")), (some (.bool true))].toArray⟩
noncomputable def o511 : Obj := ⟨(.type "getset_descriptor"), none, (.fields [(vs "__dict__" 898), (.ref 510), (.builtin "function.__dict__"), (.builtin "function.__dict__#set")].toArray), [].toArray⟩
noncomputable def o512 : Obj := ⟨(.type "getset_descriptor"), none, (.fields [(vs "__weakref__" 900), (.ref 510), (.builtin "ExceptionGroup.__weakref__"), .none].toArray), [].toArray⟩
noncomputable def o520 : Obj := ⟨(.type "code"), none, (.fields [(vs "_law_take" 907), (vs "_law_take" 908), (vs "/claim/cut.py" 909), (.int (394) 0), (.int (2) 0), (.int (0) 0), (.int (0) 0), (.int (3) 0), (.ref 515), (.bool true), (.int (181) 0), (.ref 516), .none, (.ref 517), (.ref 518), (.ref 519), (.int (914) 0), (.int (394) 0), (vs "/claim/cut.py" 915)].toArray), [].toArray⟩
noncomputable def o521 : Obj := fo "_law_take" "_law_take" 3 0 .none .none (vs "law_pq0763_01" 905) 520 (stAt 27) rfl
noncomputable def KK : Params → Frag := fun P => (nat_lit 2, o2 P) :: (nat_lit 3, o3 P) :: (nat_lit 34, o34) :: (nat_lit 35, o35) :: (nat_lit 37, o37 P) :: (nat_lit 38, o38) :: (nat_lit 39, o39) :: (nat_lit 40, o40) :: (nat_lit 48, o48) :: (nat_lit 49, o49) :: (nat_lit 55, o55) :: (nat_lit 56, o56) :: (nat_lit 62, o62) :: (nat_lit 63, o63) :: (nat_lit 69, o69) :: (nat_lit 70, o70) :: (nat_lit 76, o76) :: (nat_lit 77, o77) :: (nat_lit 90, o90) :: (nat_lit 91, o91) :: (nat_lit 92, o92) :: (nat_lit 98, o98) :: (nat_lit 99, o99) :: (nat_lit 105, o105) :: (nat_lit 106, o106) :: (nat_lit 112, o112) :: (nat_lit 113, o113) :: (nat_lit 119, o119) :: (nat_lit 120, o120) :: (nat_lit 126, o126) :: (nat_lit 127, o127) :: (nat_lit 133, o133) :: (nat_lit 134, o134) :: (nat_lit 140, o140) :: (nat_lit 141, o141) :: (nat_lit 175, o175) :: (nat_lit 176, o176) :: (nat_lit 182, o182) :: (nat_lit 183, o183) :: (nat_lit 185, o185 P) :: (nat_lit 186, o186) :: (nat_lit 187, o187) :: (nat_lit 188, o188) :: (nat_lit 203, o203) :: (nat_lit 204, o204) :: (nat_lit 206, o206 P) :: (nat_lit 207, o207) :: (nat_lit 208, o208) :: (nat_lit 209, o209) :: (nat_lit 224, o224) :: (nat_lit 225, o225) :: (nat_lit 227, o227 P) :: (nat_lit 228, o228) :: (nat_lit 229, o229) :: (nat_lit 230, o230) :: (nat_lit 245, o245) :: (nat_lit 246, o246) :: (nat_lit 247, o247) :: (nat_lit 253, o253) :: (nat_lit 254, o254) :: (nat_lit 263, o263 P) :: (nat_lit 264, o264) :: (nat_lit 265, o265) :: (nat_lit 266, o266) :: (nat_lit 281, o281) :: (nat_lit 282, o282) :: (nat_lit 284, o284 P) :: (nat_lit 285, o285) :: (nat_lit 286, o286) :: (nat_lit 287, o287) :: (nat_lit 302, o302) :: (nat_lit 303, o303) :: (nat_lit 330, o330) :: (nat_lit 331, o331) :: (nat_lit 337, o337) :: (nat_lit 338, o338) :: (nat_lit 347, o347 P) :: (nat_lit 348, o348) :: (nat_lit 349, o349) :: (nat_lit 350, o350) :: (nat_lit 358, o358) :: (nat_lit 359, o359) :: (nat_lit 365, o365) :: (nat_lit 366, o366) :: (nat_lit 372, o372) :: (nat_lit 373, o373) :: (nat_lit 381, o381) :: (nat_lit 387, o387) :: (nat_lit 388, o388) :: (nat_lit 394, o394) :: (nat_lit 395, o395) :: (nat_lit 401, o401) :: (nat_lit 402, o402) :: (nat_lit 408, o408) :: (nat_lit 409, o409) :: (nat_lit 415, o415) :: (nat_lit 416, o416) :: (nat_lit 422, o422) :: (nat_lit 423, o423) :: (nat_lit 429, o429) :: (nat_lit 430, o430) :: (nat_lit 464, o464) :: (nat_lit 465, o465) :: (nat_lit 467, o467 P) :: (nat_lit 468, o468) :: (nat_lit 469, o469) :: (nat_lit 470, o470) :: (nat_lit 485, o485) :: (nat_lit 486, o486) :: (nat_lit 492, o492) :: (nat_lit 493, o493) :: (nat_lit 509, o509 P) :: (nat_lit 510, o510) :: (nat_lit 511, o511) :: (nat_lit 512, o512) :: (nat_lit 520, o520) :: (nat_lit 521, o521) :: []
noncomputable def KA : List Nat := [2, 3, 34, 35, 37, 38, 39, 40, 48, 49, 55, 56, 62, 63, 69, 70, 76, 77, 90, 91, 92, 98, 99, 105, 106, 112, 113, 119, 120, 126, 127, 133, 134, 140, 141, 175, 176, 182, 183, 185, 186, 187, 188, 203, 204, 206, 207, 208, 209, 224, 225, 227, 228, 229, 230, 245, 246, 247, 253, 254, 263, 264, 265, 266, 281, 282, 284, 285, 286, 287, 302, 303, 330, 331, 337, 338, 347, 348, 349, 350, 358, 359, 365, 366, 372, 373, 381, 387, 388, 394, 395, 401, 402, 408, 409, 415, 416, 422, 423, 429, 430, 464, 465, 467, 468, 469, 470, 485, 486, 492, 493, 509, 510, 511, 512, 520, 521]
end Mine
section
set_option maxRecDepth 1000000
namespace Mine
noncomputable def runT (ok thr : Thread → Bool) (st : SharedT → Thread → Option (SharedT × Thread)) : Nat → SharedT → Thread → Option SharedT
  | 0, _, _ => none
  | n + 1, s, t => match thr t with
    | true => some s
    | false => match ok t with
      | false => none
      | true => match st s t with
        | some (s', t') => runT ok thr st n s' t'
        | none => none
theorem runT_of {tb : String → Option Builtin} {p : Program} {w : World} {n₀ : Nat} {ann : Option Value} : ∀ {n : Nat} {s s' : SharedT} {t : Thread}, runT (stepOk n₀ ann) through (stepT (denote tb) p w) n s t = some s' → topRun tb p w n₀ ann n s.abs t = some s'.abs
  | 0, _, _, _, h => by cases h
  | n + 1, s, s', t, h => by
    unfold runT at h
    unfold topRun
    cases ht : through t with
    | true => rw [ht] at h; cases h; rfl
    | false =>
      rw [ht] at h
      cases hk : stepOk n₀ ann t with
      | false => rw [hk] at h; cases h
      | true =>
        rw [hk] at h
        cases hs : stepT (denote tb) p w s t with
        | none => rw [hs] at h; cases h
        | some r => obtain ⟨s₂, t₂⟩ := r; rw [hs] at h; rw [stepT_spec hs]; exact runT_of h
theorem run_bind {β : Type} {p : Program} {w : World} {n₀ : Nat} {ann : Option Value} {n : Nat} {s : SharedT} {t : Thread} {F : Shared → Option β} {r : β} {ST TB} {DN : (String → Option Builtin) → Code → Sem Fin} (e1 : @stepT = ST) (e2 : treeTable = TB) (e3 : @denote = DN)
    (h : (runT (stepOk n₀ ann) through (ST (DN TB) p w) n s t).bind (fun s' => F s'.abs) = some r) : (topRun treeTable p w n₀ ann n s.abs t).bind F = some r := by
  subst e1 e2 e3
  obtain ⟨s', a, b⟩ := Option.bind_eq_some_iff.mp h
  rw [runT_of a]
  exact b
noncomputable def treeOf : Nat → List Obj → BT → BT
  | _, [], t => t
  | n, o :: r, t => treeOf (n + 1) r (t.ins n o)
noncomputable def bootT (P : Params) : BT := treeOf 0 (boot_heap P).objs.toList .nil
noncomputable def s0 (w : World) (os : OsState) : SharedT := ⟨bootT w.params, 11, (boot_heap w.params).life, #[], boot_drawn, boot_toks, os⟩
theorem boot_abs (w : World) (os : OsState) : (s0 w os).abs = ⟨boot_heap w.params, #[], boot_drawn, boot_toks, os⟩ := by kernel_rfl
theorem left_one {p q : Program} {loose : List Str} {Xt : Shared → Bool} {α : Type} {Yf : Shared → α} {Ya : World → α} {N : Nat} {g0 : Bool} {H₀ : Params → Heap} {gs₀ : Array GenState} {d₀ : Drawn} {k₀ : Nat} {m₀ : Nat} {ann : Option Value}
    (open_ : ∀ w : World, (fencedOpening treeTable p w N).map (fun s => (s.heap, s.gens, s.drawn, s.toks)) = some (H₀ w.params, gs₀, d₀, k₀))
    (size : ∀ w : World, ((H₀ w.params).isNs mainGlobals && gs₀.size == 0, (H₀ w.params).objs.size, (H₀ w.params).nsMap mainGlobals "__annotations__") = (true, m₀, ann))
    (run : ∀ (w : World) (os : OsState), (topRun treeTable p w m₀ ann N ⟨H₀ w.params, gs₀, d₀, k₀, os⟩ (topStub p)).bind (fun s₁ => (match staticsOk (importedModules p.main.body) (H₀ w.params) s₁.heap && namesBound p s₁.heap && gensDone s₁ && laidKept (H₀ w.params) s₁.heap with
      | true => some s₁
      | false => none).map (fun s => (openSeen q loose (importedModules p.main.body) Xt g0 s, Yf s))) = some (openGood q loose, Ya w)) : LeftO p q loose Xt Yf Ya N g0 := fun w => by
  obtain ⟨⟨h, gs, d, k, os⟩, e, e'⟩ := Option.map_eq_some_iff.mp (open_ w)
  obtain ⟨rfl, rfl, rfl, rfl⟩ : h = H₀ w.params ∧ gs = gs₀ ∧ d = d₀ ∧ k = k₀ := by simpa using e'
  obtain ⟨z1, z2, z3⟩ : _ ∧ _ ∧ _ := by simpa only [Prod.mk.injEq] using size w
  unfold openEnds
  rw [e]
  show (topFrom treeTable p w N _).map _ = _
  unfold topFrom
  dsimp only
  rw [z1, z2, z3]
  exact Option.map_bind.trans (run w os)
noncomputable def q1 : Program := view pw [28]
noncomputable def loose1 : List Str := (["_wall", "MOST_INTEGER", "MOST_WORD", "Token", "keywords", "is_letter", "is_digit", "is_hex_digit", "digits_value", "Scanner", "Type", "Obj", "Types", "Scope", "Scopes", "std_functions", "std_procedures", "fill", "Reader", "ErrorList", "_law_take"] : List String).map Str.ofString
theorem kas (P : Params) : KA = (KK P).map (·.1) := by kernel_rfl
noncomputable def HH : Hook := kHook KK KA kas
theorem opening_is : opening pw = plainProg pw.main.scope.names := by kernel_rfl
theorem fence_is (s : Shared) : fenceModules? pw s = some s := by kernel_rfl
theorem size_is (w : World) : ((boot_heap w.params).isNs mainGlobals && (#[] : Array GenState).size == 0, (boot_heap w.params).objs.size, (boot_heap w.params).nsMap mainGlobals "__annotations__") = (true, 11, some (.ref 6)) := by kernel_rfl
theorem saidR : PySem.Challenge.rw_pq0763_01.row.wellSaid = true := by
  unfold OpenRow.wellSaid OpenRow.partSaid looksOpen
  repeat' (with_reducible refine look_both ?_ ?_)
  all_goals decide +kernel
theorem said : PySem.Challenge.rw_pq0763_01.wellSaid = true := by
  unfold OpenLaw.wellSaid
  repeat' (with_reducible refine look_both ?_ ?_)
  · exact saidR
  all_goals decide +kernel
set_option maxHeartbeats 0 in
theorem left_is : LeftO pw q1 loose1 (fun s => xlAt q1 [] s && recOk (RowW.records PySem.Challenge.rw_pq0763_01.row.toRowW) s) (Hook.obs HH) (Hook.val HH) 7364 :=
  left_one (boot_open opening_is (by decide) fence_is) size_is fun w os => by
    rw [← boot_abs w os]
    refine run_bind Fast.te10156331382660048174 Fast.te14364793385576792824 Fast.te11892475500146522536 ?_
    kernel_rfl
end Mine
end
open PySem.Calls PyProof.V PySem.SeqAt
namespace Mine
noncomputable def Ct (w : World) (d : Nat) (f : Addr) (vs : List Value) (led : List (Addr × Obj)) (Post : Value → List (Addr × Obj) → Prop) : Prop :=
  ∀ (prog p : Program) (loose : List Str) (mean : ExcName → Option Value) (mg mb : Str → Option Value)
    (dp un : Nat) (gd : Option (List Code)) (cn : Str) (cs : Scope) (a : Addr) (ccd : Value) (cl : List (Str × Addr)) (outer : List Env) (A₀ : Around) (base h₀ : Heap) (L : Addr) (m : Str → Option Value) (s : Shared) (Q E : Value → Shared → Prop),
    Below A₀ base outer h₀ → Fr h₀ L s.heap m → (KK w.params).In h₀ → News h₀ L s.heap led → Top p loose mean mg mb h₀ → cs.kind = .function → dp + d < recursionLimit → un + 8 * d < cLine →
    (∀ v l h' tk', Post v l → Fr h₀ L h' m → News h₀ L h' l → Q v { s with heap := h', toks := tk' }) →
    wpAny (model prog w) (ktrTop dp un gd cn cs L a ccd cl outer) (call (.ref f) vs) Q E s
theorem Ct.use {w : World} {d : Nat} {f : Addr} {vs : List Value} {led : List (Addr × Obj)} {Post : Value → List (Addr × Obj) → Prop} (C : Ct w d f vs led Post)
    {prog p : Program} {loose : List Str} {mean : ExcName → Option Value} {mg mb : Str → Option Value}
    {dp un : Nat} {gd : Option (List Code)} {cn : Str} {cs : Scope} {a : Addr} {ccd : Value} {cl : List (Str × Addr)} {outer : List Env} {A₀ : Around} {base h₀ : Heap} {L : Addr} {m : Str → Option Value} {s : Shared} {Q E : Value → Shared → Prop}
    (B : Below A₀ base outer h₀) (F : Fr h₀ L s.heap m) (X : (KK w.params).In h₀) (N : News h₀ L s.heap led) (T : Top p loose mean mg mb h₀) (hk : cs.kind = .function) (hd : dp + d < recursionLimit) (hu : un + 8 * d < cLine)
    (ret : ∀ v l h' tk', Post v l → Fr h₀ L h' m → News h₀ L h' l → Q v { s with heap := h', toks := tk' }) :
    wpAny (model prog w) (ktrTop dp un gd cn cs L a ccd cl outer) (call (.ref f) vs) Q E s := C _ _ _ _ _ _ _ _ _ _ _ _ _ _ _ _ _ _ _ _ _ _ _ B F X N T hk hd hu ret
noncomputable abbrev ent (w : World) (n : String) (t : Tok) (v : Value) : DictEntry := ⟨PyData.keyHash w.params (Str.ofString n), .str (Str.ofString n) t, v⟩
noncomputable abbrev scD (w : World) (k1 k2 k3 k4 : Tok) (src : Str) (t0 : Tok) (er : Value) (pl : Int) (t1 : Tok) (wd : Value) : Obj := dictOf [ent w "source" k1 (.str src t0), ent w "errors" k2 er, ent w "place" k3 (.int pl t1), ent w "words" k4 wd] 4
noncomputable abbrev toD (w : World) (j1 j2 j3 : Tok) (k v p : Value) : Obj := dictOf [ent w "kind" j1 k, ent w "value" j2 v, ent w "place" j3 p] 3
noncomputable def ch (s : Str) (i : Int) : Str := Txt.slice s (some i) (some (i + 1))
theorem ret_eq {Q : Value → Shared → Prop} {v v' : Value} {s : Shared} (e : v = v') (h : Q v' s) : Q v s := e ▸ h
set_option maxRecDepth 100000
set_option maxHeartbeats 8000000
set_option linter.unusedVariables false
set_option linter.unusedSimpArgs false
theorem nm_go (x : Str) (ps : Pos) (o r : Value) : letTemporaryGo (PySem.Expr.Name x ps) o r = pure () := by unfold letTemporaryGo; rfl
theorem subA_turn {prog : Program} {w : World} {A : Around} {E : Value → Shared → Prop} {s : Shared} {value slice : PySem.Expr} {o i : Value} {Q : Value → Shared → Prop}
    (h : wpAny (model prog w) A (subscriptTail (PySem.Expr.Name (PySem.Str.ofString "_") ⟨0, 0, 0, 0⟩) slice o i) Q E s) : wpAny (model prog w) A (subscriptTail value slice o i) Q E s :=
  kba_turn (fun _ => nm_go _ _ _ _) h
theorem alln {α : Type} {P : α → Prop} : ∀ p ∈ ([] : List α), P p := fun _ h => nomatch h
theorem allc {α : Type} {P : α → Prop} {a : α} {l : List α} (h : P a) (k : ∀ p ∈ l, P p) : ∀ p ∈ a :: l, P p
  | _, .head _ => h
  | p, .tail _ m => k p m
theorem appc {α : Type} {P : α → Prop} {l r : List α} (h : ∀ p ∈ l, P p) (k : ∀ p ∈ r, P p) : ∀ p ∈ l ++ r, P p := fun p m => (List.mem_append.mp m).elim (h p) (k p)
theorem eq_b {prog : Program} {w : World} {A : Around} {E : Value → Shared → Prop} {s : Shared} {Q : Value → Shared → Prop} {x y : Str} {t u : Tok} {b : Bool} (hb : (x == y) = b) (h : Q (.bool b) s) : wpAny (model prog w) A (compareOp .Eq (.str x t) (.str y u)) Q E s := by subst hb; exact eq_str h
theorem ne_b {prog : Program} {w : World} {A : Around} {E : Value → Shared → Prop} {s : Shared} {Q : Value → Shared → Prop} {x y : Str} {t u : Tok} {b : Bool} (hb : (x == y) = b) (h : Q (.bool !b) s) : wpAny (model prog w) A (compareOp .NotEq (.str x t) (.str y u)) Q E s := by subst hb; exact ne_str h
theorem Ct.u1 {w : World} {d : Nat} {f : Addr} {vs : List Value} {led : List (Addr × Obj)} {V : Value} (C : Ct w d f vs led (fun v l => l = led ∧ v = V))
    {prog p : Program} {loose : List Str} {mean : ExcName → Option Value} {mg mb : Str → Option Value} {dp un : Nat} {gd : Option (List Code)} {cn : Str} {cs : Scope} {a : Addr} {ccd : Value} {cl : List (Str × Addr)} {outer : List Env} {A₀ : Around} {base h₀ : Heap} {L : Addr} {m : Str → Option Value} {s : Shared} {Q : Value → Shared → Prop} {E : Value → Shared → Prop}
    (B : Below A₀ base outer h₀) (F : Fr h₀ L s.heap m) (X : (KK w.params).In h₀) (N : News h₀ L s.heap led) (T : Top p loose mean mg mb h₀) (hk : cs.kind = .function) (hd : dp + d < recursionLimit) (hu : un + 8 * d < cLine)
    (ret : ∀ h' tk', Fr h₀ L h' m → News h₀ L h' led → Q V { s with heap := h', toks := tk' }) :
    wpAny (model prog w) (ktrTop dp un gd cn cs L a ccd cl outer) (call (.ref f) vs) Q E s :=
  C.use B F X N T hk hd hu fun v l h' tk' hp F' N' => by obtain ⟨rfl, rfl⟩ := hp; exact ret h' tk' F' N'
theorem Ct.u2 {w : World} {d : Nat} {f : Addr} {vs : List Value} {led : List (Addr × Obj)} {V : Tok → Value} (C : Ct w d f vs led (fun v l => l = led ∧ ∃ t, v = V t))
    {prog p : Program} {loose : List Str} {mean : ExcName → Option Value} {mg mb : Str → Option Value} {dp un : Nat} {gd : Option (List Code)} {cn : Str} {cs : Scope} {a : Addr} {ccd : Value} {cl : List (Str × Addr)} {outer : List Env} {A₀ : Around} {base h₀ : Heap} {L : Addr} {m : Str → Option Value} {s : Shared} {Q : Value → Shared → Prop} {E : Value → Shared → Prop}
    (B : Below A₀ base outer h₀) (F : Fr h₀ L s.heap m) (X : (KK w.params).In h₀) (N : News h₀ L s.heap led) (T : Top p loose mean mg mb h₀) (hk : cs.kind = .function) (hd : dp + d < recursionLimit) (hu : un + 8 * d < cLine)
    (ret : ∀ t h' tk', Fr h₀ L h' m → News h₀ L h' led → Q (V t) { s with heap := h', toks := tk' }) :
    wpAny (model prog w) (ktrTop dp un gd cn cs L a ccd cl outer) (call (.ref f) vs) Q E s :=
  C.use B F X N T hk hd hu fun v l h' tk' hp F' N' => by obtain ⟨rfl, t, rfl⟩ := hp; exact ret t h' tk' F' N'
theorem Ct.u3 {w : World} {d : Nat} {f : Addr} {vs : List Value} {led : List (Addr × Obj)} {V : Value} {G : Tok → List (Addr × Obj)} (C : Ct w d f vs led (fun v l => v = V ∧ ∃ t, l = G t))
    {prog p : Program} {loose : List Str} {mean : ExcName → Option Value} {mg mb : Str → Option Value} {dp un : Nat} {gd : Option (List Code)} {cn : Str} {cs : Scope} {a : Addr} {ccd : Value} {cl : List (Str × Addr)} {outer : List Env} {A₀ : Around} {base h₀ : Heap} {L : Addr} {m : Str → Option Value} {s : Shared} {Q : Value → Shared → Prop} {E : Value → Shared → Prop}
    (B : Below A₀ base outer h₀) (F : Fr h₀ L s.heap m) (X : (KK w.params).In h₀) (N : News h₀ L s.heap led) (T : Top p loose mean mg mb h₀) (hk : cs.kind = .function) (hd : dp + d < recursionLimit) (hu : un + 8 * d < cLine)
    (ret : ∀ t h' tk', Fr h₀ L h' m → News h₀ L h' (G t) → Q V { s with heap := h', toks := tk' }) :
    wpAny (model prog w) (ktrTop dp un gd cn cs L a ccd cl outer) (call (.ref f) vs) Q E s :=
  C.use B F X N T hk hd hu fun v l h' tk' hp F' N' => by obtain ⟨rfl, t, rfl⟩ := hp; exact ret t h' tk' F' N'
local macro_rules | `(tactic| walk_at "mine room") => `(tactic| ((try simp only [depth_under_make, depth_under_kw, depth_in1, depth_deeper, depth_caller]); (try dsimp only [ktrTop]); first | decide | omega))
local macro_rules | `(tactic| walk_at "mine enter") => `(tactic| (refine' code_def ?k1 ?k2 ?k3 ?k4 ?k5 ?kA ?kF ?kK ?k6 ?k7 ?k8 ?k9 ?kB ?_ ?c2 ?c3 ?c4 ?c5; (case kA => exact rfl); (case kF => exact rfl); (case kK => first | exact rfl | assumption); (case k1 => k_asm); (case k2 => k_asm); (case k3 => k_asm); (case k4 => k_asm); (case k5 => k_asm); (case k6 => k_is); (case k7 => k_is); (case k8 => walk_at "mine room"); (case k9 => first | exact BindsTo.of_eq rfl | exact binds_K (by k_in) rfl (by k_is) rfl rfl rfl | fail "k_enter: no rule for these arguments"); (case c5 => decide); (case kB => exact locs rfl); (case c2 => exact rfl); (case c3 => exact rfl); (case c4 => exact rfl); k_whole; intro g' L' h' FG' F' N' B' X' T'; (try dsimp only); (try k_lift B'); (try k_fold)))
local macro_rules | `(tactic| walk_at "call ref") => `(tactic| (k_here; k_dflt (first | (refine' call_cls ?k1 ?k2 ?k3 ?k4 ?k5 ?k6 ?_; (case k1 => k_asm); (case k2 => k_asm); (case k3 => k_asm); (case k4 => k_is); (case k5 => k_is); (case k6 => k_is); k_whole; intro x' d' h' F' N' l1 l2; (try k_lt l1); (try k_lt2 l2); (try k_sweep); walk_at "mine enter") | (refine wpAny_call ?_; walk_at "mine enter"))))
local macro_rules | `(tactic| k_mem) => `(tactic| first | exact List.Mem.head _ | (refine' List.mem_cons_of_mem _ ?_; k_mem) | assumption)
local macro_rules | `(tactic| walk_at "mine eq") => `(tactic| first | assumption | exact (show (_ == _) = true by decide +kernel) | exact (show (_ == _) = false by decide +kernel))
local macro_rules | `(tactic| walk_at "compareOp Eq str str") => `(tactic| (k_here; refine' eq_b ?hb ?_; (case hb => walk_at "mine eq"); k_whole))
local macro_rules | `(tactic| walk_at "compareOp NotEq str str") => `(tactic| (k_here; refine' ne_b ?hb ?_; (case hb => walk_at "mine eq"); k_whole; (try simp only [Bool.not_true, Bool.not_false])))
local macro_rules | `(tactic| walk_at "mine ct") => `(tactic| ((case cB => k_asm); (case cF => k_asm); (case cX => k_asm); (case cT => k_asm); (case ck => first | exact rfl | assumption); (case cd => walk_at "mine room"); (case cu => walk_at "mine units")))
local macro_rules | `(tactic| walk_at "mine units") => `(tactic| ((try simp only [units_in1, units_deeper, units_under_make, Around.mark_units, units_caller]); (try dsimp only [ktrTop]); first | omega | (have hcL9 := cLine_is; omega)))
local macro_rules | `(tactic| walk_at "mine step") => `(tactic| first | (k_unfold; (try dsimp only)) | (k_end; wrow_close) | walk1 | (dsimp only; walk1) | (leave1; try dsimp only))
theorem char_ok {w : World} {led : List (Addr × Obj)} {x dx : Addr} {k1 k2 k3 k4 t0 t1 ta : Tok} {src : Str} {er wd : Value} {pl ahead : Int} (h1 : (x, instObj 186 dx) ∈ led) (h2 : (dx, scD w k1 k2 k3 k4 src t0 er pl t1 wd) ∈ led) (h3 : 0 ≤ pl) (h4 : pl < 2 ^ 20) (h5 : 0 ≤ ahead) (h6 : ahead < 10) (hl : src.length < 2 ^ 20) {c : Str} (hc : ch src (pl + ahead) = c) :
    Ct w 1 99 [.ref x, .int ahead ta] led (fun v l => l = led ∧ ∃ t, v = .str c t) := by
  intro prog p loose mean mg mb dp un gd cn cs a ccd cl outer A₀ base h₀ L m s Q E B F X N T hk hd hu hret
  ((have kf : (PySem.Challenge.rw_pq0763_01 = PySem.Challenge.rw_pq0763_01) ∧ (KK = KK) := by (k_fill; exact ⟨rfl, rfl⟩)); clear kf)
  walk_at "call ref"
  (repeat' (first | with_reducible ((with_reducible show wpAny _ _ (subscriptTail (PySem.Expr.Attribute _ _ _) _ (Value.str _ _) (Value.ref _)) _ _ _); k_here; k_dflt (refine subA_turn ?_)) | with_reducible refine ite_pos (by decide) ?_ | with_reducible refine ite_neg (by decide) ?_ | (k_unfold; (try dsimp only)) | (k_end; wrow_close) | walk1 | (dsimp only; walk1) | (leave1; try dsimp only)))
  subst hc
  exact hret _ _ _ _ ⟨rfl, _, rfl⟩ (by assumption) (by assumption)
noncomputable def isLetter (c : Str) : Bool := (!decide (c.cps.toList < (Str.ofString "a").cps.toList) && !decide ((Str.ofString "z").cps.toList < c.cps.toList)) || (!decide (c.cps.toList < (Str.ofString "A").cps.toList) && !decide ((Str.ofString "Z").cps.toList < c.cps.toList))
noncomputable def isDigit (c : Str) : Bool := !decide (c.cps.toList < (Str.ofString "0").cps.toList) && !decide ((Str.ofString "9").cps.toList < c.cps.toList)
theorem letter_ok {w : World} {led : List (Addr × Obj)} {tc : Tok} {c : Str} {b : Bool} (hb : isLetter c = b) : Ct w 1 56 [.str c tc] led (fun v l => l = led ∧ v = .bool b) := by
  intro prog p loose mean mg mb dp un gd cn cs a ccd cl outer A₀ base h₀ L m s Q E B F X N T hk hd hu hret
  ((have kf : (PySem.Challenge.rw_pq0763_01 = PySem.Challenge.rw_pq0763_01) ∧ (KK = KK) := by (k_fill; exact ⟨rfl, rfl⟩)); clear kf)
  walk_at "call ref"
  (repeat' (first | with_reducible ((with_reducible show wpAny _ _ (subscriptTail (PySem.Expr.Attribute _ _ _) _ (Value.str _ _) (Value.ref _)) _ _ _); k_here; k_dflt (refine subA_turn ?_)) | with_reducible refine ite_pos (by decide) ?_ | with_reducible refine ite_neg (by decide) ?_ | (k_unfold; (try dsimp only)) | (k_end; wrow_close) | walk1 | (dsimp only; walk1) | (leave1; try dsimp only)))
  all_goals (refine ret_eq (v' := .bool b) ?_ (hret _ _ _ _ ⟨rfl, rfl⟩ (by assumption) (by assumption)); subst hb; clear hret; unfold isLetter; congr 1; simp only [*, decide_true, decide_false, Bool.not_false, Bool.not_true, Bool.true_and, Bool.and_true, Bool.false_and, Bool.and_false, Bool.true_or, Bool.or_true, Bool.false_or, Bool.or_false, not_true_eq_false, not_false_eq_true])
theorem digit_ok {w : World} {led : List (Addr × Obj)} {tc : Tok} {c : Str} {b : Bool} (hb : isDigit c = b) : Ct w 1 63 [.str c tc] led (fun v l => l = led ∧ v = .bool b) := by
  intro prog p loose mean mg mb dp un gd cn cs a ccd cl outer A₀ base h₀ L m s Q E B F X N T hk hd hu hret
  ((have kf : (PySem.Challenge.rw_pq0763_01 = PySem.Challenge.rw_pq0763_01) ∧ (KK = KK) := by (k_fill; exact ⟨rfl, rfl⟩)); clear kf)
  walk_at "call ref"
  (repeat' (first | with_reducible ((with_reducible show wpAny _ _ (subscriptTail (PySem.Expr.Attribute _ _ _) _ (Value.str _ _) (Value.ref _)) _ _ _); k_here; k_dflt (refine subA_turn ?_)) | with_reducible refine ite_pos (by decide) ?_ | with_reducible refine ite_neg (by decide) ?_ | (k_unfold; (try dsimp only)) | (k_end; wrow_close) | walk1 | (dsimp only; walk1) | (leave1; try dsimp only)))
  all_goals (refine ret_eq (v' := .bool b) ?_ (hret _ _ _ _ ⟨rfl, rfl⟩ (by assumption) (by assumption)); subst hb; clear hret; unfold isDigit; congr 1; simp only [*, decide_true, decide_false, Bool.not_false, Bool.not_true, Bool.true_and, Bool.and_true, Bool.false_and, Bool.and_false, Bool.true_or, Bool.or_true, Bool.false_or, Bool.or_false, not_true_eq_false, not_false_eq_true])
theorem token_ok {w : World} {led : List (Addr × Obj)} {k v pl : Value} :
    Ct w 1 38 [k, v, pl] led (fun r l => ∃ x d j1 j2 j3, r = .ref x ∧ l = (x, instObj 38 d) :: (d, toD w j1 j2 j3 k v pl) :: led ∧ (∀ p ∈ led, p.1 < d) ∧ d < x) := by
  intro prog p loose mean mg mb dp un gd cn cs a ccd cl outer A₀ base h₀ L m s Q E B F X N T hk hd hu hret
  ((have kf : (PySem.Challenge.rw_pq0763_01 = PySem.Challenge.rw_pq0763_01) ∧ (KK = KK) := by (k_fill; exact ⟨rfl, rfl⟩)); clear kf)
  walk_at "call ref"
  (repeat' (first | with_reducible ((with_reducible show wpAny _ _ (subscriptTail (PySem.Expr.Attribute _ _ _) _ (Value.str _ _) (Value.ref _)) _ _ _); k_here; k_dflt (refine subA_turn ?_)) | with_reducible refine ite_pos (by decide) ?_ | with_reducible refine ite_neg (by decide) ?_ | (k_unfold; (try dsimp only)) | (k_end; wrow_close) | walk1 | (dsimp only; walk1) | (leave1; try dsimp only)))
  exact hret _ _ _ _ ⟨_, _, _, _, _, rfl, rfl, by assumption, by assumption⟩ (by assumption) (by assumption)
theorem token_use {w : World} {led : List (Addr × Obj)} {k v pl : Value} {prog p : Program} {loose : List Str} {mean : ExcName → Option Value} {mg mb : Str → Option Value} {dp un : Nat} {gd : Option (List Code)} {cn : Str} {cs : Scope} {a : Addr} {ccd : Value} {cl : List (Str × Addr)} {outer : List Env} {A₀ : Around} {base h₀ : Heap} {L : Addr} {m : Str → Option Value} {s : Shared} {Q : Value → Shared → Prop} {E : Value → Shared → Prop}
    (B : Below A₀ base outer h₀) (F : Fr h₀ L s.heap m) (X : (KK w.params).In h₀) (N : News h₀ L s.heap (led)) (T : Top p loose mean mg mb h₀) (hk : cs.kind = .function) (hd : dp + 1 < recursionLimit) (hu : un + 8 * 1 < cLine)
    (ret : ∀ x d j1 j2 j3 h' tk', (∀ p ∈ led, p.1 < d) → d < x → Fr h₀ L h' m → News h₀ L h' ((x, instObj 38 d) :: (d, toD w j1 j2 j3 k v pl) :: led) → Q (.ref x) { s with heap := h', toks := tk' }) :
    wpAny (model prog w) (ktrTop dp un gd cn cs L a ccd cl outer) (call (.ref 38) [k, v, pl]) Q E s :=
  token_ok.use B F X N T hk hd hu fun v l h' tk' hp F' N' => by obtain ⟨x, d, j1, j2, j3, rfl, rfl, h1, h2⟩ := hp; exact ret x d j1 j2 j3 h' tk' h1 h2 F' N'
theorem char0_ok {w : World} {led : List (Addr × Obj)} {x dx : Addr} {k1 k2 k3 k4 t0 t1 : Tok} {src : Str} {er wd : Value} {pl : Int} (h1 : (x, instObj 186 dx) ∈ led) (h2 : (dx, scD w k1 k2 k3 k4 src t0 er pl t1 wd) ∈ led) (h3 : 0 ≤ pl) (h4 : pl < 2 ^ 20) (hl : src.length < 2 ^ 20) {c : Str} (hc : ch src pl = c) :
    Ct w 1 99 [.ref x] led (fun v l => l = led ∧ ∃ t, v = .str c t) := by
  intro prog p loose mean mg mb dp un gd cn cs a ccd cl outer A₀ base h₀ L m s Q E B F X N T hk hd hu hret
  ((have kf : (PySem.Challenge.rw_pq0763_01 = PySem.Challenge.rw_pq0763_01) ∧ (KK = KK) := by (k_fill; exact ⟨rfl, rfl⟩)); clear kf)
  walk_at "call ref"
  (repeat' (first | with_reducible ((with_reducible show wpAny _ _ (subscriptTail (PySem.Expr.Attribute _ _ _) _ (Value.str _ _) (Value.ref _)) _ _ _); k_here; k_dflt (refine subA_turn ?_)) | with_reducible refine ite_pos (by decide) ?_ | with_reducible refine ite_neg (by decide) ?_ | (k_unfold; (try dsimp only)) | (k_end; wrow_close) | walk1 | (dsimp only; walk1) | (leave1; try dsimp only)))
  have hE : Txt.slice src (some (pl + 0)) (some (pl + 0 + 1)) = c := by rw [Int.add_zero]; exact hc
  subst hE
  exact hret _ _ _ _ ⟨rfl, _, rfl⟩ (by assumption) (by assumption)

theorem remark_ok {w : World} {rest : List (Addr × Obj)} {x dx : Addr} {k1 k2 k3 k4 t0 t1 : Tok} {src : Str} {er wd : Value} {p0 : Int} (h1 : (x, instObj 186 dx) ∈ rest) (hO : OwnOff rest [dx]) (h3 : 0 ≤ p0) (h4 : p0 < 2 ^ 19) (hl : src.length < 2 ^ 20)
    (hs : ∀ pl, p0 + 2 ≤ pl → pl ≤ p0 + 8 → ∃ a b, ch src pl = a ∧ ch src (pl + 1) = b ∧ a.length ≤ 1 ∧ b.length ≤ 1 ∧ (a ++ b == Str.ofString "") = false ∧ (a ++ b == Str.ofString "(*") = false ∧ (a ++ b == Str.ofString "*)") = false)
    (c9 : ch src (p0 + 9) = Str.ofString "*") (c10 : ch src (p0 + 10) = Str.ofString ")") :
    Ct w 2 120 [.ref x] ((dx, scD w k1 k2 k3 k4 src t0 er p0 t1 wd) :: rest) (fun v l => v = .none ∧ ∃ t, l = (dx, scD w k1 k2 k3 k4 src t0 er (p0 + 11) t wd) :: rest) := by
  intro prog p loose mean mg mb dp un gd cn cs a ccd cl outer A₀ base h₀ L m s Q E B F X N T hk hd hu hret
  ((have kf : (PySem.Challenge.rw_pq0763_01 = PySem.Challenge.rw_pq0763_01) ∧ (KK = KK) := by (k_fill; exact ⟨rfl, rfl⟩)); clear kf)
  (first | ((with_reducible show wpAny _ _ (call (Value.ref 99) _) _ _ _); k_here; k_dflt (refine' Ct.u2 (char0_ok ?h1 ?h2 ?h3 ?h4 ?h7 ?h8) ?cB ?cF ?cX ?cN ?cT ?ck ?cd ?cu ?_; (case cN => k_asm); (case h1 => k_mem); (case h2 => k_mem); (case h8 => (first | with_reducible assumption | ((simp only [Int.add_assoc, Int.reduceAdd, Int.add_zero]); with_reducible assumption) | assumption | ((simp only [Int.add_assoc, Int.reduceAdd, Int.add_zero]); assumption))); (case h3 => omega); (case h4 => omega); (case h7 => first | with_reducible assumption | assumption); walk_at "mine ct"; k_whole; intro t9 h9 tk9 F9 N9; (try dsimp only); (try k_sweep); (try dsimp only))) | ((with_reducible show wpAny _ _ (call (Value.ref 99) _) _ _ _); k_here; k_dflt (refine' Ct.u2 (char_ok ?h1 ?h2 ?h3 ?h4 ?h5 ?h6 ?h7 ?h8) ?cB ?cF ?cX ?cN ?cT ?ck ?cd ?cu ?_; (case cN => k_asm); (case h1 => k_mem); (case h2 => k_mem); (case h8 => (first | with_reducible assumption | ((simp only [Int.add_assoc, Int.reduceAdd, Int.add_zero]); with_reducible assumption) | assumption | ((simp only [Int.add_assoc, Int.reduceAdd, Int.add_zero]); assumption))); (case h3 => omega); (case h4 => omega); (case h5 => omega); (case h6 => omega); (case h7 => first | with_reducible assumption | assumption); walk_at "mine ct"; k_whole; intro t9 h9 tk9 F9 N9; (try dsimp only); (try k_sweep); (try dsimp only))) | walk_at "call ref")
  iterate 20 ((first | with_reducible ((with_reducible show wpAny _ _ (call (Value.ref 99) _) _ _ _); k_here; k_dflt (refine' Ct.u2 (char0_ok ?h1 ?h2 ?h3 ?h4 ?h7 ?h8) ?cB ?cF ?cX ?cN ?cT ?ck ?cd ?cu ?_; (case cN => k_asm); (case h1 => k_mem); (case h2 => k_mem); (case h8 => (first | with_reducible assumption | ((simp only [Int.add_assoc, Int.reduceAdd, Int.add_zero]); with_reducible assumption) | assumption | ((simp only [Int.add_assoc, Int.reduceAdd, Int.add_zero]); assumption))); (case h3 => omega); (case h4 => omega); (case h7 => first | with_reducible assumption | assumption); walk_at "mine ct"; k_whole; intro t9 h9 tk9 F9 N9; (try dsimp only); (try k_sweep); (try dsimp only))) | with_reducible ((with_reducible show wpAny _ _ (call (Value.ref 99) _) _ _ _); k_here; k_dflt (refine' Ct.u2 (char_ok ?h1 ?h2 ?h3 ?h4 ?h5 ?h6 ?h7 ?h8) ?cB ?cF ?cX ?cN ?cT ?ck ?cd ?cu ?_; (case cN => k_asm); (case h1 => k_mem); (case h2 => k_mem); (case h8 => (first | with_reducible assumption | ((simp only [Int.add_assoc, Int.reduceAdd, Int.add_zero]); with_reducible assumption) | assumption | ((simp only [Int.add_assoc, Int.reduceAdd, Int.add_zero]); assumption))); (case h3 => omega); (case h4 => omega); (case h5 => omega); (case h6 => omega); (case h7 => first | with_reducible assumption | assumption); walk_at "mine ct"; k_whole; intro t9 h9 tk9 F9 N9; (try dsimp only); (try k_sweep); (try dsimp only))) | with_reducible refine ite_pos (by decide) ?_ | with_reducible refine ite_neg (by decide) ?_ | walk_at "mine step"))
  rename Fr _ _ _ _ => F0
  rename News _ _ _ _ => N0
  refine' ksw_while (σ := Int × Tok × Int × Tok) (fun c => (dx, scD w k1 k2 k3 k4 src t0 er c.1 c.2.1 wd) :: rest) (fun c => [(Str.ofString "depth", .int c.2.2.1 c.2.2.2)]) (fun _ => True) [Str.ofString "pair"]
    (fun c => (p0 + 2 ≤ c.1 ∧ c.1 ≤ p0 + 9 ∧ c.2.2.1 = 1) ∨ (c.1 = p0 + 11 ∧ c.2.2.1 = 0)) (fun c => (p0 + 11 - c.1).toNat) (p0 + 2, _, 1, _) F0 N0 trivial ?kk ?kp ?turn
  case kk => (first | ((try dsimp only); (repeat (refine allc rfl ?_)); exact alln) | kst_all)
  case kp => exact .inl ⟨by dsimp only; omega, by dsimp only; omega, rfl⟩
  case turn =>
    clear F0 N0
    rintro ⟨pl, t, d, td⟩ u h9 tk9 - hP F1 N1
    dsimp only at hP F1 N1 ⊢
    try k_fold
    rcases hP with ⟨b1, b2, rfl⟩ | ⟨rfl, rfl⟩
    · by_cases b3 : pl = p0 + 9
      · subst b3
        (repeat' ((fail_if_success (with_reducible show KswEnd _ _ _ _ _ _ _ _ _ _ _ _)); first | with_reducible ((with_reducible show wpAny _ _ (call (Value.ref 99) _) _ _ _); k_here; k_dflt (refine' Ct.u2 (char0_ok ?h1 ?h2 ?h3 ?h4 ?h7 ?h8) ?cB ?cF ?cX ?cN ?cT ?ck ?cd ?cu ?_; (case cN => k_asm); (case h1 => k_mem); (case h2 => k_mem); (case h8 => (first | with_reducible assumption | ((simp only [Int.add_assoc, Int.reduceAdd, Int.add_zero]); with_reducible assumption) | assumption | ((simp only [Int.add_assoc, Int.reduceAdd, Int.add_zero]); assumption))); (case h3 => omega); (case h4 => omega); (case h7 => first | with_reducible assumption | assumption); walk_at "mine ct"; k_whole; intro t9 h9 tk9 F9 N9; (try dsimp only); (try k_sweep); (try dsimp only))) | with_reducible ((with_reducible show wpAny _ _ (call (Value.ref 99) _) _ _ _); k_here; k_dflt (refine' Ct.u2 (char_ok ?h1 ?h2 ?h3 ?h4 ?h5 ?h6 ?h7 ?h8) ?cB ?cF ?cX ?cN ?cT ?ck ?cd ?cu ?_; (case cN => k_asm); (case h1 => k_mem); (case h2 => k_mem); (case h8 => (first | with_reducible assumption | ((simp only [Int.add_assoc, Int.reduceAdd, Int.add_zero]); with_reducible assumption) | assumption | ((simp only [Int.add_assoc, Int.reduceAdd, Int.add_zero]); assumption))); (case h3 => omega); (case h4 => omega); (case h5 => omega); (case h6 => omega); (case h7 => first | with_reducible assumption | assumption); walk_at "mine ct"; k_whole; intro t9 h9 tk9 F9 N9; (try dsimp only); (try k_sweep); (try dsimp only))) | with_reducible refine ite_pos (by decide) ?_ | with_reducible refine ite_neg (by decide) ?_ | (k_unfold; (try dsimp only)) | (k_end; wrow_close) | walk1 | (dsimp only; walk1) | (leave1; try dsimp only)))
        refine ksw_end (_, _, _, _) (by assumption) (by assumption) (fun _ h => h) trivial (by (first | ((try dsimp only); (repeat (refine allc rfl ?_)); exact alln) | kst_all)) (by (intro z h2 h3; (simp only [List.forall_mem_cons, List.not_mem_nil, false_implies, implies_true, and_true, ne_eq, List.contains_cons, List.contains_nil, Bool.or_false, Bool.or_eq_false_iff, beq_eq_false_iff_ne] at h2 h3); simp [kstB, h2, h3])) ?e6 ?e7
        case e6 => exact .inr ⟨by dsimp only; omega, rfl⟩
        case e7 => dsimp only; omega
      · obtain ⟨a, b, e1, e2, e6, e7, e3, e4, e5⟩ := hs pl b1 (by omega)
        (repeat' ((fail_if_success (with_reducible show KswEnd _ _ _ _ _ _ _ _ _ _ _ _)); first | with_reducible ((with_reducible show wpAny _ _ (call (Value.ref 99) _) _ _ _); k_here; k_dflt (refine' Ct.u2 (char0_ok ?h1 ?h2 ?h3 ?h4 ?h7 ?h8) ?cB ?cF ?cX ?cN ?cT ?ck ?cd ?cu ?_; (case cN => k_asm); (case h1 => k_mem); (case h2 => k_mem); (case h8 => (first | with_reducible assumption | ((simp only [Int.add_assoc, Int.reduceAdd, Int.add_zero]); with_reducible assumption) | assumption | ((simp only [Int.add_assoc, Int.reduceAdd, Int.add_zero]); assumption))); (case h3 => omega); (case h4 => omega); (case h7 => first | with_reducible assumption | assumption); walk_at "mine ct"; k_whole; intro t9 h9 tk9 F9 N9; (try dsimp only); (try k_sweep); (try dsimp only))) | with_reducible ((with_reducible show wpAny _ _ (call (Value.ref 99) _) _ _ _); k_here; k_dflt (refine' Ct.u2 (char_ok ?h1 ?h2 ?h3 ?h4 ?h5 ?h6 ?h7 ?h8) ?cB ?cF ?cX ?cN ?cT ?ck ?cd ?cu ?_; (case cN => k_asm); (case h1 => k_mem); (case h2 => k_mem); (case h8 => (first | with_reducible assumption | ((simp only [Int.add_assoc, Int.reduceAdd, Int.add_zero]); with_reducible assumption) | assumption | ((simp only [Int.add_assoc, Int.reduceAdd, Int.add_zero]); assumption))); (case h3 => omega); (case h4 => omega); (case h5 => omega); (case h6 => omega); (case h7 => first | with_reducible assumption | assumption); walk_at "mine ct"; k_whole; intro t9 h9 tk9 F9 N9; (try dsimp only); (try k_sweep); (try dsimp only))) | with_reducible refine ite_pos (by decide) ?_ | with_reducible refine ite_neg (by decide) ?_ | (k_unfold; (try dsimp only)) | (k_end; wrow_close) | walk1 | (dsimp only; walk1) | (leave1; try dsimp only)))
        refine ksw_end (_, _, _, _) (by assumption) (by assumption) (fun _ h => h) trivial (by (first | ((try dsimp only); (repeat (refine allc rfl ?_)); exact alln) | kst_all)) (by (intro z h2 h3; (simp only [List.forall_mem_cons, List.not_mem_nil, false_implies, implies_true, and_true, ne_eq, List.contains_cons, List.contains_nil, Bool.or_false, Bool.or_eq_false_iff, beq_eq_false_iff_ne] at h2 h3); simp [kstB, h2, h3])) ?e6 ?e7
        case e6 => exact .inl ⟨by dsimp only; omega, by dsimp only; omega, rfl⟩
        case e7 => dsimp only; omega
    · (repeat' (first | with_reducible ((with_reducible show wpAny _ _ (call (Value.ref 99) _) _ _ _); k_here; k_dflt (refine' Ct.u2 (char0_ok ?h1 ?h2 ?h3 ?h4 ?h7 ?h8) ?cB ?cF ?cX ?cN ?cT ?ck ?cd ?cu ?_; (case cN => k_asm); (case h1 => k_mem); (case h2 => k_mem); (case h8 => (first | with_reducible assumption | ((simp only [Int.add_assoc, Int.reduceAdd, Int.add_zero]); with_reducible assumption) | assumption | ((simp only [Int.add_assoc, Int.reduceAdd, Int.add_zero]); assumption))); (case h3 => omega); (case h4 => omega); (case h7 => first | with_reducible assumption | assumption); walk_at "mine ct"; k_whole; intro t9 h9 tk9 F9 N9; (try dsimp only); (try k_sweep); (try dsimp only))) | with_reducible ((with_reducible show wpAny _ _ (call (Value.ref 99) _) _ _ _); k_here; k_dflt (refine' Ct.u2 (char_ok ?h1 ?h2 ?h3 ?h4 ?h5 ?h6 ?h7 ?h8) ?cB ?cF ?cX ?cN ?cT ?ck ?cd ?cu ?_; (case cN => k_asm); (case h1 => k_mem); (case h2 => k_mem); (case h8 => (first | with_reducible assumption | ((simp only [Int.add_assoc, Int.reduceAdd, Int.add_zero]); with_reducible assumption) | assumption | ((simp only [Int.add_assoc, Int.reduceAdd, Int.add_zero]); assumption))); (case h3 => omega); (case h4 => omega); (case h5 => omega); (case h6 => omega); (case h7 => first | with_reducible assumption | assumption); walk_at "mine ct"; k_whole; intro t9 h9 tk9 F9 N9; (try dsimp only); (try k_sweep); (try dsimp only))) | with_reducible refine ite_pos (by decide) ?_ | with_reducible refine ite_neg (by decide) ?_ | (k_unfold; (try dsimp only)) | (k_end; wrow_close) | walk1 | (dsimp only; walk1) | (leave1; try dsimp only)))
      exact hret _ _ _ _ ⟨rfl, _, rfl⟩ (by assumption) (by assumption)
noncomputable def Blank (src : Str) (p : Int) : Prop := ∃ n : Nat, ch src p = ⟨#[n]⟩ ∧ n ≤ 32
noncomputable def Rem (src : Str) (p0 : Int) : Prop := ch src p0 = Str.ofString "(" ∧ ch src (p0 + 1) = Str.ofString "*" ∧
    (∀ pl, p0 + 2 ≤ pl → pl ≤ p0 + 8 → ∃ a b, ch src pl = a ∧ ch src (pl + 1) = b ∧ a.length ≤ 1 ∧ b.length ≤ 1 ∧ (a ++ b == Str.ofString "") = false ∧ (a ++ b == Str.ofString "(*") = false ∧ (a ++ b == Str.ofString "*)") = false) ∧
    ch src (p0 + 9) = Str.ofString "*" ∧ ch src (p0 + 10) = Str.ofString ")"
noncomputable def Sign (src : Str) (q : Int) : Prop := ch src q = Str.ofString "" ∨ ∃ n : Nat, ch src q = ⟨#[n]⟩ ∧ 32 < n ∧ n ≠ 40
noncomputable def Gap (src : Str) (p q : Int) : Prop := p = q ∨ (p = q - 1 ∧ Blank src (q - 1)) ∨ (p = q - 12 ∧ Rem src (q - 12) ∧ Blank src (q - 1)) ∨ (p = q - 13 ∧ Blank src (q - 13) ∧ Rem src (q - 12) ∧ Blank src (q - 1))
theorem gap_cases {src : Str} {p q : Int} (h : Gap src p q) : p = q ∨ (p < q ∧ Blank src p ∧ Gap src (p + 1) q) ∨ (p < q ∧ Rem src p ∧ Gap src (p + 11) q) := by
  rcases h with h | ⟨h, b⟩ | ⟨h, r, b⟩ | ⟨h, b, r, b'⟩
  · exact .inl h
  · subst h; exact .inr (.inl ⟨by omega, b, .inl (by omega)⟩)
  · subst h; exact .inr (.inr ⟨by omega, r, .inr (.inl ⟨by omega, b⟩)⟩)
  · subst h; exact .inr (.inl ⟨by omega, b, .inr (.inr (.inl ⟨by omega, r, b'⟩))⟩)
theorem one_ne {n c : Nat} (h : n ≠ c) : ((⟨#[n]⟩ : Str) == ⟨#[c]⟩) = false := by
  rw [beq_eq_false_iff_ne]; intro e; injection e with e; exact h (by simpa using e)
theorem one_ne0 {n : Nat} : ((⟨#[n]⟩ : Str) == Str.ofString "") = false := by
  rw [beq_eq_false_iff_ne]; intro e
  have := congrArg Str.length e
  rw [show (Str.ofString "").length = 0 by decide +kernel] at this
  exact absurd this (by show (#[n] : Array Nat).size ≠ 0; simp)
theorem paren_is : Str.ofString "(" = ⟨#[40]⟩ := by decide +kernel
theorem skip_ok {w : World} {rest : List (Addr × Obj)} {x dx : Addr} {k1 k2 k3 k4 t0 t1 : Tok} {src : Str} {er wd : Value} {p0 q : Int} (h1 : (x, instObj 186 dx) ∈ rest) (hO : OwnOff rest [dx]) (h3 : 0 ≤ p0) (h4 : q < 2 ^ 18) (hl : src.length < 2 ^ 20)
    (hg : Gap src p0 q) (hq : Sign src q) :
    Ct w 3 113 [.ref x] ((dx, scD w k1 k2 k3 k4 src t0 er p0 t1 wd) :: rest) (fun v l => v = .none ∧ ∃ t, l = (dx, scD w k1 k2 k3 k4 src t0 er q t wd) :: rest) := by
  intro prog p loose mean mg mb dp un gd cn cs a ccd cl outer A₀ base h₀ L m s Q E B F X N T hk hd hu hret
  ((have kf : (PySem.Challenge.rw_pq0763_01 = PySem.Challenge.rw_pq0763_01) ∧ (KK = KK) := by (k_fill; exact ⟨rfl, rfl⟩)); clear kf)
  (first | ((with_reducible show wpAny _ _ (call (Value.ref 120) _) _ _ _); k_here; k_dflt (refine' Ct.u3 (remark_ok ?h1 ?hO ?h3 ?h4 ?h7 ?hs ?c9 ?c10) ?cB ?cF ?cX ?cN ?cT ?ck ?cd ?cu ?_; (case cN => k_asm); (case h1 => first | with_reducible assumption | assumption); (case hO => first | with_reducible assumption | assumption); (case h3 => omega); (case h4 => omega); (case h7 => first | with_reducible assumption | assumption); (case hs => first | with_reducible assumption | assumption); (case c9 => first | with_reducible assumption | assumption); (case c10 => first | with_reducible assumption | assumption); walk_at "mine ct"; k_whole; intro t9 h9 tk9 F9 N9; (try dsimp only at N9); (try k_sweep); (try dsimp only))) | ((with_reducible show wpAny _ _ (call (Value.ref 99) _) _ _ _); k_here; k_dflt (refine' Ct.u2 (char0_ok ?h1 ?h2 ?h3 ?h4 ?h7 ?h8) ?cB ?cF ?cX ?cN ?cT ?ck ?cd ?cu ?_; (case cN => k_asm); (case h1 => k_mem); (case h2 => k_mem); (case h8 => (first | with_reducible assumption | ((simp only [Int.add_assoc, Int.reduceAdd, Int.add_zero]); with_reducible assumption) | assumption | ((simp only [Int.add_assoc, Int.reduceAdd, Int.add_zero]); assumption))); (case h3 => omega); (case h4 => omega); (case h7 => first | with_reducible assumption | assumption); walk_at "mine ct"; k_whole; intro t9 h9 tk9 F9 N9; (try dsimp only); (try k_sweep); (try dsimp only))) | ((with_reducible show wpAny _ _ (call (Value.ref 99) _) _ _ _); k_here; k_dflt (refine' Ct.u2 (char_ok ?h1 ?h2 ?h3 ?h4 ?h5 ?h6 ?h7 ?h8) ?cB ?cF ?cX ?cN ?cT ?ck ?cd ?cu ?_; (case cN => k_asm); (case h1 => k_mem); (case h2 => k_mem); (case h8 => (first | with_reducible assumption | ((simp only [Int.add_assoc, Int.reduceAdd, Int.add_zero]); with_reducible assumption) | assumption | ((simp only [Int.add_assoc, Int.reduceAdd, Int.add_zero]); assumption))); (case h3 => omega); (case h4 => omega); (case h5 => omega); (case h6 => omega); (case h7 => first | with_reducible assumption | assumption); walk_at "mine ct"; k_whole; intro t9 h9 tk9 F9 N9; (try dsimp only); (try k_sweep); (try dsimp only))) | walk_at "call ref")
  iterate 2 ((first | with_reducible ((with_reducible show wpAny _ _ (call (Value.ref 120) _) _ _ _); k_here; k_dflt (refine' Ct.u3 (remark_ok ?h1 ?hO ?h3 ?h4 ?h7 ?hs ?c9 ?c10) ?cB ?cF ?cX ?cN ?cT ?ck ?cd ?cu ?_; (case cN => k_asm); (case h1 => first | with_reducible assumption | assumption); (case hO => first | with_reducible assumption | assumption); (case h3 => omega); (case h4 => omega); (case h7 => first | with_reducible assumption | assumption); (case hs => first | with_reducible assumption | assumption); (case c9 => first | with_reducible assumption | assumption); (case c10 => first | with_reducible assumption | assumption); walk_at "mine ct"; k_whole; intro t9 h9 tk9 F9 N9; (try dsimp only at N9); (try k_sweep); (try dsimp only))) | with_reducible ((with_reducible show wpAny _ _ (call (Value.ref 99) _) _ _ _); k_here; k_dflt (refine' Ct.u2 (char0_ok ?h1 ?h2 ?h3 ?h4 ?h7 ?h8) ?cB ?cF ?cX ?cN ?cT ?ck ?cd ?cu ?_; (case cN => k_asm); (case h1 => k_mem); (case h2 => k_mem); (case h8 => (first | with_reducible assumption | ((simp only [Int.add_assoc, Int.reduceAdd, Int.add_zero]); with_reducible assumption) | assumption | ((simp only [Int.add_assoc, Int.reduceAdd, Int.add_zero]); assumption))); (case h3 => omega); (case h4 => omega); (case h7 => first | with_reducible assumption | assumption); walk_at "mine ct"; k_whole; intro t9 h9 tk9 F9 N9; (try dsimp only); (try k_sweep); (try dsimp only))) | with_reducible ((with_reducible show wpAny _ _ (call (Value.ref 99) _) _ _ _); k_here; k_dflt (refine' Ct.u2 (char_ok ?h1 ?h2 ?h3 ?h4 ?h5 ?h6 ?h7 ?h8) ?cB ?cF ?cX ?cN ?cT ?ck ?cd ?cu ?_; (case cN => k_asm); (case h1 => k_mem); (case h2 => k_mem); (case h8 => (first | with_reducible assumption | ((simp only [Int.add_assoc, Int.reduceAdd, Int.add_zero]); with_reducible assumption) | assumption | ((simp only [Int.add_assoc, Int.reduceAdd, Int.add_zero]); assumption))); (case h3 => omega); (case h4 => omega); (case h5 => omega); (case h6 => omega); (case h7 => first | with_reducible assumption | assumption); walk_at "mine ct"; k_whole; intro t9 h9 tk9 F9 N9; (try dsimp only); (try k_sweep); (try dsimp only))) | with_reducible refine ite_pos (by decide) ?_ | with_reducible refine ite_neg (by decide) ?_ | walk_at "mine step"))
  rename Fr _ _ _ _ => F0
  rename News _ _ _ _ => N0
  refine' ksw_while (σ := Int × Tok) (fun c => (dx, scD w k1 k2 k3 k4 src t0 er c.1 c.2 wd) :: rest) (fun c => []) (fun _ => True) [Str.ofString "char"]
    (fun c => 0 ≤ c.1 ∧ Gap src c.1 q) (fun c => (q - c.1).toNat) (p0, _) F0 N0 trivial ?kk ⟨h3, hg⟩ ?turn
  case kk => (first | ((try dsimp only); (repeat (refine allc rfl ?_)); exact alln) | kst_all)
  case turn =>
    clear F0 N0
    rintro ⟨pl, t⟩ u h9 tk9 - ⟨g0, hP⟩ F1 N1
    dsimp only at hP F1 N1 g0 ⊢
    try k_fold
    rcases gap_cases hP with rfl | ⟨h5, ⟨n, hb, n1⟩, hg'⟩ | ⟨h5, ⟨r1, r2, r3, r4, r5⟩, hg'⟩
    · clear hP hg
      rcases hq with hq | ⟨n, hq, n1, n2⟩
      · (repeat' (first | with_reducible ((with_reducible show wpAny _ _ (call (Value.ref 120) _) _ _ _); k_here; k_dflt (refine' Ct.u3 (remark_ok ?h1 ?hO ?h3 ?h4 ?h7 ?hs ?c9 ?c10) ?cB ?cF ?cX ?cN ?cT ?ck ?cd ?cu ?_; (case cN => k_asm); (case h1 => first | with_reducible assumption | assumption); (case hO => first | with_reducible assumption | assumption); (case h3 => omega); (case h4 => omega); (case h7 => first | with_reducible assumption | assumption); (case hs => first | with_reducible assumption | assumption); (case c9 => first | with_reducible assumption | assumption); (case c10 => first | with_reducible assumption | assumption); walk_at "mine ct"; k_whole; intro t9 h9 tk9 F9 N9; (try dsimp only at N9); (try k_sweep); (try dsimp only))) | with_reducible ((with_reducible show wpAny _ _ (call (Value.ref 99) _) _ _ _); k_here; k_dflt (refine' Ct.u2 (char0_ok ?h1 ?h2 ?h3 ?h4 ?h7 ?h8) ?cB ?cF ?cX ?cN ?cT ?ck ?cd ?cu ?_; (case cN => k_asm); (case h1 => k_mem); (case h2 => k_mem); (case h8 => (first | with_reducible assumption | ((simp only [Int.add_assoc, Int.reduceAdd, Int.add_zero]); with_reducible assumption) | assumption | ((simp only [Int.add_assoc, Int.reduceAdd, Int.add_zero]); assumption))); (case h3 => omega); (case h4 => omega); (case h7 => first | with_reducible assumption | assumption); walk_at "mine ct"; k_whole; intro t9 h9 tk9 F9 N9; (try dsimp only); (try k_sweep); (try dsimp only))) | with_reducible ((with_reducible show wpAny _ _ (call (Value.ref 99) _) _ _ _); k_here; k_dflt (refine' Ct.u2 (char_ok ?h1 ?h2 ?h3 ?h4 ?h5 ?h6 ?h7 ?h8) ?cB ?cF ?cX ?cN ?cT ?ck ?cd ?cu ?_; (case cN => k_asm); (case h1 => k_mem); (case h2 => k_mem); (case h8 => (first | with_reducible assumption | ((simp only [Int.add_assoc, Int.reduceAdd, Int.add_zero]); with_reducible assumption) | assumption | ((simp only [Int.add_assoc, Int.reduceAdd, Int.add_zero]); assumption))); (case h3 => omega); (case h4 => omega); (case h5 => omega); (case h6 => omega); (case h7 => first | with_reducible assumption | assumption); walk_at "mine ct"; k_whole; intro t9 h9 tk9 F9 N9; (try dsimp only); (try k_sweep); (try dsimp only))) | with_reducible refine ite_pos (by decide) ?_ | with_reducible refine ite_neg (by decide) ?_ | (k_unfold; (try dsimp only)) | (k_end; wrow_close) | walk1 | (dsimp only; walk1) | (leave1; try dsimp only)))
        exact hret _ _ _ _ ⟨rfl, _, rfl⟩ (by assumption) (by assumption)
      · have e1 : ((⟨#[n]⟩ : Str) == Str.ofString "(") = false := by rw [paren_is]; exact one_ne n2
        have e2 : ((⟨#[n]⟩ : Str) == Str.ofString "") = false := one_ne0
        (repeat' (first | with_reducible ((with_reducible show wpAny _ _ (call (Value.ref 120) _) _ _ _); k_here; k_dflt (refine' Ct.u3 (remark_ok ?h1 ?hO ?h3 ?h4 ?h7 ?hs ?c9 ?c10) ?cB ?cF ?cX ?cN ?cT ?ck ?cd ?cu ?_; (case cN => k_asm); (case h1 => first | with_reducible assumption | assumption); (case hO => first | with_reducible assumption | assumption); (case h3 => omega); (case h4 => omega); (case h7 => first | with_reducible assumption | assumption); (case hs => first | with_reducible assumption | assumption); (case c9 => first | with_reducible assumption | assumption); (case c10 => first | with_reducible assumption | assumption); walk_at "mine ct"; k_whole; intro t9 h9 tk9 F9 N9; (try dsimp only at N9); (try k_sweep); (try dsimp only))) | with_reducible ((with_reducible show wpAny _ _ (call (Value.ref 99) _) _ _ _); k_here; k_dflt (refine' Ct.u2 (char0_ok ?h1 ?h2 ?h3 ?h4 ?h7 ?h8) ?cB ?cF ?cX ?cN ?cT ?ck ?cd ?cu ?_; (case cN => k_asm); (case h1 => k_mem); (case h2 => k_mem); (case h8 => (first | with_reducible assumption | ((simp only [Int.add_assoc, Int.reduceAdd, Int.add_zero]); with_reducible assumption) | assumption | ((simp only [Int.add_assoc, Int.reduceAdd, Int.add_zero]); assumption))); (case h3 => omega); (case h4 => omega); (case h7 => first | with_reducible assumption | assumption); walk_at "mine ct"; k_whole; intro t9 h9 tk9 F9 N9; (try dsimp only); (try k_sweep); (try dsimp only))) | with_reducible ((with_reducible show wpAny _ _ (call (Value.ref 99) _) _ _ _); k_here; k_dflt (refine' Ct.u2 (char_ok ?h1 ?h2 ?h3 ?h4 ?h5 ?h6 ?h7 ?h8) ?cB ?cF ?cX ?cN ?cT ?ck ?cd ?cu ?_; (case cN => k_asm); (case h1 => k_mem); (case h2 => k_mem); (case h8 => (first | with_reducible assumption | ((simp only [Int.add_assoc, Int.reduceAdd, Int.add_zero]); with_reducible assumption) | assumption | ((simp only [Int.add_assoc, Int.reduceAdd, Int.add_zero]); assumption))); (case h3 => omega); (case h4 => omega); (case h5 => omega); (case h6 => omega); (case h7 => first | with_reducible assumption | assumption); walk_at "mine ct"; k_whole; intro t9 h9 tk9 F9 N9; (try dsimp only); (try k_sweep); (try dsimp only))) | with_reducible refine ite_pos (by decide) ?_ | with_reducible refine ite_neg (by decide) ?_ | (k_unfold; (try dsimp only)) | (k_end; wrow_close) | walk1 | (dsimp only; walk1) | (leave1; try dsimp only)))
        exact hret _ _ _ _ ⟨rfl, _, rfl⟩ (by assumption) (by assumption)
    · clear hP hg
      have e1 : ((⟨#[n]⟩ : Str) == Str.ofString "(") = false := by rw [paren_is]; exact one_ne (by omega)
      have e2 : ((⟨#[n]⟩ : Str) == Str.ofString "") = false := one_ne0
      (repeat' ((fail_if_success (with_reducible show KswEnd _ _ _ _ _ _ _ _ _ _ _ _)); first | with_reducible ((with_reducible show wpAny _ _ (call (Value.ref 120) _) _ _ _); k_here; k_dflt (refine' Ct.u3 (remark_ok ?h1 ?hO ?h3 ?h4 ?h7 ?hs ?c9 ?c10) ?cB ?cF ?cX ?cN ?cT ?ck ?cd ?cu ?_; (case cN => k_asm); (case h1 => first | with_reducible assumption | assumption); (case hO => first | with_reducible assumption | assumption); (case h3 => omega); (case h4 => omega); (case h7 => first | with_reducible assumption | assumption); (case hs => first | with_reducible assumption | assumption); (case c9 => first | with_reducible assumption | assumption); (case c10 => first | with_reducible assumption | assumption); walk_at "mine ct"; k_whole; intro t9 h9 tk9 F9 N9; (try dsimp only at N9); (try k_sweep); (try dsimp only))) | with_reducible ((with_reducible show wpAny _ _ (call (Value.ref 99) _) _ _ _); k_here; k_dflt (refine' Ct.u2 (char0_ok ?h1 ?h2 ?h3 ?h4 ?h7 ?h8) ?cB ?cF ?cX ?cN ?cT ?ck ?cd ?cu ?_; (case cN => k_asm); (case h1 => k_mem); (case h2 => k_mem); (case h8 => (first | with_reducible assumption | ((simp only [Int.add_assoc, Int.reduceAdd, Int.add_zero]); with_reducible assumption) | assumption | ((simp only [Int.add_assoc, Int.reduceAdd, Int.add_zero]); assumption))); (case h3 => omega); (case h4 => omega); (case h7 => first | with_reducible assumption | assumption); walk_at "mine ct"; k_whole; intro t9 h9 tk9 F9 N9; (try dsimp only); (try k_sweep); (try dsimp only))) | with_reducible ((with_reducible show wpAny _ _ (call (Value.ref 99) _) _ _ _); k_here; k_dflt (refine' Ct.u2 (char_ok ?h1 ?h2 ?h3 ?h4 ?h5 ?h6 ?h7 ?h8) ?cB ?cF ?cX ?cN ?cT ?ck ?cd ?cu ?_; (case cN => k_asm); (case h1 => k_mem); (case h2 => k_mem); (case h8 => (first | with_reducible assumption | ((simp only [Int.add_assoc, Int.reduceAdd, Int.add_zero]); with_reducible assumption) | assumption | ((simp only [Int.add_assoc, Int.reduceAdd, Int.add_zero]); assumption))); (case h3 => omega); (case h4 => omega); (case h5 => omega); (case h6 => omega); (case h7 => first | with_reducible assumption | assumption); walk_at "mine ct"; k_whole; intro t9 h9 tk9 F9 N9; (try dsimp only); (try k_sweep); (try dsimp only))) | with_reducible refine ite_pos (by decide) ?_ | with_reducible refine ite_neg (by decide) ?_ | (k_unfold; (try dsimp only)) | (k_end; wrow_close) | walk1 | (dsimp only; walk1) | (leave1; try dsimp only)))
      refine ksw_end (_, _) (by assumption) (by assumption) (fun _ h => h) trivial (by (first | ((try dsimp only); (repeat (refine allc rfl ?_)); exact alln) | kst_all)) (by (intro z h2 h3; (simp only [List.forall_mem_cons, List.not_mem_nil, false_implies, implies_true, and_true, ne_eq, List.contains_cons, List.contains_nil, Bool.or_false, Bool.or_eq_false_iff, beq_eq_false_iff_ne] at h2 h3); simp [kstB, h2, h3])) ⟨by dsimp only; omega, hg'⟩ (by dsimp only; omega)
    · clear hP hg
      (repeat' ((fail_if_success (with_reducible show KswEnd _ _ _ _ _ _ _ _ _ _ _ _)); first | with_reducible ((with_reducible show wpAny _ _ (call (Value.ref 120) _) _ _ _); k_here; k_dflt (refine' Ct.u3 (remark_ok ?h1 ?hO ?h3 ?h4 ?h7 ?hs ?c9 ?c10) ?cB ?cF ?cX ?cN ?cT ?ck ?cd ?cu ?_; (case cN => k_asm); (case h1 => first | with_reducible assumption | assumption); (case hO => first | with_reducible assumption | assumption); (case h3 => omega); (case h4 => omega); (case h7 => first | with_reducible assumption | assumption); (case hs => first | with_reducible assumption | assumption); (case c9 => first | with_reducible assumption | assumption); (case c10 => first | with_reducible assumption | assumption); walk_at "mine ct"; k_whole; intro t9 h9 tk9 F9 N9; (try dsimp only at N9); (try k_sweep); (try dsimp only))) | with_reducible ((with_reducible show wpAny _ _ (call (Value.ref 99) _) _ _ _); k_here; k_dflt (refine' Ct.u2 (char0_ok ?h1 ?h2 ?h3 ?h4 ?h7 ?h8) ?cB ?cF ?cX ?cN ?cT ?ck ?cd ?cu ?_; (case cN => k_asm); (case h1 => k_mem); (case h2 => k_mem); (case h8 => (first | with_reducible assumption | ((simp only [Int.add_assoc, Int.reduceAdd, Int.add_zero]); with_reducible assumption) | assumption | ((simp only [Int.add_assoc, Int.reduceAdd, Int.add_zero]); assumption))); (case h3 => omega); (case h4 => omega); (case h7 => first | with_reducible assumption | assumption); walk_at "mine ct"; k_whole; intro t9 h9 tk9 F9 N9; (try dsimp only); (try k_sweep); (try dsimp only))) | with_reducible ((with_reducible show wpAny _ _ (call (Value.ref 99) _) _ _ _); k_here; k_dflt (refine' Ct.u2 (char_ok ?h1 ?h2 ?h3 ?h4 ?h5 ?h6 ?h7 ?h8) ?cB ?cF ?cX ?cN ?cT ?ck ?cd ?cu ?_; (case cN => k_asm); (case h1 => k_mem); (case h2 => k_mem); (case h8 => (first | with_reducible assumption | ((simp only [Int.add_assoc, Int.reduceAdd, Int.add_zero]); with_reducible assumption) | assumption | ((simp only [Int.add_assoc, Int.reduceAdd, Int.add_zero]); assumption))); (case h3 => omega); (case h4 => omega); (case h5 => omega); (case h6 => omega); (case h7 => first | with_reducible assumption | assumption); walk_at "mine ct"; k_whole; intro t9 h9 tk9 F9 N9; (try dsimp only); (try k_sweep); (try dsimp only))) | with_reducible refine ite_pos (by decide) ?_ | with_reducible refine ite_neg (by decide) ?_ | (k_unfold; (try dsimp only)) | (k_end; wrow_close) | walk1 | (dsimp only; walk1) | (leave1; try dsimp only)))
      refine ksw_end (_, _) (by assumption) (by assumption) (fun _ h => h) trivial (by (first | ((try dsimp only); (repeat (refine allc rfl ?_)); exact alln) | kst_all)) (by (intro z h2 h3; (simp only [List.forall_mem_cons, List.not_mem_nil, false_implies, implies_true, and_true, ne_eq, List.contains_cons, List.contains_nil, Bool.or_false, Bool.or_eq_false_iff, beq_eq_false_iff_ne] at h2 h3); simp [kstB, h2, h3])) ⟨by dsimp only; omega, hg'⟩ (by dsimp only; omega)
theorem in_tb {prog : Program} {w : World} {A : Around} {E : Value → Shared → Prop} {s : Shared} {t : Addr} {items : Array Value} {ys : List Str} {x : Str} {u : Tok} {Q : Value → Shared → Prop} {b : Bool} (ht : IsTup s.heap t items) (hi : StrsAre items.toList ys) (hb : (ys.any fun z => z == x) = b) (h : Q (.bool b) s) : wpAny (model prog w) A (compareOp .In (.str x u) (.ref t)) Q E s := by subst hb; exact in_tuple_strs ht hi h
noncomputable abbrev tupO (vs : List Value) (n : Nat) : Obj := { cls := .type "tuple", dict := none, data := .seq vs.toArray n, slots := #[] }
noncomputable def TkP (w : World) (led : List (Addr × Obj)) (kd : Str) (V : Value → Prop) (p : Int) (v : Value) (l : List (Addr × Obj)) : Prop :=
  ∃ x d j1 j2 j3 tk val tp, v = .ref x ∧ V val ∧ l = (x, instObj 38 d) :: (d, toD w j1 j2 j3 (.str kd tk) val (.int p tp)) :: led ∧ (∀ p ∈ led, p.1 < d) ∧ d < x
theorem TkP.intro {w : World} {led : List (Addr × Obj)} {kd : Str} {V : Value → Prop} {p : Int} {x d : Addr} {j1 j2 j3 tk tp : Tok} {val : Value} (hV : V val) (h1 : ∀ p ∈ led, p.1 < d) (h2 : d < x) : TkP w led kd V p (.ref x) ((x, instObj 38 d) :: (d, toD w j1 j2 j3 (.str kd tk) val (.int p tp)) :: led) := ⟨_, _, _, _, _, _, _, _, rfl, hV, rfl, h1, h2⟩
theorem Ct.utk {w : World} {d : Nat} {f : Addr} {vs : List Value} {led : List (Addr × Obj)} {G : Tok → List (Addr × Obj)} {kd : Str} {V : Value → Prop} {q : Int} (C : Ct w d f vs led (fun v l => ∃ t, TkP w (G t) kd V q v l))
    {prog p : Program} {loose : List Str} {mean : ExcName → Option Value} {mg mb : Str → Option Value} {dp un : Nat} {gd : Option (List Code)} {cn : Str} {cs : Scope} {a : Addr} {ccd : Value} {cl : List (Str × Addr)} {outer : List Env} {A₀ : Around} {base h₀ : Heap} {L : Addr} {m : Str → Option Value} {s : Shared} {Q : Value → Shared → Prop} {E : Value → Shared → Prop}
    (B : Below A₀ base outer h₀) (F : Fr h₀ L s.heap m) (X : (KK w.params).In h₀) (N : News h₀ L s.heap (led)) (T : Top p loose mean mg mb h₀) (hk : cs.kind = .function) (hd : dp + d < recursionLimit) (hu : un + 8 * d < cLine)
    (ret : ∀ t x dd j1 j2 j3 tk val tp h' tk', V val → (∀ p ∈ G t, p.1 < dd) → dd < x → Fr h₀ L h' m → News h₀ L h' ((x, instObj 38 dd) :: (dd, toD w j1 j2 j3 (.str kd tk) val (.int q tp)) :: G t) → Q (.ref x) { s with heap := h', toks := tk' }) :
    wpAny (model prog w) (ktrTop dp un gd cn cs L a ccd cl outer) (call (.ref f) vs) Q E s :=
  C.use B F X N T hk hd hu fun v l h' tk' hp F' N' => by obtain ⟨t, x, dd, j1, j2, j3, tk, val, tp, rfl, h1, rfl, h2, h3⟩ := hp; exact ret t x dd j1 j2 j3 tk val tp h' tk' h1 h2 h3 F' N'
noncomputable def IsS (c : Str) (v : Value) : Prop := ∃ t, v = .str c t
noncomputable def IsI (n : Int) (v : Value) : Prop := ∃ t, v = .int n t
theorem word_ok {w : World} {rest : List (Addr × Obj)} {x dx : Addr} {k1 k2 k3 k4 t0 t1 tb : Tok} {src : Str} {er : Value} {wa : Addr} {ws : List Value} {kw : List Str} {wn : Nat} {nm : Str} {b : Bool} {p0 p q : Int} (h1 : (x, instObj 186 dx) ∈ rest) (hO : OwnOff rest [dx]) (h3 : 0 ≤ p) (h5 : p < q) (h4 : q < 2 ^ 18) (hl : src.length < 2 ^ 20)
    (hg : ∀ pl, p ≤ pl → pl < q → (isLetter (ch src pl) || isDigit (ch src pl)) = true) (hq : isLetter (ch src q) = false) (hq2 : isDigit (ch src q) = false)
    (hw : (wa, tupO ws wn) ∈ rest) (hws : StrsAre ws kw) (hn : Txt.slice src (some p) (some q) = nm) (hb : (kw.any fun z => z == nm) = b) :
    Ct w 3 127 [.ref x, .int p tb] ((dx, scD w k1 k2 k3 k4 src t0 er p0 t1 (.ref wa)) :: rest) (fun v l => ∃ t, TkP w ((dx, scD w k1 k2 k3 k4 src t0 er q t (.ref wa)) :: rest) (if b = true then nm else Str.ofString "ident") (IsS (if b = true then Str.ofString "" else nm)) p v l) := by
  intro prog p9 loose mean mg mb dp un gd cn cs a ccd cl outer A₀ base h₀ L m s Q E B F X N T hk hd hu hret
  ((have kf : (PySem.Challenge.rw_pq0763_01 = PySem.Challenge.rw_pq0763_01) ∧ (KK = KK) := by (k_fill; exact ⟨rfl, rfl⟩)); clear kf)
  (first | ((with_reducible show wpAny _ _ (call (Value.ref 38) _) _ _ _); k_here; k_dflt (refine' token_use ?cB ?cF ?cX ?cN ?cT ?ck ?cd ?cu ?_; (case cN => k_asm); walk_at "mine ct"; k_whole; intro x9 y9 j91 j92 j93 h9 tk9 o9 o8 F9 N9; (try k_sweep); (try dsimp only))) | ((with_reducible show wpAny _ _ (call (Value.ref 63) _) _ _ _); k_here; k_dflt (refine' Ct.u1 (digit_ok ?hb) ?cB ?cF ?cX ?cN ?cT ?ck ?cd ?cu ?_; (case cN => k_asm); (case hb => (first | assumption | exact (show (_ : Bool) = true by decide +kernel) | exact (show (_ : Bool) = false by decide +kernel))); walk_at "mine ct"; k_whole; intro h9 tk9 F9 N9; (try k_sweep); (try dsimp only))) | ((with_reducible show wpAny _ _ (call (Value.ref 56) _) _ _ _); k_here; k_dflt (refine' Ct.u1 (letter_ok ?hb) ?cB ?cF ?cX ?cN ?cT ?ck ?cd ?cu ?_; (case cN => k_asm); (case hb => (first | assumption | exact (show (_ : Bool) = true by decide +kernel) | exact (show (_ : Bool) = false by decide +kernel))); walk_at "mine ct"; k_whole; intro h9 tk9 F9 N9; (try k_sweep); (try dsimp only))) | walk_at "call ref")
  (repeat ((fail_if_success (with_reducible show wpAny _ _ (exec (Stmt.While _ _ _ _) _) _ _ _)); (first | with_reducible ((with_reducible show wpAny _ _ (compareOp CmpOp.In (Value.str _ _) (Value.ref _)) _ _ _); k_here; k_dflt (refine' in_tb ?k1 ?k2 ?k3 ?_; (case k1 => exact News.isTup (by k_asm) (by k_mem)); (case k2 => first | with_reducible assumption | assumption); (case k3 => first | with_reducible assumption | assumption); k_whole)) | with_reducible ((with_reducible show wpAny _ _ (call (Value.ref 38) _) _ _ _); k_here; k_dflt (refine' token_use ?cB ?cF ?cX ?cN ?cT ?ck ?cd ?cu ?_; (case cN => k_asm); walk_at "mine ct"; k_whole; intro x9 y9 j91 j92 j93 h9 tk9 o9 o8 F9 N9; (try k_sweep); (try dsimp only))) | with_reducible ((with_reducible show wpAny _ _ (call (Value.ref 63) _) _ _ _); k_here; k_dflt (refine' Ct.u1 (digit_ok ?hb) ?cB ?cF ?cX ?cN ?cT ?ck ?cd ?cu ?_; (case cN => k_asm); (case hb => (first | assumption | exact (show (_ : Bool) = true by decide +kernel) | exact (show (_ : Bool) = false by decide +kernel))); walk_at "mine ct"; k_whole; intro h9 tk9 F9 N9; (try k_sweep); (try dsimp only))) | with_reducible ((with_reducible show wpAny _ _ (call (Value.ref 56) _) _ _ _); k_here; k_dflt (refine' Ct.u1 (letter_ok ?hb) ?cB ?cF ?cX ?cN ?cT ?ck ?cd ?cu ?_; (case cN => k_asm); (case hb => (first | assumption | exact (show (_ : Bool) = true by decide +kernel) | exact (show (_ : Bool) = false by decide +kernel))); walk_at "mine ct"; k_whole; intro h9 tk9 F9 N9; (try k_sweep); (try dsimp only))) | with_reducible ((with_reducible show wpAny _ _ (subscriptTail (PySem.Expr.Attribute _ _ _) _ (Value.str _ _) (Value.ref _)) _ _ _); k_here; k_dflt (refine subA_turn ?_)) | with_reducible refine ite_pos (by decide) ?_ | with_reducible refine ite_neg (by decide) ?_ | walk_at "mine step")))
  rename Fr _ _ _ _ => F0
  rename News _ _ _ _ => N0
  refine' ksw_while (σ := Int × Tok) (fun c => (dx, scD w k1 k2 k3 k4 src t0 er p0 t1 (.ref wa)) :: rest) (fun c => [(Str.ofString "end", .int c.1 c.2)]) (fun _ => True) []
    (fun c => p ≤ c.1 ∧ c.1 ≤ q) (fun c => (q - c.1).toNat) (p, _) F0 N0 trivial ?kk ⟨by dsimp only; omega, by dsimp only; omega⟩ ?turn
  case kk => (first | ((try dsimp only); (repeat (refine allc rfl ?_)); exact alln) | kst_all)
  case turn =>
    clear F0 N0
    rintro ⟨pl, t⟩ u h9 tk9 - ⟨g0, g1⟩ F1 N1
    dsimp only at F1 N1 g0 g1 ⊢
    try k_fold
    by_cases g2 : pl = q
    · subst g2
      clear hg
      subst hn
      cases b
      all_goals ((repeat' (first | with_reducible ((with_reducible show wpAny _ _ (compareOp CmpOp.In (Value.str _ _) (Value.ref _)) _ _ _); k_here; k_dflt (refine' in_tb ?k1 ?k2 ?k3 ?_; (case k1 => exact News.isTup (by k_asm) (by k_mem)); (case k2 => first | with_reducible assumption | assumption); (case k3 => first | with_reducible assumption | assumption); k_whole)) | with_reducible ((with_reducible show wpAny _ _ (call (Value.ref 38) _) _ _ _); k_here; k_dflt (refine' token_use ?cB ?cF ?cX ?cN ?cT ?ck ?cd ?cu ?_; (case cN => k_asm); walk_at "mine ct"; k_whole; intro x9 y9 j91 j92 j93 h9 tk9 o9 o8 F9 N9; (try k_sweep); (try dsimp only))) | with_reducible ((with_reducible show wpAny _ _ (call (Value.ref 63) _) _ _ _); k_here; k_dflt (refine' Ct.u1 (digit_ok ?hb) ?cB ?cF ?cX ?cN ?cT ?ck ?cd ?cu ?_; (case cN => k_asm); (case hb => (first | assumption | exact (show (_ : Bool) = true by decide +kernel) | exact (show (_ : Bool) = false by decide +kernel))); walk_at "mine ct"; k_whole; intro h9 tk9 F9 N9; (try k_sweep); (try dsimp only))) | with_reducible ((with_reducible show wpAny _ _ (call (Value.ref 56) _) _ _ _); k_here; k_dflt (refine' Ct.u1 (letter_ok ?hb) ?cB ?cF ?cX ?cN ?cT ?ck ?cd ?cu ?_; (case cN => k_asm); (case hb => (first | assumption | exact (show (_ : Bool) = true by decide +kernel) | exact (show (_ : Bool) = false by decide +kernel))); walk_at "mine ct"; k_whole; intro h9 tk9 F9 N9; (try k_sweep); (try dsimp only))) | with_reducible ((with_reducible show wpAny _ _ (subscriptTail (PySem.Expr.Attribute _ _ _) _ (Value.str _ _) (Value.ref _)) _ _ _); k_here; k_dflt (refine subA_turn ?_)) | with_reducible refine ite_pos (by decide) ?_ | with_reducible refine ite_neg (by decide) ?_ | (k_unfold; (try dsimp only)) | (k_end; wrow_close) | walk1 | (dsimp only; walk1) | (leave1; try dsimp only))); exact hret _ _ _ _ ⟨_, TkP.intro ⟨_, rfl⟩ (by assumption) (by assumption)⟩ (by assumption) (by assumption))
    · have hh := hg pl g0 (by omega)
      rcases Bool.or_eq_true_iff.mp hh with e1 | e1
      · clear hg hh
        (repeat' ((fail_if_success (with_reducible show KswEnd _ _ _ _ _ _ _ _ _ _ _ _)); first | with_reducible ((with_reducible show wpAny _ _ (compareOp CmpOp.In (Value.str _ _) (Value.ref _)) _ _ _); k_here; k_dflt (refine' in_tb ?k1 ?k2 ?k3 ?_; (case k1 => exact News.isTup (by k_asm) (by k_mem)); (case k2 => first | with_reducible assumption | assumption); (case k3 => first | with_reducible assumption | assumption); k_whole)) | with_reducible ((with_reducible show wpAny _ _ (call (Value.ref 38) _) _ _ _); k_here; k_dflt (refine' token_use ?cB ?cF ?cX ?cN ?cT ?ck ?cd ?cu ?_; (case cN => k_asm); walk_at "mine ct"; k_whole; intro x9 y9 j91 j92 j93 h9 tk9 o9 o8 F9 N9; (try k_sweep); (try dsimp only))) | with_reducible ((with_reducible show wpAny _ _ (call (Value.ref 63) _) _ _ _); k_here; k_dflt (refine' Ct.u1 (digit_ok ?hb) ?cB ?cF ?cX ?cN ?cT ?ck ?cd ?cu ?_; (case cN => k_asm); (case hb => (first | assumption | exact (show (_ : Bool) = true by decide +kernel) | exact (show (_ : Bool) = false by decide +kernel))); walk_at "mine ct"; k_whole; intro h9 tk9 F9 N9; (try k_sweep); (try dsimp only))) | with_reducible ((with_reducible show wpAny _ _ (call (Value.ref 56) _) _ _ _); k_here; k_dflt (refine' Ct.u1 (letter_ok ?hb) ?cB ?cF ?cX ?cN ?cT ?ck ?cd ?cu ?_; (case cN => k_asm); (case hb => (first | assumption | exact (show (_ : Bool) = true by decide +kernel) | exact (show (_ : Bool) = false by decide +kernel))); walk_at "mine ct"; k_whole; intro h9 tk9 F9 N9; (try k_sweep); (try dsimp only))) | with_reducible ((with_reducible show wpAny _ _ (subscriptTail (PySem.Expr.Attribute _ _ _) _ (Value.str _ _) (Value.ref _)) _ _ _); k_here; k_dflt (refine subA_turn ?_)) | with_reducible refine ite_pos (by decide) ?_ | with_reducible refine ite_neg (by decide) ?_ | (k_unfold; (try dsimp only)) | (k_end; wrow_close) | walk1 | (dsimp only; walk1) | (leave1; try dsimp only)))
        refine ksw_end (_, _) (by assumption) (by assumption) (fun _ h => h) trivial (by (first | ((try dsimp only); (repeat (refine allc rfl ?_)); exact alln) | kst_all)) (by (intro z h2 h3; (simp only [List.forall_mem_cons, List.not_mem_nil, false_implies, implies_true, and_true, ne_eq, List.contains_cons, List.contains_nil, Bool.or_false, Bool.or_eq_false_iff, beq_eq_false_iff_ne] at h2 h3); simp [kstB, h2, h3])) ⟨by dsimp only; omega, by dsimp only; omega⟩ (by dsimp only; omega)
      · cases e2 : isLetter (ch src pl)
        · clear hg hh
          (repeat' ((fail_if_success (with_reducible show KswEnd _ _ _ _ _ _ _ _ _ _ _ _)); first | with_reducible ((with_reducible show wpAny _ _ (compareOp CmpOp.In (Value.str _ _) (Value.ref _)) _ _ _); k_here; k_dflt (refine' in_tb ?k1 ?k2 ?k3 ?_; (case k1 => exact News.isTup (by k_asm) (by k_mem)); (case k2 => first | with_reducible assumption | assumption); (case k3 => first | with_reducible assumption | assumption); k_whole)) | with_reducible ((with_reducible show wpAny _ _ (call (Value.ref 38) _) _ _ _); k_here; k_dflt (refine' token_use ?cB ?cF ?cX ?cN ?cT ?ck ?cd ?cu ?_; (case cN => k_asm); walk_at "mine ct"; k_whole; intro x9 y9 j91 j92 j93 h9 tk9 o9 o8 F9 N9; (try k_sweep); (try dsimp only))) | with_reducible ((with_reducible show wpAny _ _ (call (Value.ref 63) _) _ _ _); k_here; k_dflt (refine' Ct.u1 (digit_ok ?hb) ?cB ?cF ?cX ?cN ?cT ?ck ?cd ?cu ?_; (case cN => k_asm); (case hb => (first | assumption | exact (show (_ : Bool) = true by decide +kernel) | exact (show (_ : Bool) = false by decide +kernel))); walk_at "mine ct"; k_whole; intro h9 tk9 F9 N9; (try k_sweep); (try dsimp only))) | with_reducible ((with_reducible show wpAny _ _ (call (Value.ref 56) _) _ _ _); k_here; k_dflt (refine' Ct.u1 (letter_ok ?hb) ?cB ?cF ?cX ?cN ?cT ?ck ?cd ?cu ?_; (case cN => k_asm); (case hb => (first | assumption | exact (show (_ : Bool) = true by decide +kernel) | exact (show (_ : Bool) = false by decide +kernel))); walk_at "mine ct"; k_whole; intro h9 tk9 F9 N9; (try k_sweep); (try dsimp only))) | with_reducible ((with_reducible show wpAny _ _ (subscriptTail (PySem.Expr.Attribute _ _ _) _ (Value.str _ _) (Value.ref _)) _ _ _); k_here; k_dflt (refine subA_turn ?_)) | with_reducible refine ite_pos (by decide) ?_ | with_reducible refine ite_neg (by decide) ?_ | (k_unfold; (try dsimp only)) | (k_end; wrow_close) | walk1 | (dsimp only; walk1) | (leave1; try dsimp only)))
          refine ksw_end (_, _) (by assumption) (by assumption) (fun _ h => h) trivial (by (first | ((try dsimp only); (repeat (refine allc rfl ?_)); exact alln) | kst_all)) (by (intro z h2 h3; (simp only [List.forall_mem_cons, List.not_mem_nil, false_implies, implies_true, and_true, ne_eq, List.contains_cons, List.contains_nil, Bool.or_false, Bool.or_eq_false_iff, beq_eq_false_iff_ne] at h2 h3); simp [kstB, h2, h3])) ⟨by dsimp only; omega, by dsimp only; omega⟩ (by dsimp only; omega)
        · clear hg hh
          (repeat' ((fail_if_success (with_reducible show KswEnd _ _ _ _ _ _ _ _ _ _ _ _)); first | with_reducible ((with_reducible show wpAny _ _ (compareOp CmpOp.In (Value.str _ _) (Value.ref _)) _ _ _); k_here; k_dflt (refine' in_tb ?k1 ?k2 ?k3 ?_; (case k1 => exact News.isTup (by k_asm) (by k_mem)); (case k2 => first | with_reducible assumption | assumption); (case k3 => first | with_reducible assumption | assumption); k_whole)) | with_reducible ((with_reducible show wpAny _ _ (call (Value.ref 38) _) _ _ _); k_here; k_dflt (refine' token_use ?cB ?cF ?cX ?cN ?cT ?ck ?cd ?cu ?_; (case cN => k_asm); walk_at "mine ct"; k_whole; intro x9 y9 j91 j92 j93 h9 tk9 o9 o8 F9 N9; (try k_sweep); (try dsimp only))) | with_reducible ((with_reducible show wpAny _ _ (call (Value.ref 63) _) _ _ _); k_here; k_dflt (refine' Ct.u1 (digit_ok ?hb) ?cB ?cF ?cX ?cN ?cT ?ck ?cd ?cu ?_; (case cN => k_asm); (case hb => (first | assumption | exact (show (_ : Bool) = true by decide +kernel) | exact (show (_ : Bool) = false by decide +kernel))); walk_at "mine ct"; k_whole; intro h9 tk9 F9 N9; (try k_sweep); (try dsimp only))) | with_reducible ((with_reducible show wpAny _ _ (call (Value.ref 56) _) _ _ _); k_here; k_dflt (refine' Ct.u1 (letter_ok ?hb) ?cB ?cF ?cX ?cN ?cT ?ck ?cd ?cu ?_; (case cN => k_asm); (case hb => (first | assumption | exact (show (_ : Bool) = true by decide +kernel) | exact (show (_ : Bool) = false by decide +kernel))); walk_at "mine ct"; k_whole; intro h9 tk9 F9 N9; (try k_sweep); (try dsimp only))) | with_reducible ((with_reducible show wpAny _ _ (subscriptTail (PySem.Expr.Attribute _ _ _) _ (Value.str _ _) (Value.ref _)) _ _ _); k_here; k_dflt (refine subA_turn ?_)) | with_reducible refine ite_pos (by decide) ?_ | with_reducible refine ite_neg (by decide) ?_ | (k_unfold; (try dsimp only)) | (k_end; wrow_close) | walk1 | (dsimp only; walk1) | (leave1; try dsimp only)))
          refine ksw_end (_, _) (by assumption) (by assumption) (fun _ h => h) trivial (by (first | ((try dsimp only); (repeat (refine allc rfl ?_)); exact alln) | kst_all)) (by (intro z h2 h3; (simp only [List.forall_mem_cons, List.not_mem_nil, false_implies, implies_true, and_true, ne_eq, List.contains_cons, List.contains_nil, Bool.or_false, Bool.or_eq_false_iff, beq_eq_false_iff_ne] at h2 h3); simp [kstB, h2, h3])) ⟨by dsimp only; omega, by dsimp only; omega⟩ (by dsimp only; omega)
noncomputable def isHex (c : Str) : Bool := isDigit c || (!decide (c.cps.toList < (Str.ofString "A").cps.toList) && !decide ((Str.ofString "F").cps.toList < c.cps.toList))
theorem hex_ok {w : World} {led : List (Addr × Obj)} {tc : Tok} {c : Str} {b : Bool} (hb : isHex c = b) : Ct w 2 70 [.str c tc] led (fun v l => l = led ∧ v = .bool b) := by
  intro prog p loose mean mg mb dp un gd cn cs a ccd cl outer A₀ base h₀ L m s Q E B F X N T hk hd hu hret
  ((have kf : (PySem.Challenge.rw_pq0763_01 = PySem.Challenge.rw_pq0763_01) ∧ (KK = KK) := by (k_fill; exact ⟨rfl, rfl⟩)); clear kf)
  (first | ((with_reducible show wpAny _ _ (call (Value.ref 63) _) _ _ _); k_here; k_dflt (refine' Ct.u1 (digit_ok ?hb) ?cB ?cF ?cX ?cN ?cT ?ck ?cd ?cu ?_; (case cN => k_asm); (case hb => (first | assumption | exact (show (_ : Bool) = true by decide +kernel) | exact (show (_ : Bool) = false by decide +kernel))); walk_at "mine ct"; k_whole; intro h9 tk9 F9 N9; (try k_sweep); (try dsimp only))) | ((with_reducible show wpAny _ _ (call (Value.ref 56) _) _ _ _); k_here; k_dflt (refine' Ct.u1 (letter_ok ?hb) ?cB ?cF ?cX ?cN ?cT ?ck ?cd ?cu ?_; (case cN => k_asm); (case hb => (first | assumption | exact (show (_ : Bool) = true by decide +kernel) | exact (show (_ : Bool) = false by decide +kernel))); walk_at "mine ct"; k_whole; intro h9 tk9 F9 N9; (try k_sweep); (try dsimp only))) | walk_at "call ref")
  cases hdg : isDigit c
  all_goals (repeat' (first | with_reducible ((with_reducible show wpAny _ _ (call (Value.ref 63) _) _ _ _); k_here; k_dflt (refine' Ct.u1 (digit_ok ?hb) ?cB ?cF ?cX ?cN ?cT ?ck ?cd ?cu ?_; (case cN => k_asm); (case hb => (first | assumption | exact (show (_ : Bool) = true by decide +kernel) | exact (show (_ : Bool) = false by decide +kernel))); walk_at "mine ct"; k_whole; intro h9 tk9 F9 N9; (try k_sweep); (try dsimp only))) | with_reducible ((with_reducible show wpAny _ _ (call (Value.ref 56) _) _ _ _); k_here; k_dflt (refine' Ct.u1 (letter_ok ?hb) ?cB ?cF ?cX ?cN ?cT ?ck ?cd ?cu ?_; (case cN => k_asm); (case hb => (first | assumption | exact (show (_ : Bool) = true by decide +kernel) | exact (show (_ : Bool) = false by decide +kernel))); walk_at "mine ct"; k_whole; intro h9 tk9 F9 N9; (try k_sweep); (try dsimp only))) | with_reducible refine ite_pos (by decide) ?_ | with_reducible refine ite_neg (by decide) ?_ | (k_unfold; (try dsimp only)) | (k_end; wrow_close) | walk1 | (dsimp only; walk1) | (leave1; try dsimp only)))
  all_goals (refine ret_eq (v' := .bool b) ?_ (hret _ _ _ _ ⟨rfl, rfl⟩ (by assumption) (by assumption)); subst hb; clear hret; unfold isHex; congr 1; simp only [*, decide_true, decide_false, Bool.not_false, Bool.not_true, Bool.true_and, Bool.and_true, Bool.false_and, Bool.and_false, Bool.true_or, Bool.or_true, Bool.false_or, Bool.or_false, not_true_eq_false, not_false_eq_true])
theorem dval_ok {w : World} {led : List (Addr × Obj)} {tc t1 t2 : Tok} {c : Str} (hc : c = Str.ofString "12") : Ct w 1 77 [.str c tc, .int 10 t1, .int 2147483647 t2] led (fun v l => l = led ∧ ∃ t, v = .int 12 t) := by
  intro prog p loose mean mg mb dp un gd cn cs a ccd cl outer A₀ base h₀ L m s Q E B F X N T hk hd hu hret
  ((have kf : (PySem.Challenge.rw_pq0763_01 = PySem.Challenge.rw_pq0763_01) ∧ (KK = KK) := by (k_fill; exact ⟨rfl, rfl⟩)); clear kf)
  (first | ((with_reducible show wpAny _ _ (call (Value.ref 63) _) _ _ _); k_here; k_dflt (refine' Ct.u1 (digit_ok ?hb) ?cB ?cF ?cX ?cN ?cT ?ck ?cd ?cu ?_; (case cN => k_asm); (case hb => (first | assumption | exact (show (_ : Bool) = true by decide +kernel) | exact (show (_ : Bool) = false by decide +kernel))); walk_at "mine ct"; k_whole; intro h9 tk9 F9 N9; (try k_sweep); (try dsimp only))) | ((with_reducible show wpAny _ _ (call (Value.ref 56) _) _ _ _); k_here; k_dflt (refine' Ct.u1 (letter_ok ?hb) ?cB ?cF ?cX ?cN ?cT ?ck ?cd ?cu ?_; (case cN => k_asm); (case hb => (first | assumption | exact (show (_ : Bool) = true by decide +kernel) | exact (show (_ : Bool) = false by decide +kernel))); walk_at "mine ct"; k_whole; intro h9 tk9 F9 N9; (try k_sweep); (try dsimp only))) | walk_at "call ref")
  have hco : KStt.codes c = [49, 50] := by subst hc; decide +kernel
  clear hc
  have hf1 : Txt.find (Str.ofString "0123456789ABCDEF") ⟨#[49]⟩ = 1 := by decide +kernel
  have hf2 : Txt.find (Str.ofString "0123456789ABCDEF") ⟨#[50]⟩ = 2 := by decide +kernel
  (repeat ((fail_if_success (with_reducible show wpAny _ _ (exec (Stmt.For _ _ _ _ _) _) _ _ _)); (first | with_reducible ((with_reducible show wpAny _ _ (call (Value.ref 63) _) _ _ _); k_here; k_dflt (refine' Ct.u1 (digit_ok ?hb) ?cB ?cF ?cX ?cN ?cT ?ck ?cd ?cu ?_; (case cN => k_asm); (case hb => (first | assumption | exact (show (_ : Bool) = true by decide +kernel) | exact (show (_ : Bool) = false by decide +kernel))); walk_at "mine ct"; k_whole; intro h9 tk9 F9 N9; (try k_sweep); (try dsimp only))) | with_reducible ((with_reducible show wpAny _ _ (call (Value.ref 56) _) _ _ _); k_here; k_dflt (refine' Ct.u1 (letter_ok ?hb) ?cB ?cF ?cX ?cN ?cT ?ck ?cd ?cu ?_; (case cN => k_asm); (case hb => (first | assumption | exact (show (_ : Bool) = true by decide +kernel) | exact (show (_ : Bool) = false by decide +kernel))); walk_at "mine ct"; k_whole; intro h9 tk9 F9 N9; (try k_sweep); (try dsimp only))) | with_reducible refine ite_pos (by decide) ?_ | with_reducible refine ite_neg (by decide) ?_ | walk_at "mine step")))
  rename Fr _ _ _ _ => F0
  rename News _ _ _ _ => N0
  refine' For_invVF F0 ?k1 ?k2 ?_
  case k1 => exact rfl
  case k2 => exact rfl
  (first | with_reducible ((with_reducible show wpAny _ _ (call (Value.ref 63) _) _ _ _); k_here; k_dflt (refine' Ct.u1 (digit_ok ?hb) ?cB ?cF ?cX ?cN ?cT ?ck ?cd ?cu ?_; (case cN => k_asm); (case hb => (first | assumption | exact (show (_ : Bool) = true by decide +kernel) | exact (show (_ : Bool) = false by decide +kernel))); walk_at "mine ct"; k_whole; intro h9 tk9 F9 N9; (try k_sweep); (try dsimp only))) | with_reducible ((with_reducible show wpAny _ _ (call (Value.ref 56) _) _ _ _); k_here; k_dflt (refine' Ct.u1 (letter_ok ?hb) ?cB ?cF ?cX ?cN ?cT ?ck ?cd ?cu ?_; (case cN => k_asm); (case hb => (first | assumption | exact (show (_ : Bool) = true by decide +kernel) | exact (show (_ : Bool) = false by decide +kernel))); walk_at "mine ct"; k_whole; intro h9 tk9 F9 N9; (try k_sweep); (try dsimp only))) | with_reducible refine ite_pos (by decide) ?_ | with_reducible refine ite_neg (by decide) ?_ | walk_at "mine step")
  refine' KStt.kst_text (σ := Int × Tok) (fun _ => led) (fun c => [(Str.ofString "value", .int c.1 c.2)]) (fun _ => True) [] (fun pre c => c.1 = pre.foldl (fun v d => v * 10 + (d - 48)) 0) (0, _) (by rfl) F0 N0 trivial ?kk rfl ?turn ?done
  case kk => (first | ((try dsimp only); (repeat (refine allc rfl ?_)); exact alln) | kst_all)
  case turn =>
    clear F0 N0
    rintro ⟨v, tv⟩ pre post n t u h9 tk9 own hq hoff - hP F1 N1
    dsimp only at F1 N1 hP ⊢
    rw [hco] at hq
    try k_fold
    rcases pre with _ | ⟨a1, _ | ⟨a2, r⟩⟩
    · simp only [List.nil_append, List.cons.injEq] at hq
      obtain ⟨h1, h2⟩ := hq
      have h3 : n = 49 := by omega
      subst h3 hP
      (repeat' (first | with_reducible ((with_reducible show wpAny _ _ (call (Value.ref 63) _) _ _ _); k_here; k_dflt (refine' Ct.u1 (digit_ok ?hb) ?cB ?cF ?cX ?cN ?cT ?ck ?cd ?cu ?_; (case cN => k_asm); (case hb => (first | assumption | exact (show (_ : Bool) = true by decide +kernel) | exact (show (_ : Bool) = false by decide +kernel))); walk_at "mine ct"; k_whole; intro h9 tk9 F9 N9; (try k_sweep); (try dsimp only))) | with_reducible ((with_reducible show wpAny _ _ (call (Value.ref 56) _) _ _ _); k_here; k_dflt (refine' Ct.u1 (letter_ok ?hb) ?cB ?cF ?cX ?cN ?cT ?ck ?cd ?cu ?_; (case cN => k_asm); (case hb => (first | assumption | exact (show (_ : Bool) = true by decide +kernel) | exact (show (_ : Bool) = false by decide +kernel))); walk_at "mine ct"; k_whole; intro h9 tk9 F9 N9; (try k_sweep); (try dsimp only))) | with_reducible refine ite_pos (by decide) ?_ | with_reducible refine ite_neg (by decide) ?_ | (k_unfold; (try dsimp only)) | (k_end; wrow_close) | walk1 | (dsimp only; walk1) | (leave1; try dsimp only)))
      refine kst_end (_, _) (by assumption) (by assumption) (by (exact fun p hp => List.mem_append_left _ hp)) (by (exact fun p hp => List.mem_append_right _ hp)) rfl trivial (by (first | ((try dsimp only); (repeat (refine allc rfl ?_)); exact alln) | kst_all)) (by (intro z h1 h2 h3; (simp only [List.forall_mem_cons, List.not_mem_nil, false_implies, implies_true, and_true, ne_eq, List.contains_cons, List.contains_nil, Bool.or_false, Bool.or_eq_false_iff, beq_eq_false_iff_ne] at h1 h2 h3); simp [kstB, h1, h2, h3])) ?_
      simp only [List.nil_append, List.cons_append, List.foldl_cons, List.foldl_nil]; first | rfl | omega
    · simp only [List.nil_append, List.cons_append, List.cons.injEq] at hq
      obtain ⟨h1, h2, h4⟩ := hq
      have h3 : n = 50 := by omega
      subst h3 hP h1
      (repeat' (first | with_reducible ((with_reducible show wpAny _ _ (call (Value.ref 63) _) _ _ _); k_here; k_dflt (refine' Ct.u1 (digit_ok ?hb) ?cB ?cF ?cX ?cN ?cT ?ck ?cd ?cu ?_; (case cN => k_asm); (case hb => (first | assumption | exact (show (_ : Bool) = true by decide +kernel) | exact (show (_ : Bool) = false by decide +kernel))); walk_at "mine ct"; k_whole; intro h9 tk9 F9 N9; (try k_sweep); (try dsimp only))) | with_reducible ((with_reducible show wpAny _ _ (call (Value.ref 56) _) _ _ _); k_here; k_dflt (refine' Ct.u1 (letter_ok ?hb) ?cB ?cF ?cX ?cN ?cT ?ck ?cd ?cu ?_; (case cN => k_asm); (case hb => (first | assumption | exact (show (_ : Bool) = true by decide +kernel) | exact (show (_ : Bool) = false by decide +kernel))); walk_at "mine ct"; k_whole; intro h9 tk9 F9 N9; (try k_sweep); (try dsimp only))) | with_reducible refine ite_pos (by decide) ?_ | with_reducible refine ite_neg (by decide) ?_ | (k_unfold; (try dsimp only)) | (k_end; wrow_close) | walk1 | (dsimp only; walk1) | (leave1; try dsimp only)))
      refine kst_end (_, _) (by assumption) (by assumption) (by (exact fun p hp => List.mem_append_left _ hp)) (by (exact fun p hp => List.mem_append_right _ hp)) rfl trivial (by (first | ((try dsimp only); (repeat (refine allc rfl ?_)); exact alln) | kst_all)) (by (intro z h1 h2 h3; (simp only [List.forall_mem_cons, List.not_mem_nil, false_implies, implies_true, and_true, ne_eq, List.contains_cons, List.contains_nil, Bool.or_false, Bool.or_eq_false_iff, beq_eq_false_iff_ne] at h1 h2 h3); simp [kstB, h1, h2, h3])) ?_
      simp only [List.nil_append, List.cons_append, List.foldl_cons, List.foldl_nil]; first | rfl | omega
    · simp at hq
  case done =>
    clear F0 N0
    rintro ⟨v, tv⟩ u h9 tk9 - hP F1 N1
    dsimp only at F1 N1 hP ⊢
    rw [hco] at hP
    subst hP
    try k_fold
    (repeat' (first | with_reducible ((with_reducible show wpAny _ _ (call (Value.ref 63) _) _ _ _); k_here; k_dflt (refine' Ct.u1 (digit_ok ?hb) ?cB ?cF ?cX ?cN ?cT ?ck ?cd ?cu ?_; (case cN => k_asm); (case hb => (first | assumption | exact (show (_ : Bool) = true by decide +kernel) | exact (show (_ : Bool) = false by decide +kernel))); walk_at "mine ct"; k_whole; intro h9 tk9 F9 N9; (try k_sweep); (try dsimp only))) | with_reducible ((with_reducible show wpAny _ _ (call (Value.ref 56) _) _ _ _); k_here; k_dflt (refine' Ct.u1 (letter_ok ?hb) ?cB ?cF ?cX ?cN ?cT ?ck ?cd ?cu ?_; (case cN => k_asm); (case hb => (first | assumption | exact (show (_ : Bool) = true by decide +kernel) | exact (show (_ : Bool) = false by decide +kernel))); walk_at "mine ct"; k_whole; intro h9 tk9 F9 N9; (try k_sweep); (try dsimp only))) | with_reducible refine ite_pos (by decide) ?_ | with_reducible refine ite_neg (by decide) ?_ | (k_unfold; (try dsimp only)) | (k_end; wrow_close) | walk1 | (dsimp only; walk1) | (leave1; try dsimp only)))
    exact hret _ _ _ _ ⟨rfl, _, rfl⟩ (by assumption) (by assumption)
theorem blank_digit {n : Nat} (h : n ≤ 32) : isDigit ⟨#[n]⟩ = false := by
  have e : (Str.ofString "0").cps.toList = [48] := by decide +kernel
  unfold isDigit
  rw [e, decide_eq_true (show ([n] : List Nat) < [48] from List.Lex.rel (by omega))]
  rfl
theorem blank_hex {n : Nat} (h : n ≤ 32) : isHex ⟨#[n]⟩ = false := by
  have e : (Str.ofString "A").cps.toList = [65] := by decide +kernel
  unfold isHex
  rw [blank_digit h, e, decide_eq_true (show ([n] : List Nat) < [65] from List.Lex.rel (by omega))]
  rfl
theorem blank_letter {n : Nat} (h : n ≤ 32) : isLetter ⟨#[n]⟩ = false := by
  have e : (Str.ofString "A").cps.toList = [65] := by decide +kernel
  have e2 : (Str.ofString "a").cps.toList = [97] := by decide +kernel
  unfold isLetter
  rw [e, e2, decide_eq_true (show ([n] : List Nat) < [65] from List.Lex.rel (by omega)), decide_eq_true (show ([n] : List Nat) < [97] from List.Lex.rel (by omega))]
  rfl
theorem blank_ne {n c : Nat} (h : n ≤ 32) (k : 32 < c) {x : String} (hx : Str.ofString x = ⟨#[c]⟩) : ((⟨#[n]⟩ : Str) == Str.ofString x) = false := by rw [hx]; exact one_ne (by omega)
set_option maxHeartbeats 16000000 in
theorem numeral_ok {w : World} {rest : List (Addr × Obj)} {x dx : Addr} {k1 k2 k3 k4 t0 t1 tb : Tok} {src : Str} {er wd : Value} {p0 p : Int} {n : Nat} (h1 : (x, instObj 186 dx) ∈ rest) (hO : OwnOff rest [dx]) (h3 : 0 ≤ p) (h4 : p < 2 ^ 18) (hl : src.length < 2 ^ 20)
    (c0 : ch src p = Str.ofString "1") (c1 : ch src (p + 1) = Str.ofString "2") (c2 : ch src (p + 2) = ⟨#[n]⟩) (hn : n ≤ 32) (hs : Txt.slice src (some p) (some (p + 2)) = Str.ofString "12") :
    Ct w 4 134 [.ref x, .int p tb] ((dx, scD w k1 k2 k3 k4 src t0 er p0 t1 wd) :: rest) (fun v l => ∃ t, TkP w ((dx, scD w k1 k2 k3 k4 src t0 er (p + 2) t wd) :: rest) (Str.ofString "int") (IsI 12) p v l) := by
  intro prog p9 loose mean mg mb dp un gd cn cs a ccd cl outer A₀ base h₀ L m s Q E B F X N T hk hd hu hret
  have a1 := blank_digit hn
  have a2 := blank_hex hn
  have a3 := blank_ne hn (c := 72) (by omega) (x := "H") (by decide +kernel)
  have a4 := blank_ne hn (c := 88) (by omega) (x := "X") (by decide +kernel)
  have a5 := blank_ne hn (c := 46) (by omega) (x := ".") (by decide +kernel)
  have b1 : ∀ pl, p ≤ pl → pl < p + 2 → isHex (ch src pl) = true ∧ isDigit (ch src pl) = true := by
    intro pl h h'
    rcases (show pl = p ∨ pl = p + 1 by omega) with rfl | rfl
    · rw [c0]; decide +kernel
    · rw [c1]; decide +kernel
  have b2 : isHex (ch src (p + 2)) = false := by rw [c2]; exact a2
  have b3 : isDigit (ch src (p + 2)) = false := by rw [c2]; exact a1
  have b4 : (Txt.slice src (some (p + 2)) (some (p + 2 + 1)) == Str.ofString "H") = false := by rw [show Txt.slice src (some (p + 2)) (some (p + 2 + 1)) = _ from c2]; exact a3
  have b5 : (Txt.slice src (some (p + 2)) (some (p + 2 + 1)) == Str.ofString "X") = false := by rw [show Txt.slice src (some (p + 2)) (some (p + 2 + 1)) = _ from c2]; exact a4
  clear a1 a2 a3 a4 c0 c1
  ((have kf : (PySem.Challenge.rw_pq0763_01 = PySem.Challenge.rw_pq0763_01) ∧ (KK = KK) := by (k_fill; exact ⟨rfl, rfl⟩)); clear kf)
  (first | ((with_reducible show wpAny _ _ (call (Value.ref 77) _) _ _ _); k_here; k_dflt (refine' Ct.u2 (dval_ok ?hb) ?cB ?cF ?cX ?cN ?cT ?ck ?cd ?cu ?_; (case cN => k_asm); (case hb => first | with_reducible assumption | assumption); walk_at "mine ct"; k_whole; intro t9 h9 tk9 F9 N9; (try dsimp only); (try k_sweep); (try dsimp only))) | ((with_reducible show wpAny _ _ (call (Value.ref 70) _) _ _ _); k_here; k_dflt (refine' Ct.u1 (hex_ok ?hb) ?cB ?cF ?cX ?cN ?cT ?ck ?cd ?cu ?_; (case cN => k_asm); (case hb => (first | assumption | exact (show (_ : Bool) = true by decide +kernel) | exact (show (_ : Bool) = false by decide +kernel))); walk_at "mine ct"; k_whole; intro h9 tk9 F9 N9; (try k_sweep); (try dsimp only))) | ((with_reducible show wpAny _ _ (call (Value.ref 38) _) _ _ _); k_here; k_dflt (refine' token_use ?cB ?cF ?cX ?cN ?cT ?ck ?cd ?cu ?_; (case cN => k_asm); walk_at "mine ct"; k_whole; intro x9 y9 j91 j92 j93 h9 tk9 o9 o8 F9 N9; (try k_sweep); (try dsimp only))) | ((with_reducible show wpAny _ _ (call (Value.ref 63) _) _ _ _); k_here; k_dflt (refine' Ct.u1 (digit_ok ?hb) ?cB ?cF ?cX ?cN ?cT ?ck ?cd ?cu ?_; (case cN => k_asm); (case hb => (first | assumption | exact (show (_ : Bool) = true by decide +kernel) | exact (show (_ : Bool) = false by decide +kernel))); walk_at "mine ct"; k_whole; intro h9 tk9 F9 N9; (try k_sweep); (try dsimp only))) | ((with_reducible show wpAny _ _ (call (Value.ref 56) _) _ _ _); k_here; k_dflt (refine' Ct.u1 (letter_ok ?hb) ?cB ?cF ?cX ?cN ?cT ?ck ?cd ?cu ?_; (case cN => k_asm); (case hb => (first | assumption | exact (show (_ : Bool) = true by decide +kernel) | exact (show (_ : Bool) = false by decide +kernel))); walk_at "mine ct"; k_whole; intro h9 tk9 F9 N9; (try k_sweep); (try dsimp only))) | ((with_reducible show wpAny _ _ (call (Value.ref 99) _) _ _ _); k_here; k_dflt (refine' Ct.u2 (char0_ok ?h1 ?h2 ?h3 ?h4 ?h7 ?h8) ?cB ?cF ?cX ?cN ?cT ?ck ?cd ?cu ?_; (case cN => k_asm); (case h1 => k_mem); (case h2 => k_mem); (case h8 => (first | with_reducible assumption | ((simp only [Int.add_assoc, Int.reduceAdd, Int.add_zero]); with_reducible assumption) | assumption | ((simp only [Int.add_assoc, Int.reduceAdd, Int.add_zero]); assumption))); (case h3 => omega); (case h4 => omega); (case h7 => first | with_reducible assumption | assumption); walk_at "mine ct"; k_whole; intro t9 h9 tk9 F9 N9; (try dsimp only); (try k_sweep); (try dsimp only))) | ((with_reducible show wpAny _ _ (call (Value.ref 99) _) _ _ _); k_here; k_dflt (refine' Ct.u2 (char_ok ?h1 ?h2 ?h3 ?h4 ?h5 ?h6 ?h7 ?h8) ?cB ?cF ?cX ?cN ?cT ?ck ?cd ?cu ?_; (case cN => k_asm); (case h1 => k_mem); (case h2 => k_mem); (case h8 => (first | with_reducible assumption | ((simp only [Int.add_assoc, Int.reduceAdd, Int.add_zero]); with_reducible assumption) | assumption | ((simp only [Int.add_assoc, Int.reduceAdd, Int.add_zero]); assumption))); (case h3 => omega); (case h4 => omega); (case h5 => omega); (case h6 => omega); (case h7 => first | with_reducible assumption | assumption); walk_at "mine ct"; k_whole; intro t9 h9 tk9 F9 N9; (try dsimp only); (try k_sweep); (try dsimp only))) | walk_at "call ref")
  (repeat ((fail_if_success (with_reducible show wpAny _ _ (exec (Stmt.While _ _ _ _) _) _ _ _)); (first | with_reducible ((with_reducible show wpAny _ _ (call (Value.ref 77) _) _ _ _); k_here; k_dflt (refine' Ct.u2 (dval_ok ?hb) ?cB ?cF ?cX ?cN ?cT ?ck ?cd ?cu ?_; (case cN => k_asm); (case hb => first | with_reducible assumption | assumption); walk_at "mine ct"; k_whole; intro t9 h9 tk9 F9 N9; (try dsimp only); (try k_sweep); (try dsimp only))) | with_reducible ((with_reducible show wpAny _ _ (call (Value.ref 70) _) _ _ _); k_here; k_dflt (refine' Ct.u1 (hex_ok ?hb) ?cB ?cF ?cX ?cN ?cT ?ck ?cd ?cu ?_; (case cN => k_asm); (case hb => (first | assumption | exact (show (_ : Bool) = true by decide +kernel) | exact (show (_ : Bool) = false by decide +kernel))); walk_at "mine ct"; k_whole; intro h9 tk9 F9 N9; (try k_sweep); (try dsimp only))) | with_reducible ((with_reducible show wpAny _ _ (call (Value.ref 38) _) _ _ _); k_here; k_dflt (refine' token_use ?cB ?cF ?cX ?cN ?cT ?ck ?cd ?cu ?_; (case cN => k_asm); walk_at "mine ct"; k_whole; intro x9 y9 j91 j92 j93 h9 tk9 o9 o8 F9 N9; (try k_sweep); (try dsimp only))) | with_reducible ((with_reducible show wpAny _ _ (call (Value.ref 63) _) _ _ _); k_here; k_dflt (refine' Ct.u1 (digit_ok ?hb) ?cB ?cF ?cX ?cN ?cT ?ck ?cd ?cu ?_; (case cN => k_asm); (case hb => (first | assumption | exact (show (_ : Bool) = true by decide +kernel) | exact (show (_ : Bool) = false by decide +kernel))); walk_at "mine ct"; k_whole; intro h9 tk9 F9 N9; (try k_sweep); (try dsimp only))) | with_reducible ((with_reducible show wpAny _ _ (call (Value.ref 56) _) _ _ _); k_here; k_dflt (refine' Ct.u1 (letter_ok ?hb) ?cB ?cF ?cX ?cN ?cT ?ck ?cd ?cu ?_; (case cN => k_asm); (case hb => (first | assumption | exact (show (_ : Bool) = true by decide +kernel) | exact (show (_ : Bool) = false by decide +kernel))); walk_at "mine ct"; k_whole; intro h9 tk9 F9 N9; (try k_sweep); (try dsimp only))) | with_reducible ((with_reducible show wpAny _ _ (call (Value.ref 99) _) _ _ _); k_here; k_dflt (refine' Ct.u2 (char0_ok ?h1 ?h2 ?h3 ?h4 ?h7 ?h8) ?cB ?cF ?cX ?cN ?cT ?ck ?cd ?cu ?_; (case cN => k_asm); (case h1 => k_mem); (case h2 => k_mem); (case h8 => (first | with_reducible assumption | ((simp only [Int.add_assoc, Int.reduceAdd, Int.add_zero]); with_reducible assumption) | assumption | ((simp only [Int.add_assoc, Int.reduceAdd, Int.add_zero]); assumption))); (case h3 => omega); (case h4 => omega); (case h7 => first | with_reducible assumption | assumption); walk_at "mine ct"; k_whole; intro t9 h9 tk9 F9 N9; (try dsimp only); (try k_sweep); (try dsimp only))) | with_reducible ((with_reducible show wpAny _ _ (call (Value.ref 99) _) _ _ _); k_here; k_dflt (refine' Ct.u2 (char_ok ?h1 ?h2 ?h3 ?h4 ?h5 ?h6 ?h7 ?h8) ?cB ?cF ?cX ?cN ?cT ?ck ?cd ?cu ?_; (case cN => k_asm); (case h1 => k_mem); (case h2 => k_mem); (case h8 => (first | with_reducible assumption | ((simp only [Int.add_assoc, Int.reduceAdd, Int.add_zero]); with_reducible assumption) | assumption | ((simp only [Int.add_assoc, Int.reduceAdd, Int.add_zero]); assumption))); (case h3 => omega); (case h4 => omega); (case h5 => omega); (case h6 => omega); (case h7 => first | with_reducible assumption | assumption); walk_at "mine ct"; k_whole; intro t9 h9 tk9 F9 N9; (try dsimp only); (try k_sweep); (try dsimp only))) | with_reducible ((with_reducible show wpAny _ _ (subscriptTail (PySem.Expr.Attribute _ _ _) _ (Value.str _ _) (Value.ref _)) _ _ _); k_here; k_dflt (refine subA_turn ?_)) | with_reducible refine ite_pos (by decide) ?_ | with_reducible refine ite_neg (by decide) ?_ | walk_at "mine step")))
  rename Fr _ _ _ _ => F0
  rename News _ _ _ _ => N0
  refine' ksw_while (σ := Int × Tok) (fun c => (dx, scD w k1 k2 k3 k4 src t0 er p0 t1 wd) :: rest) (fun c => [(Str.ofString "end", .int c.1 c.2)]) (fun _ => True) []
    (fun c => p ≤ c.1 ∧ c.1 ≤ p + 2) (fun c => (p + 2 - c.1).toNat) (p, _) F0 N0 trivial ?kk ⟨by dsimp only; omega, by dsimp only; omega⟩ ?turn
  case kk => (first | ((try dsimp only); (repeat (refine allc rfl ?_)); exact alln) | kst_all)
  case turn =>
    clear F0 N0
    rintro ⟨pl, t⟩ u h9 tk9 - ⟨g0, g1⟩ F1 N1
    dsimp only at F1 N1 g0 g1 ⊢
    try k_fold
    by_cases g2 : pl = p + 2
    · subst g2
      (repeat ((fail_if_success (with_reducible show wpAny _ _ (exec (Stmt.While _ _ _ _) _) _ _ _)); (first | with_reducible ((with_reducible show wpAny _ _ (call (Value.ref 77) _) _ _ _); k_here; k_dflt (refine' Ct.u2 (dval_ok ?hb) ?cB ?cF ?cX ?cN ?cT ?ck ?cd ?cu ?_; (case cN => k_asm); (case hb => first | with_reducible assumption | assumption); walk_at "mine ct"; k_whole; intro t9 h9 tk9 F9 N9; (try dsimp only); (try k_sweep); (try dsimp only))) | with_reducible ((with_reducible show wpAny _ _ (call (Value.ref 70) _) _ _ _); k_here; k_dflt (refine' Ct.u1 (hex_ok ?hb) ?cB ?cF ?cX ?cN ?cT ?ck ?cd ?cu ?_; (case cN => k_asm); (case hb => (first | assumption | exact (show (_ : Bool) = true by decide +kernel) | exact (show (_ : Bool) = false by decide +kernel))); walk_at "mine ct"; k_whole; intro h9 tk9 F9 N9; (try k_sweep); (try dsimp only))) | with_reducible ((with_reducible show wpAny _ _ (call (Value.ref 38) _) _ _ _); k_here; k_dflt (refine' token_use ?cB ?cF ?cX ?cN ?cT ?ck ?cd ?cu ?_; (case cN => k_asm); walk_at "mine ct"; k_whole; intro x9 y9 j91 j92 j93 h9 tk9 o9 o8 F9 N9; (try k_sweep); (try dsimp only))) | with_reducible ((with_reducible show wpAny _ _ (call (Value.ref 63) _) _ _ _); k_here; k_dflt (refine' Ct.u1 (digit_ok ?hb) ?cB ?cF ?cX ?cN ?cT ?ck ?cd ?cu ?_; (case cN => k_asm); (case hb => (first | assumption | exact (show (_ : Bool) = true by decide +kernel) | exact (show (_ : Bool) = false by decide +kernel))); walk_at "mine ct"; k_whole; intro h9 tk9 F9 N9; (try k_sweep); (try dsimp only))) | with_reducible ((with_reducible show wpAny _ _ (call (Value.ref 56) _) _ _ _); k_here; k_dflt (refine' Ct.u1 (letter_ok ?hb) ?cB ?cF ?cX ?cN ?cT ?ck ?cd ?cu ?_; (case cN => k_asm); (case hb => (first | assumption | exact (show (_ : Bool) = true by decide +kernel) | exact (show (_ : Bool) = false by decide +kernel))); walk_at "mine ct"; k_whole; intro h9 tk9 F9 N9; (try k_sweep); (try dsimp only))) | with_reducible ((with_reducible show wpAny _ _ (call (Value.ref 99) _) _ _ _); k_here; k_dflt (refine' Ct.u2 (char0_ok ?h1 ?h2 ?h3 ?h4 ?h7 ?h8) ?cB ?cF ?cX ?cN ?cT ?ck ?cd ?cu ?_; (case cN => k_asm); (case h1 => k_mem); (case h2 => k_mem); (case h8 => (first | with_reducible assumption | ((simp only [Int.add_assoc, Int.reduceAdd, Int.add_zero]); with_reducible assumption) | assumption | ((simp only [Int.add_assoc, Int.reduceAdd, Int.add_zero]); assumption))); (case h3 => omega); (case h4 => omega); (case h7 => first | with_reducible assumption | assumption); walk_at "mine ct"; k_whole; intro t9 h9 tk9 F9 N9; (try dsimp only); (try k_sweep); (try dsimp only))) | with_reducible ((with_reducible show wpAny _ _ (call (Value.ref 99) _) _ _ _); k_here; k_dflt (refine' Ct.u2 (char_ok ?h1 ?h2 ?h3 ?h4 ?h5 ?h6 ?h7 ?h8) ?cB ?cF ?cX ?cN ?cT ?ck ?cd ?cu ?_; (case cN => k_asm); (case h1 => k_mem); (case h2 => k_mem); (case h8 => (first | with_reducible assumption | ((simp only [Int.add_assoc, Int.reduceAdd, Int.add_zero]); with_reducible assumption) | assumption | ((simp only [Int.add_assoc, Int.reduceAdd, Int.add_zero]); assumption))); (case h3 => omega); (case h4 => omega); (case h5 => omega); (case h6 => omega); (case h7 => first | with_reducible assumption | assumption); walk_at "mine ct"; k_whole; intro t9 h9 tk9 F9 N9; (try dsimp only); (try k_sweep); (try dsimp only))) | with_reducible ((with_reducible show wpAny _ _ (subscriptTail (PySem.Expr.Attribute _ _ _) _ (Value.str _ _) (Value.ref _)) _ _ _); k_here; k_dflt (refine subA_turn ?_)) | with_reducible refine ite_pos (by decide) ?_ | with_reducible refine ite_neg (by decide) ?_ | walk_at "mine step")))
      rename Fr _ _ _ _ => F0
      rename News _ _ _ _ => N0
      refine' ksw_while (σ := Int × Tok) (fun c => (dx, scD w k1 k2 k3 k4 src t0 er p0 t1 wd) :: rest) (fun c => [(Str.ofString "end", .int c.1 c.2)]) (fun _ => True) []
        (fun c => p ≤ c.1 ∧ c.1 ≤ p + 2) (fun c => (p + 2 - c.1).toNat) (p, _) F0 N0 trivial ?kk2 ⟨by dsimp only; omega, by dsimp only; omega⟩ ?turn2
      case kk2 => (first | ((try dsimp only); (repeat (refine allc rfl ?_)); exact alln) | kst_all)
      case turn2 =>
        clear F0 N0
        rintro ⟨pl, t⟩ u h9 tk9 - ⟨g0, g1⟩ F1 N1
        dsimp only at F1 N1 g0 g1 ⊢
        try k_fold
        by_cases g2 : pl = p + 2
        · subst g2
          clear b1 b2 b4 b5
          (repeat' (first | with_reducible ((with_reducible show wpAny _ _ (call (Value.ref 77) _) _ _ _); k_here; k_dflt (refine' Ct.u2 (dval_ok ?hb) ?cB ?cF ?cX ?cN ?cT ?ck ?cd ?cu ?_; (case cN => k_asm); (case hb => first | with_reducible assumption | assumption); walk_at "mine ct"; k_whole; intro t9 h9 tk9 F9 N9; (try dsimp only); (try k_sweep); (try dsimp only))) | with_reducible ((with_reducible show wpAny _ _ (call (Value.ref 70) _) _ _ _); k_here; k_dflt (refine' Ct.u1 (hex_ok ?hb) ?cB ?cF ?cX ?cN ?cT ?ck ?cd ?cu ?_; (case cN => k_asm); (case hb => (first | assumption | exact (show (_ : Bool) = true by decide +kernel) | exact (show (_ : Bool) = false by decide +kernel))); walk_at "mine ct"; k_whole; intro h9 tk9 F9 N9; (try k_sweep); (try dsimp only))) | with_reducible ((with_reducible show wpAny _ _ (call (Value.ref 38) _) _ _ _); k_here; k_dflt (refine' token_use ?cB ?cF ?cX ?cN ?cT ?ck ?cd ?cu ?_; (case cN => k_asm); walk_at "mine ct"; k_whole; intro x9 y9 j91 j92 j93 h9 tk9 o9 o8 F9 N9; (try k_sweep); (try dsimp only))) | with_reducible ((with_reducible show wpAny _ _ (call (Value.ref 63) _) _ _ _); k_here; k_dflt (refine' Ct.u1 (digit_ok ?hb) ?cB ?cF ?cX ?cN ?cT ?ck ?cd ?cu ?_; (case cN => k_asm); (case hb => (first | assumption | exact (show (_ : Bool) = true by decide +kernel) | exact (show (_ : Bool) = false by decide +kernel))); walk_at "mine ct"; k_whole; intro h9 tk9 F9 N9; (try k_sweep); (try dsimp only))) | with_reducible ((with_reducible show wpAny _ _ (call (Value.ref 56) _) _ _ _); k_here; k_dflt (refine' Ct.u1 (letter_ok ?hb) ?cB ?cF ?cX ?cN ?cT ?ck ?cd ?cu ?_; (case cN => k_asm); (case hb => (first | assumption | exact (show (_ : Bool) = true by decide +kernel) | exact (show (_ : Bool) = false by decide +kernel))); walk_at "mine ct"; k_whole; intro h9 tk9 F9 N9; (try k_sweep); (try dsimp only))) | with_reducible ((with_reducible show wpAny _ _ (call (Value.ref 99) _) _ _ _); k_here; k_dflt (refine' Ct.u2 (char0_ok ?h1 ?h2 ?h3 ?h4 ?h7 ?h8) ?cB ?cF ?cX ?cN ?cT ?ck ?cd ?cu ?_; (case cN => k_asm); (case h1 => k_mem); (case h2 => k_mem); (case h8 => (first | with_reducible assumption | ((simp only [Int.add_assoc, Int.reduceAdd, Int.add_zero]); with_reducible assumption) | assumption | ((simp only [Int.add_assoc, Int.reduceAdd, Int.add_zero]); assumption))); (case h3 => omega); (case h4 => omega); (case h7 => first | with_reducible assumption | assumption); walk_at "mine ct"; k_whole; intro t9 h9 tk9 F9 N9; (try dsimp only); (try k_sweep); (try dsimp only))) | with_reducible ((with_reducible show wpAny _ _ (call (Value.ref 99) _) _ _ _); k_here; k_dflt (refine' Ct.u2 (char_ok ?h1 ?h2 ?h3 ?h4 ?h5 ?h6 ?h7 ?h8) ?cB ?cF ?cX ?cN ?cT ?ck ?cd ?cu ?_; (case cN => k_asm); (case h1 => k_mem); (case h2 => k_mem); (case h8 => (first | with_reducible assumption | ((simp only [Int.add_assoc, Int.reduceAdd, Int.add_zero]); with_reducible assumption) | assumption | ((simp only [Int.add_assoc, Int.reduceAdd, Int.add_zero]); assumption))); (case h3 => omega); (case h4 => omega); (case h5 => omega); (case h6 => omega); (case h7 => first | with_reducible assumption | assumption); walk_at "mine ct"; k_whole; intro t9 h9 tk9 F9 N9; (try dsimp only); (try k_sweep); (try dsimp only))) | with_reducible ((with_reducible show wpAny _ _ (subscriptTail (PySem.Expr.Attribute _ _ _) _ (Value.str _ _) (Value.ref _)) _ _ _); k_here; k_dflt (refine subA_turn ?_)) | with_reducible refine ite_pos (by decide) ?_ | with_reducible refine ite_neg (by decide) ?_ | (k_unfold; (try dsimp only)) | (k_end; wrow_close) | walk1 | (dsimp only; walk1) | (leave1; try dsimp only)))
          exact hret _ _ _ _ ⟨_, TkP.intro ⟨_, rfl⟩ (by assumption) (by assumption)⟩ (by assumption) (by assumption)
        · obtain ⟨e1, e2⟩ := b1 pl g0 (by omega)
          clear b1 b2 b3 b4 b5 e1
          (repeat' ((fail_if_success (with_reducible show KswEnd _ _ _ _ _ _ _ _ _ _ _ _)); first | with_reducible ((with_reducible show wpAny _ _ (call (Value.ref 77) _) _ _ _); k_here; k_dflt (refine' Ct.u2 (dval_ok ?hb) ?cB ?cF ?cX ?cN ?cT ?ck ?cd ?cu ?_; (case cN => k_asm); (case hb => first | with_reducible assumption | assumption); walk_at "mine ct"; k_whole; intro t9 h9 tk9 F9 N9; (try dsimp only); (try k_sweep); (try dsimp only))) | with_reducible ((with_reducible show wpAny _ _ (call (Value.ref 70) _) _ _ _); k_here; k_dflt (refine' Ct.u1 (hex_ok ?hb) ?cB ?cF ?cX ?cN ?cT ?ck ?cd ?cu ?_; (case cN => k_asm); (case hb => (first | assumption | exact (show (_ : Bool) = true by decide +kernel) | exact (show (_ : Bool) = false by decide +kernel))); walk_at "mine ct"; k_whole; intro h9 tk9 F9 N9; (try k_sweep); (try dsimp only))) | with_reducible ((with_reducible show wpAny _ _ (call (Value.ref 38) _) _ _ _); k_here; k_dflt (refine' token_use ?cB ?cF ?cX ?cN ?cT ?ck ?cd ?cu ?_; (case cN => k_asm); walk_at "mine ct"; k_whole; intro x9 y9 j91 j92 j93 h9 tk9 o9 o8 F9 N9; (try k_sweep); (try dsimp only))) | with_reducible ((with_reducible show wpAny _ _ (call (Value.ref 63) _) _ _ _); k_here; k_dflt (refine' Ct.u1 (digit_ok ?hb) ?cB ?cF ?cX ?cN ?cT ?ck ?cd ?cu ?_; (case cN => k_asm); (case hb => (first | assumption | exact (show (_ : Bool) = true by decide +kernel) | exact (show (_ : Bool) = false by decide +kernel))); walk_at "mine ct"; k_whole; intro h9 tk9 F9 N9; (try k_sweep); (try dsimp only))) | with_reducible ((with_reducible show wpAny _ _ (call (Value.ref 56) _) _ _ _); k_here; k_dflt (refine' Ct.u1 (letter_ok ?hb) ?cB ?cF ?cX ?cN ?cT ?ck ?cd ?cu ?_; (case cN => k_asm); (case hb => (first | assumption | exact (show (_ : Bool) = true by decide +kernel) | exact (show (_ : Bool) = false by decide +kernel))); walk_at "mine ct"; k_whole; intro h9 tk9 F9 N9; (try k_sweep); (try dsimp only))) | with_reducible ((with_reducible show wpAny _ _ (call (Value.ref 99) _) _ _ _); k_here; k_dflt (refine' Ct.u2 (char0_ok ?h1 ?h2 ?h3 ?h4 ?h7 ?h8) ?cB ?cF ?cX ?cN ?cT ?ck ?cd ?cu ?_; (case cN => k_asm); (case h1 => k_mem); (case h2 => k_mem); (case h8 => (first | with_reducible assumption | ((simp only [Int.add_assoc, Int.reduceAdd, Int.add_zero]); with_reducible assumption) | assumption | ((simp only [Int.add_assoc, Int.reduceAdd, Int.add_zero]); assumption))); (case h3 => omega); (case h4 => omega); (case h7 => first | with_reducible assumption | assumption); walk_at "mine ct"; k_whole; intro t9 h9 tk9 F9 N9; (try dsimp only); (try k_sweep); (try dsimp only))) | with_reducible ((with_reducible show wpAny _ _ (call (Value.ref 99) _) _ _ _); k_here; k_dflt (refine' Ct.u2 (char_ok ?h1 ?h2 ?h3 ?h4 ?h5 ?h6 ?h7 ?h8) ?cB ?cF ?cX ?cN ?cT ?ck ?cd ?cu ?_; (case cN => k_asm); (case h1 => k_mem); (case h2 => k_mem); (case h8 => (first | with_reducible assumption | ((simp only [Int.add_assoc, Int.reduceAdd, Int.add_zero]); with_reducible assumption) | assumption | ((simp only [Int.add_assoc, Int.reduceAdd, Int.add_zero]); assumption))); (case h3 => omega); (case h4 => omega); (case h5 => omega); (case h6 => omega); (case h7 => first | with_reducible assumption | assumption); walk_at "mine ct"; k_whole; intro t9 h9 tk9 F9 N9; (try dsimp only); (try k_sweep); (try dsimp only))) | with_reducible ((with_reducible show wpAny _ _ (subscriptTail (PySem.Expr.Attribute _ _ _) _ (Value.str _ _) (Value.ref _)) _ _ _); k_here; k_dflt (refine subA_turn ?_)) | with_reducible refine ite_pos (by decide) ?_ | with_reducible refine ite_neg (by decide) ?_ | (k_unfold; (try dsimp only)) | (k_end; wrow_close) | walk1 | (dsimp only; walk1) | (leave1; try dsimp only)))
          refine ksw_end (_, _) (by assumption) (by assumption) (fun _ h => h) trivial (by (first | ((try dsimp only); (repeat (refine allc rfl ?_)); exact alln) | kst_all)) (by (intro z h2 h3; (simp only [List.forall_mem_cons, List.not_mem_nil, false_implies, implies_true, and_true, ne_eq, List.contains_cons, List.contains_nil, Bool.or_false, Bool.or_eq_false_iff, beq_eq_false_iff_ne] at h2 h3); simp [kstB, h2, h3])) ⟨by dsimp only; omega, by dsimp only; omega⟩ (by dsimp only; omega)
    · obtain ⟨e1, e2⟩ := b1 pl g0 (by omega)
      clear b1
      (repeat' ((fail_if_success (with_reducible show KswEnd _ _ _ _ _ _ _ _ _ _ _ _)); first | with_reducible ((with_reducible show wpAny _ _ (call (Value.ref 77) _) _ _ _); k_here; k_dflt (refine' Ct.u2 (dval_ok ?hb) ?cB ?cF ?cX ?cN ?cT ?ck ?cd ?cu ?_; (case cN => k_asm); (case hb => first | with_reducible assumption | assumption); walk_at "mine ct"; k_whole; intro t9 h9 tk9 F9 N9; (try dsimp only); (try k_sweep); (try dsimp only))) | with_reducible ((with_reducible show wpAny _ _ (call (Value.ref 70) _) _ _ _); k_here; k_dflt (refine' Ct.u1 (hex_ok ?hb) ?cB ?cF ?cX ?cN ?cT ?ck ?cd ?cu ?_; (case cN => k_asm); (case hb => (first | assumption | exact (show (_ : Bool) = true by decide +kernel) | exact (show (_ : Bool) = false by decide +kernel))); walk_at "mine ct"; k_whole; intro h9 tk9 F9 N9; (try k_sweep); (try dsimp only))) | with_reducible ((with_reducible show wpAny _ _ (call (Value.ref 38) _) _ _ _); k_here; k_dflt (refine' token_use ?cB ?cF ?cX ?cN ?cT ?ck ?cd ?cu ?_; (case cN => k_asm); walk_at "mine ct"; k_whole; intro x9 y9 j91 j92 j93 h9 tk9 o9 o8 F9 N9; (try k_sweep); (try dsimp only))) | with_reducible ((with_reducible show wpAny _ _ (call (Value.ref 63) _) _ _ _); k_here; k_dflt (refine' Ct.u1 (digit_ok ?hb) ?cB ?cF ?cX ?cN ?cT ?ck ?cd ?cu ?_; (case cN => k_asm); (case hb => (first | assumption | exact (show (_ : Bool) = true by decide +kernel) | exact (show (_ : Bool) = false by decide +kernel))); walk_at "mine ct"; k_whole; intro h9 tk9 F9 N9; (try k_sweep); (try dsimp only))) | with_reducible ((with_reducible show wpAny _ _ (call (Value.ref 56) _) _ _ _); k_here; k_dflt (refine' Ct.u1 (letter_ok ?hb) ?cB ?cF ?cX ?cN ?cT ?ck ?cd ?cu ?_; (case cN => k_asm); (case hb => (first | assumption | exact (show (_ : Bool) = true by decide +kernel) | exact (show (_ : Bool) = false by decide +kernel))); walk_at "mine ct"; k_whole; intro h9 tk9 F9 N9; (try k_sweep); (try dsimp only))) | with_reducible ((with_reducible show wpAny _ _ (call (Value.ref 99) _) _ _ _); k_here; k_dflt (refine' Ct.u2 (char0_ok ?h1 ?h2 ?h3 ?h4 ?h7 ?h8) ?cB ?cF ?cX ?cN ?cT ?ck ?cd ?cu ?_; (case cN => k_asm); (case h1 => k_mem); (case h2 => k_mem); (case h8 => (first | with_reducible assumption | ((simp only [Int.add_assoc, Int.reduceAdd, Int.add_zero]); with_reducible assumption) | assumption | ((simp only [Int.add_assoc, Int.reduceAdd, Int.add_zero]); assumption))); (case h3 => omega); (case h4 => omega); (case h7 => first | with_reducible assumption | assumption); walk_at "mine ct"; k_whole; intro t9 h9 tk9 F9 N9; (try dsimp only); (try k_sweep); (try dsimp only))) | with_reducible ((with_reducible show wpAny _ _ (call (Value.ref 99) _) _ _ _); k_here; k_dflt (refine' Ct.u2 (char_ok ?h1 ?h2 ?h3 ?h4 ?h5 ?h6 ?h7 ?h8) ?cB ?cF ?cX ?cN ?cT ?ck ?cd ?cu ?_; (case cN => k_asm); (case h1 => k_mem); (case h2 => k_mem); (case h8 => (first | with_reducible assumption | ((simp only [Int.add_assoc, Int.reduceAdd, Int.add_zero]); with_reducible assumption) | assumption | ((simp only [Int.add_assoc, Int.reduceAdd, Int.add_zero]); assumption))); (case h3 => omega); (case h4 => omega); (case h5 => omega); (case h6 => omega); (case h7 => first | with_reducible assumption | assumption); walk_at "mine ct"; k_whole; intro t9 h9 tk9 F9 N9; (try dsimp only); (try k_sweep); (try dsimp only))) | with_reducible ((with_reducible show wpAny _ _ (subscriptTail (PySem.Expr.Attribute _ _ _) _ (Value.str _ _) (Value.ref _)) _ _ _); k_here; k_dflt (refine subA_turn ?_)) | with_reducible refine ite_pos (by decide) ?_ | with_reducible refine ite_neg (by decide) ?_ | (k_unfold; (try dsimp only)) | (k_end; wrow_close) | walk1 | (dsimp only; walk1) | (leave1; try dsimp only)))
      refine ksw_end (_, _) (by assumption) (by assumption) (fun _ h => h) trivial (by (first | ((try dsimp only); (repeat (refine allc rfl ?_)); exact alln) | kst_all)) (by (intro z h2 h3; (simp only [List.forall_mem_cons, List.not_mem_nil, false_implies, implies_true, and_true, ne_eq, List.contains_cons, List.contains_nil, Bool.or_false, Bool.or_eq_false_iff, beq_eq_false_iff_ne] at h2 h3); simp [kstB, h2, h3])) ⟨by dsimp only; omega, by dsimp only; omega⟩ (by dsimp only; omega)
local macro_rules | `(tactic| walk_at "mine tk") => `(tactic| (intro t9 x9 y9 j91 j92 j93 u9 val9 s9 h9 tk9 V9 o9 o8 F9 N9; (try dsimp only at o9 N9); (have o7 := o9); (k_lt o7); (have o6 := ltN o8); (try k_sweep); (try dsimp only)))
theorem news_drop2 {h₀ h : Heap} {L : Addr} {a b c : Addr × Obj} {r : List (Addr × Obj)} (N : News h₀ L h (a :: b :: c :: r)) : News h₀ L h (a :: b :: r) := kst_newsOf N fun q hq => by
  rcases List.mem_cons.mp hq with h | hq
  · exact h ▸ .head _
  rcases List.mem_cons.mp hq with h | hq
  · exact h ▸ .tail _ (.head _)
  · exact .tail _ (.tail _ (.tail _ hq))
set_option maxHeartbeats 16000000 in
theorem string_ok {w : World} {rest : List (Addr × Obj)} {x dx : Addr} {k1 k2 k3 k4 t0 t1 tb : Tok} {src : Str} {er wd : Value} {p : Int} (h1 : (x, instObj 186 dx) ∈ rest) (hO : OwnOff rest [dx]) (h3 : 0 ≤ p) (h4 : p < 2 ^ 18) (hl : src.length < 2 ^ 20)
    (c1 : ch src (p + 1) = Str.ofString "a") (c2 : ch src (p + 2) = Str.ofString "b") (c3 : ch src (p + 3) = Str.ofString "\"") :
    Ct w 4 176 [.ref x, .int p tb] ((dx, scD w k1 k2 k3 k4 src t0 er p t1 wd) :: rest) (fun v l => ∃ t, TkP w ((dx, scD w k1 k2 k3 k4 src t0 er (p + 4) t wd) :: rest) (Str.ofString "string") (IsS (Str.ofString "ab")) p v l) := by
  intro prog p9 loose mean mg mb dp un gd cn cs a ccd cl outer A₀ base h₀ L m s Q E B F X N T hk hd hu hret
  ((have kf : (PySem.Challenge.rw_pq0763_01 = PySem.Challenge.rw_pq0763_01) ∧ (KK = KK) := by (k_fill; exact ⟨rfl, rfl⟩)); clear kf)
  (first | ((with_reducible show wpAny _ _ (call (Value.ref 38) _) _ _ _); k_here; k_dflt (refine' token_use ?cB ?cF ?cX ?cN ?cT ?ck ?cd ?cu ?_; (case cN => k_asm); walk_at "mine ct"; k_whole; intro x9 y9 j91 j92 j93 h9 tk9 o9 o8 F9 N9; (try k_sweep); (try dsimp only))) | ((with_reducible show wpAny _ _ (call (Value.ref 99) _) _ _ _); k_here; k_dflt (refine' Ct.u2 (char0_ok ?h1 ?h2 ?h3 ?h4 ?h7 ?h8) ?cB ?cF ?cX ?cN ?cT ?ck ?cd ?cu ?_; (case cN => k_asm); (case h1 => k_mem); (case h2 => k_mem); (case h8 => (first | with_reducible assumption | ((simp only [Int.add_assoc, Int.reduceAdd, Int.add_zero]); with_reducible assumption) | assumption | ((simp only [Int.add_assoc, Int.reduceAdd, Int.add_zero]); assumption))); (case h3 => omega); (case h4 => omega); (case h7 => first | with_reducible assumption | assumption); walk_at "mine ct"; k_whole; intro t9 h9 tk9 F9 N9; (try dsimp only); (try k_sweep); (try dsimp only))) | ((with_reducible show wpAny _ _ (call (Value.ref 99) _) _ _ _); k_here; k_dflt (refine' Ct.u2 (char_ok ?h1 ?h2 ?h3 ?h4 ?h5 ?h6 ?h7 ?h8) ?cB ?cF ?cX ?cN ?cT ?ck ?cd ?cu ?_; (case cN => k_asm); (case h1 => k_mem); (case h2 => k_mem); (case h8 => (first | with_reducible assumption | ((simp only [Int.add_assoc, Int.reduceAdd, Int.add_zero]); with_reducible assumption) | assumption | ((simp only [Int.add_assoc, Int.reduceAdd, Int.add_zero]); assumption))); (case h3 => omega); (case h4 => omega); (case h5 => omega); (case h6 => omega); (case h7 => first | with_reducible assumption | assumption); walk_at "mine ct"; k_whole; intro t9 h9 tk9 F9 N9; (try dsimp only); (try k_sweep); (try dsimp only))) | walk_at "call ref")
  (repeat ((fail_if_success (with_reducible show wpAny _ _ (exec (Stmt.While _ _ _ _) _) _ _ _)); (first | with_reducible ((with_reducible show wpAny _ _ (call (Value.ref 38) _) _ _ _); k_here; k_dflt (refine' token_use ?cB ?cF ?cX ?cN ?cT ?ck ?cd ?cu ?_; (case cN => k_asm); walk_at "mine ct"; k_whole; intro x9 y9 j91 j92 j93 h9 tk9 o9 o8 F9 N9; (try k_sweep); (try dsimp only))) | with_reducible ((with_reducible show wpAny _ _ (call (Value.ref 99) _) _ _ _); k_here; k_dflt (refine' Ct.u2 (char0_ok ?h1 ?h2 ?h3 ?h4 ?h7 ?h8) ?cB ?cF ?cX ?cN ?cT ?ck ?cd ?cu ?_; (case cN => k_asm); (case h1 => k_mem); (case h2 => k_mem); (case h8 => (first | with_reducible assumption | ((simp only [Int.add_assoc, Int.reduceAdd, Int.add_zero]); with_reducible assumption) | assumption | ((simp only [Int.add_assoc, Int.reduceAdd, Int.add_zero]); assumption))); (case h3 => omega); (case h4 => omega); (case h7 => first | with_reducible assumption | assumption); walk_at "mine ct"; k_whole; intro t9 h9 tk9 F9 N9; (try dsimp only); (try k_sweep); (try dsimp only))) | with_reducible ((with_reducible show wpAny _ _ (call (Value.ref 99) _) _ _ _); k_here; k_dflt (refine' Ct.u2 (char_ok ?h1 ?h2 ?h3 ?h4 ?h5 ?h6 ?h7 ?h8) ?cB ?cF ?cX ?cN ?cT ?ck ?cd ?cu ?_; (case cN => k_asm); (case h1 => k_mem); (case h2 => k_mem); (case h8 => (first | with_reducible assumption | ((simp only [Int.add_assoc, Int.reduceAdd, Int.add_zero]); with_reducible assumption) | assumption | ((simp only [Int.add_assoc, Int.reduceAdd, Int.add_zero]); assumption))); (case h3 => omega); (case h4 => omega); (case h5 => omega); (case h6 => omega); (case h7 => first | with_reducible assumption | assumption); walk_at "mine ct"; k_whole; intro t9 h9 tk9 F9 N9; (try dsimp only); (try k_sweep); (try dsimp only))) | with_reducible ((with_reducible show wpAny _ _ (subscriptTail (PySem.Expr.Attribute _ _ _) _ (Value.str _ _) (Value.ref _)) _ _ _); k_here; k_dflt (refine subA_turn ?_)) | with_reducible refine ite_pos (by decide) ?_ | with_reducible refine ite_neg (by decide) ?_ | walk_at "mine step")))
  rename Fr _ _ _ _ => F0
  rename News _ _ _ _ => N0
  rename _ ∧ AllLt _ _ => hlt
  have kmk := kstMark
  refine' ksw_while (σ := Int × Tok × List Value × Nat) (fun c => (_, listOf c.2.2.1.toArray c.2.2.2) :: (dx, scD w k1 k2 k3 k4 src t0 er c.1 c.2.1 wd) :: rest) (fun c => []) (fun _ => True) [Str.ofString "char"]
    (fun c => (c.1 = p + 1 ∧ c.2.2.1 = []) ∨ (c.1 = p + 2 ∧ ∃ t, c.2.2.1 = [.str (Str.ofString "a") t]) ∨ (c.1 = p + 3 ∧ ∃ t t', c.2.2.1 = [.str (Str.ofString "a") t, .str (Str.ofString "b") t'])) (fun c => (p + 3 - c.1).toNat) (p + 1, _, [], 0) F0 N0 trivial ?kk (.inl ⟨rfl, rfl⟩) ?turn
  case kk => (first | ((try dsimp only); (repeat (refine allc rfl ?_)); exact alln) | kst_all)
  case turn =>
    clear F0 N0
    rintro ⟨pl, t, vs, vn⟩ u h9 tk9 - hP F1 N1
    dsimp only at F1 N1 hP ⊢
    try k_fold
    rcases hP with ⟨rfl, rfl⟩ | ⟨rfl, t5, rfl⟩ | ⟨rfl, t5, t6, rfl⟩
    · (repeat' ((fail_if_success (with_reducible show KswEnd _ _ _ _ _ _ _ _ _ _ _ _)); first | with_reducible ((with_reducible show wpAny _ _ (call (Value.ref 38) _) _ _ _); k_here; k_dflt (refine' token_use ?cB ?cF ?cX ?cN ?cT ?ck ?cd ?cu ?_; (case cN => k_asm); walk_at "mine ct"; k_whole; intro x9 y9 j91 j92 j93 h9 tk9 o9 o8 F9 N9; (try k_sweep); (try dsimp only))) | with_reducible ((with_reducible show wpAny _ _ (call (Value.ref 99) _) _ _ _); k_here; k_dflt (refine' Ct.u2 (char0_ok ?h1 ?h2 ?h3 ?h4 ?h7 ?h8) ?cB ?cF ?cX ?cN ?cT ?ck ?cd ?cu ?_; (case cN => k_asm); (case h1 => k_mem); (case h2 => k_mem); (case h8 => (first | with_reducible assumption | ((simp only [Int.add_assoc, Int.reduceAdd, Int.add_zero]); with_reducible assumption) | assumption | ((simp only [Int.add_assoc, Int.reduceAdd, Int.add_zero]); assumption))); (case h3 => omega); (case h4 => omega); (case h7 => first | with_reducible assumption | assumption); walk_at "mine ct"; k_whole; intro t9 h9 tk9 F9 N9; (try dsimp only); (try k_sweep); (try dsimp only))) | with_reducible ((with_reducible show wpAny _ _ (call (Value.ref 99) _) _ _ _); k_here; k_dflt (refine' Ct.u2 (char_ok ?h1 ?h2 ?h3 ?h4 ?h5 ?h6 ?h7 ?h8) ?cB ?cF ?cX ?cN ?cT ?ck ?cd ?cu ?_; (case cN => k_asm); (case h1 => k_mem); (case h2 => k_mem); (case h8 => (first | with_reducible assumption | ((simp only [Int.add_assoc, Int.reduceAdd, Int.add_zero]); with_reducible assumption) | assumption | ((simp only [Int.add_assoc, Int.reduceAdd, Int.add_zero]); assumption))); (case h3 => omega); (case h4 => omega); (case h5 => omega); (case h6 => omega); (case h7 => first | with_reducible assumption | assumption); walk_at "mine ct"; k_whole; intro t9 h9 tk9 F9 N9; (try dsimp only); (try k_sweep); (try dsimp only))) | with_reducible ((with_reducible show wpAny _ _ (subscriptTail (PySem.Expr.Attribute _ _ _) _ (Value.str _ _) (Value.ref _)) _ _ _); k_here; k_dflt (refine subA_turn ?_)) | with_reducible refine ite_pos (by decide) ?_ | with_reducible refine ite_neg (by decide) ?_ | (k_unfold; (try dsimp only)) | (k_end; wrow_close) | walk1 | (dsimp only; walk1) | (leave1; try dsimp only)))
      refine ksw_end (p + 1 + 1, _, [.str (Str.ofString "a") _], _) (by assumption) (by assumption) (fun _ h => h) trivial (by (first | ((try dsimp only); (repeat (refine allc rfl ?_)); exact alln) | kst_all)) (by (intro z h2 h3; (simp only [List.forall_mem_cons, List.not_mem_nil, false_implies, implies_true, and_true, ne_eq, List.contains_cons, List.contains_nil, Bool.or_false, Bool.or_eq_false_iff, beq_eq_false_iff_ne] at h2 h3); simp [kstB, h2, h3])) ?e6 ?e7
      case e6 => exact .inr (.inl ⟨by dsimp only; omega, _, rfl⟩)
      case e7 => dsimp only; omega
    · (repeat' ((fail_if_success (with_reducible show KswEnd _ _ _ _ _ _ _ _ _ _ _ _)); first | with_reducible ((with_reducible show wpAny _ _ (call (Value.ref 38) _) _ _ _); k_here; k_dflt (refine' token_use ?cB ?cF ?cX ?cN ?cT ?ck ?cd ?cu ?_; (case cN => k_asm); walk_at "mine ct"; k_whole; intro x9 y9 j91 j92 j93 h9 tk9 o9 o8 F9 N9; (try k_sweep); (try dsimp only))) | with_reducible ((with_reducible show wpAny _ _ (call (Value.ref 99) _) _ _ _); k_here; k_dflt (refine' Ct.u2 (char0_ok ?h1 ?h2 ?h3 ?h4 ?h7 ?h8) ?cB ?cF ?cX ?cN ?cT ?ck ?cd ?cu ?_; (case cN => k_asm); (case h1 => k_mem); (case h2 => k_mem); (case h8 => (first | with_reducible assumption | ((simp only [Int.add_assoc, Int.reduceAdd, Int.add_zero]); with_reducible assumption) | assumption | ((simp only [Int.add_assoc, Int.reduceAdd, Int.add_zero]); assumption))); (case h3 => omega); (case h4 => omega); (case h7 => first | with_reducible assumption | assumption); walk_at "mine ct"; k_whole; intro t9 h9 tk9 F9 N9; (try dsimp only); (try k_sweep); (try dsimp only))) | with_reducible ((with_reducible show wpAny _ _ (call (Value.ref 99) _) _ _ _); k_here; k_dflt (refine' Ct.u2 (char_ok ?h1 ?h2 ?h3 ?h4 ?h5 ?h6 ?h7 ?h8) ?cB ?cF ?cX ?cN ?cT ?ck ?cd ?cu ?_; (case cN => k_asm); (case h1 => k_mem); (case h2 => k_mem); (case h8 => (first | with_reducible assumption | ((simp only [Int.add_assoc, Int.reduceAdd, Int.add_zero]); with_reducible assumption) | assumption | ((simp only [Int.add_assoc, Int.reduceAdd, Int.add_zero]); assumption))); (case h3 => omega); (case h4 => omega); (case h5 => omega); (case h6 => omega); (case h7 => first | with_reducible assumption | assumption); walk_at "mine ct"; k_whole; intro t9 h9 tk9 F9 N9; (try dsimp only); (try k_sweep); (try dsimp only))) | with_reducible ((with_reducible show wpAny _ _ (subscriptTail (PySem.Expr.Attribute _ _ _) _ (Value.str _ _) (Value.ref _)) _ _ _); k_here; k_dflt (refine subA_turn ?_)) | with_reducible refine ite_pos (by decide) ?_ | with_reducible refine ite_neg (by decide) ?_ | (k_unfold; (try dsimp only)) | (k_end; wrow_close) | walk1 | (dsimp only; walk1) | (leave1; try dsimp only)))
      refine ksw_end (p + 2 + 1, _, [.str (Str.ofString "a") t5, .str (Str.ofString "b") _], _) (by assumption) (by assumption) (fun _ h => h) trivial (by (first | ((try dsimp only); (repeat (refine allc rfl ?_)); exact alln) | kst_all)) (by (intro z h2 h3; (simp only [List.forall_mem_cons, List.not_mem_nil, false_implies, implies_true, and_true, ne_eq, List.contains_cons, List.contains_nil, Bool.or_false, Bool.or_eq_false_iff, beq_eq_false_iff_ne] at h2 h3); simp [kstB, h2, h3])) ?e6 ?e7
      case e6 => exact .inr (.inr ⟨by dsimp only; omega, _, _, rfl⟩)
      case e7 => dsimp only; omega
    · (repeat' (first | with_reducible ((with_reducible show wpAny _ _ (call (Value.ref 38) _) _ _ _); k_here; k_dflt (refine' token_use ?cB ?cF ?cX ?cN ?cT ?ck ?cd ?cu ?_; (case cN => k_asm); walk_at "mine ct"; k_whole; intro x9 y9 j91 j92 j93 h9 tk9 o9 o8 F9 N9; (try k_sweep); (try dsimp only))) | with_reducible ((with_reducible show wpAny _ _ (call (Value.ref 99) _) _ _ _); k_here; k_dflt (refine' Ct.u2 (char0_ok ?h1 ?h2 ?h3 ?h4 ?h7 ?h8) ?cB ?cF ?cX ?cN ?cT ?ck ?cd ?cu ?_; (case cN => k_asm); (case h1 => k_mem); (case h2 => k_mem); (case h8 => (first | with_reducible assumption | ((simp only [Int.add_assoc, Int.reduceAdd, Int.add_zero]); with_reducible assumption) | assumption | ((simp only [Int.add_assoc, Int.reduceAdd, Int.add_zero]); assumption))); (case h3 => omega); (case h4 => omega); (case h7 => first | with_reducible assumption | assumption); walk_at "mine ct"; k_whole; intro t9 h9 tk9 F9 N9; (try dsimp only); (try k_sweep); (try dsimp only))) | with_reducible ((with_reducible show wpAny _ _ (call (Value.ref 99) _) _ _ _); k_here; k_dflt (refine' Ct.u2 (char_ok ?h1 ?h2 ?h3 ?h4 ?h5 ?h6 ?h7 ?h8) ?cB ?cF ?cX ?cN ?cT ?ck ?cd ?cu ?_; (case cN => k_asm); (case h1 => k_mem); (case h2 => k_mem); (case h8 => (first | with_reducible assumption | ((simp only [Int.add_assoc, Int.reduceAdd, Int.add_zero]); with_reducible assumption) | assumption | ((simp only [Int.add_assoc, Int.reduceAdd, Int.add_zero]); assumption))); (case h3 => omega); (case h4 => omega); (case h5 => omega); (case h6 => omega); (case h7 => first | with_reducible assumption | assumption); walk_at "mine ct"; k_whole; intro t9 h9 tk9 F9 N9; (try dsimp only); (try k_sweep); (try dsimp only))) | with_reducible ((with_reducible show wpAny _ _ (subscriptTail (PySem.Expr.Attribute _ _ _) _ (Value.str _ _) (Value.ref _)) _ _ _); k_here; k_dflt (refine subA_turn ?_)) | with_reducible refine ite_pos (by decide) ?_ | with_reducible refine ite_neg (by decide) ?_ | (k_unfold; (try dsimp only)) | (k_end; wrow_close) | walk1 | (dsimp only; walk1) | (leave1; try dsimp only)))
      have ej : Txt.join (Str.ofString "") [Str.ofString "a", Str.ofString "b"] = Str.ofString "ab" := by decide +kernel
      rename News _ _ _ _ => N9
      rename ∀ p : Addr × Obj, p ∈ _ → @LT.lt Nat _ p.1 _ => o9
      rename Fr _ _ _ _ => F9
      rw [ej, show p + 3 + 1 = p + 4 by omega] at N9
      rw [show p + 3 + 1 = p + 4 by omega] at o9
      exact hret _ _ _ _ ⟨_, TkP.intro ⟨_, rfl⟩ (fun p hp => o9 p (.tail _ hp)) (by assumption)⟩ F9 (news_drop2 N9)
theorem symbol_ok {w : World} {led : List (Addr × Obj)} {x dx : Addr} {k1 k2 k3 k4 t0 t1 : Tok} {src : Str} {er wd : Value} {p : Int} {a b r : Str} (h1 : (x, instObj 186 dx) ∈ led) (h2 : (dx, scD w k1 k2 k3 k4 src t0 er p t1 wd) ∈ led) (h3 : 0 ≤ p) (h4 : p < 2 ^ 18) (hl : src.length < 2 ^ 20)
    (ha : ch src p = a) (hb : ch src (p + 1) = b) (la : a.length ≤ 1) (lb : b.length ≤ 1)
    (hr : (([Str.ofString ":=", Str.ofString "<=", Str.ofString ">=", Str.ofString ".."].any fun z => z == a ++ b) = true ∧ r = a ++ b) ∨ (([Str.ofString ":=", Str.ofString "<=", Str.ofString ">=", Str.ofString ".."].any fun z => z == a ++ b) = false ∧ r = a ∧ (Builtin.Str.occurrences (Str.ofString "+-*/~&.,;|([{^=#<>:)]}") a 0 (Str.ofString "+-*/~&.,;|([{^=#<>:)]}").length 1).isEmpty = false)) :
    Ct w 2 183 [.ref x] led (fun v l => l = led ∧ ∃ t, v = .str r t) := by
  intro prog p9 loose mean mg mb dp un gd cn cs a9 ccd cl outer A₀ base h₀ L m s Q E B F X N T hk hd hu hret
  ((have kf : (PySem.Challenge.rw_pq0763_01 = PySem.Challenge.rw_pq0763_01) ∧ (KK = KK) := by (k_fill; exact ⟨rfl, rfl⟩)); clear kf)
  rcases hr with ⟨hr, rfl⟩ | ⟨hr, rfl, hr2⟩
  · walk_at "call ref"
    (repeat' (first | with_reducible ((with_reducible show wpAny _ _ (compareOp CmpOp.In (Value.str _ _) (Value.ref _)) _ _ _); k_here; k_dflt (refine' in_tb ?k1 ?k2 ?k3 ?_; (case k1 => exact News.isTup (by k_asm) (by k_mem)); (case k2 => first | with_reducible assumption | assumption); (case k3 => first | with_reducible assumption | assumption); k_whole)) | with_reducible ((with_reducible show wpAny _ _ (call (Value.ref 38) _) _ _ _); k_here; k_dflt (refine' token_use ?cB ?cF ?cX ?cN ?cT ?ck ?cd ?cu ?_; (case cN => k_asm); walk_at "mine ct"; k_whole; intro x9 y9 j91 j92 j93 h9 tk9 o9 o8 F9 N9; (try k_sweep); (try dsimp only))) | with_reducible ((with_reducible show wpAny _ _ (call (Value.ref 99) _) _ _ _); k_here; k_dflt (refine' Ct.u2 (char0_ok ?h1 ?h2 ?h3 ?h4 ?h7 ?h8) ?cB ?cF ?cX ?cN ?cT ?ck ?cd ?cu ?_; (case cN => k_asm); (case h1 => k_mem); (case h2 => k_mem); (case h8 => (first | with_reducible assumption | ((simp only [Int.add_assoc, Int.reduceAdd, Int.add_zero]); with_reducible assumption) | assumption | ((simp only [Int.add_assoc, Int.reduceAdd, Int.add_zero]); assumption))); (case h3 => omega); (case h4 => omega); (case h7 => first | with_reducible assumption | assumption); walk_at "mine ct"; k_whole; intro t9 h9 tk9 F9 N9; (try dsimp only); (try k_sweep); (try dsimp only))) | with_reducible ((with_reducible show wpAny _ _ (call (Value.ref 99) _) _ _ _); k_here; k_dflt (refine' Ct.u2 (char_ok ?h1 ?h2 ?h3 ?h4 ?h5 ?h6 ?h7 ?h8) ?cB ?cF ?cX ?cN ?cT ?ck ?cd ?cu ?_; (case cN => k_asm); (case h1 => k_mem); (case h2 => k_mem); (case h8 => (first | with_reducible assumption | ((simp only [Int.add_assoc, Int.reduceAdd, Int.add_zero]); with_reducible assumption) | assumption | ((simp only [Int.add_assoc, Int.reduceAdd, Int.add_zero]); assumption))); (case h3 => omega); (case h4 => omega); (case h5 => omega); (case h6 => omega); (case h7 => first | with_reducible assumption | assumption); walk_at "mine ct"; k_whole; intro t9 h9 tk9 F9 N9; (try dsimp only); (try k_sweep); (try dsimp only))) | with_reducible ((with_reducible show wpAny _ _ (subscriptTail (PySem.Expr.Attribute _ _ _) _ (Value.str _ _) (Value.ref _)) _ _ _); k_here; k_dflt (refine subA_turn ?_)) | with_reducible refine ite_pos (by decide) ?_ | with_reducible refine ite_neg (by decide) ?_ | (k_unfold; (try dsimp only)) | (k_end; wrow_close) | walk1 | (dsimp only; walk1) | (leave1; try dsimp only)))
    rename News h₀ L _ _ => N9
    exact hret _ _ _ _ ⟨rfl, _, rfl⟩ (by assumption) (kst_newsOf N9 fun _ hp => .tail _ hp)
  · walk_at "call ref"
    (repeat' (first | with_reducible ((with_reducible show wpAny _ _ (compareOp CmpOp.In (Value.str _ _) (Value.ref _)) _ _ _); k_here; k_dflt (refine' in_tb ?k1 ?k2 ?k3 ?_; (case k1 => exact News.isTup (by k_asm) (by k_mem)); (case k2 => first | with_reducible assumption | assumption); (case k3 => first | with_reducible assumption | assumption); k_whole)) | with_reducible ((with_reducible show wpAny _ _ (call (Value.ref 38) _) _ _ _); k_here; k_dflt (refine' token_use ?cB ?cF ?cX ?cN ?cT ?ck ?cd ?cu ?_; (case cN => k_asm); walk_at "mine ct"; k_whole; intro x9 y9 j91 j92 j93 h9 tk9 o9 o8 F9 N9; (try k_sweep); (try dsimp only))) | with_reducible ((with_reducible show wpAny _ _ (call (Value.ref 99) _) _ _ _); k_here; k_dflt (refine' Ct.u2 (char0_ok ?h1 ?h2 ?h3 ?h4 ?h7 ?h8) ?cB ?cF ?cX ?cN ?cT ?ck ?cd ?cu ?_; (case cN => k_asm); (case h1 => k_mem); (case h2 => k_mem); (case h8 => (first | with_reducible assumption | ((simp only [Int.add_assoc, Int.reduceAdd, Int.add_zero]); with_reducible assumption) | assumption | ((simp only [Int.add_assoc, Int.reduceAdd, Int.add_zero]); assumption))); (case h3 => omega); (case h4 => omega); (case h7 => first | with_reducible assumption | assumption); walk_at "mine ct"; k_whole; intro t9 h9 tk9 F9 N9; (try dsimp only); (try k_sweep); (try dsimp only))) | with_reducible ((with_reducible show wpAny _ _ (call (Value.ref 99) _) _ _ _); k_here; k_dflt (refine' Ct.u2 (char_ok ?h1 ?h2 ?h3 ?h4 ?h5 ?h6 ?h7 ?h8) ?cB ?cF ?cX ?cN ?cT ?ck ?cd ?cu ?_; (case cN => k_asm); (case h1 => k_mem); (case h2 => k_mem); (case h8 => (first | with_reducible assumption | ((simp only [Int.add_assoc, Int.reduceAdd, Int.add_zero]); with_reducible assumption) | assumption | ((simp only [Int.add_assoc, Int.reduceAdd, Int.add_zero]); assumption))); (case h3 => omega); (case h4 => omega); (case h5 => omega); (case h6 => omega); (case h7 => first | with_reducible assumption | assumption); walk_at "mine ct"; k_whole; intro t9 h9 tk9 F9 N9; (try dsimp only); (try k_sweep); (try dsimp only))) | with_reducible ((with_reducible show wpAny _ _ (subscriptTail (PySem.Expr.Attribute _ _ _) _ (Value.str _ _) (Value.ref _)) _ _ _); k_here; k_dflt (refine subA_turn ?_)) | with_reducible refine ite_pos (by decide) ?_ | with_reducible refine ite_neg (by decide) ?_ | (k_unfold; (try dsimp only)) | (k_end; wrow_close) | walk1 | (dsimp only; walk1) | (leave1; try dsimp only)))
    rename News h₀ L _ _ => N9
    exact hret _ _ _ _ ⟨rfl, _, rfl⟩ (by assumption) (kst_newsOf N9 fun _ hp => .tail _ hp)
inductive TokAt (kw : List Str) (src : Str) (q : Int) : Str → (Value → Prop) → Int → Prop
  | eof : ch src q = Str.ofString "" → TokAt kw src q (Str.ofString "eof") (IsS (Str.ofString "")) q
  | word (q' : Int) (nm : Str) (b : Bool) : q < q' → (∀ pl, q ≤ pl → pl < q' → (isLetter (ch src pl) || isDigit (ch src pl)) = true) → isLetter (ch src q) = true → (ch src q == Str.ofString "") = false → isLetter (ch src q') = false → isDigit (ch src q') = false → Txt.slice src (some q) (some q') = nm → (kw.any fun z => z == nm) = b → TokAt kw src q (if b = true then nm else Str.ofString "ident") (IsS (if b = true then Str.ofString "" else nm)) q'
  | num (n : Nat) : ch src q = Str.ofString "1" → ch src (q + 1) = Str.ofString "2" → ch src (q + 2) = ⟨#[n]⟩ → n ≤ 32 → Txt.slice src (some q) (some (q + 2)) = Str.ofString "12" → TokAt kw src q (Str.ofString "int") (IsI 12) (q + 2)
  | str : ch src q = Str.ofString "\"" → ch src (q + 1) = Str.ofString "a" → ch src (q + 2) = Str.ofString "b" → ch src (q + 3) = Str.ofString "\"" → TokAt kw src q (Str.ofString "string") (IsS (Str.ofString "ab")) (q + 4)
  | sym (a b r : Str) (n : Nat) : ch src q = a → ch src (q + 1) = b → a.length ≤ 1 → b.length ≤ 1 → (a == Str.ofString "") = false → isLetter a = false → isDigit a = false → (a == Str.ofString "\"") = false → (r == Str.ofString "") = false → r.length = n → n ≤ 2 →
      (([Str.ofString ":=", Str.ofString "<=", Str.ofString ">=", Str.ofString ".."].any fun z => z == a ++ b) = true ∧ r = a ++ b) ∨ (([Str.ofString ":=", Str.ofString "<=", Str.ofString ">=", Str.ofString ".."].any fun z => z == a ++ b) = false ∧ r = a ∧ (Builtin.Str.occurrences (Str.ofString "+-*/~&.,;|([{^=#<>:)]}") a 0 (Str.ofString "+-*/~&.,;|([{^=#<>:)]}").length 1).isEmpty = false) → TokAt kw src q r (IsS (Str.ofString "")) (q + n)
theorem off_cons {a b : Addr} {o : Obj} {l : List (Addr × Obj)} (h : @Ne Nat a b) (k : OwnOff l [b]) : OwnOff ((a, o) :: l) [b] := by
  intro p hp c hc
  rw [List.mem_singleton.mp hc]
  rcases List.mem_cons.mp hp with e | hp
  · rw [e]; exact h
  · exact k p hp b (List.mem_singleton.mpr rfl)
theorem take_ok {w : World} {rest : List (Addr × Obj)} {x dx : Addr} {k1 k2 k3 k4 t0 t1 : Tok} {src : Str} {er : Value} {wa : Addr} {ws : List Value} {kw : List Str} {wn : Nat} {p0 q q' : Int} {kd : Str} {V : Value → Prop} (h1 : (x, instObj 186 dx) ∈ rest) (hO : OwnOff rest [dx]) (h3 : 0 ≤ p0) (h5 : 0 ≤ q) (h4 : q < 2 ^ 17) (h6 : q' < 2 ^ 17) (hl : src.length < 2 ^ 20)
    (hw : (wa, tupO ws wn) ∈ rest) (hws : StrsAre ws kw) (hg : Gap src p0 q) (hq : Sign src q) (ht : TokAt kw src q kd V q') :
    Ct w 5 106 [.ref x] ((dx, scD w k1 k2 k3 k4 src t0 er p0 t1 (.ref wa)) :: rest) (fun v l => ∃ t, TkP w ((dx, scD w k1 k2 k3 k4 src t0 er q' t (.ref wa)) :: rest) kd V q v l) := by
  intro prog p9 loose mean mg mb dp un gd cn cs a9 ccd cl outer A₀ base h₀ L m s Q E B F X N T hk hd hu hret
  ((have kf : (PySem.Challenge.rw_pq0763_01 = PySem.Challenge.rw_pq0763_01) ∧ (KK = KK) := by (k_fill; exact ⟨rfl, rfl⟩)); clear kf)
  have kmk := kstMark
  (first | ((with_reducible show wpAny _ _ (call (Value.ref 183) _) _ _ _); k_here; k_dflt (refine' Ct.use (symbol_ok ?h1 ?h2 ?h3 ?h4 ?hl ?ha ?hb ?la ?lb ?hr) ?cB ?cF ?cX ?cN ?cT ?ck ?cd ?cu ?_; (case cN => k_asm); (case h1 => k_mem); (case h2 => k_mem); (case h3 => omega); (case h4 => omega); (case hl => first | with_reducible assumption | assumption); (case ha => first | with_reducible assumption | assumption); (case hb => first | with_reducible assumption | assumption); (case la => first | with_reducible assumption | assumption); (case lb => first | with_reducible assumption | assumption); (case hr => first | with_reducible assumption | assumption); walk_at "mine ct"; k_whole; intro v9 l9 h9 tk9 hP9 F9 N9; obtain ⟨e9, t9, d9⟩ := hP9; subst e9 d9; (try k_sweep); (try dsimp only))) | ((with_reducible show wpAny _ _ (call (Value.ref 176) _) _ _ _); k_here; k_dflt (refine' Ct.utk (string_ok ?h1 ?hO ?h3 ?h4 ?hl ?c1 ?c2 ?c3) ?cB ?cF ?cX ?cN ?cT ?ck ?cd ?cu ?_; (case cN => k_asm); (case h1 => first | with_reducible assumption | assumption); (case hO => first | with_reducible assumption | assumption); (case h3 => omega); (case h4 => omega); (case hl => first | with_reducible assumption | assumption); (case c1 => first | with_reducible assumption | assumption); (case c2 => first | with_reducible assumption | assumption); (case c3 => first | with_reducible assumption | assumption); walk_at "mine ct"; k_whole; walk_at "mine tk")) | ((with_reducible show wpAny _ _ (call (Value.ref 134) _) _ _ _); k_here; k_dflt (refine' Ct.utk (numeral_ok ?h1 ?hO ?h3 ?h4 ?hl ?c0 ?c1 ?c2 ?hn ?hs) ?cB ?cF ?cX ?cN ?cT ?ck ?cd ?cu ?_; (case cN => k_asm); (case h1 => first | with_reducible assumption | assumption); (case hO => first | with_reducible assumption | assumption); (case h3 => omega); (case h4 => omega); (case hl => first | with_reducible assumption | assumption); (case c0 => first | with_reducible assumption | assumption); (case c1 => first | with_reducible assumption | assumption); (case c2 => first | with_reducible assumption | assumption); (case hn => first | with_reducible assumption | assumption); (case hs => first | with_reducible assumption | assumption); walk_at "mine ct"; k_whole; walk_at "mine tk")) | ((with_reducible show wpAny _ _ (call (Value.ref 127) _) _ _ _); k_here; k_dflt (refine' Ct.utk (word_ok ?h1 ?hO ?h3 ?h5 ?h4 ?hl ?hg ?hq ?hq2 ?hw ?hws ?hn ?hb) ?cB ?cF ?cX ?cN ?cT ?ck ?cd ?cu ?_; (case cN => k_asm); (case h1 => first | with_reducible assumption | assumption); (case hO => first | with_reducible assumption | assumption); (case hg => first | with_reducible assumption | assumption); (case hn => first | with_reducible assumption | assumption); (case h3 => omega); (case h4 => omega); (case hl => first | with_reducible assumption | assumption); (case h5 => omega); (case hq => first | with_reducible assumption | assumption); (case hq2 => first | with_reducible assumption | assumption); (case hw => first | with_reducible assumption | assumption); (case hws => first | with_reducible assumption | assumption); (case hb => first | with_reducible assumption | assumption); walk_at "mine ct"; k_whole; walk_at "mine tk")) | ((with_reducible show wpAny _ _ (call (Value.ref 38) _) _ _ _); k_here; k_dflt (refine' token_use ?cB ?cF ?cX ?cN ?cT ?ck ?cd ?cu ?_; (case cN => k_asm); walk_at "mine ct"; k_whole; intro x9 y9 j91 j92 j93 h9 tk9 o9 o8 F9 N9; (try k_sweep); (try dsimp only))) | ((with_reducible show wpAny _ _ (call (Value.ref 63) _) _ _ _); k_here; k_dflt (refine' Ct.u1 (digit_ok ?hb) ?cB ?cF ?cX ?cN ?cT ?ck ?cd ?cu ?_; (case cN => k_asm); (case hb => (first | assumption | exact (show (_ : Bool) = true by decide +kernel) | exact (show (_ : Bool) = false by decide +kernel))); walk_at "mine ct"; k_whole; intro h9 tk9 F9 N9; (try k_sweep); (try dsimp only))) | ((with_reducible show wpAny _ _ (call (Value.ref 56) _) _ _ _); k_here; k_dflt (refine' Ct.u1 (letter_ok ?hb) ?cB ?cF ?cX ?cN ?cT ?ck ?cd ?cu ?_; (case cN => k_asm); (case hb => (first | assumption | exact (show (_ : Bool) = true by decide +kernel) | exact (show (_ : Bool) = false by decide +kernel))); walk_at "mine ct"; k_whole; intro h9 tk9 F9 N9; (try k_sweep); (try dsimp only))) | ((with_reducible show wpAny _ _ (call (Value.ref 113) _) _ _ _); k_here; k_dflt (refine' Ct.u3 (skip_ok ?h1 ?hO ?h3 ?h4 ?h7 ?hg ?hq) ?cB ?cF ?cX ?cN ?cT ?ck ?cd ?cu ?_; (case cN => k_asm); (case h1 => first | with_reducible assumption | assumption); (case hO => first | with_reducible assumption | assumption); (case h3 => first | with_reducible assumption | assumption); (case h7 => first | with_reducible assumption | assumption); (case hg => first | with_reducible assumption | assumption); (case h4 => omega); (case hq => first | with_reducible assumption | assumption); walk_at "mine ct"; k_whole; intro t9 h9 tk9 F9 N9; (try dsimp only at N9); (try k_sweep); (try dsimp only))) | ((with_reducible show wpAny _ _ (call (Value.ref 99) _) _ _ _); k_here; k_dflt (refine' Ct.u2 (char0_ok ?h1 ?h2 ?h3 ?h4 ?h7 ?h8) ?cB ?cF ?cX ?cN ?cT ?ck ?cd ?cu ?_; (case cN => k_asm); (case h1 => k_mem); (case h2 => k_mem); (case h8 => (first | with_reducible assumption | ((simp only [Int.add_assoc, Int.reduceAdd, Int.add_zero]); with_reducible assumption) | assumption | ((simp only [Int.add_assoc, Int.reduceAdd, Int.add_zero]); assumption))); (case h3 => omega); (case h4 => omega); (case h7 => first | with_reducible assumption | assumption); walk_at "mine ct"; k_whole; intro t9 h9 tk9 F9 N9; (try dsimp only); (try k_sweep); (try dsimp only))) | ((with_reducible show wpAny _ _ (call (Value.ref 99) _) _ _ _); k_here; k_dflt (refine' Ct.u2 (char_ok ?h1 ?h2 ?h3 ?h4 ?h5 ?h6 ?h7 ?h8) ?cB ?cF ?cX ?cN ?cT ?ck ?cd ?cu ?_; (case cN => k_asm); (case h1 => k_mem); (case h2 => k_mem); (case h8 => (first | with_reducible assumption | ((simp only [Int.add_assoc, Int.reduceAdd, Int.add_zero]); with_reducible assumption) | assumption | ((simp only [Int.add_assoc, Int.reduceAdd, Int.add_zero]); assumption))); (case h3 => omega); (case h4 => omega); (case h5 => omega); (case h6 => omega); (case h7 => first | with_reducible assumption | assumption); walk_at "mine ct"; k_whole; intro t9 h9 tk9 F9 N9; (try dsimp only); (try k_sweep); (try dsimp only))) | walk_at "call ref")
  (repeat ((fail_if_success (with_reducible show wpAny _ _ (exec (Stmt.While _ _ _ _) _) _ _ _)); (first | with_reducible ((with_reducible show wpAny _ _ (call (Value.ref 183) _) _ _ _); k_here; k_dflt (refine' Ct.use (symbol_ok ?h1 ?h2 ?h3 ?h4 ?hl ?ha ?hb ?la ?lb ?hr) ?cB ?cF ?cX ?cN ?cT ?ck ?cd ?cu ?_; (case cN => k_asm); (case h1 => k_mem); (case h2 => k_mem); (case h3 => omega); (case h4 => omega); (case hl => first | with_reducible assumption | assumption); (case ha => first | with_reducible assumption | assumption); (case hb => first | with_reducible assumption | assumption); (case la => first | with_reducible assumption | assumption); (case lb => first | with_reducible assumption | assumption); (case hr => first | with_reducible assumption | assumption); walk_at "mine ct"; k_whole; intro v9 l9 h9 tk9 hP9 F9 N9; obtain ⟨e9, t9, d9⟩ := hP9; subst e9 d9; (try k_sweep); (try dsimp only))) | with_reducible ((with_reducible show wpAny _ _ (call (Value.ref 176) _) _ _ _); k_here; k_dflt (refine' Ct.utk (string_ok ?h1 ?hO ?h3 ?h4 ?hl ?c1 ?c2 ?c3) ?cB ?cF ?cX ?cN ?cT ?ck ?cd ?cu ?_; (case cN => k_asm); (case h1 => first | with_reducible assumption | assumption); (case hO => first | with_reducible assumption | assumption); (case h3 => omega); (case h4 => omega); (case hl => first | with_reducible assumption | assumption); (case c1 => first | with_reducible assumption | assumption); (case c2 => first | with_reducible assumption | assumption); (case c3 => first | with_reducible assumption | assumption); walk_at "mine ct"; k_whole; walk_at "mine tk")) | with_reducible ((with_reducible show wpAny _ _ (call (Value.ref 134) _) _ _ _); k_here; k_dflt (refine' Ct.utk (numeral_ok ?h1 ?hO ?h3 ?h4 ?hl ?c0 ?c1 ?c2 ?hn ?hs) ?cB ?cF ?cX ?cN ?cT ?ck ?cd ?cu ?_; (case cN => k_asm); (case h1 => first | with_reducible assumption | assumption); (case hO => first | with_reducible assumption | assumption); (case h3 => omega); (case h4 => omega); (case hl => first | with_reducible assumption | assumption); (case c0 => first | with_reducible assumption | assumption); (case c1 => first | with_reducible assumption | assumption); (case c2 => first | with_reducible assumption | assumption); (case hn => first | with_reducible assumption | assumption); (case hs => first | with_reducible assumption | assumption); walk_at "mine ct"; k_whole; walk_at "mine tk")) | with_reducible ((with_reducible show wpAny _ _ (call (Value.ref 127) _) _ _ _); k_here; k_dflt (refine' Ct.utk (word_ok ?h1 ?hO ?h3 ?h5 ?h4 ?hl ?hg ?hq ?hq2 ?hw ?hws ?hn ?hb) ?cB ?cF ?cX ?cN ?cT ?ck ?cd ?cu ?_; (case cN => k_asm); (case h1 => first | with_reducible assumption | assumption); (case hO => first | with_reducible assumption | assumption); (case hg => first | with_reducible assumption | assumption); (case hn => first | with_reducible assumption | assumption); (case h3 => omega); (case h4 => omega); (case hl => first | with_reducible assumption | assumption); (case h5 => omega); (case hq => first | with_reducible assumption | assumption); (case hq2 => first | with_reducible assumption | assumption); (case hw => first | with_reducible assumption | assumption); (case hws => first | with_reducible assumption | assumption); (case hb => first | with_reducible assumption | assumption); walk_at "mine ct"; k_whole; walk_at "mine tk")) | with_reducible ((with_reducible show wpAny _ _ (call (Value.ref 38) _) _ _ _); k_here; k_dflt (refine' token_use ?cB ?cF ?cX ?cN ?cT ?ck ?cd ?cu ?_; (case cN => k_asm); walk_at "mine ct"; k_whole; intro x9 y9 j91 j92 j93 h9 tk9 o9 o8 F9 N9; (try k_sweep); (try dsimp only))) | with_reducible ((with_reducible show wpAny _ _ (call (Value.ref 63) _) _ _ _); k_here; k_dflt (refine' Ct.u1 (digit_ok ?hb) ?cB ?cF ?cX ?cN ?cT ?ck ?cd ?cu ?_; (case cN => k_asm); (case hb => (first | assumption | exact (show (_ : Bool) = true by decide +kernel) | exact (show (_ : Bool) = false by decide +kernel))); walk_at "mine ct"; k_whole; intro h9 tk9 F9 N9; (try k_sweep); (try dsimp only))) | with_reducible ((with_reducible show wpAny _ _ (call (Value.ref 56) _) _ _ _); k_here; k_dflt (refine' Ct.u1 (letter_ok ?hb) ?cB ?cF ?cX ?cN ?cT ?ck ?cd ?cu ?_; (case cN => k_asm); (case hb => (first | assumption | exact (show (_ : Bool) = true by decide +kernel) | exact (show (_ : Bool) = false by decide +kernel))); walk_at "mine ct"; k_whole; intro h9 tk9 F9 N9; (try k_sweep); (try dsimp only))) | with_reducible ((with_reducible show wpAny _ _ (call (Value.ref 113) _) _ _ _); k_here; k_dflt (refine' Ct.u3 (skip_ok ?h1 ?hO ?h3 ?h4 ?h7 ?hg ?hq) ?cB ?cF ?cX ?cN ?cT ?ck ?cd ?cu ?_; (case cN => k_asm); (case h1 => first | with_reducible assumption | assumption); (case hO => first | with_reducible assumption | assumption); (case h3 => first | with_reducible assumption | assumption); (case h7 => first | with_reducible assumption | assumption); (case hg => first | with_reducible assumption | assumption); (case h4 => omega); (case hq => first | with_reducible assumption | assumption); walk_at "mine ct"; k_whole; intro t9 h9 tk9 F9 N9; (try dsimp only at N9); (try k_sweep); (try dsimp only))) | with_reducible ((with_reducible show wpAny _ _ (call (Value.ref 99) _) _ _ _); k_here; k_dflt (refine' Ct.u2 (char0_ok ?h1 ?h2 ?h3 ?h4 ?h7 ?h8) ?cB ?cF ?cX ?cN ?cT ?ck ?cd ?cu ?_; (case cN => k_asm); (case h1 => k_mem); (case h2 => k_mem); (case h8 => (first | with_reducible assumption | ((simp only [Int.add_assoc, Int.reduceAdd, Int.add_zero]); with_reducible assumption) | assumption | ((simp only [Int.add_assoc, Int.reduceAdd, Int.add_zero]); assumption))); (case h3 => omega); (case h4 => omega); (case h7 => first | with_reducible assumption | assumption); walk_at "mine ct"; k_whole; intro t9 h9 tk9 F9 N9; (try dsimp only); (try k_sweep); (try dsimp only))) | with_reducible ((with_reducible show wpAny _ _ (call (Value.ref 99) _) _ _ _); k_here; k_dflt (refine' Ct.u2 (char_ok ?h1 ?h2 ?h3 ?h4 ?h5 ?h6 ?h7 ?h8) ?cB ?cF ?cX ?cN ?cT ?ck ?cd ?cu ?_; (case cN => k_asm); (case h1 => k_mem); (case h2 => k_mem); (case h8 => (first | with_reducible assumption | ((simp only [Int.add_assoc, Int.reduceAdd, Int.add_zero]); with_reducible assumption) | assumption | ((simp only [Int.add_assoc, Int.reduceAdd, Int.add_zero]); assumption))); (case h3 => omega); (case h4 => omega); (case h5 => omega); (case h6 => omega); (case h7 => first | with_reducible assumption | assumption); walk_at "mine ct"; k_whole; intro t9 h9 tk9 F9 N9; (try dsimp only); (try k_sweep); (try dsimp only))) | with_reducible ((with_reducible show wpAny _ _ (subscriptTail (PySem.Expr.Attribute _ _ _) _ (Value.str _ _) (Value.ref _)) _ _ _); k_here; k_dflt (refine subA_turn ?_)) | with_reducible refine ite_pos (by decide) ?_ | with_reducible refine ite_neg (by decide) ?_ | walk_at "mine step")))
  rename Fr _ _ _ _ => F0
  rename News _ _ _ _ => N0
  refine' ksw_while (σ := Unit) (fun c => (dx, scD w k1 k2 k3 k4 src t0 er p0 t1 (.ref wa)) :: rest) (fun c => []) (fun _ => True) [Str.ofString "begun", Str.ofString "char", Str.ofString "symbol"]
    (fun c => True) (fun c => 0) () F0 N0 trivial ?kk trivial ?turn
  case kk => (first | ((try dsimp only); (repeat (refine allc rfl ?_)); exact alln) | kst_all)
  case turn =>
    clear F0 N0
    rintro ⟨⟩ u h9 tk9 - - F1 N1
    dsimp only at F1 N1 ⊢
    try k_fold
    cases ht with
    | eof c0 =>
      (repeat' (first | with_reducible ((with_reducible show wpAny _ _ (call (Value.ref 183) _) _ _ _); k_here; k_dflt (refine' Ct.use (symbol_ok ?h1 ?h2 ?h3 ?h4 ?hl ?ha ?hb ?la ?lb ?hr) ?cB ?cF ?cX ?cN ?cT ?ck ?cd ?cu ?_; (case cN => k_asm); (case h1 => k_mem); (case h2 => k_mem); (case h3 => omega); (case h4 => omega); (case hl => first | with_reducible assumption | assumption); (case ha => first | with_reducible assumption | assumption); (case hb => first | with_reducible assumption | assumption); (case la => first | with_reducible assumption | assumption); (case lb => first | with_reducible assumption | assumption); (case hr => first | with_reducible assumption | assumption); walk_at "mine ct"; k_whole; intro v9 l9 h9 tk9 hP9 F9 N9; obtain ⟨e9, t9, d9⟩ := hP9; subst e9 d9; (try k_sweep); (try dsimp only))) | with_reducible ((with_reducible show wpAny _ _ (call (Value.ref 176) _) _ _ _); k_here; k_dflt (refine' Ct.utk (string_ok ?h1 ?hO ?h3 ?h4 ?hl ?c1 ?c2 ?c3) ?cB ?cF ?cX ?cN ?cT ?ck ?cd ?cu ?_; (case cN => k_asm); (case h1 => first | with_reducible assumption | assumption); (case hO => first | with_reducible assumption | assumption); (case h3 => omega); (case h4 => omega); (case hl => first | with_reducible assumption | assumption); (case c1 => first | with_reducible assumption | assumption); (case c2 => first | with_reducible assumption | assumption); (case c3 => first | with_reducible assumption | assumption); walk_at "mine ct"; k_whole; walk_at "mine tk")) | with_reducible ((with_reducible show wpAny _ _ (call (Value.ref 134) _) _ _ _); k_here; k_dflt (refine' Ct.utk (numeral_ok ?h1 ?hO ?h3 ?h4 ?hl ?c0 ?c1 ?c2 ?hn ?hs) ?cB ?cF ?cX ?cN ?cT ?ck ?cd ?cu ?_; (case cN => k_asm); (case h1 => first | with_reducible assumption | assumption); (case hO => first | with_reducible assumption | assumption); (case h3 => omega); (case h4 => omega); (case hl => first | with_reducible assumption | assumption); (case c0 => first | with_reducible assumption | assumption); (case c1 => first | with_reducible assumption | assumption); (case c2 => first | with_reducible assumption | assumption); (case hn => first | with_reducible assumption | assumption); (case hs => first | with_reducible assumption | assumption); walk_at "mine ct"; k_whole; walk_at "mine tk")) | with_reducible ((with_reducible show wpAny _ _ (call (Value.ref 127) _) _ _ _); k_here; k_dflt (refine' Ct.utk (word_ok ?h1 ?hO ?h3 ?h5 ?h4 ?hl ?hg ?hq ?hq2 ?hw ?hws ?hn ?hb) ?cB ?cF ?cX ?cN ?cT ?ck ?cd ?cu ?_; (case cN => k_asm); (case h1 => first | with_reducible assumption | assumption); (case hO => first | with_reducible assumption | assumption); (case hg => first | with_reducible assumption | assumption); (case hn => first | with_reducible assumption | assumption); (case h3 => omega); (case h4 => omega); (case hl => first | with_reducible assumption | assumption); (case h5 => omega); (case hq => first | with_reducible assumption | assumption); (case hq2 => first | with_reducible assumption | assumption); (case hw => first | with_reducible assumption | assumption); (case hws => first | with_reducible assumption | assumption); (case hb => first | with_reducible assumption | assumption); walk_at "mine ct"; k_whole; walk_at "mine tk")) | with_reducible ((with_reducible show wpAny _ _ (call (Value.ref 38) _) _ _ _); k_here; k_dflt (refine' token_use ?cB ?cF ?cX ?cN ?cT ?ck ?cd ?cu ?_; (case cN => k_asm); walk_at "mine ct"; k_whole; intro x9 y9 j91 j92 j93 h9 tk9 o9 o8 F9 N9; (try k_sweep); (try dsimp only))) | with_reducible ((with_reducible show wpAny _ _ (call (Value.ref 63) _) _ _ _); k_here; k_dflt (refine' Ct.u1 (digit_ok ?hb) ?cB ?cF ?cX ?cN ?cT ?ck ?cd ?cu ?_; (case cN => k_asm); (case hb => (first | assumption | exact (show (_ : Bool) = true by decide +kernel) | exact (show (_ : Bool) = false by decide +kernel))); walk_at "mine ct"; k_whole; intro h9 tk9 F9 N9; (try k_sweep); (try dsimp only))) | with_reducible ((with_reducible show wpAny _ _ (call (Value.ref 56) _) _ _ _); k_here; k_dflt (refine' Ct.u1 (letter_ok ?hb) ?cB ?cF ?cX ?cN ?cT ?ck ?cd ?cu ?_; (case cN => k_asm); (case hb => (first | assumption | exact (show (_ : Bool) = true by decide +kernel) | exact (show (_ : Bool) = false by decide +kernel))); walk_at "mine ct"; k_whole; intro h9 tk9 F9 N9; (try k_sweep); (try dsimp only))) | with_reducible ((with_reducible show wpAny _ _ (call (Value.ref 113) _) _ _ _); k_here; k_dflt (refine' Ct.u3 (skip_ok ?h1 ?hO ?h3 ?h4 ?h7 ?hg ?hq) ?cB ?cF ?cX ?cN ?cT ?ck ?cd ?cu ?_; (case cN => k_asm); (case h1 => first | with_reducible assumption | assumption); (case hO => first | with_reducible assumption | assumption); (case h3 => first | with_reducible assumption | assumption); (case h7 => first | with_reducible assumption | assumption); (case hg => first | with_reducible assumption | assumption); (case h4 => omega); (case hq => first | with_reducible assumption | assumption); walk_at "mine ct"; k_whole; intro t9 h9 tk9 F9 N9; (try dsimp only at N9); (try k_sweep); (try dsimp only))) | with_reducible ((with_reducible show wpAny _ _ (call (Value.ref 99) _) _ _ _); k_here; k_dflt (refine' Ct.u2 (char0_ok ?h1 ?h2 ?h3 ?h4 ?h7 ?h8) ?cB ?cF ?cX ?cN ?cT ?ck ?cd ?cu ?_; (case cN => k_asm); (case h1 => k_mem); (case h2 => k_mem); (case h8 => (first | with_reducible assumption | ((simp only [Int.add_assoc, Int.reduceAdd, Int.add_zero]); with_reducible assumption) | assumption | ((simp only [Int.add_assoc, Int.reduceAdd, Int.add_zero]); assumption))); (case h3 => omega); (case h4 => omega); (case h7 => first | with_reducible assumption | assumption); walk_at "mine ct"; k_whole; intro t9 h9 tk9 F9 N9; (try dsimp only); (try k_sweep); (try dsimp only))) | with_reducible ((with_reducible show wpAny _ _ (call (Value.ref 99) _) _ _ _); k_here; k_dflt (refine' Ct.u2 (char_ok ?h1 ?h2 ?h3 ?h4 ?h5 ?h6 ?h7 ?h8) ?cB ?cF ?cX ?cN ?cT ?ck ?cd ?cu ?_; (case cN => k_asm); (case h1 => k_mem); (case h2 => k_mem); (case h8 => (first | with_reducible assumption | ((simp only [Int.add_assoc, Int.reduceAdd, Int.add_zero]); with_reducible assumption) | assumption | ((simp only [Int.add_assoc, Int.reduceAdd, Int.add_zero]); assumption))); (case h3 => omega); (case h4 => omega); (case h5 => omega); (case h6 => omega); (case h7 => first | with_reducible assumption | assumption); walk_at "mine ct"; k_whole; intro t9 h9 tk9 F9 N9; (try dsimp only); (try k_sweep); (try dsimp only))) | with_reducible ((with_reducible show wpAny _ _ (subscriptTail (PySem.Expr.Attribute _ _ _) _ (Value.str _ _) (Value.ref _)) _ _ _); k_here; k_dflt (refine subA_turn ?_)) | with_reducible refine ite_pos (by decide) ?_ | with_reducible refine ite_neg (by decide) ?_ | (k_unfold; (try dsimp only)) | (k_end; wrow_close) | walk1 | (dsimp only; walk1) | (leave1; try dsimp only)))
      exact hret _ _ _ _ ⟨_, TkP.intro ⟨_, rfl⟩ (by assumption) (by assumption)⟩ (by assumption) (by assumption)
    | word _ nm b g1 g2 g3 g4 g5 g6 g7 g8 =>
      obtain ⟨c, hc⟩ : ∃ c, ch src q = c := ⟨_, rfl⟩
      rw [hc] at g3 g4
      (repeat' (first | with_reducible ((with_reducible show wpAny _ _ (call (Value.ref 183) _) _ _ _); k_here; k_dflt (refine' Ct.use (symbol_ok ?h1 ?h2 ?h3 ?h4 ?hl ?ha ?hb ?la ?lb ?hr) ?cB ?cF ?cX ?cN ?cT ?ck ?cd ?cu ?_; (case cN => k_asm); (case h1 => k_mem); (case h2 => k_mem); (case h3 => omega); (case h4 => omega); (case hl => first | with_reducible assumption | assumption); (case ha => first | with_reducible assumption | assumption); (case hb => first | with_reducible assumption | assumption); (case la => first | with_reducible assumption | assumption); (case lb => first | with_reducible assumption | assumption); (case hr => first | with_reducible assumption | assumption); walk_at "mine ct"; k_whole; intro v9 l9 h9 tk9 hP9 F9 N9; obtain ⟨e9, t9, d9⟩ := hP9; subst e9 d9; (try k_sweep); (try dsimp only))) | with_reducible ((with_reducible show wpAny _ _ (call (Value.ref 176) _) _ _ _); k_here; k_dflt (refine' Ct.utk (string_ok ?h1 ?hO ?h3 ?h4 ?hl ?c1 ?c2 ?c3) ?cB ?cF ?cX ?cN ?cT ?ck ?cd ?cu ?_; (case cN => k_asm); (case h1 => first | with_reducible assumption | assumption); (case hO => first | with_reducible assumption | assumption); (case h3 => omega); (case h4 => omega); (case hl => first | with_reducible assumption | assumption); (case c1 => first | with_reducible assumption | assumption); (case c2 => first | with_reducible assumption | assumption); (case c3 => first | with_reducible assumption | assumption); walk_at "mine ct"; k_whole; walk_at "mine tk")) | with_reducible ((with_reducible show wpAny _ _ (call (Value.ref 134) _) _ _ _); k_here; k_dflt (refine' Ct.utk (numeral_ok ?h1 ?hO ?h3 ?h4 ?hl ?c0 ?c1 ?c2 ?hn ?hs) ?cB ?cF ?cX ?cN ?cT ?ck ?cd ?cu ?_; (case cN => k_asm); (case h1 => first | with_reducible assumption | assumption); (case hO => first | with_reducible assumption | assumption); (case h3 => omega); (case h4 => omega); (case hl => first | with_reducible assumption | assumption); (case c0 => first | with_reducible assumption | assumption); (case c1 => first | with_reducible assumption | assumption); (case c2 => first | with_reducible assumption | assumption); (case hn => first | with_reducible assumption | assumption); (case hs => first | with_reducible assumption | assumption); walk_at "mine ct"; k_whole; walk_at "mine tk")) | with_reducible ((with_reducible show wpAny _ _ (call (Value.ref 127) _) _ _ _); k_here; k_dflt (refine' Ct.utk (word_ok ?h1 ?hO ?h3 ?h5 ?h4 ?hl ?hg ?hq ?hq2 ?hw ?hws ?hn ?hb) ?cB ?cF ?cX ?cN ?cT ?ck ?cd ?cu ?_; (case cN => k_asm); (case h1 => first | with_reducible assumption | assumption); (case hO => first | with_reducible assumption | assumption); (case hg => first | with_reducible assumption | assumption); (case hn => first | with_reducible assumption | assumption); (case h3 => omega); (case h4 => omega); (case hl => first | with_reducible assumption | assumption); (case h5 => omega); (case hq => first | with_reducible assumption | assumption); (case hq2 => first | with_reducible assumption | assumption); (case hw => first | with_reducible assumption | assumption); (case hws => first | with_reducible assumption | assumption); (case hb => first | with_reducible assumption | assumption); walk_at "mine ct"; k_whole; walk_at "mine tk")) | with_reducible ((with_reducible show wpAny _ _ (call (Value.ref 38) _) _ _ _); k_here; k_dflt (refine' token_use ?cB ?cF ?cX ?cN ?cT ?ck ?cd ?cu ?_; (case cN => k_asm); walk_at "mine ct"; k_whole; intro x9 y9 j91 j92 j93 h9 tk9 o9 o8 F9 N9; (try k_sweep); (try dsimp only))) | with_reducible ((with_reducible show wpAny _ _ (call (Value.ref 63) _) _ _ _); k_here; k_dflt (refine' Ct.u1 (digit_ok ?hb) ?cB ?cF ?cX ?cN ?cT ?ck ?cd ?cu ?_; (case cN => k_asm); (case hb => (first | assumption | exact (show (_ : Bool) = true by decide +kernel) | exact (show (_ : Bool) = false by decide +kernel))); walk_at "mine ct"; k_whole; intro h9 tk9 F9 N9; (try k_sweep); (try dsimp only))) | with_reducible ((with_reducible show wpAny _ _ (call (Value.ref 56) _) _ _ _); k_here; k_dflt (refine' Ct.u1 (letter_ok ?hb) ?cB ?cF ?cX ?cN ?cT ?ck ?cd ?cu ?_; (case cN => k_asm); (case hb => (first | assumption | exact (show (_ : Bool) = true by decide +kernel) | exact (show (_ : Bool) = false by decide +kernel))); walk_at "mine ct"; k_whole; intro h9 tk9 F9 N9; (try k_sweep); (try dsimp only))) | with_reducible ((with_reducible show wpAny _ _ (call (Value.ref 113) _) _ _ _); k_here; k_dflt (refine' Ct.u3 (skip_ok ?h1 ?hO ?h3 ?h4 ?h7 ?hg ?hq) ?cB ?cF ?cX ?cN ?cT ?ck ?cd ?cu ?_; (case cN => k_asm); (case h1 => first | with_reducible assumption | assumption); (case hO => first | with_reducible assumption | assumption); (case h3 => first | with_reducible assumption | assumption); (case h7 => first | with_reducible assumption | assumption); (case hg => first | with_reducible assumption | assumption); (case h4 => omega); (case hq => first | with_reducible assumption | assumption); walk_at "mine ct"; k_whole; intro t9 h9 tk9 F9 N9; (try dsimp only at N9); (try k_sweep); (try dsimp only))) | with_reducible ((with_reducible show wpAny _ _ (call (Value.ref 99) _) _ _ _); k_here; k_dflt (refine' Ct.u2 (char0_ok ?h1 ?h2 ?h3 ?h4 ?h7 ?h8) ?cB ?cF ?cX ?cN ?cT ?ck ?cd ?cu ?_; (case cN => k_asm); (case h1 => k_mem); (case h2 => k_mem); (case h8 => (first | with_reducible assumption | ((simp only [Int.add_assoc, Int.reduceAdd, Int.add_zero]); with_reducible assumption) | assumption | ((simp only [Int.add_assoc, Int.reduceAdd, Int.add_zero]); assumption))); (case h3 => omega); (case h4 => omega); (case h7 => first | with_reducible assumption | assumption); walk_at "mine ct"; k_whole; intro t9 h9 tk9 F9 N9; (try dsimp only); (try k_sweep); (try dsimp only))) | with_reducible ((with_reducible show wpAny _ _ (call (Value.ref 99) _) _ _ _); k_here; k_dflt (refine' Ct.u2 (char_ok ?h1 ?h2 ?h3 ?h4 ?h5 ?h6 ?h7 ?h8) ?cB ?cF ?cX ?cN ?cT ?ck ?cd ?cu ?_; (case cN => k_asm); (case h1 => k_mem); (case h2 => k_mem); (case h8 => (first | with_reducible assumption | ((simp only [Int.add_assoc, Int.reduceAdd, Int.add_zero]); with_reducible assumption) | assumption | ((simp only [Int.add_assoc, Int.reduceAdd, Int.add_zero]); assumption))); (case h3 => omega); (case h4 => omega); (case h5 => omega); (case h6 => omega); (case h7 => first | with_reducible assumption | assumption); walk_at "mine ct"; k_whole; intro t9 h9 tk9 F9 N9; (try dsimp only); (try k_sweep); (try dsimp only))) | with_reducible ((with_reducible show wpAny _ _ (subscriptTail (PySem.Expr.Attribute _ _ _) _ (Value.str _ _) (Value.ref _)) _ _ _); k_here; k_dflt (refine subA_turn ?_)) | with_reducible refine ite_pos (by decide) ?_ | with_reducible refine ite_neg (by decide) ?_ | (k_unfold; (try dsimp only)) | (k_end; wrow_close) | walk1 | (dsimp only; walk1) | (leave1; try dsimp only)))
      exact hret _ _ _ _ ⟨_, TkP.intro (by assumption) (by assumption) (by assumption)⟩ (by assumption) (by assumption)
    | num n c0 c1 c2 hn hs =>
      have l1 : isLetter (Str.ofString "1") = false := by decide +kernel
      have l2 : isDigit (Str.ofString "1") = true := by decide +kernel
      (repeat' (first | with_reducible ((with_reducible show wpAny _ _ (call (Value.ref 183) _) _ _ _); k_here; k_dflt (refine' Ct.use (symbol_ok ?h1 ?h2 ?h3 ?h4 ?hl ?ha ?hb ?la ?lb ?hr) ?cB ?cF ?cX ?cN ?cT ?ck ?cd ?cu ?_; (case cN => k_asm); (case h1 => k_mem); (case h2 => k_mem); (case h3 => omega); (case h4 => omega); (case hl => first | with_reducible assumption | assumption); (case ha => first | with_reducible assumption | assumption); (case hb => first | with_reducible assumption | assumption); (case la => first | with_reducible assumption | assumption); (case lb => first | with_reducible assumption | assumption); (case hr => first | with_reducible assumption | assumption); walk_at "mine ct"; k_whole; intro v9 l9 h9 tk9 hP9 F9 N9; obtain ⟨e9, t9, d9⟩ := hP9; subst e9 d9; (try k_sweep); (try dsimp only))) | with_reducible ((with_reducible show wpAny _ _ (call (Value.ref 176) _) _ _ _); k_here; k_dflt (refine' Ct.utk (string_ok ?h1 ?hO ?h3 ?h4 ?hl ?c1 ?c2 ?c3) ?cB ?cF ?cX ?cN ?cT ?ck ?cd ?cu ?_; (case cN => k_asm); (case h1 => first | with_reducible assumption | assumption); (case hO => first | with_reducible assumption | assumption); (case h3 => omega); (case h4 => omega); (case hl => first | with_reducible assumption | assumption); (case c1 => first | with_reducible assumption | assumption); (case c2 => first | with_reducible assumption | assumption); (case c3 => first | with_reducible assumption | assumption); walk_at "mine ct"; k_whole; walk_at "mine tk")) | with_reducible ((with_reducible show wpAny _ _ (call (Value.ref 134) _) _ _ _); k_here; k_dflt (refine' Ct.utk (numeral_ok ?h1 ?hO ?h3 ?h4 ?hl ?c0 ?c1 ?c2 ?hn ?hs) ?cB ?cF ?cX ?cN ?cT ?ck ?cd ?cu ?_; (case cN => k_asm); (case h1 => first | with_reducible assumption | assumption); (case hO => first | with_reducible assumption | assumption); (case h3 => omega); (case h4 => omega); (case hl => first | with_reducible assumption | assumption); (case c0 => first | with_reducible assumption | assumption); (case c1 => first | with_reducible assumption | assumption); (case c2 => first | with_reducible assumption | assumption); (case hn => first | with_reducible assumption | assumption); (case hs => first | with_reducible assumption | assumption); walk_at "mine ct"; k_whole; walk_at "mine tk")) | with_reducible ((with_reducible show wpAny _ _ (call (Value.ref 127) _) _ _ _); k_here; k_dflt (refine' Ct.utk (word_ok ?h1 ?hO ?h3 ?h5 ?h4 ?hl ?hg ?hq ?hq2 ?hw ?hws ?hn ?hb) ?cB ?cF ?cX ?cN ?cT ?ck ?cd ?cu ?_; (case cN => k_asm); (case h1 => first | with_reducible assumption | assumption); (case hO => first | with_reducible assumption | assumption); (case hg => first | with_reducible assumption | assumption); (case hn => first | with_reducible assumption | assumption); (case h3 => omega); (case h4 => omega); (case hl => first | with_reducible assumption | assumption); (case h5 => omega); (case hq => first | with_reducible assumption | assumption); (case hq2 => first | with_reducible assumption | assumption); (case hw => first | with_reducible assumption | assumption); (case hws => first | with_reducible assumption | assumption); (case hb => first | with_reducible assumption | assumption); walk_at "mine ct"; k_whole; walk_at "mine tk")) | with_reducible ((with_reducible show wpAny _ _ (call (Value.ref 38) _) _ _ _); k_here; k_dflt (refine' token_use ?cB ?cF ?cX ?cN ?cT ?ck ?cd ?cu ?_; (case cN => k_asm); walk_at "mine ct"; k_whole; intro x9 y9 j91 j92 j93 h9 tk9 o9 o8 F9 N9; (try k_sweep); (try dsimp only))) | with_reducible ((with_reducible show wpAny _ _ (call (Value.ref 63) _) _ _ _); k_here; k_dflt (refine' Ct.u1 (digit_ok ?hb) ?cB ?cF ?cX ?cN ?cT ?ck ?cd ?cu ?_; (case cN => k_asm); (case hb => (first | assumption | exact (show (_ : Bool) = true by decide +kernel) | exact (show (_ : Bool) = false by decide +kernel))); walk_at "mine ct"; k_whole; intro h9 tk9 F9 N9; (try k_sweep); (try dsimp only))) | with_reducible ((with_reducible show wpAny _ _ (call (Value.ref 56) _) _ _ _); k_here; k_dflt (refine' Ct.u1 (letter_ok ?hb) ?cB ?cF ?cX ?cN ?cT ?ck ?cd ?cu ?_; (case cN => k_asm); (case hb => (first | assumption | exact (show (_ : Bool) = true by decide +kernel) | exact (show (_ : Bool) = false by decide +kernel))); walk_at "mine ct"; k_whole; intro h9 tk9 F9 N9; (try k_sweep); (try dsimp only))) | with_reducible ((with_reducible show wpAny _ _ (call (Value.ref 113) _) _ _ _); k_here; k_dflt (refine' Ct.u3 (skip_ok ?h1 ?hO ?h3 ?h4 ?h7 ?hg ?hq) ?cB ?cF ?cX ?cN ?cT ?ck ?cd ?cu ?_; (case cN => k_asm); (case h1 => first | with_reducible assumption | assumption); (case hO => first | with_reducible assumption | assumption); (case h3 => first | with_reducible assumption | assumption); (case h7 => first | with_reducible assumption | assumption); (case hg => first | with_reducible assumption | assumption); (case h4 => omega); (case hq => first | with_reducible assumption | assumption); walk_at "mine ct"; k_whole; intro t9 h9 tk9 F9 N9; (try dsimp only at N9); (try k_sweep); (try dsimp only))) | with_reducible ((with_reducible show wpAny _ _ (call (Value.ref 99) _) _ _ _); k_here; k_dflt (refine' Ct.u2 (char0_ok ?h1 ?h2 ?h3 ?h4 ?h7 ?h8) ?cB ?cF ?cX ?cN ?cT ?ck ?cd ?cu ?_; (case cN => k_asm); (case h1 => k_mem); (case h2 => k_mem); (case h8 => (first | with_reducible assumption | ((simp only [Int.add_assoc, Int.reduceAdd, Int.add_zero]); with_reducible assumption) | assumption | ((simp only [Int.add_assoc, Int.reduceAdd, Int.add_zero]); assumption))); (case h3 => omega); (case h4 => omega); (case h7 => first | with_reducible assumption | assumption); walk_at "mine ct"; k_whole; intro t9 h9 tk9 F9 N9; (try dsimp only); (try k_sweep); (try dsimp only))) | with_reducible ((with_reducible show wpAny _ _ (call (Value.ref 99) _) _ _ _); k_here; k_dflt (refine' Ct.u2 (char_ok ?h1 ?h2 ?h3 ?h4 ?h5 ?h6 ?h7 ?h8) ?cB ?cF ?cX ?cN ?cT ?ck ?cd ?cu ?_; (case cN => k_asm); (case h1 => k_mem); (case h2 => k_mem); (case h8 => (first | with_reducible assumption | ((simp only [Int.add_assoc, Int.reduceAdd, Int.add_zero]); with_reducible assumption) | assumption | ((simp only [Int.add_assoc, Int.reduceAdd, Int.add_zero]); assumption))); (case h3 => omega); (case h4 => omega); (case h5 => omega); (case h6 => omega); (case h7 => first | with_reducible assumption | assumption); walk_at "mine ct"; k_whole; intro t9 h9 tk9 F9 N9; (try dsimp only); (try k_sweep); (try dsimp only))) | with_reducible ((with_reducible show wpAny _ _ (subscriptTail (PySem.Expr.Attribute _ _ _) _ (Value.str _ _) (Value.ref _)) _ _ _); k_here; k_dflt (refine subA_turn ?_)) | with_reducible refine ite_pos (by decide) ?_ | with_reducible refine ite_neg (by decide) ?_ | (k_unfold; (try dsimp only)) | (k_end; wrow_close) | walk1 | (dsimp only; walk1) | (leave1; try dsimp only)))
      exact hret _ _ _ _ ⟨_, TkP.intro (by assumption) (by assumption) (by assumption)⟩ (by assumption) (by assumption)
    | str c0 c1 c2 c3 =>
      have l1 : isLetter (Str.ofString "\"") = false := by decide +kernel
      have l2 : isDigit (Str.ofString "\"") = false := by decide +kernel
      (repeat' (first | with_reducible ((with_reducible show wpAny _ _ (call (Value.ref 183) _) _ _ _); k_here; k_dflt (refine' Ct.use (symbol_ok ?h1 ?h2 ?h3 ?h4 ?hl ?ha ?hb ?la ?lb ?hr) ?cB ?cF ?cX ?cN ?cT ?ck ?cd ?cu ?_; (case cN => k_asm); (case h1 => k_mem); (case h2 => k_mem); (case h3 => omega); (case h4 => omega); (case hl => first | with_reducible assumption | assumption); (case ha => first | with_reducible assumption | assumption); (case hb => first | with_reducible assumption | assumption); (case la => first | with_reducible assumption | assumption); (case lb => first | with_reducible assumption | assumption); (case hr => first | with_reducible assumption | assumption); walk_at "mine ct"; k_whole; intro v9 l9 h9 tk9 hP9 F9 N9; obtain ⟨e9, t9, d9⟩ := hP9; subst e9 d9; (try k_sweep); (try dsimp only))) | with_reducible ((with_reducible show wpAny _ _ (call (Value.ref 176) _) _ _ _); k_here; k_dflt (refine' Ct.utk (string_ok ?h1 ?hO ?h3 ?h4 ?hl ?c1 ?c2 ?c3) ?cB ?cF ?cX ?cN ?cT ?ck ?cd ?cu ?_; (case cN => k_asm); (case h1 => first | with_reducible assumption | assumption); (case hO => first | with_reducible assumption | assumption); (case h3 => omega); (case h4 => omega); (case hl => first | with_reducible assumption | assumption); (case c1 => first | with_reducible assumption | assumption); (case c2 => first | with_reducible assumption | assumption); (case c3 => first | with_reducible assumption | assumption); walk_at "mine ct"; k_whole; walk_at "mine tk")) | with_reducible ((with_reducible show wpAny _ _ (call (Value.ref 134) _) _ _ _); k_here; k_dflt (refine' Ct.utk (numeral_ok ?h1 ?hO ?h3 ?h4 ?hl ?c0 ?c1 ?c2 ?hn ?hs) ?cB ?cF ?cX ?cN ?cT ?ck ?cd ?cu ?_; (case cN => k_asm); (case h1 => first | with_reducible assumption | assumption); (case hO => first | with_reducible assumption | assumption); (case h3 => omega); (case h4 => omega); (case hl => first | with_reducible assumption | assumption); (case c0 => first | with_reducible assumption | assumption); (case c1 => first | with_reducible assumption | assumption); (case c2 => first | with_reducible assumption | assumption); (case hn => first | with_reducible assumption | assumption); (case hs => first | with_reducible assumption | assumption); walk_at "mine ct"; k_whole; walk_at "mine tk")) | with_reducible ((with_reducible show wpAny _ _ (call (Value.ref 127) _) _ _ _); k_here; k_dflt (refine' Ct.utk (word_ok ?h1 ?hO ?h3 ?h5 ?h4 ?hl ?hg ?hq ?hq2 ?hw ?hws ?hn ?hb) ?cB ?cF ?cX ?cN ?cT ?ck ?cd ?cu ?_; (case cN => k_asm); (case h1 => first | with_reducible assumption | assumption); (case hO => first | with_reducible assumption | assumption); (case hg => first | with_reducible assumption | assumption); (case hn => first | with_reducible assumption | assumption); (case h3 => omega); (case h4 => omega); (case hl => first | with_reducible assumption | assumption); (case h5 => omega); (case hq => first | with_reducible assumption | assumption); (case hq2 => first | with_reducible assumption | assumption); (case hw => first | with_reducible assumption | assumption); (case hws => first | with_reducible assumption | assumption); (case hb => first | with_reducible assumption | assumption); walk_at "mine ct"; k_whole; walk_at "mine tk")) | with_reducible ((with_reducible show wpAny _ _ (call (Value.ref 38) _) _ _ _); k_here; k_dflt (refine' token_use ?cB ?cF ?cX ?cN ?cT ?ck ?cd ?cu ?_; (case cN => k_asm); walk_at "mine ct"; k_whole; intro x9 y9 j91 j92 j93 h9 tk9 o9 o8 F9 N9; (try k_sweep); (try dsimp only))) | with_reducible ((with_reducible show wpAny _ _ (call (Value.ref 63) _) _ _ _); k_here; k_dflt (refine' Ct.u1 (digit_ok ?hb) ?cB ?cF ?cX ?cN ?cT ?ck ?cd ?cu ?_; (case cN => k_asm); (case hb => (first | assumption | exact (show (_ : Bool) = true by decide +kernel) | exact (show (_ : Bool) = false by decide +kernel))); walk_at "mine ct"; k_whole; intro h9 tk9 F9 N9; (try k_sweep); (try dsimp only))) | with_reducible ((with_reducible show wpAny _ _ (call (Value.ref 56) _) _ _ _); k_here; k_dflt (refine' Ct.u1 (letter_ok ?hb) ?cB ?cF ?cX ?cN ?cT ?ck ?cd ?cu ?_; (case cN => k_asm); (case hb => (first | assumption | exact (show (_ : Bool) = true by decide +kernel) | exact (show (_ : Bool) = false by decide +kernel))); walk_at "mine ct"; k_whole; intro h9 tk9 F9 N9; (try k_sweep); (try dsimp only))) | with_reducible ((with_reducible show wpAny _ _ (call (Value.ref 113) _) _ _ _); k_here; k_dflt (refine' Ct.u3 (skip_ok ?h1 ?hO ?h3 ?h4 ?h7 ?hg ?hq) ?cB ?cF ?cX ?cN ?cT ?ck ?cd ?cu ?_; (case cN => k_asm); (case h1 => first | with_reducible assumption | assumption); (case hO => first | with_reducible assumption | assumption); (case h3 => first | with_reducible assumption | assumption); (case h7 => first | with_reducible assumption | assumption); (case hg => first | with_reducible assumption | assumption); (case h4 => omega); (case hq => first | with_reducible assumption | assumption); walk_at "mine ct"; k_whole; intro t9 h9 tk9 F9 N9; (try dsimp only at N9); (try k_sweep); (try dsimp only))) | with_reducible ((with_reducible show wpAny _ _ (call (Value.ref 99) _) _ _ _); k_here; k_dflt (refine' Ct.u2 (char0_ok ?h1 ?h2 ?h3 ?h4 ?h7 ?h8) ?cB ?cF ?cX ?cN ?cT ?ck ?cd ?cu ?_; (case cN => k_asm); (case h1 => k_mem); (case h2 => k_mem); (case h8 => (first | with_reducible assumption | ((simp only [Int.add_assoc, Int.reduceAdd, Int.add_zero]); with_reducible assumption) | assumption | ((simp only [Int.add_assoc, Int.reduceAdd, Int.add_zero]); assumption))); (case h3 => omega); (case h4 => omega); (case h7 => first | with_reducible assumption | assumption); walk_at "mine ct"; k_whole; intro t9 h9 tk9 F9 N9; (try dsimp only); (try k_sweep); (try dsimp only))) | with_reducible ((with_reducible show wpAny _ _ (call (Value.ref 99) _) _ _ _); k_here; k_dflt (refine' Ct.u2 (char_ok ?h1 ?h2 ?h3 ?h4 ?h5 ?h6 ?h7 ?h8) ?cB ?cF ?cX ?cN ?cT ?ck ?cd ?cu ?_; (case cN => k_asm); (case h1 => k_mem); (case h2 => k_mem); (case h8 => (first | with_reducible assumption | ((simp only [Int.add_assoc, Int.reduceAdd, Int.add_zero]); with_reducible assumption) | assumption | ((simp only [Int.add_assoc, Int.reduceAdd, Int.add_zero]); assumption))); (case h3 => omega); (case h4 => omega); (case h5 => omega); (case h6 => omega); (case h7 => first | with_reducible assumption | assumption); walk_at "mine ct"; k_whole; intro t9 h9 tk9 F9 N9; (try dsimp only); (try k_sweep); (try dsimp only))) | with_reducible ((with_reducible show wpAny _ _ (subscriptTail (PySem.Expr.Attribute _ _ _) _ (Value.str _ _) (Value.ref _)) _ _ _); k_here; k_dflt (refine subA_turn ?_)) | with_reducible refine ite_pos (by decide) ?_ | with_reducible refine ite_neg (by decide) ?_ | (k_unfold; (try dsimp only)) | (k_end; wrow_close) | walk1 | (dsimp only; walk1) | (leave1; try dsimp only)))
      exact hret _ _ _ _ ⟨_, TkP.intro (by assumption) (by assumption) (by assumption)⟩ (by assumption) (by assumption)
    | sym a b r n c0 c1 l1 l2 e1 e2 e3 e4 e5 e6 e7 e8 =>
      subst e6
      (repeat' (first | with_reducible ((with_reducible show wpAny _ _ (call (Value.ref 183) _) _ _ _); k_here; k_dflt (refine' Ct.use (symbol_ok ?h1 ?h2 ?h3 ?h4 ?hl ?ha ?hb ?la ?lb ?hr) ?cB ?cF ?cX ?cN ?cT ?ck ?cd ?cu ?_; (case cN => k_asm); (case h1 => k_mem); (case h2 => k_mem); (case h3 => omega); (case h4 => omega); (case hl => first | with_reducible assumption | assumption); (case ha => first | with_reducible assumption | assumption); (case hb => first | with_reducible assumption | assumption); (case la => first | with_reducible assumption | assumption); (case lb => first | with_reducible assumption | assumption); (case hr => first | with_reducible assumption | assumption); walk_at "mine ct"; k_whole; intro v9 l9 h9 tk9 hP9 F9 N9; obtain ⟨e9, t9, d9⟩ := hP9; subst e9 d9; (try k_sweep); (try dsimp only))) | with_reducible ((with_reducible show wpAny _ _ (call (Value.ref 176) _) _ _ _); k_here; k_dflt (refine' Ct.utk (string_ok ?h1 ?hO ?h3 ?h4 ?hl ?c1 ?c2 ?c3) ?cB ?cF ?cX ?cN ?cT ?ck ?cd ?cu ?_; (case cN => k_asm); (case h1 => first | with_reducible assumption | assumption); (case hO => first | with_reducible assumption | assumption); (case h3 => omega); (case h4 => omega); (case hl => first | with_reducible assumption | assumption); (case c1 => first | with_reducible assumption | assumption); (case c2 => first | with_reducible assumption | assumption); (case c3 => first | with_reducible assumption | assumption); walk_at "mine ct"; k_whole; walk_at "mine tk")) | with_reducible ((with_reducible show wpAny _ _ (call (Value.ref 134) _) _ _ _); k_here; k_dflt (refine' Ct.utk (numeral_ok ?h1 ?hO ?h3 ?h4 ?hl ?c0 ?c1 ?c2 ?hn ?hs) ?cB ?cF ?cX ?cN ?cT ?ck ?cd ?cu ?_; (case cN => k_asm); (case h1 => first | with_reducible assumption | assumption); (case hO => first | with_reducible assumption | assumption); (case h3 => omega); (case h4 => omega); (case hl => first | with_reducible assumption | assumption); (case c0 => first | with_reducible assumption | assumption); (case c1 => first | with_reducible assumption | assumption); (case c2 => first | with_reducible assumption | assumption); (case hn => first | with_reducible assumption | assumption); (case hs => first | with_reducible assumption | assumption); walk_at "mine ct"; k_whole; walk_at "mine tk")) | with_reducible ((with_reducible show wpAny _ _ (call (Value.ref 127) _) _ _ _); k_here; k_dflt (refine' Ct.utk (word_ok ?h1 ?hO ?h3 ?h5 ?h4 ?hl ?hg ?hq ?hq2 ?hw ?hws ?hn ?hb) ?cB ?cF ?cX ?cN ?cT ?ck ?cd ?cu ?_; (case cN => k_asm); (case h1 => first | with_reducible assumption | assumption); (case hO => first | with_reducible assumption | assumption); (case hg => first | with_reducible assumption | assumption); (case hn => first | with_reducible assumption | assumption); (case h3 => omega); (case h4 => omega); (case hl => first | with_reducible assumption | assumption); (case h5 => omega); (case hq => first | with_reducible assumption | assumption); (case hq2 => first | with_reducible assumption | assumption); (case hw => first | with_reducible assumption | assumption); (case hws => first | with_reducible assumption | assumption); (case hb => first | with_reducible assumption | assumption); walk_at "mine ct"; k_whole; walk_at "mine tk")) | with_reducible ((with_reducible show wpAny _ _ (call (Value.ref 38) _) _ _ _); k_here; k_dflt (refine' token_use ?cB ?cF ?cX ?cN ?cT ?ck ?cd ?cu ?_; (case cN => k_asm); walk_at "mine ct"; k_whole; intro x9 y9 j91 j92 j93 h9 tk9 o9 o8 F9 N9; (try k_sweep); (try dsimp only))) | with_reducible ((with_reducible show wpAny _ _ (call (Value.ref 63) _) _ _ _); k_here; k_dflt (refine' Ct.u1 (digit_ok ?hb) ?cB ?cF ?cX ?cN ?cT ?ck ?cd ?cu ?_; (case cN => k_asm); (case hb => (first | assumption | exact (show (_ : Bool) = true by decide +kernel) | exact (show (_ : Bool) = false by decide +kernel))); walk_at "mine ct"; k_whole; intro h9 tk9 F9 N9; (try k_sweep); (try dsimp only))) | with_reducible ((with_reducible show wpAny _ _ (call (Value.ref 56) _) _ _ _); k_here; k_dflt (refine' Ct.u1 (letter_ok ?hb) ?cB ?cF ?cX ?cN ?cT ?ck ?cd ?cu ?_; (case cN => k_asm); (case hb => (first | assumption | exact (show (_ : Bool) = true by decide +kernel) | exact (show (_ : Bool) = false by decide +kernel))); walk_at "mine ct"; k_whole; intro h9 tk9 F9 N9; (try k_sweep); (try dsimp only))) | with_reducible ((with_reducible show wpAny _ _ (call (Value.ref 113) _) _ _ _); k_here; k_dflt (refine' Ct.u3 (skip_ok ?h1 ?hO ?h3 ?h4 ?h7 ?hg ?hq) ?cB ?cF ?cX ?cN ?cT ?ck ?cd ?cu ?_; (case cN => k_asm); (case h1 => first | with_reducible assumption | assumption); (case hO => first | with_reducible assumption | assumption); (case h3 => first | with_reducible assumption | assumption); (case h7 => first | with_reducible assumption | assumption); (case hg => first | with_reducible assumption | assumption); (case h4 => omega); (case hq => first | with_reducible assumption | assumption); walk_at "mine ct"; k_whole; intro t9 h9 tk9 F9 N9; (try dsimp only at N9); (try k_sweep); (try dsimp only))) | with_reducible ((with_reducible show wpAny _ _ (call (Value.ref 99) _) _ _ _); k_here; k_dflt (refine' Ct.u2 (char0_ok ?h1 ?h2 ?h3 ?h4 ?h7 ?h8) ?cB ?cF ?cX ?cN ?cT ?ck ?cd ?cu ?_; (case cN => k_asm); (case h1 => k_mem); (case h2 => k_mem); (case h8 => (first | with_reducible assumption | ((simp only [Int.add_assoc, Int.reduceAdd, Int.add_zero]); with_reducible assumption) | assumption | ((simp only [Int.add_assoc, Int.reduceAdd, Int.add_zero]); assumption))); (case h3 => omega); (case h4 => omega); (case h7 => first | with_reducible assumption | assumption); walk_at "mine ct"; k_whole; intro t9 h9 tk9 F9 N9; (try dsimp only); (try k_sweep); (try dsimp only))) | with_reducible ((with_reducible show wpAny _ _ (call (Value.ref 99) _) _ _ _); k_here; k_dflt (refine' Ct.u2 (char_ok ?h1 ?h2 ?h3 ?h4 ?h5 ?h6 ?h7 ?h8) ?cB ?cF ?cX ?cN ?cT ?ck ?cd ?cu ?_; (case cN => k_asm); (case h1 => k_mem); (case h2 => k_mem); (case h8 => (first | with_reducible assumption | ((simp only [Int.add_assoc, Int.reduceAdd, Int.add_zero]); with_reducible assumption) | assumption | ((simp only [Int.add_assoc, Int.reduceAdd, Int.add_zero]); assumption))); (case h3 => omega); (case h4 => omega); (case h5 => omega); (case h6 => omega); (case h7 => first | with_reducible assumption | assumption); walk_at "mine ct"; k_whole; intro t9 h9 tk9 F9 N9; (try dsimp only); (try k_sweep); (try dsimp only))) | with_reducible ((with_reducible show wpAny _ _ (subscriptTail (PySem.Expr.Attribute _ _ _) _ (Value.str _ _) (Value.ref _)) _ _ _); k_here; k_dflt (refine subA_turn ?_)) | with_reducible refine ite_pos (by decide) ?_ | with_reducible refine ite_neg (by decide) ?_ | (k_unfold; (try dsimp only)) | (k_end; wrow_close) | walk1 | (dsimp only; walk1) | (leave1; try dsimp only)))
      exact hret _ _ _ _ ⟨_, TkP.intro ⟨_, rfl⟩ (by assumption) (by assumption)⟩ (by assumption) (by assumption)
local macro_rules | `(tactic| walk_at "mine off") => `(tactic| first | assumption | (refine off_cons ?_ ?_; (first | assumption | omega); walk_at "mine off"))
structure RK where
  k0 : Tok
  k1 : Tok
  k2 : Tok
  k3 : Tok
  k4 : Tok
  k5 : Tok
  k6 : Tok
  k7 : Tok
  k8 : Tok
  k9 : Tok
  k10 : Tok
  k11 : Tok
  k12 : Tok
  v1 : Value
  v3 : Value
  v4 : Value
  v5 : Value
  v6 : Value
  v7 : Value
  v8 : Value
  v9 : Value
  v10 : Value
  v11 : Value
noncomputable abbrev rdD (w : World) (R : RK) (sc er tk : Addr) : Obj := dictOf [ent w "scanner" R.k0 (.ref sc), ent w "types" R.k1 R.v1, ent w "errors" R.k2 (.ref er), ent w "importer" R.k3 R.v3, ent w "scopes" R.k4 R.v4, ent w "module" R.k5 R.v5, ent w "procs" R.k6 R.v6, ent w "records" R.k7 R.v7, ent w "forwards" R.k8 R.v8, ent w "level" R.k9 R.v9, ent w "nest" R.k10 R.v10, ent w "parts" R.k11 R.v11, ent w "token" R.k12 (.ref tk)] 13
noncomputable def StP (w : World) (R : RK) (sc scd rdd er wa : Addr) (k1 k2 k3 k4 t0 : Tok) (src : Str) (rest : List (Addr × Obj)) (kd : Str) (V : Value → Prop) (q q' : Int) (l : List (Addr × Obj)) : Prop :=
  ∃ x d j1 j2 j3 tk val tp t, V val ∧ l = (x, instObj 38 d) :: (d, toD w j1 j2 j3 (.str kd tk) val (.int q tp)) :: (scd, scD w k1 k2 k3 k4 src t0 (.ref er) q' t (.ref wa)) :: (rdd, rdD w R sc er x) :: rest ∧ (∀ p ∈ rest, p.1 < d) ∧ @LT.lt Nat _ scd d ∧ @LT.lt Nat _ rdd d ∧ @LT.lt Nat _ d x
theorem step_ok {w : World} {R : RK} {rest : List (Addr × Obj)} {rd rdd sc scd er wa tk : Addr} {k1 k2 k3 k4 t0 t1 : Tok} {src : Str} {ws : List Value} {kw : List Str} {wn : Nat} {p0 q q' : Int} {kd : Str} {V : Value → Prop}
    (g1 : (rd, instObj 468 rdd) ∈ rest) (h1 : (sc, instObj 186 scd) ∈ rest) (hw : (wa, tupO ws wn) ∈ rest) (hws : StrsAre ws kw) (hO : OwnOff rest [scd]) (hO2 : OwnOff rest [rdd]) (hne : @Ne Nat rdd scd) (hl : src.length < 2 ^ 20)
    (h3 : 0 ≤ p0) (h5 : 0 ≤ q) (h4 : q < 2 ^ 17) (h6 : q' < 2 ^ 17) (hg : Gap src p0 q) (hq : Sign src q) (ht : TokAt kw src q kd V q') :
    Ct w 6 395 [.ref rd] ((scd, scD w k1 k2 k3 k4 src t0 (.ref er) p0 t1 (.ref wa)) :: (rdd, rdD w R sc er tk) :: rest) (fun v l => v = .ref tk ∧ StP w R sc scd rdd er wa k1 k2 k3 k4 t0 src rest kd V q q' l) := by
  intro prog p9 loose mean mg mb dp un gd cn cs a9 ccd cl outer A₀ base h₀ L m s Q E B F X N T hk hd hu hret
  ((have kf : (PySem.Challenge.rw_pq0763_01 = PySem.Challenge.rw_pq0763_01) ∧ (KK = KK) := by (k_fill; exact ⟨rfl, rfl⟩)); clear kf)
  have kmk := kstMark
  (first | ((with_reducible show wpAny _ _ (call (Value.ref 106) _) _ _ _); k_here; k_dflt (refine' Ct.utk (take_ok ?h1 ?hO ?h3 ?h5 ?h4 ?h6 ?hl ?hw ?hws ?hg ?hq ?ht) ?cB ?cF ?cX ?cN ?cT ?ck ?cd ?cu ?_; (case cN => k_asm); (case h1 => k_mem); (case hO => walk_at "mine off"); (case hg => first | with_reducible assumption | assumption); (case ht => first | with_reducible assumption | assumption); (case h3 => omega); (case h5 => omega); (case h4 => omega); (case h6 => omega); (case hl => first | with_reducible assumption | assumption); (case hw => k_mem); (case hws => first | with_reducible assumption | assumption); (case hq => first | with_reducible assumption | assumption); walk_at "mine ct"; k_whole; walk_at "mine tk")) | walk_at "call ref")
  (repeat' (first | with_reducible ((with_reducible show wpAny _ _ (call (Value.ref 106) _) _ _ _); k_here; k_dflt (refine' Ct.utk (take_ok ?h1 ?hO ?h3 ?h5 ?h4 ?h6 ?hl ?hw ?hws ?hg ?hq ?ht) ?cB ?cF ?cX ?cN ?cT ?ck ?cd ?cu ?_; (case cN => k_asm); (case h1 => k_mem); (case hO => walk_at "mine off"); (case hg => first | with_reducible assumption | assumption); (case ht => first | with_reducible assumption | assumption); (case h3 => omega); (case h5 => omega); (case h4 => omega); (case h6 => omega); (case hl => first | with_reducible assumption | assumption); (case hw => k_mem); (case hws => first | with_reducible assumption | assumption); (case hq => first | with_reducible assumption | assumption); walk_at "mine ct"; k_whole; walk_at "mine tk")) | with_reducible refine ite_pos (by decide) ?_ | with_reducible refine ite_neg (by decide) ?_ | (k_unfold; (try dsimp only)) | (k_end; wrow_close) | walk1 | (dsimp only; walk1) | (leave1; try dsimp only)))
  rename ∀ p : Addr × Obj, p ∈ _ → @LT.lt Nat _ p.1 _ => o9
  exact hret _ _ _ _ ⟨rfl, _, _, _, _, _, _, _, _, _, by assumption, rfl, fun p hp => o9 p (.tail _ (.tail _ hp)), o9 _ (.head _), o9 _ (.tail _ (.head _)), by assumption⟩ (by assumption) (by assumption)
noncomputable def CtQ (prog : Program) (w : World) (d : Nat) (f : Addr) (vs : List Value) (led : List (Addr × Obj)) (Post : Value → List (Addr × Obj) → Prop) : Prop :=
  ∀ (p : Program) (loose : List Str) (mean : ExcName → Option Value) (mg mb : Str → Option Value)
    (dp un : Nat) (gd : Option (List Code)) (cn : Str) (cs : Scope) (a : Addr) (ccd : Value) (cl : List (Str × Addr)) (outer : List Env) (A₀ : Around) (base h₀ : Heap) (L : Addr) (m : Str → Option Value) (s : Shared) (Q E : Value → Shared → Prop),
    Below A₀ base outer h₀ → Fr h₀ L s.heap m → (KK w.params).In h₀ → News h₀ L s.heap led → Top p loose mean mg mb h₀ → cs.kind = .function → dp + d < recursionLimit → un + 8 * d < cLine →
    (∀ v l h' tk', Post v l → Fr h₀ L h' m → News h₀ L h' l → Q v { s with heap := h', toks := tk' }) →
    wpAny (model prog w) (ktrTop dp un gd cn cs L a ccd cl outer) (call (.ref f) vs) Q E s
theorem CtQ.use {prog : Program} {w : World} {d : Nat} {f : Addr} {vs : List Value} {led : List (Addr × Obj)} {Post : Value → List (Addr × Obj) → Prop} (C : CtQ prog w d f vs led Post)
    {p : Program} {loose : List Str} {mean : ExcName → Option Value} {mg mb : Str → Option Value}
    {dp un : Nat} {gd : Option (List Code)} {cn : Str} {cs : Scope} {a : Addr} {ccd : Value} {cl : List (Str × Addr)} {outer : List Env} {A₀ : Around} {base h₀ : Heap} {L : Addr} {m : Str → Option Value} {s : Shared} {Q E : Value → Shared → Prop}
    (B : Below A₀ base outer h₀) (F : Fr h₀ L s.heap m) (X : (KK w.params).In h₀) (N : News h₀ L s.heap led) (T : Top p loose mean mg mb h₀) (hk : cs.kind = .function) (hd : dp + d < recursionLimit) (hu : un + 8 * d < cLine)
    (ret : ∀ v l h' tk', Post v l → Fr h₀ L h' m → News h₀ L h' l → Q v { s with heap := h', toks := tk' }) :
    wpAny (model prog w) (ktrTop dp un gd cn cs L a ccd cl outer) (call (.ref f) vs) Q E s := C _ _ _ _ _ _ _ _ _ _ _ _ _ _ _ _ _ _ _ _ _ _ B F X N T hk hd hu ret
noncomputable abbrev erD (w : World) (j1 j2 : Tok) (ero erp : Addr) : Obj := dictOf [ent w "rows" j1 (.ref ero), ent w "places" j2 (.ref erp)] 2
theorem emark_no {prog : Program} {w : World} {rest : List (Addr × Obj)} {er erd ero erp : Addr} {j1 j2 tp tc : Tok} {vs : List Value} {n : Nat} {po : Obj} {kvs : List (Int × Value)} {D : List (PyData × PyData)} {pl : Int} {code : Str}
    (h1 : (er, instObj 510 erd) ∈ rest) (h2 : (erd, erD w j1 j2 ero erp) ∈ rest) (hO : OwnOff rest [ero]) (hO2 : OwnOff rest [erp]) (hne : @Ne Nat ero erp) (hd : po.IsDictOf (intKind prog w) kvs) (hf : FlatPairs PyData.int kvs D) (hs : (erp == sysModules) = false) (hD : D.length ≤ 100) (hv : vs.length ≤ 100)
    (hb : (PySem.Spec.lookup (PyData.int pl) D).isSome = false) :
    CtQ prog w 1 493 [.ref er, .int pl tp, .str code tc] ((ero, listOf vs.toArray n) :: (erp, po) :: rest) (fun v l => v = .none ∧ ∃ a po' n', l = (a, tupO [.int pl tp, .str code tc] n') :: (ero, listOf (vs ++ [Value.ref a]).toArray (n + 1)) :: (erp, po') :: rest ∧ po'.IsDictOf (intKind prog w) (stored kvs pl (.str code tc)) ∧ FlatPairs PyData.int (stored kvs pl (.str code tc)) (putD (PyData.int pl) (PyData.str code) D) ∧ (∀ p ∈ rest, p.1 < a) ∧ @LT.lt Nat _ ero a ∧ @LT.lt Nat _ erp a) := by
  intro p9 loose mean mg mb dp un gd cn cs a9 ccd cl outer A₀ base h₀ L m s Q E B F X N T hk hd hu hret
  ((have kf : (PySem.Challenge.rw_pq0763_01 = PySem.Challenge.rw_pq0763_01) ∧ (KK = KK) := by (k_fill; exact ⟨rfl, rfl⟩)); clear kf)
  have kmk := kstMark
  walk_at "call ref"
  (repeat' (first | with_reducible ((with_reducible show wpAny _ _ (setItem (Value.ref _) (Value.int _ _) _) _ _ _); k_here; k_dflt (refine' setItem_K PyProof.V.same_int (intKind_is _ _ _ _) ?v ?F ?N ?U ?d ?f ?_ ?z; (case F => k_asm); (case N => k_asm); (case U => k_updF); (case d => k_asm); (case f => k_asm); (case z => (rw [sizeLine_eq]; omega)); (case v => k_flat)); intro h' o' F' N' hd' hf'; (try dsimp only at N'); (try k_sweep)) | with_reducible refine ite_pos (by decide) ?_ | with_reducible refine ite_neg (by decide) ?_ | (k_unfold; (try dsimp only)) | (k_end; wrow_close) | walk1 | (dsimp only; walk1) | (leave1; try dsimp only)))
  rename _ ∧ _ ∧ AllLt _ _ => l1
  rename News h₀ L _ _ => N9
  rw [List.push_toArray] at N9
  exact hret _ _ _ _ ⟨rfl, _, _, _, rfl, by assumption, by assumption, kst_ltOf l1.2.2, l1.1, l1.2.1⟩ (by assumption) N9
theorem emark_yes {prog : Program} {w : World} {led : List (Addr × Obj)} {er erd ero erp : Addr} {j1 j2 tp : Tok} {cv : Value} {po : Obj} {kvs : List (Int × Value)} {D : List (PyData × PyData)} {pl : Int}
    (h1 : (er, instObj 510 erd) ∈ led) (h2 : (erd, erD w j1 j2 ero erp) ∈ led) (h3 : (erp, po) ∈ led) (hd : po.IsDictOf (intKind prog w) kvs) (hf : FlatPairs PyData.int kvs D) (hs : (erp == sysModules) = false)
    (hb : (PySem.Spec.lookup (PyData.int pl) D).isSome = true) :
    CtQ prog w 1 493 [.ref er, .int pl tp, cv] led (fun v l => v = .none ∧ l = led) := by
  intro p9 loose mean mg mb dp un gd cn cs a9 ccd cl outer A₀ base h₀ L m s Q E B F X N T hk hd hu hret
  ((have kf : (PySem.Challenge.rw_pq0763_01 = PySem.Challenge.rw_pq0763_01) ∧ (KK = KK) := by (k_fill; exact ⟨rfl, rfl⟩)); clear kf)
  walk_at "call ref"
  (repeat' (first | with_reducible ((with_reducible show wpAny _ _ (setItem (Value.ref _) (Value.int _ _) _) _ _ _); k_here; k_dflt (refine' setItem_K PyProof.V.same_int (intKind_is _ _ _ _) ?v ?F ?N ?U ?d ?f ?_ ?z; (case F => k_asm); (case N => k_asm); (case U => k_updF); (case d => k_asm); (case f => k_asm); (case z => (rw [sizeLine_eq]; omega)); (case v => k_flat)); intro h' o' F' N' hd' hf'; (try dsimp only at N'); (try k_sweep)) | with_reducible refine ite_pos (by decide) ?_ | with_reducible refine ite_neg (by decide) ?_ | (k_unfold; (try dsimp only)) | (k_end; wrow_close) | walk1 | (dsimp only; walk1) | (leave1; try dsimp only)))
  exact hret _ _ _ _ ⟨rfl, rfl⟩ (by assumption) (by assumption)
inductive Pick (a : Addr × Obj) : List (Addr × Obj) → List (Addr × Obj) → Prop
  | head {r} : Pick a (a :: r) r
  | tail {b l r} : Pick a l r → Pick a (b :: l) (b :: r)
theorem Pick.sub {a : Addr × Obj} {l r : List (Addr × Obj)} (h : Pick a l r) : ∀ p ∈ a :: r, p ∈ l := by
  induction h with
  | head => exact fun _ h => h
  | tail _ ih =>
    intro p hp
    rcases List.mem_cons.mp hp with e | hp
    · exact .tail _ (ih p (e ▸ .head _))
    rcases List.mem_cons.mp hp with e | hp
    · exact e ▸ .head _
    · exact .tail _ (ih p (.tail _ hp))
theorem pick1 {h₀ h : Heap} {L : Addr} {a : Addr × Obj} {l r : List (Addr × Obj)} (N : News h₀ L h l) (p : Pick a l r) : News h₀ L h (a :: r) := kst_newsOf N p.sub
theorem pick2 {h₀ h : Heap} {L : Addr} {a b : Addr × Obj} {l r r2 : List (Addr × Obj)} (N : News h₀ L h l) (p : Pick a l r) (q : Pick b r r2) : News h₀ L h (a :: b :: r2) := kst_newsOf N fun x hx => by
  rcases List.mem_cons.mp hx with e | hx
  · exact p.sub _ (e ▸ .head _)
  · exact p.sub _ (.tail _ (q.sub _ hx))
theorem pick4 {h₀ h : Heap} {L : Addr} {a b c d : Addr × Obj} {l r r2 r3 r4 : List (Addr × Obj)} (N : News h₀ L h l) (p : Pick a l r) (q : Pick b r r2) (q3 : Pick c r2 r3) (q4 : Pick d r3 r4) : News h₀ L h (a :: b :: c :: d :: r4) := kst_newsOf (pick2 N p q) fun x hx => by
  rcases List.mem_cons.mp hx with e | hx
  · exact e ▸ .head _
  rcases List.mem_cons.mp hx with e | hx
  · exact e ▸ .tail _ (.head _)
  rcases List.mem_cons.mp hx with e | hx
  · exact .tail _ (.tail _ (q3.sub _ (e ▸ .head _)))
  · exact .tail _ (.tail _ (q3.sub _ (.tail _ (q4.sub _ hx))))
local macro_rules | `(tactic| walk_at "mine pick") => `(tactic| first | exact Pick.head | (refine' Pick.tail ?pk; (case pk => walk_at "mine pick")))
theorem CtQ.of_news {prog : Program} {w : World} {d : Nat} {f : Addr} {vs : List Value} {led led' : List (Addr × Obj)} {Post : Value → List (Addr × Obj) → Prop} (hn : ∀ p ∈ led', p ∈ led) (C : CtQ prog w d f vs led' Post) : CtQ prog w d f vs led Post := by
  intro p9 loose mean mg mb dp un gd cn cs a9 ccd cl outer A₀ base h₀ L m s Q E B F X N T hk hd hu hret
  exact C _ _ _ _ _ _ _ _ _ _ _ _ _ _ _ _ _ _ _ _ _ _ B F X (kst_newsOf N hn) T hk hd hu hret
theorem Ct.q {prog : Program} {w : World} {d : Nat} {f : Addr} {vs : List Value} {led : List (Addr × Obj)} {Post : Value → List (Addr × Obj) → Prop} (C : Ct w d f vs led Post) : CtQ prog w d f vs led Post := by
  intro p9 loose mean mg mb dp un gd cn cs a9 ccd cl outer A₀ base h₀ L m s Q E B F X N T hk hd hu hret
  exact C _ _ _ _ _ _ _ _ _ _ _ _ _ _ _ _ _ _ _ _ _ _ _ B F X N T hk hd hu hret
theorem CtQ.post {prog : Program} {w : World} {d : Nat} {f : Addr} {vs : List Value} {led : List (Addr × Obj)} {P P' : Value → List (Addr × Obj) → Prop} (C : CtQ prog w d f vs led P) (h : ∀ v l, P v l → P' v l) : CtQ prog w d f vs led P' := by
  intro p9 loose mean mg mb dp un gd cn cs a9 ccd cl outer A₀ base h₀ L m s Q E B F X N T hk hd hu hret
  exact C _ _ _ _ _ _ _ _ _ _ _ _ _ _ _ _ _ _ _ _ _ _ B F X N T hk hd hu fun v l h' tk' hp => hret v l h' tk' (h v l hp)
section
variable {prog : Program} {w : World} {R : RK} {led : List (Addr × Obj)} {rd rdd sc er tk tkd erd ero erp : Addr} {i1 i2 j1 j2 j3 tkk tkp tq tz : Tok} {kd kind code : Str} {val : Value} {pl : Int} {Post : Value → List (Addr × Obj) → Prop} {PostT : Tok → Value → List (Addr × Obj) → Prop}
theorem rmark_ok (g1 : (rd, instObj 468 rdd) ∈ led) (g2 : (rdd, rdD w R sc er tk) ∈ led) (g3 : (tk, instObj 38 tkd) ∈ led) (g4 : (tkd, toD w j1 j2 j3 (.str kd tkk) val (.int pl tkp)) ∈ led)
    (g5 : (er, instObj 510 erd) ∈ led) (g6 : (erd, erD w i1 i2 ero erp) ∈ led) (C : CtQ prog w 1 493 [.ref er, .int pl tkp, .str code tq] led Post) : CtQ prog w 2 423 [.ref rd, .str code tq] led (fun v l => v = .none ∧ ∃ v0, Post v0 l) := by
  intro p9 loose mean mg mb dp un gd cn cs a9 ccd cl outer A₀ base h₀ L m s Q E B F X N T hk hd hu hret
  ((have kf : (PySem.Challenge.rw_pq0763_01 = PySem.Challenge.rw_pq0763_01) ∧ (KK = KK) := by (k_fill; exact ⟨rfl, rfl⟩)); clear kf)
  (first | ((with_reducible show wpAny _ _ (call (Value.ref 402) _) _ _ _); k_here; (k_dflt (refine' CtQ.use ?hC ?cB ?cF ?cX ?cN ?cT ?ck ?cd ?cu ?_; (case hC => first | assumption | apply_assumption); (case cN => k_asm); walk_at "mine ct"; k_whole; intro v9 l9 h9 tk9 hP9 F9 N9; (try dsimp only at hP9); (try dsimp only)))) | ((with_reducible show wpAny _ _ (call (Value.ref 423) _) _ _ _); k_here; (k_dflt (refine' CtQ.use ?hC ?cB ?cF ?cX ?cN ?cT ?ck ?cd ?cu ?_; (case hC => first | assumption | apply_assumption); (case cN => k_asm); walk_at "mine ct"; k_whole; intro v9 l9 h9 tk9 hP9 F9 N9; (try dsimp only at hP9); (try dsimp only)))) | ((with_reducible show wpAny _ _ (call (Value.ref 409) _) _ _ _); k_here; (k_dflt (refine' CtQ.use ?hC ?cB ?cF ?cX ?cN ?cT ?ck ?cd ?cu ?_; (case hC => first | assumption | apply_assumption); (case cN => k_asm); walk_at "mine ct"; k_whole; intro v9 l9 h9 tk9 hP9 F9 N9; (try dsimp only at hP9); (try dsimp only)))) | ((with_reducible show wpAny _ _ (call (Value.ref 395) _) _ _ _); k_here; (k_dflt (refine' CtQ.use ?hC ?cB ?cF ?cX ?cN ?cT ?ck ?cd ?cu ?_; (case hC => first | assumption | apply_assumption); (case cN => k_asm); walk_at "mine ct"; k_whole; intro v9 l9 h9 tk9 hP9 F9 N9; (try dsimp only at hP9); (try dsimp only)))) | ((with_reducible show wpAny _ _ (call (Value.ref 493) _) _ _ _); k_here; (k_dflt (refine' CtQ.use ?hC ?cB ?cF ?cX ?cN ?cT ?ck ?cd ?cu ?_; (case hC => first | assumption | apply_assumption); (case cN => k_asm); walk_at "mine ct"; k_whole; intro v9 l9 h9 tk9 hP9 F9 N9; (try dsimp only at hP9); (try dsimp only)))) | ((with_reducible show wpAny _ _ (call (Value.ref 493) _) _ _ _); k_here; k_dflt (refine' CtQ.use (emark_no ?h1 ?h2 ?hO ?hO2 ?hne ?hd ?hf ?hs ?hD ?hv ?hb) ?cB ?cF ?cX ?cN ?cT ?ck ?cd ?cu ?_; (case hd => first | with_reducible assumption | assumption); (case hf => first | with_reducible assumption | assumption); (case hb => first | with_reducible assumption | assumption); (case cN => exact pick2 (by k_asm) (by walk_at "mine pick") (by walk_at "mine pick")); (case h1 => k_mem); (case h2 => k_mem); (case hO => walk_at "mine off"); (case hO2 => walk_at "mine off"); (case hne => first | assumption | omega); (case hs => first | with_reducible assumption | assumption); (case hD => first | assumption | omega); (case hv => first | assumption | omega); walk_at "mine ct"; k_whole; (intro v9 l9 h9 tk9 hP9 F9 N9; obtain ⟨d9, a9, q9, n9, e9, i9, f9, o9, o8, o7⟩ := hP9; subst e9 d9; (have o5 := o9); (k_lt o5); (have o6 := ltN o8); (have o4 := ltN o7); (try k_sweep); (try dsimp only)))) | ((with_reducible show wpAny _ _ (call (Value.ref 493) _) _ _ _); k_here; k_dflt (refine' CtQ.use (emark_yes ?h1 ?h2 ?h3 ?hd ?hf ?hs ?hb) ?cB ?cF ?cX ?cN ?cT ?ck ?cd ?cu ?_; (case cN => k_asm); (case h1 => k_mem); (case h2 => k_mem); (case h3 => k_mem); (case hd => first | with_reducible assumption | assumption); (case hf => first | with_reducible assumption | assumption); (case hs => first | with_reducible assumption | assumption); (case hb => first | with_reducible assumption | assumption); walk_at "mine ct"; k_whole; (intro v9 l9 h9 tk9 hP9 F9 N9; obtain ⟨e9, d9⟩ := hP9; subst e9 d9; (try k_sweep); (try dsimp only)))) | walk_at "call ref")
  (repeat' (first | with_reducible ((with_reducible show wpAny _ _ (call (Value.ref 402) _) _ _ _); k_here; (k_dflt (refine' CtQ.use ?hC ?cB ?cF ?cX ?cN ?cT ?ck ?cd ?cu ?_; (case hC => first | assumption | apply_assumption); (case cN => k_asm); walk_at "mine ct"; k_whole; intro v9 l9 h9 tk9 hP9 F9 N9; (try dsimp only at hP9); (try dsimp only)))) | with_reducible ((with_reducible show wpAny _ _ (call (Value.ref 423) _) _ _ _); k_here; (k_dflt (refine' CtQ.use ?hC ?cB ?cF ?cX ?cN ?cT ?ck ?cd ?cu ?_; (case hC => first | assumption | apply_assumption); (case cN => k_asm); walk_at "mine ct"; k_whole; intro v9 l9 h9 tk9 hP9 F9 N9; (try dsimp only at hP9); (try dsimp only)))) | with_reducible ((with_reducible show wpAny _ _ (call (Value.ref 409) _) _ _ _); k_here; (k_dflt (refine' CtQ.use ?hC ?cB ?cF ?cX ?cN ?cT ?ck ?cd ?cu ?_; (case hC => first | assumption | apply_assumption); (case cN => k_asm); walk_at "mine ct"; k_whole; intro v9 l9 h9 tk9 hP9 F9 N9; (try dsimp only at hP9); (try dsimp only)))) | with_reducible ((with_reducible show wpAny _ _ (call (Value.ref 395) _) _ _ _); k_here; (k_dflt (refine' CtQ.use ?hC ?cB ?cF ?cX ?cN ?cT ?ck ?cd ?cu ?_; (case hC => first | assumption | apply_assumption); (case cN => k_asm); walk_at "mine ct"; k_whole; intro v9 l9 h9 tk9 hP9 F9 N9; (try dsimp only at hP9); (try dsimp only)))) | with_reducible ((with_reducible show wpAny _ _ (call (Value.ref 493) _) _ _ _); k_here; (k_dflt (refine' CtQ.use ?hC ?cB ?cF ?cX ?cN ?cT ?ck ?cd ?cu ?_; (case hC => first | assumption | apply_assumption); (case cN => k_asm); walk_at "mine ct"; k_whole; intro v9 l9 h9 tk9 hP9 F9 N9; (try dsimp only at hP9); (try dsimp only)))) | with_reducible ((with_reducible show wpAny _ _ (call (Value.ref 493) _) _ _ _); k_here; k_dflt (refine' CtQ.use (emark_no ?h1 ?h2 ?hO ?hO2 ?hne ?hd ?hf ?hs ?hD ?hv ?hb) ?cB ?cF ?cX ?cN ?cT ?ck ?cd ?cu ?_; (case hd => first | with_reducible assumption | assumption); (case hf => first | with_reducible assumption | assumption); (case hb => first | with_reducible assumption | assumption); (case cN => exact pick2 (by k_asm) (by walk_at "mine pick") (by walk_at "mine pick")); (case h1 => k_mem); (case h2 => k_mem); (case hO => walk_at "mine off"); (case hO2 => walk_at "mine off"); (case hne => first | assumption | omega); (case hs => first | with_reducible assumption | assumption); (case hD => first | assumption | omega); (case hv => first | assumption | omega); walk_at "mine ct"; k_whole; (intro v9 l9 h9 tk9 hP9 F9 N9; obtain ⟨d9, a9, q9, n9, e9, i9, f9, o9, o8, o7⟩ := hP9; subst e9 d9; (have o5 := o9); (k_lt o5); (have o6 := ltN o8); (have o4 := ltN o7); (try k_sweep); (try dsimp only)))) | with_reducible ((with_reducible show wpAny _ _ (call (Value.ref 493) _) _ _ _); k_here; k_dflt (refine' CtQ.use (emark_yes ?h1 ?h2 ?h3 ?hd ?hf ?hs ?hb) ?cB ?cF ?cX ?cN ?cT ?ck ?cd ?cu ?_; (case cN => k_asm); (case h1 => k_mem); (case h2 => k_mem); (case h3 => k_mem); (case hd => first | with_reducible assumption | assumption); (case hf => first | with_reducible assumption | assumption); (case hs => first | with_reducible assumption | assumption); (case hb => first | with_reducible assumption | assumption); walk_at "mine ct"; k_whole; (intro v9 l9 h9 tk9 hP9 F9 N9; obtain ⟨e9, d9⟩ := hP9; subst e9 d9; (try k_sweep); (try dsimp only)))) | with_reducible refine ite_pos (by decide) ?_ | with_reducible refine ite_neg (by decide) ?_ | (k_unfold; (try dsimp only)) | (k_end; wrow_close) | walk1 | (dsimp only; walk1) | (leave1; try dsimp only)))
  exact hret _ _ _ _ ⟨rfl, _, by assumption⟩ (by assumption) (by assumption)
theorem at_ok (g1 : (rd, instObj 468 rdd) ∈ led) (g2 : (rdd, rdD w R sc er tk) ∈ led) (g3 : (tk, instObj 38 tkd) ∈ led) (g4 : (tkd, toD w j1 j2 j3 (.str kd tkk) val (.int pl tkp)) ∈ led) {b : Bool} (hb : (kd == kind) = b) :
    CtQ prog w 1 402 [.ref rd, .str kind tq] led (fun v l => v = .bool b ∧ l = led) := by
  intro p9 loose mean mg mb dp un gd cn cs a9 ccd cl outer A₀ base h₀ L m s Q E B F X N T hk hd hu hret
  ((have kf : (PySem.Challenge.rw_pq0763_01 = PySem.Challenge.rw_pq0763_01) ∧ (KK = KK) := by (k_fill; exact ⟨rfl, rfl⟩)); clear kf)
  (first | ((with_reducible show wpAny _ _ (call (Value.ref 402) _) _ _ _); k_here; (k_dflt (refine' CtQ.use ?hC ?cB ?cF ?cX ?cN ?cT ?ck ?cd ?cu ?_; (case hC => first | assumption | apply_assumption); (case cN => k_asm); walk_at "mine ct"; k_whole; intro v9 l9 h9 tk9 hP9 F9 N9; (try dsimp only at hP9); (try dsimp only)))) | ((with_reducible show wpAny _ _ (call (Value.ref 423) _) _ _ _); k_here; (k_dflt (refine' CtQ.use ?hC ?cB ?cF ?cX ?cN ?cT ?ck ?cd ?cu ?_; (case hC => first | assumption | apply_assumption); (case cN => k_asm); walk_at "mine ct"; k_whole; intro v9 l9 h9 tk9 hP9 F9 N9; (try dsimp only at hP9); (try dsimp only)))) | ((with_reducible show wpAny _ _ (call (Value.ref 409) _) _ _ _); k_here; (k_dflt (refine' CtQ.use ?hC ?cB ?cF ?cX ?cN ?cT ?ck ?cd ?cu ?_; (case hC => first | assumption | apply_assumption); (case cN => k_asm); walk_at "mine ct"; k_whole; intro v9 l9 h9 tk9 hP9 F9 N9; (try dsimp only at hP9); (try dsimp only)))) | ((with_reducible show wpAny _ _ (call (Value.ref 395) _) _ _ _); k_here; (k_dflt (refine' CtQ.use ?hC ?cB ?cF ?cX ?cN ?cT ?ck ?cd ?cu ?_; (case hC => first | assumption | apply_assumption); (case cN => k_asm); walk_at "mine ct"; k_whole; intro v9 l9 h9 tk9 hP9 F9 N9; (try dsimp only at hP9); (try dsimp only)))) | ((with_reducible show wpAny _ _ (call (Value.ref 493) _) _ _ _); k_here; (k_dflt (refine' CtQ.use ?hC ?cB ?cF ?cX ?cN ?cT ?ck ?cd ?cu ?_; (case hC => first | assumption | apply_assumption); (case cN => k_asm); walk_at "mine ct"; k_whole; intro v9 l9 h9 tk9 hP9 F9 N9; (try dsimp only at hP9); (try dsimp only)))) | ((with_reducible show wpAny _ _ (call (Value.ref 493) _) _ _ _); k_here; k_dflt (refine' CtQ.use (emark_no ?h1 ?h2 ?hO ?hO2 ?hne ?hd ?hf ?hs ?hD ?hv ?hb) ?cB ?cF ?cX ?cN ?cT ?ck ?cd ?cu ?_; (case hd => first | with_reducible assumption | assumption); (case hf => first | with_reducible assumption | assumption); (case hb => first | with_reducible assumption | assumption); (case cN => exact pick2 (by k_asm) (by walk_at "mine pick") (by walk_at "mine pick")); (case h1 => k_mem); (case h2 => k_mem); (case hO => walk_at "mine off"); (case hO2 => walk_at "mine off"); (case hne => first | assumption | omega); (case hs => first | with_reducible assumption | assumption); (case hD => first | assumption | omega); (case hv => first | assumption | omega); walk_at "mine ct"; k_whole; (intro v9 l9 h9 tk9 hP9 F9 N9; obtain ⟨d9, a9, q9, n9, e9, i9, f9, o9, o8, o7⟩ := hP9; subst e9 d9; (have o5 := o9); (k_lt o5); (have o6 := ltN o8); (have o4 := ltN o7); (try k_sweep); (try dsimp only)))) | ((with_reducible show wpAny _ _ (call (Value.ref 493) _) _ _ _); k_here; k_dflt (refine' CtQ.use (emark_yes ?h1 ?h2 ?h3 ?hd ?hf ?hs ?hb) ?cB ?cF ?cX ?cN ?cT ?ck ?cd ?cu ?_; (case cN => k_asm); (case h1 => k_mem); (case h2 => k_mem); (case h3 => k_mem); (case hd => first | with_reducible assumption | assumption); (case hf => first | with_reducible assumption | assumption); (case hs => first | with_reducible assumption | assumption); (case hb => first | with_reducible assumption | assumption); walk_at "mine ct"; k_whole; (intro v9 l9 h9 tk9 hP9 F9 N9; obtain ⟨e9, d9⟩ := hP9; subst e9 d9; (try k_sweep); (try dsimp only)))) | walk_at "call ref")
  (repeat' (first | with_reducible ((with_reducible show wpAny _ _ (call (Value.ref 402) _) _ _ _); k_here; (k_dflt (refine' CtQ.use ?hC ?cB ?cF ?cX ?cN ?cT ?ck ?cd ?cu ?_; (case hC => first | assumption | apply_assumption); (case cN => k_asm); walk_at "mine ct"; k_whole; intro v9 l9 h9 tk9 hP9 F9 N9; (try dsimp only at hP9); (try dsimp only)))) | with_reducible ((with_reducible show wpAny _ _ (call (Value.ref 423) _) _ _ _); k_here; (k_dflt (refine' CtQ.use ?hC ?cB ?cF ?cX ?cN ?cT ?ck ?cd ?cu ?_; (case hC => first | assumption | apply_assumption); (case cN => k_asm); walk_at "mine ct"; k_whole; intro v9 l9 h9 tk9 hP9 F9 N9; (try dsimp only at hP9); (try dsimp only)))) | with_reducible ((with_reducible show wpAny _ _ (call (Value.ref 409) _) _ _ _); k_here; (k_dflt (refine' CtQ.use ?hC ?cB ?cF ?cX ?cN ?cT ?ck ?cd ?cu ?_; (case hC => first | assumption | apply_assumption); (case cN => k_asm); walk_at "mine ct"; k_whole; intro v9 l9 h9 tk9 hP9 F9 N9; (try dsimp only at hP9); (try dsimp only)))) | with_reducible ((with_reducible show wpAny _ _ (call (Value.ref 395) _) _ _ _); k_here; (k_dflt (refine' CtQ.use ?hC ?cB ?cF ?cX ?cN ?cT ?ck ?cd ?cu ?_; (case hC => first | assumption | apply_assumption); (case cN => k_asm); walk_at "mine ct"; k_whole; intro v9 l9 h9 tk9 hP9 F9 N9; (try dsimp only at hP9); (try dsimp only)))) | with_reducible ((with_reducible show wpAny _ _ (call (Value.ref 493) _) _ _ _); k_here; (k_dflt (refine' CtQ.use ?hC ?cB ?cF ?cX ?cN ?cT ?ck ?cd ?cu ?_; (case hC => first | assumption | apply_assumption); (case cN => k_asm); walk_at "mine ct"; k_whole; intro v9 l9 h9 tk9 hP9 F9 N9; (try dsimp only at hP9); (try dsimp only)))) | with_reducible ((with_reducible show wpAny _ _ (call (Value.ref 493) _) _ _ _); k_here; k_dflt (refine' CtQ.use (emark_no ?h1 ?h2 ?hO ?hO2 ?hne ?hd ?hf ?hs ?hD ?hv ?hb) ?cB ?cF ?cX ?cN ?cT ?ck ?cd ?cu ?_; (case hd => first | with_reducible assumption | assumption); (case hf => first | with_reducible assumption | assumption); (case hb => first | with_reducible assumption | assumption); (case cN => exact pick2 (by k_asm) (by walk_at "mine pick") (by walk_at "mine pick")); (case h1 => k_mem); (case h2 => k_mem); (case hO => walk_at "mine off"); (case hO2 => walk_at "mine off"); (case hne => first | assumption | omega); (case hs => first | with_reducible assumption | assumption); (case hD => first | assumption | omega); (case hv => first | assumption | omega); walk_at "mine ct"; k_whole; (intro v9 l9 h9 tk9 hP9 F9 N9; obtain ⟨d9, a9, q9, n9, e9, i9, f9, o9, o8, o7⟩ := hP9; subst e9 d9; (have o5 := o9); (k_lt o5); (have o6 := ltN o8); (have o4 := ltN o7); (try k_sweep); (try dsimp only)))) | with_reducible ((with_reducible show wpAny _ _ (call (Value.ref 493) _) _ _ _); k_here; k_dflt (refine' CtQ.use (emark_yes ?h1 ?h2 ?h3 ?hd ?hf ?hs ?hb) ?cB ?cF ?cX ?cN ?cT ?ck ?cd ?cu ?_; (case cN => k_asm); (case h1 => k_mem); (case h2 => k_mem); (case h3 => k_mem); (case hd => first | with_reducible assumption | assumption); (case hf => first | with_reducible assumption | assumption); (case hs => first | with_reducible assumption | assumption); (case hb => first | with_reducible assumption | assumption); walk_at "mine ct"; k_whole; (intro v9 l9 h9 tk9 hP9 F9 N9; obtain ⟨e9, d9⟩ := hP9; subst e9 d9; (try k_sweep); (try dsimp only)))) | with_reducible refine ite_pos (by decide) ?_ | with_reducible refine ite_neg (by decide) ?_ | (k_unfold; (try dsimp only)) | (k_end; wrow_close) | walk1 | (dsimp only; walk1) | (leave1; try dsimp only)))
  exact hret _ _ _ _ ⟨rfl, rfl⟩ (by assumption) (by assumption)
theorem skip_yes (g1 : (rd, instObj 468 rdd) ∈ led) (g2 : (rdd, rdD w R sc er tk) ∈ led) (g3 : (tk, instObj 38 tkd) ∈ led) (g4 : (tkd, toD w j1 j2 j3 (.str kd tkk) val (.int pl tkp)) ∈ led) (hb : (kd == kind) = true)
    (C : CtQ prog w 6 395 [.ref rd] led Post) :
    CtQ prog w 7 409 [.ref rd, .str kind tq] led (fun v l => v = .bool true ∧ ∃ v0, Post v0 l) := by
  intro p9 loose mean mg mb dp un gd cn cs a9 ccd cl outer A₀ base h₀ L m s Q E B F X N T hk hd hu hret
  ((have kf : (PySem.Challenge.rw_pq0763_01 = PySem.Challenge.rw_pq0763_01) ∧ (KK = KK) := by (k_fill; exact ⟨rfl, rfl⟩)); clear kf)
  (first | ((with_reducible show wpAny _ _ (call (Value.ref 402) _) _ _ _); k_here; (k_dflt (refine' CtQ.use ?hC ?cB ?cF ?cX ?cN ?cT ?ck ?cd ?cu ?_; (case hC => first | assumption | apply_assumption); (case cN => k_asm); walk_at "mine ct"; k_whole; intro v9 l9 h9 tk9 hP9 F9 N9; (try dsimp only at hP9); (try dsimp only)))) | ((with_reducible show wpAny _ _ (call (Value.ref 423) _) _ _ _); k_here; (k_dflt (refine' CtQ.use ?hC ?cB ?cF ?cX ?cN ?cT ?ck ?cd ?cu ?_; (case hC => first | assumption | apply_assumption); (case cN => k_asm); walk_at "mine ct"; k_whole; intro v9 l9 h9 tk9 hP9 F9 N9; (try dsimp only at hP9); (try dsimp only)))) | ((with_reducible show wpAny _ _ (call (Value.ref 409) _) _ _ _); k_here; (k_dflt (refine' CtQ.use ?hC ?cB ?cF ?cX ?cN ?cT ?ck ?cd ?cu ?_; (case hC => first | assumption | apply_assumption); (case cN => k_asm); walk_at "mine ct"; k_whole; intro v9 l9 h9 tk9 hP9 F9 N9; (try dsimp only at hP9); (try dsimp only)))) | ((with_reducible show wpAny _ _ (call (Value.ref 395) _) _ _ _); k_here; (k_dflt (refine' CtQ.use ?hC ?cB ?cF ?cX ?cN ?cT ?ck ?cd ?cu ?_; (case hC => first | assumption | apply_assumption); (case cN => k_asm); walk_at "mine ct"; k_whole; intro v9 l9 h9 tk9 hP9 F9 N9; (try dsimp only at hP9); (try dsimp only)))) | ((with_reducible show wpAny _ _ (call (Value.ref 493) _) _ _ _); k_here; (k_dflt (refine' CtQ.use ?hC ?cB ?cF ?cX ?cN ?cT ?ck ?cd ?cu ?_; (case hC => first | assumption | apply_assumption); (case cN => k_asm); walk_at "mine ct"; k_whole; intro v9 l9 h9 tk9 hP9 F9 N9; (try dsimp only at hP9); (try dsimp only)))) | ((with_reducible show wpAny _ _ (call (Value.ref 493) _) _ _ _); k_here; k_dflt (refine' CtQ.use (emark_no ?h1 ?h2 ?hO ?hO2 ?hne ?hd ?hf ?hs ?hD ?hv ?hb) ?cB ?cF ?cX ?cN ?cT ?ck ?cd ?cu ?_; (case hd => first | with_reducible assumption | assumption); (case hf => first | with_reducible assumption | assumption); (case hb => first | with_reducible assumption | assumption); (case cN => exact pick2 (by k_asm) (by walk_at "mine pick") (by walk_at "mine pick")); (case h1 => k_mem); (case h2 => k_mem); (case hO => walk_at "mine off"); (case hO2 => walk_at "mine off"); (case hne => first | assumption | omega); (case hs => first | with_reducible assumption | assumption); (case hD => first | assumption | omega); (case hv => first | assumption | omega); walk_at "mine ct"; k_whole; (intro v9 l9 h9 tk9 hP9 F9 N9; obtain ⟨d9, a9, q9, n9, e9, i9, f9, o9, o8, o7⟩ := hP9; subst e9 d9; (have o5 := o9); (k_lt o5); (have o6 := ltN o8); (have o4 := ltN o7); (try k_sweep); (try dsimp only)))) | ((with_reducible show wpAny _ _ (call (Value.ref 493) _) _ _ _); k_here; k_dflt (refine' CtQ.use (emark_yes ?h1 ?h2 ?h3 ?hd ?hf ?hs ?hb) ?cB ?cF ?cX ?cN ?cT ?ck ?cd ?cu ?_; (case cN => k_asm); (case h1 => k_mem); (case h2 => k_mem); (case h3 => k_mem); (case hd => first | with_reducible assumption | assumption); (case hf => first | with_reducible assumption | assumption); (case hs => first | with_reducible assumption | assumption); (case hb => first | with_reducible assumption | assumption); walk_at "mine ct"; k_whole; (intro v9 l9 h9 tk9 hP9 F9 N9; obtain ⟨e9, d9⟩ := hP9; subst e9 d9; (try k_sweep); (try dsimp only)))) | walk_at "call ref")
  (repeat' (first | with_reducible ((with_reducible show wpAny _ _ (call (Value.ref 402) _) _ _ _); k_here; (k_dflt (refine' CtQ.use ?hC ?cB ?cF ?cX ?cN ?cT ?ck ?cd ?cu ?_; (case hC => first | assumption | apply_assumption); (case cN => k_asm); walk_at "mine ct"; k_whole; intro v9 l9 h9 tk9 hP9 F9 N9; (try dsimp only at hP9); (try dsimp only)))) | with_reducible ((with_reducible show wpAny _ _ (call (Value.ref 423) _) _ _ _); k_here; (k_dflt (refine' CtQ.use ?hC ?cB ?cF ?cX ?cN ?cT ?ck ?cd ?cu ?_; (case hC => first | assumption | apply_assumption); (case cN => k_asm); walk_at "mine ct"; k_whole; intro v9 l9 h9 tk9 hP9 F9 N9; (try dsimp only at hP9); (try dsimp only)))) | with_reducible ((with_reducible show wpAny _ _ (call (Value.ref 409) _) _ _ _); k_here; (k_dflt (refine' CtQ.use ?hC ?cB ?cF ?cX ?cN ?cT ?ck ?cd ?cu ?_; (case hC => first | assumption | apply_assumption); (case cN => k_asm); walk_at "mine ct"; k_whole; intro v9 l9 h9 tk9 hP9 F9 N9; (try dsimp only at hP9); (try dsimp only)))) | with_reducible ((with_reducible show wpAny _ _ (call (Value.ref 395) _) _ _ _); k_here; (k_dflt (refine' CtQ.use ?hC ?cB ?cF ?cX ?cN ?cT ?ck ?cd ?cu ?_; (case hC => first | assumption | apply_assumption); (case cN => k_asm); walk_at "mine ct"; k_whole; intro v9 l9 h9 tk9 hP9 F9 N9; (try dsimp only at hP9); (try dsimp only)))) | with_reducible ((with_reducible show wpAny _ _ (call (Value.ref 493) _) _ _ _); k_here; (k_dflt (refine' CtQ.use ?hC ?cB ?cF ?cX ?cN ?cT ?ck ?cd ?cu ?_; (case hC => first | assumption | apply_assumption); (case cN => k_asm); walk_at "mine ct"; k_whole; intro v9 l9 h9 tk9 hP9 F9 N9; (try dsimp only at hP9); (try dsimp only)))) | with_reducible ((with_reducible show wpAny _ _ (call (Value.ref 493) _) _ _ _); k_here; k_dflt (refine' CtQ.use (emark_no ?h1 ?h2 ?hO ?hO2 ?hne ?hd ?hf ?hs ?hD ?hv ?hb) ?cB ?cF ?cX ?cN ?cT ?ck ?cd ?cu ?_; (case hd => first | with_reducible assumption | assumption); (case hf => first | with_reducible assumption | assumption); (case hb => first | with_reducible assumption | assumption); (case cN => exact pick2 (by k_asm) (by walk_at "mine pick") (by walk_at "mine pick")); (case h1 => k_mem); (case h2 => k_mem); (case hO => walk_at "mine off"); (case hO2 => walk_at "mine off"); (case hne => first | assumption | omega); (case hs => first | with_reducible assumption | assumption); (case hD => first | assumption | omega); (case hv => first | assumption | omega); walk_at "mine ct"; k_whole; (intro v9 l9 h9 tk9 hP9 F9 N9; obtain ⟨d9, a9, q9, n9, e9, i9, f9, o9, o8, o7⟩ := hP9; subst e9 d9; (have o5 := o9); (k_lt o5); (have o6 := ltN o8); (have o4 := ltN o7); (try k_sweep); (try dsimp only)))) | with_reducible ((with_reducible show wpAny _ _ (call (Value.ref 493) _) _ _ _); k_here; k_dflt (refine' CtQ.use (emark_yes ?h1 ?h2 ?h3 ?hd ?hf ?hs ?hb) ?cB ?cF ?cX ?cN ?cT ?ck ?cd ?cu ?_; (case cN => k_asm); (case h1 => k_mem); (case h2 => k_mem); (case h3 => k_mem); (case hd => first | with_reducible assumption | assumption); (case hf => first | with_reducible assumption | assumption); (case hs => first | with_reducible assumption | assumption); (case hb => first | with_reducible assumption | assumption); walk_at "mine ct"; k_whole; (intro v9 l9 h9 tk9 hP9 F9 N9; obtain ⟨e9, d9⟩ := hP9; subst e9 d9; (try k_sweep); (try dsimp only)))) | with_reducible refine ite_pos (by decide) ?_ | with_reducible refine ite_neg (by decide) ?_ | (k_unfold; (try dsimp only)) | (k_end; wrow_close) | walk1 | (dsimp only; walk1) | (leave1; try dsimp only)))
  exact hret _ _ _ _ ⟨rfl, _, by assumption⟩ (by assumption) (by assumption)
theorem skip_no (g1 : (rd, instObj 468 rdd) ∈ led) (g2 : (rdd, rdD w R sc er tk) ∈ led) (g3 : (tk, instObj 38 tkd) ∈ led) (g4 : (tkd, toD w j1 j2 j3 (.str kd tkk) val (.int pl tkp)) ∈ led) (hb : (kd == kind) = false) :
    CtQ prog w 7 409 [.ref rd, .str kind tq] led (fun v l => v = .bool false ∧ l = led) := by
  intro p9 loose mean mg mb dp un gd cn cs a9 ccd cl outer A₀ base h₀ L m s Q E B F X N T hk hd hu hret
  ((have kf : (PySem.Challenge.rw_pq0763_01 = PySem.Challenge.rw_pq0763_01) ∧ (KK = KK) := by (k_fill; exact ⟨rfl, rfl⟩)); clear kf)
  (first | ((with_reducible show wpAny _ _ (call (Value.ref 402) _) _ _ _); k_here; (k_dflt (refine' CtQ.use ?hC ?cB ?cF ?cX ?cN ?cT ?ck ?cd ?cu ?_; (case hC => first | assumption | apply_assumption); (case cN => k_asm); walk_at "mine ct"; k_whole; intro v9 l9 h9 tk9 hP9 F9 N9; (try dsimp only at hP9); (try dsimp only)))) | ((with_reducible show wpAny _ _ (call (Value.ref 423) _) _ _ _); k_here; (k_dflt (refine' CtQ.use ?hC ?cB ?cF ?cX ?cN ?cT ?ck ?cd ?cu ?_; (case hC => first | assumption | apply_assumption); (case cN => k_asm); walk_at "mine ct"; k_whole; intro v9 l9 h9 tk9 hP9 F9 N9; (try dsimp only at hP9); (try dsimp only)))) | ((with_reducible show wpAny _ _ (call (Value.ref 409) _) _ _ _); k_here; (k_dflt (refine' CtQ.use ?hC ?cB ?cF ?cX ?cN ?cT ?ck ?cd ?cu ?_; (case hC => first | assumption | apply_assumption); (case cN => k_asm); walk_at "mine ct"; k_whole; intro v9 l9 h9 tk9 hP9 F9 N9; (try dsimp only at hP9); (try dsimp only)))) | ((with_reducible show wpAny _ _ (call (Value.ref 395) _) _ _ _); k_here; (k_dflt (refine' CtQ.use ?hC ?cB ?cF ?cX ?cN ?cT ?ck ?cd ?cu ?_; (case hC => first | assumption | apply_assumption); (case cN => k_asm); walk_at "mine ct"; k_whole; intro v9 l9 h9 tk9 hP9 F9 N9; (try dsimp only at hP9); (try dsimp only)))) | ((with_reducible show wpAny _ _ (call (Value.ref 493) _) _ _ _); k_here; (k_dflt (refine' CtQ.use ?hC ?cB ?cF ?cX ?cN ?cT ?ck ?cd ?cu ?_; (case hC => first | assumption | apply_assumption); (case cN => k_asm); walk_at "mine ct"; k_whole; intro v9 l9 h9 tk9 hP9 F9 N9; (try dsimp only at hP9); (try dsimp only)))) | ((with_reducible show wpAny _ _ (call (Value.ref 493) _) _ _ _); k_here; k_dflt (refine' CtQ.use (emark_no ?h1 ?h2 ?hO ?hO2 ?hne ?hd ?hf ?hs ?hD ?hv ?hb) ?cB ?cF ?cX ?cN ?cT ?ck ?cd ?cu ?_; (case hd => first | with_reducible assumption | assumption); (case hf => first | with_reducible assumption | assumption); (case hb => first | with_reducible assumption | assumption); (case cN => exact pick2 (by k_asm) (by walk_at "mine pick") (by walk_at "mine pick")); (case h1 => k_mem); (case h2 => k_mem); (case hO => walk_at "mine off"); (case hO2 => walk_at "mine off"); (case hne => first | assumption | omega); (case hs => first | with_reducible assumption | assumption); (case hD => first | assumption | omega); (case hv => first | assumption | omega); walk_at "mine ct"; k_whole; (intro v9 l9 h9 tk9 hP9 F9 N9; obtain ⟨d9, a9, q9, n9, e9, i9, f9, o9, o8, o7⟩ := hP9; subst e9 d9; (have o5 := o9); (k_lt o5); (have o6 := ltN o8); (have o4 := ltN o7); (try k_sweep); (try dsimp only)))) | ((with_reducible show wpAny _ _ (call (Value.ref 493) _) _ _ _); k_here; k_dflt (refine' CtQ.use (emark_yes ?h1 ?h2 ?h3 ?hd ?hf ?hs ?hb) ?cB ?cF ?cX ?cN ?cT ?ck ?cd ?cu ?_; (case cN => k_asm); (case h1 => k_mem); (case h2 => k_mem); (case h3 => k_mem); (case hd => first | with_reducible assumption | assumption); (case hf => first | with_reducible assumption | assumption); (case hs => first | with_reducible assumption | assumption); (case hb => first | with_reducible assumption | assumption); walk_at "mine ct"; k_whole; (intro v9 l9 h9 tk9 hP9 F9 N9; obtain ⟨e9, d9⟩ := hP9; subst e9 d9; (try k_sweep); (try dsimp only)))) | walk_at "call ref")
  (repeat' (first | with_reducible ((with_reducible show wpAny _ _ (call (Value.ref 402) _) _ _ _); k_here; (k_dflt (refine' CtQ.use ?hC ?cB ?cF ?cX ?cN ?cT ?ck ?cd ?cu ?_; (case hC => first | assumption | apply_assumption); (case cN => k_asm); walk_at "mine ct"; k_whole; intro v9 l9 h9 tk9 hP9 F9 N9; (try dsimp only at hP9); (try dsimp only)))) | with_reducible ((with_reducible show wpAny _ _ (call (Value.ref 423) _) _ _ _); k_here; (k_dflt (refine' CtQ.use ?hC ?cB ?cF ?cX ?cN ?cT ?ck ?cd ?cu ?_; (case hC => first | assumption | apply_assumption); (case cN => k_asm); walk_at "mine ct"; k_whole; intro v9 l9 h9 tk9 hP9 F9 N9; (try dsimp only at hP9); (try dsimp only)))) | with_reducible ((with_reducible show wpAny _ _ (call (Value.ref 409) _) _ _ _); k_here; (k_dflt (refine' CtQ.use ?hC ?cB ?cF ?cX ?cN ?cT ?ck ?cd ?cu ?_; (case hC => first | assumption | apply_assumption); (case cN => k_asm); walk_at "mine ct"; k_whole; intro v9 l9 h9 tk9 hP9 F9 N9; (try dsimp only at hP9); (try dsimp only)))) | with_reducible ((with_reducible show wpAny _ _ (call (Value.ref 395) _) _ _ _); k_here; (k_dflt (refine' CtQ.use ?hC ?cB ?cF ?cX ?cN ?cT ?ck ?cd ?cu ?_; (case hC => first | assumption | apply_assumption); (case cN => k_asm); walk_at "mine ct"; k_whole; intro v9 l9 h9 tk9 hP9 F9 N9; (try dsimp only at hP9); (try dsimp only)))) | with_reducible ((with_reducible show wpAny _ _ (call (Value.ref 493) _) _ _ _); k_here; (k_dflt (refine' CtQ.use ?hC ?cB ?cF ?cX ?cN ?cT ?ck ?cd ?cu ?_; (case hC => first | assumption | apply_assumption); (case cN => k_asm); walk_at "mine ct"; k_whole; intro v9 l9 h9 tk9 hP9 F9 N9; (try dsimp only at hP9); (try dsimp only)))) | with_reducible ((with_reducible show wpAny _ _ (call (Value.ref 493) _) _ _ _); k_here; k_dflt (refine' CtQ.use (emark_no ?h1 ?h2 ?hO ?hO2 ?hne ?hd ?hf ?hs ?hD ?hv ?hb) ?cB ?cF ?cX ?cN ?cT ?ck ?cd ?cu ?_; (case hd => first | with_reducible assumption | assumption); (case hf => first | with_reducible assumption | assumption); (case hb => first | with_reducible assumption | assumption); (case cN => exact pick2 (by k_asm) (by walk_at "mine pick") (by walk_at "mine pick")); (case h1 => k_mem); (case h2 => k_mem); (case hO => walk_at "mine off"); (case hO2 => walk_at "mine off"); (case hne => first | assumption | omega); (case hs => first | with_reducible assumption | assumption); (case hD => first | assumption | omega); (case hv => first | assumption | omega); walk_at "mine ct"; k_whole; (intro v9 l9 h9 tk9 hP9 F9 N9; obtain ⟨d9, a9, q9, n9, e9, i9, f9, o9, o8, o7⟩ := hP9; subst e9 d9; (have o5 := o9); (k_lt o5); (have o6 := ltN o8); (have o4 := ltN o7); (try k_sweep); (try dsimp only)))) | with_reducible ((with_reducible show wpAny _ _ (call (Value.ref 493) _) _ _ _); k_here; k_dflt (refine' CtQ.use (emark_yes ?h1 ?h2 ?h3 ?hd ?hf ?hs ?hb) ?cB ?cF ?cX ?cN ?cT ?ck ?cd ?cu ?_; (case cN => k_asm); (case h1 => k_mem); (case h2 => k_mem); (case h3 => k_mem); (case hd => first | with_reducible assumption | assumption); (case hf => first | with_reducible assumption | assumption); (case hs => first | with_reducible assumption | assumption); (case hb => first | with_reducible assumption | assumption); walk_at "mine ct"; k_whole; (intro v9 l9 h9 tk9 hP9 F9 N9; obtain ⟨e9, d9⟩ := hP9; subst e9 d9; (try k_sweep); (try dsimp only)))) | with_reducible refine ite_pos (by decide) ?_ | with_reducible refine ite_neg (by decide) ?_ | (k_unfold; (try dsimp only)) | (k_end; wrow_close) | walk1 | (dsimp only; walk1) | (leave1; try dsimp only)))
  exact hret _ _ _ _ ⟨rfl, rfl⟩ (by assumption) (by assumption)
theorem expect_yes (g1 : (rd, instObj 468 rdd) ∈ led) (g2 : (rdd, rdD w R sc er tk) ∈ led) (C : CtQ prog w 7 409 [.ref rd, .str kind tq] led (fun v l => v = .bool true ∧ ∃ v0, Post v0 l)) :
    CtQ prog w 8 416 [.ref rd, .str kind tq] led (fun v l => v = .bool true ∧ ∃ v0, Post v0 l) := by
  intro p9 loose mean mg mb dp un gd cn cs a9 ccd cl outer A₀ base h₀ L m s Q E B F X N T hk hd hu hret
  ((have kf : (PySem.Challenge.rw_pq0763_01 = PySem.Challenge.rw_pq0763_01) ∧ (KK = KK) := by (k_fill; exact ⟨rfl, rfl⟩)); clear kf)
  (first | ((with_reducible show wpAny _ _ (call (Value.ref 402) _) _ _ _); k_here; (k_dflt (refine' CtQ.use ?hC ?cB ?cF ?cX ?cN ?cT ?ck ?cd ?cu ?_; (case hC => first | assumption | apply_assumption); (case cN => k_asm); walk_at "mine ct"; k_whole; intro v9 l9 h9 tk9 hP9 F9 N9; (try dsimp only at hP9); (try dsimp only)))) | ((with_reducible show wpAny _ _ (call (Value.ref 423) _) _ _ _); k_here; (k_dflt (refine' CtQ.use ?hC ?cB ?cF ?cX ?cN ?cT ?ck ?cd ?cu ?_; (case hC => first | assumption | apply_assumption); (case cN => k_asm); walk_at "mine ct"; k_whole; intro v9 l9 h9 tk9 hP9 F9 N9; (try dsimp only at hP9); (try dsimp only)))) | ((with_reducible show wpAny _ _ (call (Value.ref 409) _) _ _ _); k_here; (k_dflt (refine' CtQ.use ?hC ?cB ?cF ?cX ?cN ?cT ?ck ?cd ?cu ?_; (case hC => first | assumption | apply_assumption); (case cN => k_asm); walk_at "mine ct"; k_whole; intro v9 l9 h9 tk9 hP9 F9 N9; (try dsimp only at hP9); (try dsimp only)))) | ((with_reducible show wpAny _ _ (call (Value.ref 395) _) _ _ _); k_here; (k_dflt (refine' CtQ.use ?hC ?cB ?cF ?cX ?cN ?cT ?ck ?cd ?cu ?_; (case hC => first | assumption | apply_assumption); (case cN => k_asm); walk_at "mine ct"; k_whole; intro v9 l9 h9 tk9 hP9 F9 N9; (try dsimp only at hP9); (try dsimp only)))) | ((with_reducible show wpAny _ _ (call (Value.ref 493) _) _ _ _); k_here; (k_dflt (refine' CtQ.use ?hC ?cB ?cF ?cX ?cN ?cT ?ck ?cd ?cu ?_; (case hC => first | assumption | apply_assumption); (case cN => k_asm); walk_at "mine ct"; k_whole; intro v9 l9 h9 tk9 hP9 F9 N9; (try dsimp only at hP9); (try dsimp only)))) | ((with_reducible show wpAny _ _ (call (Value.ref 493) _) _ _ _); k_here; k_dflt (refine' CtQ.use (emark_no ?h1 ?h2 ?hO ?hO2 ?hne ?hd ?hf ?hs ?hD ?hv ?hb) ?cB ?cF ?cX ?cN ?cT ?ck ?cd ?cu ?_; (case hd => first | with_reducible assumption | assumption); (case hf => first | with_reducible assumption | assumption); (case hb => first | with_reducible assumption | assumption); (case cN => exact pick2 (by k_asm) (by walk_at "mine pick") (by walk_at "mine pick")); (case h1 => k_mem); (case h2 => k_mem); (case hO => walk_at "mine off"); (case hO2 => walk_at "mine off"); (case hne => first | assumption | omega); (case hs => first | with_reducible assumption | assumption); (case hD => first | assumption | omega); (case hv => first | assumption | omega); walk_at "mine ct"; k_whole; (intro v9 l9 h9 tk9 hP9 F9 N9; obtain ⟨d9, a9, q9, n9, e9, i9, f9, o9, o8, o7⟩ := hP9; subst e9 d9; (have o5 := o9); (k_lt o5); (have o6 := ltN o8); (have o4 := ltN o7); (try k_sweep); (try dsimp only)))) | ((with_reducible show wpAny _ _ (call (Value.ref 493) _) _ _ _); k_here; k_dflt (refine' CtQ.use (emark_yes ?h1 ?h2 ?h3 ?hd ?hf ?hs ?hb) ?cB ?cF ?cX ?cN ?cT ?ck ?cd ?cu ?_; (case cN => k_asm); (case h1 => k_mem); (case h2 => k_mem); (case h3 => k_mem); (case hd => first | with_reducible assumption | assumption); (case hf => first | with_reducible assumption | assumption); (case hs => first | with_reducible assumption | assumption); (case hb => first | with_reducible assumption | assumption); walk_at "mine ct"; k_whole; (intro v9 l9 h9 tk9 hP9 F9 N9; obtain ⟨e9, d9⟩ := hP9; subst e9 d9; (try k_sweep); (try dsimp only)))) | walk_at "call ref")
  repeat ((fail_if_success (with_reducible show wpAny _ _ (call (Value.ref 409) _) _ _ _)); (first | with_reducible ((with_reducible show wpAny _ _ (call (Value.ref 402) _) _ _ _); k_here; (k_dflt (refine' CtQ.use ?hC ?cB ?cF ?cX ?cN ?cT ?ck ?cd ?cu ?_; (case hC => first | assumption | apply_assumption); (case cN => k_asm); walk_at "mine ct"; k_whole; intro v9 l9 h9 tk9 hP9 F9 N9; (try dsimp only at hP9); (try dsimp only)))) | with_reducible ((with_reducible show wpAny _ _ (call (Value.ref 423) _) _ _ _); k_here; (k_dflt (refine' CtQ.use ?hC ?cB ?cF ?cX ?cN ?cT ?ck ?cd ?cu ?_; (case hC => first | assumption | apply_assumption); (case cN => k_asm); walk_at "mine ct"; k_whole; intro v9 l9 h9 tk9 hP9 F9 N9; (try dsimp only at hP9); (try dsimp only)))) | with_reducible ((with_reducible show wpAny _ _ (call (Value.ref 409) _) _ _ _); k_here; (k_dflt (refine' CtQ.use ?hC ?cB ?cF ?cX ?cN ?cT ?ck ?cd ?cu ?_; (case hC => first | assumption | apply_assumption); (case cN => k_asm); walk_at "mine ct"; k_whole; intro v9 l9 h9 tk9 hP9 F9 N9; (try dsimp only at hP9); (try dsimp only)))) | with_reducible ((with_reducible show wpAny _ _ (call (Value.ref 395) _) _ _ _); k_here; (k_dflt (refine' CtQ.use ?hC ?cB ?cF ?cX ?cN ?cT ?ck ?cd ?cu ?_; (case hC => first | assumption | apply_assumption); (case cN => k_asm); walk_at "mine ct"; k_whole; intro v9 l9 h9 tk9 hP9 F9 N9; (try dsimp only at hP9); (try dsimp only)))) | with_reducible ((with_reducible show wpAny _ _ (call (Value.ref 493) _) _ _ _); k_here; (k_dflt (refine' CtQ.use ?hC ?cB ?cF ?cX ?cN ?cT ?ck ?cd ?cu ?_; (case hC => first | assumption | apply_assumption); (case cN => k_asm); walk_at "mine ct"; k_whole; intro v9 l9 h9 tk9 hP9 F9 N9; (try dsimp only at hP9); (try dsimp only)))) | with_reducible ((with_reducible show wpAny _ _ (call (Value.ref 493) _) _ _ _); k_here; k_dflt (refine' CtQ.use (emark_no ?h1 ?h2 ?hO ?hO2 ?hne ?hd ?hf ?hs ?hD ?hv ?hb) ?cB ?cF ?cX ?cN ?cT ?ck ?cd ?cu ?_; (case hd => first | with_reducible assumption | assumption); (case hf => first | with_reducible assumption | assumption); (case hb => first | with_reducible assumption | assumption); (case cN => exact pick2 (by k_asm) (by walk_at "mine pick") (by walk_at "mine pick")); (case h1 => k_mem); (case h2 => k_mem); (case hO => walk_at "mine off"); (case hO2 => walk_at "mine off"); (case hne => first | assumption | omega); (case hs => first | with_reducible assumption | assumption); (case hD => first | assumption | omega); (case hv => first | assumption | omega); walk_at "mine ct"; k_whole; (intro v9 l9 h9 tk9 hP9 F9 N9; obtain ⟨d9, a9, q9, n9, e9, i9, f9, o9, o8, o7⟩ := hP9; subst e9 d9; (have o5 := o9); (k_lt o5); (have o6 := ltN o8); (have o4 := ltN o7); (try k_sweep); (try dsimp only)))) | with_reducible ((with_reducible show wpAny _ _ (call (Value.ref 493) _) _ _ _); k_here; k_dflt (refine' CtQ.use (emark_yes ?h1 ?h2 ?h3 ?hd ?hf ?hs ?hb) ?cB ?cF ?cX ?cN ?cT ?ck ?cd ?cu ?_; (case cN => k_asm); (case h1 => k_mem); (case h2 => k_mem); (case h3 => k_mem); (case hd => first | with_reducible assumption | assumption); (case hf => first | with_reducible assumption | assumption); (case hs => first | with_reducible assumption | assumption); (case hb => first | with_reducible assumption | assumption); walk_at "mine ct"; k_whole; (intro v9 l9 h9 tk9 hP9 F9 N9; obtain ⟨e9, d9⟩ := hP9; subst e9 d9; (try k_sweep); (try dsimp only)))) | with_reducible refine ite_pos (by decide) ?_ | with_reducible refine ite_neg (by decide) ?_ | walk_at "mine step"))
  (first | ((with_reducible show wpAny _ _ (call (Value.ref 402) _) _ _ _); k_here; (k_dflt (refine' CtQ.use ?hC ?cB ?cF ?cX ?cN ?cT ?ck ?cd ?cu ?_; (case hC => first | assumption | apply_assumption); (case cN => k_asm); walk_at "mine ct"; k_whole; intro v9 l9 h9 tk9 hP9 F9 N9; (try dsimp only at hP9); (try dsimp only)))) | ((with_reducible show wpAny _ _ (call (Value.ref 423) _) _ _ _); k_here; (k_dflt (refine' CtQ.use ?hC ?cB ?cF ?cX ?cN ?cT ?ck ?cd ?cu ?_; (case hC => first | assumption | apply_assumption); (case cN => k_asm); walk_at "mine ct"; k_whole; intro v9 l9 h9 tk9 hP9 F9 N9; (try dsimp only at hP9); (try dsimp only)))) | ((with_reducible show wpAny _ _ (call (Value.ref 409) _) _ _ _); k_here; (k_dflt (refine' CtQ.use ?hC ?cB ?cF ?cX ?cN ?cT ?ck ?cd ?cu ?_; (case hC => first | assumption | apply_assumption); (case cN => k_asm); walk_at "mine ct"; k_whole; intro v9 l9 h9 tk9 hP9 F9 N9; (try dsimp only at hP9); (try dsimp only)))) | ((with_reducible show wpAny _ _ (call (Value.ref 395) _) _ _ _); k_here; (k_dflt (refine' CtQ.use ?hC ?cB ?cF ?cX ?cN ?cT ?ck ?cd ?cu ?_; (case hC => first | assumption | apply_assumption); (case cN => k_asm); walk_at "mine ct"; k_whole; intro v9 l9 h9 tk9 hP9 F9 N9; (try dsimp only at hP9); (try dsimp only)))) | ((with_reducible show wpAny _ _ (call (Value.ref 493) _) _ _ _); k_here; (k_dflt (refine' CtQ.use ?hC ?cB ?cF ?cX ?cN ?cT ?ck ?cd ?cu ?_; (case hC => first | assumption | apply_assumption); (case cN => k_asm); walk_at "mine ct"; k_whole; intro v9 l9 h9 tk9 hP9 F9 N9; (try dsimp only at hP9); (try dsimp only)))) | ((with_reducible show wpAny _ _ (call (Value.ref 493) _) _ _ _); k_here; k_dflt (refine' CtQ.use (emark_no ?h1 ?h2 ?hO ?hO2 ?hne ?hd ?hf ?hs ?hD ?hv ?hb) ?cB ?cF ?cX ?cN ?cT ?ck ?cd ?cu ?_; (case hd => first | with_reducible assumption | assumption); (case hf => first | with_reducible assumption | assumption); (case hb => first | with_reducible assumption | assumption); (case cN => exact pick2 (by k_asm) (by walk_at "mine pick") (by walk_at "mine pick")); (case h1 => k_mem); (case h2 => k_mem); (case hO => walk_at "mine off"); (case hO2 => walk_at "mine off"); (case hne => first | assumption | omega); (case hs => first | with_reducible assumption | assumption); (case hD => first | assumption | omega); (case hv => first | assumption | omega); walk_at "mine ct"; k_whole; (intro v9 l9 h9 tk9 hP9 F9 N9; obtain ⟨d9, a9, q9, n9, e9, i9, f9, o9, o8, o7⟩ := hP9; subst e9 d9; (have o5 := o9); (k_lt o5); (have o6 := ltN o8); (have o4 := ltN o7); (try k_sweep); (try dsimp only)))) | ((with_reducible show wpAny _ _ (call (Value.ref 493) _) _ _ _); k_here; k_dflt (refine' CtQ.use (emark_yes ?h1 ?h2 ?h3 ?hd ?hf ?hs ?hb) ?cB ?cF ?cX ?cN ?cT ?ck ?cd ?cu ?_; (case cN => k_asm); (case h1 => k_mem); (case h2 => k_mem); (case h3 => k_mem); (case hd => first | with_reducible assumption | assumption); (case hf => first | with_reducible assumption | assumption); (case hs => first | with_reducible assumption | assumption); (case hb => first | with_reducible assumption | assumption); walk_at "mine ct"; k_whole; (intro v9 l9 h9 tk9 hP9 F9 N9; obtain ⟨e9, d9⟩ := hP9; subst e9 d9; (try k_sweep); (try dsimp only)))) | walk_at "call ref")
  rename _ = Value.bool _ ∧ _ => hP9
  obtain ⟨d9, v0, hP9⟩ := hP9
  subst d9
  (repeat' (first | with_reducible ((with_reducible show wpAny _ _ (call (Value.ref 402) _) _ _ _); k_here; (k_dflt (refine' CtQ.use ?hC ?cB ?cF ?cX ?cN ?cT ?ck ?cd ?cu ?_; (case hC => first | assumption | apply_assumption); (case cN => k_asm); walk_at "mine ct"; k_whole; intro v9 l9 h9 tk9 hP9 F9 N9; (try dsimp only at hP9); (try dsimp only)))) | with_reducible ((with_reducible show wpAny _ _ (call (Value.ref 423) _) _ _ _); k_here; (k_dflt (refine' CtQ.use ?hC ?cB ?cF ?cX ?cN ?cT ?ck ?cd ?cu ?_; (case hC => first | assumption | apply_assumption); (case cN => k_asm); walk_at "mine ct"; k_whole; intro v9 l9 h9 tk9 hP9 F9 N9; (try dsimp only at hP9); (try dsimp only)))) | with_reducible ((with_reducible show wpAny _ _ (call (Value.ref 409) _) _ _ _); k_here; (k_dflt (refine' CtQ.use ?hC ?cB ?cF ?cX ?cN ?cT ?ck ?cd ?cu ?_; (case hC => first | assumption | apply_assumption); (case cN => k_asm); walk_at "mine ct"; k_whole; intro v9 l9 h9 tk9 hP9 F9 N9; (try dsimp only at hP9); (try dsimp only)))) | with_reducible ((with_reducible show wpAny _ _ (call (Value.ref 395) _) _ _ _); k_here; (k_dflt (refine' CtQ.use ?hC ?cB ?cF ?cX ?cN ?cT ?ck ?cd ?cu ?_; (case hC => first | assumption | apply_assumption); (case cN => k_asm); walk_at "mine ct"; k_whole; intro v9 l9 h9 tk9 hP9 F9 N9; (try dsimp only at hP9); (try dsimp only)))) | with_reducible ((with_reducible show wpAny _ _ (call (Value.ref 493) _) _ _ _); k_here; (k_dflt (refine' CtQ.use ?hC ?cB ?cF ?cX ?cN ?cT ?ck ?cd ?cu ?_; (case hC => first | assumption | apply_assumption); (case cN => k_asm); walk_at "mine ct"; k_whole; intro v9 l9 h9 tk9 hP9 F9 N9; (try dsimp only at hP9); (try dsimp only)))) | with_reducible ((with_reducible show wpAny _ _ (call (Value.ref 493) _) _ _ _); k_here; k_dflt (refine' CtQ.use (emark_no ?h1 ?h2 ?hO ?hO2 ?hne ?hd ?hf ?hs ?hD ?hv ?hb) ?cB ?cF ?cX ?cN ?cT ?ck ?cd ?cu ?_; (case hd => first | with_reducible assumption | assumption); (case hf => first | with_reducible assumption | assumption); (case hb => first | with_reducible assumption | assumption); (case cN => exact pick2 (by k_asm) (by walk_at "mine pick") (by walk_at "mine pick")); (case h1 => k_mem); (case h2 => k_mem); (case hO => walk_at "mine off"); (case hO2 => walk_at "mine off"); (case hne => first | assumption | omega); (case hs => first | with_reducible assumption | assumption); (case hD => first | assumption | omega); (case hv => first | assumption | omega); walk_at "mine ct"; k_whole; (intro v9 l9 h9 tk9 hP9 F9 N9; obtain ⟨d9, a9, q9, n9, e9, i9, f9, o9, o8, o7⟩ := hP9; subst e9 d9; (have o5 := o9); (k_lt o5); (have o6 := ltN o8); (have o4 := ltN o7); (try k_sweep); (try dsimp only)))) | with_reducible ((with_reducible show wpAny _ _ (call (Value.ref 493) _) _ _ _); k_here; k_dflt (refine' CtQ.use (emark_yes ?h1 ?h2 ?h3 ?hd ?hf ?hs ?hb) ?cB ?cF ?cX ?cN ?cT ?ck ?cd ?cu ?_; (case cN => k_asm); (case h1 => k_mem); (case h2 => k_mem); (case h3 => k_mem); (case hd => first | with_reducible assumption | assumption); (case hf => first | with_reducible assumption | assumption); (case hs => first | with_reducible assumption | assumption); (case hb => first | with_reducible assumption | assumption); walk_at "mine ct"; k_whole; (intro v9 l9 h9 tk9 hP9 F9 N9; obtain ⟨e9, d9⟩ := hP9; subst e9 d9; (try k_sweep); (try dsimp only)))) | with_reducible refine ite_pos (by decide) ?_ | with_reducible refine ite_neg (by decide) ?_ | (k_unfold; (try dsimp only)) | (k_end; wrow_close) | walk1 | (dsimp only; walk1) | (leave1; try dsimp only)))
  exact hret _ _ _ _ ⟨rfl, _, by assumption⟩ (by assumption) (by assumption)
theorem expect_no (g1 : (rd, instObj 468 rdd) ∈ led) (g2 : (rdd, rdD w R sc er tk) ∈ led) (g3 : (tk, instObj 38 tkd) ∈ led) (g4 : (tkd, toD w j1 j2 j3 (.str kd tkk) val (.int pl tkp)) ∈ led)
    (hb : (kd == kind) = false) {b : Bool} (hi : (kind == Str.ofString "ident") = b) (hl : kind.length ≤ 100)
    (C : ∀ tc, CtQ prog w 2 423 [.ref rd, .str (Str.ofString "expected " ++ if b = true then Str.ofString "identifier" else kind) tc] led (PostT tc)) :
    CtQ prog w 8 416 [.ref rd, .str kind tq] led (fun v l => v = .bool false ∧ ∃ tc v0, PostT tc v0 l) := by
  intro p9 loose mean mg mb dp un gd cn cs a9 ccd cl outer A₀ base h₀ L m s Q E B F X N T hk hd hu hret
  ((have kf : (PySem.Challenge.rw_pq0763_01 = PySem.Challenge.rw_pq0763_01) ∧ (KK = KK) := by (k_fill; exact ⟨rfl, rfl⟩)); clear kf)
  have C2 : CtQ prog w 7 409 [.ref rd, .str kind tq] led (fun v l => v = .bool false ∧ l = led) := skip_no g1 g2 g3 g4 hb
  (first | ((with_reducible show wpAny _ _ (call (Value.ref 402) _) _ _ _); k_here; (k_dflt (refine' CtQ.use ?hC ?cB ?cF ?cX ?cN ?cT ?ck ?cd ?cu ?_; (case hC => first | assumption | apply_assumption); (case cN => k_asm); walk_at "mine ct"; k_whole; intro v9 l9 h9 tk9 hP9 F9 N9; (try dsimp only at hP9); (try dsimp only)))) | ((with_reducible show wpAny _ _ (call (Value.ref 423) _) _ _ _); k_here; (k_dflt (refine' CtQ.use ?hC ?cB ?cF ?cX ?cN ?cT ?ck ?cd ?cu ?_; (case hC => first | assumption | apply_assumption); (case cN => k_asm); walk_at "mine ct"; k_whole; intro v9 l9 h9 tk9 hP9 F9 N9; (try dsimp only at hP9); (try dsimp only)))) | ((with_reducible show wpAny _ _ (call (Value.ref 409) _) _ _ _); k_here; (k_dflt (refine' CtQ.use ?hC ?cB ?cF ?cX ?cN ?cT ?ck ?cd ?cu ?_; (case hC => first | assumption | apply_assumption); (case cN => k_asm); walk_at "mine ct"; k_whole; intro v9 l9 h9 tk9 hP9 F9 N9; (try dsimp only at hP9); (try dsimp only)))) | ((with_reducible show wpAny _ _ (call (Value.ref 395) _) _ _ _); k_here; (k_dflt (refine' CtQ.use ?hC ?cB ?cF ?cX ?cN ?cT ?ck ?cd ?cu ?_; (case hC => first | assumption | apply_assumption); (case cN => k_asm); walk_at "mine ct"; k_whole; intro v9 l9 h9 tk9 hP9 F9 N9; (try dsimp only at hP9); (try dsimp only)))) | ((with_reducible show wpAny _ _ (call (Value.ref 493) _) _ _ _); k_here; (k_dflt (refine' CtQ.use ?hC ?cB ?cF ?cX ?cN ?cT ?ck ?cd ?cu ?_; (case hC => first | assumption | apply_assumption); (case cN => k_asm); walk_at "mine ct"; k_whole; intro v9 l9 h9 tk9 hP9 F9 N9; (try dsimp only at hP9); (try dsimp only)))) | ((with_reducible show wpAny _ _ (call (Value.ref 493) _) _ _ _); k_here; k_dflt (refine' CtQ.use (emark_no ?h1 ?h2 ?hO ?hO2 ?hne ?hd ?hf ?hs ?hD ?hv ?hb) ?cB ?cF ?cX ?cN ?cT ?ck ?cd ?cu ?_; (case hd => first | with_reducible assumption | assumption); (case hf => first | with_reducible assumption | assumption); (case hb => first | with_reducible assumption | assumption); (case cN => exact pick2 (by k_asm) (by walk_at "mine pick") (by walk_at "mine pick")); (case h1 => k_mem); (case h2 => k_mem); (case hO => walk_at "mine off"); (case hO2 => walk_at "mine off"); (case hne => first | assumption | omega); (case hs => first | with_reducible assumption | assumption); (case hD => first | assumption | omega); (case hv => first | assumption | omega); walk_at "mine ct"; k_whole; (intro v9 l9 h9 tk9 hP9 F9 N9; obtain ⟨d9, a9, q9, n9, e9, i9, f9, o9, o8, o7⟩ := hP9; subst e9 d9; (have o5 := o9); (k_lt o5); (have o6 := ltN o8); (have o4 := ltN o7); (try k_sweep); (try dsimp only)))) | ((with_reducible show wpAny _ _ (call (Value.ref 493) _) _ _ _); k_here; k_dflt (refine' CtQ.use (emark_yes ?h1 ?h2 ?h3 ?hd ?hf ?hs ?hb) ?cB ?cF ?cX ?cN ?cT ?ck ?cd ?cu ?_; (case cN => k_asm); (case h1 => k_mem); (case h2 => k_mem); (case h3 => k_mem); (case hd => first | with_reducible assumption | assumption); (case hf => first | with_reducible assumption | assumption); (case hs => first | with_reducible assumption | assumption); (case hb => first | with_reducible assumption | assumption); walk_at "mine ct"; k_whole; (intro v9 l9 h9 tk9 hP9 F9 N9; obtain ⟨e9, d9⟩ := hP9; subst e9 d9; (try k_sweep); (try dsimp only)))) | walk_at "call ref")
  repeat ((fail_if_success (with_reducible show wpAny _ _ (call (Value.ref 409) _) _ _ _)); (first | with_reducible ((with_reducible show wpAny _ _ (call (Value.ref 402) _) _ _ _); k_here; (k_dflt (refine' CtQ.use ?hC ?cB ?cF ?cX ?cN ?cT ?ck ?cd ?cu ?_; (case hC => first | assumption | apply_assumption); (case cN => k_asm); walk_at "mine ct"; k_whole; intro v9 l9 h9 tk9 hP9 F9 N9; (try dsimp only at hP9); (try dsimp only)))) | with_reducible ((with_reducible show wpAny _ _ (call (Value.ref 423) _) _ _ _); k_here; (k_dflt (refine' CtQ.use ?hC ?cB ?cF ?cX ?cN ?cT ?ck ?cd ?cu ?_; (case hC => first | assumption | apply_assumption); (case cN => k_asm); walk_at "mine ct"; k_whole; intro v9 l9 h9 tk9 hP9 F9 N9; (try dsimp only at hP9); (try dsimp only)))) | with_reducible ((with_reducible show wpAny _ _ (call (Value.ref 409) _) _ _ _); k_here; (k_dflt (refine' CtQ.use ?hC ?cB ?cF ?cX ?cN ?cT ?ck ?cd ?cu ?_; (case hC => first | assumption | apply_assumption); (case cN => k_asm); walk_at "mine ct"; k_whole; intro v9 l9 h9 tk9 hP9 F9 N9; (try dsimp only at hP9); (try dsimp only)))) | with_reducible ((with_reducible show wpAny _ _ (call (Value.ref 395) _) _ _ _); k_here; (k_dflt (refine' CtQ.use ?hC ?cB ?cF ?cX ?cN ?cT ?ck ?cd ?cu ?_; (case hC => first | assumption | apply_assumption); (case cN => k_asm); walk_at "mine ct"; k_whole; intro v9 l9 h9 tk9 hP9 F9 N9; (try dsimp only at hP9); (try dsimp only)))) | with_reducible ((with_reducible show wpAny _ _ (call (Value.ref 493) _) _ _ _); k_here; (k_dflt (refine' CtQ.use ?hC ?cB ?cF ?cX ?cN ?cT ?ck ?cd ?cu ?_; (case hC => first | assumption | apply_assumption); (case cN => k_asm); walk_at "mine ct"; k_whole; intro v9 l9 h9 tk9 hP9 F9 N9; (try dsimp only at hP9); (try dsimp only)))) | with_reducible ((with_reducible show wpAny _ _ (call (Value.ref 493) _) _ _ _); k_here; k_dflt (refine' CtQ.use (emark_no ?h1 ?h2 ?hO ?hO2 ?hne ?hd ?hf ?hs ?hD ?hv ?hb) ?cB ?cF ?cX ?cN ?cT ?ck ?cd ?cu ?_; (case hd => first | with_reducible assumption | assumption); (case hf => first | with_reducible assumption | assumption); (case hb => first | with_reducible assumption | assumption); (case cN => exact pick2 (by k_asm) (by walk_at "mine pick") (by walk_at "mine pick")); (case h1 => k_mem); (case h2 => k_mem); (case hO => walk_at "mine off"); (case hO2 => walk_at "mine off"); (case hne => first | assumption | omega); (case hs => first | with_reducible assumption | assumption); (case hD => first | assumption | omega); (case hv => first | assumption | omega); walk_at "mine ct"; k_whole; (intro v9 l9 h9 tk9 hP9 F9 N9; obtain ⟨d9, a9, q9, n9, e9, i9, f9, o9, o8, o7⟩ := hP9; subst e9 d9; (have o5 := o9); (k_lt o5); (have o6 := ltN o8); (have o4 := ltN o7); (try k_sweep); (try dsimp only)))) | with_reducible ((with_reducible show wpAny _ _ (call (Value.ref 493) _) _ _ _); k_here; k_dflt (refine' CtQ.use (emark_yes ?h1 ?h2 ?h3 ?hd ?hf ?hs ?hb) ?cB ?cF ?cX ?cN ?cT ?ck ?cd ?cu ?_; (case cN => k_asm); (case h1 => k_mem); (case h2 => k_mem); (case h3 => k_mem); (case hd => first | with_reducible assumption | assumption); (case hf => first | with_reducible assumption | assumption); (case hs => first | with_reducible assumption | assumption); (case hb => first | with_reducible assumption | assumption); walk_at "mine ct"; k_whole; (intro v9 l9 h9 tk9 hP9 F9 N9; obtain ⟨e9, d9⟩ := hP9; subst e9 d9; (try k_sweep); (try dsimp only)))) | with_reducible refine ite_pos (by decide) ?_ | with_reducible refine ite_neg (by decide) ?_ | walk_at "mine step"))
  (first | ((with_reducible show wpAny _ _ (call (Value.ref 402) _) _ _ _); k_here; (k_dflt (refine' CtQ.use ?hC ?cB ?cF ?cX ?cN ?cT ?ck ?cd ?cu ?_; (case hC => first | assumption | apply_assumption); (case cN => k_asm); walk_at "mine ct"; k_whole; intro v9 l9 h9 tk9 hP9 F9 N9; (try dsimp only at hP9); (try dsimp only)))) | ((with_reducible show wpAny _ _ (call (Value.ref 423) _) _ _ _); k_here; (k_dflt (refine' CtQ.use ?hC ?cB ?cF ?cX ?cN ?cT ?ck ?cd ?cu ?_; (case hC => first | assumption | apply_assumption); (case cN => k_asm); walk_at "mine ct"; k_whole; intro v9 l9 h9 tk9 hP9 F9 N9; (try dsimp only at hP9); (try dsimp only)))) | ((with_reducible show wpAny _ _ (call (Value.ref 409) _) _ _ _); k_here; (k_dflt (refine' CtQ.use ?hC ?cB ?cF ?cX ?cN ?cT ?ck ?cd ?cu ?_; (case hC => first | assumption | apply_assumption); (case cN => k_asm); walk_at "mine ct"; k_whole; intro v9 l9 h9 tk9 hP9 F9 N9; (try dsimp only at hP9); (try dsimp only)))) | ((with_reducible show wpAny _ _ (call (Value.ref 395) _) _ _ _); k_here; (k_dflt (refine' CtQ.use ?hC ?cB ?cF ?cX ?cN ?cT ?ck ?cd ?cu ?_; (case hC => first | assumption | apply_assumption); (case cN => k_asm); walk_at "mine ct"; k_whole; intro v9 l9 h9 tk9 hP9 F9 N9; (try dsimp only at hP9); (try dsimp only)))) | ((with_reducible show wpAny _ _ (call (Value.ref 493) _) _ _ _); k_here; (k_dflt (refine' CtQ.use ?hC ?cB ?cF ?cX ?cN ?cT ?ck ?cd ?cu ?_; (case hC => first | assumption | apply_assumption); (case cN => k_asm); walk_at "mine ct"; k_whole; intro v9 l9 h9 tk9 hP9 F9 N9; (try dsimp only at hP9); (try dsimp only)))) | ((with_reducible show wpAny _ _ (call (Value.ref 493) _) _ _ _); k_here; k_dflt (refine' CtQ.use (emark_no ?h1 ?h2 ?hO ?hO2 ?hne ?hd ?hf ?hs ?hD ?hv ?hb) ?cB ?cF ?cX ?cN ?cT ?ck ?cd ?cu ?_; (case hd => first | with_reducible assumption | assumption); (case hf => first | with_reducible assumption | assumption); (case hb => first | with_reducible assumption | assumption); (case cN => exact pick2 (by k_asm) (by walk_at "mine pick") (by walk_at "mine pick")); (case h1 => k_mem); (case h2 => k_mem); (case hO => walk_at "mine off"); (case hO2 => walk_at "mine off"); (case hne => first | assumption | omega); (case hs => first | with_reducible assumption | assumption); (case hD => first | assumption | omega); (case hv => first | assumption | omega); walk_at "mine ct"; k_whole; (intro v9 l9 h9 tk9 hP9 F9 N9; obtain ⟨d9, a9, q9, n9, e9, i9, f9, o9, o8, o7⟩ := hP9; subst e9 d9; (have o5 := o9); (k_lt o5); (have o6 := ltN o8); (have o4 := ltN o7); (try k_sweep); (try dsimp only)))) | ((with_reducible show wpAny _ _ (call (Value.ref 493) _) _ _ _); k_here; k_dflt (refine' CtQ.use (emark_yes ?h1 ?h2 ?h3 ?hd ?hf ?hs ?hb) ?cB ?cF ?cX ?cN ?cT ?ck ?cd ?cu ?_; (case cN => k_asm); (case h1 => k_mem); (case h2 => k_mem); (case h3 => k_mem); (case hd => first | with_reducible assumption | assumption); (case hf => first | with_reducible assumption | assumption); (case hs => first | with_reducible assumption | assumption); (case hb => first | with_reducible assumption | assumption); walk_at "mine ct"; k_whole; (intro v9 l9 h9 tk9 hP9 F9 N9; obtain ⟨e9, d9⟩ := hP9; subst e9 d9; (try k_sweep); (try dsimp only)))) | walk_at "call ref")
  rename _ = Value.bool _ ∧ _ => hP9
  obtain ⟨d9, e9⟩ := hP9
  subst d9 e9
  clear C2
  cases b
  all_goals (simp only [Bool.false_eq_true, if_true, if_false] at C)
  all_goals (repeat' (first | with_reducible ((with_reducible show wpAny _ _ (call (Value.ref 402) _) _ _ _); k_here; (k_dflt (refine' CtQ.use ?hC ?cB ?cF ?cX ?cN ?cT ?ck ?cd ?cu ?_; (case hC => first | assumption | apply_assumption); (case cN => k_asm); walk_at "mine ct"; k_whole; intro v9 l9 h9 tk9 hP9 F9 N9; (try dsimp only at hP9); (try dsimp only)))) | with_reducible ((with_reducible show wpAny _ _ (call (Value.ref 423) _) _ _ _); k_here; (k_dflt (refine' CtQ.use ?hC ?cB ?cF ?cX ?cN ?cT ?ck ?cd ?cu ?_; (case hC => first | assumption | apply_assumption); (case cN => k_asm); walk_at "mine ct"; k_whole; intro v9 l9 h9 tk9 hP9 F9 N9; (try dsimp only at hP9); (try dsimp only)))) | with_reducible ((with_reducible show wpAny _ _ (call (Value.ref 409) _) _ _ _); k_here; (k_dflt (refine' CtQ.use ?hC ?cB ?cF ?cX ?cN ?cT ?ck ?cd ?cu ?_; (case hC => first | assumption | apply_assumption); (case cN => k_asm); walk_at "mine ct"; k_whole; intro v9 l9 h9 tk9 hP9 F9 N9; (try dsimp only at hP9); (try dsimp only)))) | with_reducible ((with_reducible show wpAny _ _ (call (Value.ref 395) _) _ _ _); k_here; (k_dflt (refine' CtQ.use ?hC ?cB ?cF ?cX ?cN ?cT ?ck ?cd ?cu ?_; (case hC => first | assumption | apply_assumption); (case cN => k_asm); walk_at "mine ct"; k_whole; intro v9 l9 h9 tk9 hP9 F9 N9; (try dsimp only at hP9); (try dsimp only)))) | with_reducible ((with_reducible show wpAny _ _ (call (Value.ref 493) _) _ _ _); k_here; (k_dflt (refine' CtQ.use ?hC ?cB ?cF ?cX ?cN ?cT ?ck ?cd ?cu ?_; (case hC => first | assumption | apply_assumption); (case cN => k_asm); walk_at "mine ct"; k_whole; intro v9 l9 h9 tk9 hP9 F9 N9; (try dsimp only at hP9); (try dsimp only)))) | with_reducible ((with_reducible show wpAny _ _ (call (Value.ref 493) _) _ _ _); k_here; k_dflt (refine' CtQ.use (emark_no ?h1 ?h2 ?hO ?hO2 ?hne ?hd ?hf ?hs ?hD ?hv ?hb) ?cB ?cF ?cX ?cN ?cT ?ck ?cd ?cu ?_; (case hd => first | with_reducible assumption | assumption); (case hf => first | with_reducible assumption | assumption); (case hb => first | with_reducible assumption | assumption); (case cN => exact pick2 (by k_asm) (by walk_at "mine pick") (by walk_at "mine pick")); (case h1 => k_mem); (case h2 => k_mem); (case hO => walk_at "mine off"); (case hO2 => walk_at "mine off"); (case hne => first | assumption | omega); (case hs => first | with_reducible assumption | assumption); (case hD => first | assumption | omega); (case hv => first | assumption | omega); walk_at "mine ct"; k_whole; (intro v9 l9 h9 tk9 hP9 F9 N9; obtain ⟨d9, a9, q9, n9, e9, i9, f9, o9, o8, o7⟩ := hP9; subst e9 d9; (have o5 := o9); (k_lt o5); (have o6 := ltN o8); (have o4 := ltN o7); (try k_sweep); (try dsimp only)))) | with_reducible ((with_reducible show wpAny _ _ (call (Value.ref 493) _) _ _ _); k_here; k_dflt (refine' CtQ.use (emark_yes ?h1 ?h2 ?h3 ?hd ?hf ?hs ?hb) ?cB ?cF ?cX ?cN ?cT ?ck ?cd ?cu ?_; (case cN => k_asm); (case h1 => k_mem); (case h2 => k_mem); (case h3 => k_mem); (case hd => first | with_reducible assumption | assumption); (case hf => first | with_reducible assumption | assumption); (case hs => first | with_reducible assumption | assumption); (case hb => first | with_reducible assumption | assumption); walk_at "mine ct"; k_whole; (intro v9 l9 h9 tk9 hP9 F9 N9; obtain ⟨e9, d9⟩ := hP9; subst e9 d9; (try k_sweep); (try dsimp only)))) | with_reducible refine ite_pos (by decide) ?_ | with_reducible refine ite_neg (by decide) ?_ | (k_unfold; (try dsimp only)) | (k_end; wrow_close) | walk1 | (dsimp only; walk1) | (leave1; try dsimp only)))
  all_goals exact hret _ _ _ _ ⟨rfl, _, _, by assumption⟩ (by assumption) (by assumption)
theorem name_yes (g1 : (rd, instObj 468 rdd) ∈ led) (g2 : (rdd, rdD w R sc er tk) ∈ led) (g3 : (tk, instObj 38 tkd) ∈ led) (g4 : (tkd, toD w j1 j2 j3 (.str kd tkk) val (.int pl tkp)) ∈ led) (hb : (kd == Str.ofString "ident") = true)
    (C : CtQ prog w 6 395 [.ref rd] led Post) : CtQ prog w 8 430 [.ref rd] led Post := by
  intro p9 loose mean mg mb dp un gd cn cs a9 ccd cl outer A₀ base h₀ L m s Q E B F X N T hk hd hu hret
  ((have kf : (PySem.Challenge.rw_pq0763_01 = PySem.Challenge.rw_pq0763_01) ∧ (KK = KK) := by (k_fill; exact ⟨rfl, rfl⟩)); clear kf)
  (first | ((with_reducible show wpAny _ _ (call (Value.ref 402) _) _ _ _); k_here; (k_dflt (refine' CtQ.use ?hC ?cB ?cF ?cX ?cN ?cT ?ck ?cd ?cu ?_; (case hC => first | assumption | apply_assumption); (case cN => k_asm); walk_at "mine ct"; k_whole; intro v9 l9 h9 tk9 hP9 F9 N9; (try dsimp only at hP9); (try dsimp only)))) | ((with_reducible show wpAny _ _ (call (Value.ref 423) _) _ _ _); k_here; (k_dflt (refine' CtQ.use ?hC ?cB ?cF ?cX ?cN ?cT ?ck ?cd ?cu ?_; (case hC => first | assumption | apply_assumption); (case cN => k_asm); walk_at "mine ct"; k_whole; intro v9 l9 h9 tk9 hP9 F9 N9; (try dsimp only at hP9); (try dsimp only)))) | ((with_reducible show wpAny _ _ (call (Value.ref 409) _) _ _ _); k_here; (k_dflt (refine' CtQ.use ?hC ?cB ?cF ?cX ?cN ?cT ?ck ?cd ?cu ?_; (case hC => first | assumption | apply_assumption); (case cN => k_asm); walk_at "mine ct"; k_whole; intro v9 l9 h9 tk9 hP9 F9 N9; (try dsimp only at hP9); (try dsimp only)))) | ((with_reducible show wpAny _ _ (call (Value.ref 395) _) _ _ _); k_here; (k_dflt (refine' CtQ.use ?hC ?cB ?cF ?cX ?cN ?cT ?ck ?cd ?cu ?_; (case hC => first | assumption | apply_assumption); (case cN => k_asm); walk_at "mine ct"; k_whole; intro v9 l9 h9 tk9 hP9 F9 N9; (try dsimp only at hP9); (try dsimp only)))) | ((with_reducible show wpAny _ _ (call (Value.ref 493) _) _ _ _); k_here; (k_dflt (refine' CtQ.use ?hC ?cB ?cF ?cX ?cN ?cT ?ck ?cd ?cu ?_; (case hC => first | assumption | apply_assumption); (case cN => k_asm); walk_at "mine ct"; k_whole; intro v9 l9 h9 tk9 hP9 F9 N9; (try dsimp only at hP9); (try dsimp only)))) | ((with_reducible show wpAny _ _ (call (Value.ref 493) _) _ _ _); k_here; k_dflt (refine' CtQ.use (emark_no ?h1 ?h2 ?hO ?hO2 ?hne ?hd ?hf ?hs ?hD ?hv ?hb) ?cB ?cF ?cX ?cN ?cT ?ck ?cd ?cu ?_; (case hd => first | with_reducible assumption | assumption); (case hf => first | with_reducible assumption | assumption); (case hb => first | with_reducible assumption | assumption); (case cN => exact pick2 (by k_asm) (by walk_at "mine pick") (by walk_at "mine pick")); (case h1 => k_mem); (case h2 => k_mem); (case hO => walk_at "mine off"); (case hO2 => walk_at "mine off"); (case hne => first | assumption | omega); (case hs => first | with_reducible assumption | assumption); (case hD => first | assumption | omega); (case hv => first | assumption | omega); walk_at "mine ct"; k_whole; (intro v9 l9 h9 tk9 hP9 F9 N9; obtain ⟨d9, a9, q9, n9, e9, i9, f9, o9, o8, o7⟩ := hP9; subst e9 d9; (have o5 := o9); (k_lt o5); (have o6 := ltN o8); (have o4 := ltN o7); (try k_sweep); (try dsimp only)))) | ((with_reducible show wpAny _ _ (call (Value.ref 493) _) _ _ _); k_here; k_dflt (refine' CtQ.use (emark_yes ?h1 ?h2 ?h3 ?hd ?hf ?hs ?hb) ?cB ?cF ?cX ?cN ?cT ?ck ?cd ?cu ?_; (case cN => k_asm); (case h1 => k_mem); (case h2 => k_mem); (case h3 => k_mem); (case hd => first | with_reducible assumption | assumption); (case hf => first | with_reducible assumption | assumption); (case hs => first | with_reducible assumption | assumption); (case hb => first | with_reducible assumption | assumption); walk_at "mine ct"; k_whole; (intro v9 l9 h9 tk9 hP9 F9 N9; obtain ⟨e9, d9⟩ := hP9; subst e9 d9; (try k_sweep); (try dsimp only)))) | walk_at "call ref")
  have C2 : ∀ tq, CtQ prog w 1 402 [.ref rd, .str (Str.ofString "ident") tq] led (fun v l => v = .bool true ∧ l = led) := fun tq => at_ok g1 g2 g3 g4 hb
  repeat ((fail_if_success (with_reducible show wpAny _ _ (call (Value.ref 402) _) _ _ _)); (first | with_reducible ((with_reducible show wpAny _ _ (call (Value.ref 402) _) _ _ _); k_here; (k_dflt (refine' CtQ.use ?hC ?cB ?cF ?cX ?cN ?cT ?ck ?cd ?cu ?_; (case hC => first | assumption | apply_assumption); (case cN => k_asm); walk_at "mine ct"; k_whole; intro v9 l9 h9 tk9 hP9 F9 N9; (try dsimp only at hP9); (try dsimp only)))) | with_reducible ((with_reducible show wpAny _ _ (call (Value.ref 423) _) _ _ _); k_here; (k_dflt (refine' CtQ.use ?hC ?cB ?cF ?cX ?cN ?cT ?ck ?cd ?cu ?_; (case hC => first | assumption | apply_assumption); (case cN => k_asm); walk_at "mine ct"; k_whole; intro v9 l9 h9 tk9 hP9 F9 N9; (try dsimp only at hP9); (try dsimp only)))) | with_reducible ((with_reducible show wpAny _ _ (call (Value.ref 409) _) _ _ _); k_here; (k_dflt (refine' CtQ.use ?hC ?cB ?cF ?cX ?cN ?cT ?ck ?cd ?cu ?_; (case hC => first | assumption | apply_assumption); (case cN => k_asm); walk_at "mine ct"; k_whole; intro v9 l9 h9 tk9 hP9 F9 N9; (try dsimp only at hP9); (try dsimp only)))) | with_reducible ((with_reducible show wpAny _ _ (call (Value.ref 395) _) _ _ _); k_here; (k_dflt (refine' CtQ.use ?hC ?cB ?cF ?cX ?cN ?cT ?ck ?cd ?cu ?_; (case hC => first | assumption | apply_assumption); (case cN => k_asm); walk_at "mine ct"; k_whole; intro v9 l9 h9 tk9 hP9 F9 N9; (try dsimp only at hP9); (try dsimp only)))) | with_reducible ((with_reducible show wpAny _ _ (call (Value.ref 493) _) _ _ _); k_here; (k_dflt (refine' CtQ.use ?hC ?cB ?cF ?cX ?cN ?cT ?ck ?cd ?cu ?_; (case hC => first | assumption | apply_assumption); (case cN => k_asm); walk_at "mine ct"; k_whole; intro v9 l9 h9 tk9 hP9 F9 N9; (try dsimp only at hP9); (try dsimp only)))) | with_reducible ((with_reducible show wpAny _ _ (call (Value.ref 493) _) _ _ _); k_here; k_dflt (refine' CtQ.use (emark_no ?h1 ?h2 ?hO ?hO2 ?hne ?hd ?hf ?hs ?hD ?hv ?hb) ?cB ?cF ?cX ?cN ?cT ?ck ?cd ?cu ?_; (case hd => first | with_reducible assumption | assumption); (case hf => first | with_reducible assumption | assumption); (case hb => first | with_reducible assumption | assumption); (case cN => exact pick2 (by k_asm) (by walk_at "mine pick") (by walk_at "mine pick")); (case h1 => k_mem); (case h2 => k_mem); (case hO => walk_at "mine off"); (case hO2 => walk_at "mine off"); (case hne => first | assumption | omega); (case hs => first | with_reducible assumption | assumption); (case hD => first | assumption | omega); (case hv => first | assumption | omega); walk_at "mine ct"; k_whole; (intro v9 l9 h9 tk9 hP9 F9 N9; obtain ⟨d9, a9, q9, n9, e9, i9, f9, o9, o8, o7⟩ := hP9; subst e9 d9; (have o5 := o9); (k_lt o5); (have o6 := ltN o8); (have o4 := ltN o7); (try k_sweep); (try dsimp only)))) | with_reducible ((with_reducible show wpAny _ _ (call (Value.ref 493) _) _ _ _); k_here; k_dflt (refine' CtQ.use (emark_yes ?h1 ?h2 ?h3 ?hd ?hf ?hs ?hb) ?cB ?cF ?cX ?cN ?cT ?ck ?cd ?cu ?_; (case cN => k_asm); (case h1 => k_mem); (case h2 => k_mem); (case h3 => k_mem); (case hd => first | with_reducible assumption | assumption); (case hf => first | with_reducible assumption | assumption); (case hs => first | with_reducible assumption | assumption); (case hb => first | with_reducible assumption | assumption); walk_at "mine ct"; k_whole; (intro v9 l9 h9 tk9 hP9 F9 N9; obtain ⟨e9, d9⟩ := hP9; subst e9 d9; (try k_sweep); (try dsimp only)))) | with_reducible refine ite_pos (by decide) ?_ | with_reducible refine ite_neg (by decide) ?_ | walk_at "mine step"))
  (first | ((with_reducible show wpAny _ _ (call (Value.ref 402) _) _ _ _); k_here; (k_dflt (refine' CtQ.use ?hC ?cB ?cF ?cX ?cN ?cT ?ck ?cd ?cu ?_; (case hC => first | assumption | apply_assumption); (case cN => k_asm); walk_at "mine ct"; k_whole; intro v9 l9 h9 tk9 hP9 F9 N9; (try dsimp only at hP9); (try dsimp only)))) | ((with_reducible show wpAny _ _ (call (Value.ref 423) _) _ _ _); k_here; (k_dflt (refine' CtQ.use ?hC ?cB ?cF ?cX ?cN ?cT ?ck ?cd ?cu ?_; (case hC => first | assumption | apply_assumption); (case cN => k_asm); walk_at "mine ct"; k_whole; intro v9 l9 h9 tk9 hP9 F9 N9; (try dsimp only at hP9); (try dsimp only)))) | ((with_reducible show wpAny _ _ (call (Value.ref 409) _) _ _ _); k_here; (k_dflt (refine' CtQ.use ?hC ?cB ?cF ?cX ?cN ?cT ?ck ?cd ?cu ?_; (case hC => first | assumption | apply_assumption); (case cN => k_asm); walk_at "mine ct"; k_whole; intro v9 l9 h9 tk9 hP9 F9 N9; (try dsimp only at hP9); (try dsimp only)))) | ((with_reducible show wpAny _ _ (call (Value.ref 395) _) _ _ _); k_here; (k_dflt (refine' CtQ.use ?hC ?cB ?cF ?cX ?cN ?cT ?ck ?cd ?cu ?_; (case hC => first | assumption | apply_assumption); (case cN => k_asm); walk_at "mine ct"; k_whole; intro v9 l9 h9 tk9 hP9 F9 N9; (try dsimp only at hP9); (try dsimp only)))) | ((with_reducible show wpAny _ _ (call (Value.ref 493) _) _ _ _); k_here; (k_dflt (refine' CtQ.use ?hC ?cB ?cF ?cX ?cN ?cT ?ck ?cd ?cu ?_; (case hC => first | assumption | apply_assumption); (case cN => k_asm); walk_at "mine ct"; k_whole; intro v9 l9 h9 tk9 hP9 F9 N9; (try dsimp only at hP9); (try dsimp only)))) | ((with_reducible show wpAny _ _ (call (Value.ref 493) _) _ _ _); k_here; k_dflt (refine' CtQ.use (emark_no ?h1 ?h2 ?hO ?hO2 ?hne ?hd ?hf ?hs ?hD ?hv ?hb) ?cB ?cF ?cX ?cN ?cT ?ck ?cd ?cu ?_; (case hd => first | with_reducible assumption | assumption); (case hf => first | with_reducible assumption | assumption); (case hb => first | with_reducible assumption | assumption); (case cN => exact pick2 (by k_asm) (by walk_at "mine pick") (by walk_at "mine pick")); (case h1 => k_mem); (case h2 => k_mem); (case hO => walk_at "mine off"); (case hO2 => walk_at "mine off"); (case hne => first | assumption | omega); (case hs => first | with_reducible assumption | assumption); (case hD => first | assumption | omega); (case hv => first | assumption | omega); walk_at "mine ct"; k_whole; (intro v9 l9 h9 tk9 hP9 F9 N9; obtain ⟨d9, a9, q9, n9, e9, i9, f9, o9, o8, o7⟩ := hP9; subst e9 d9; (have o5 := o9); (k_lt o5); (have o6 := ltN o8); (have o4 := ltN o7); (try k_sweep); (try dsimp only)))) | ((with_reducible show wpAny _ _ (call (Value.ref 493) _) _ _ _); k_here; k_dflt (refine' CtQ.use (emark_yes ?h1 ?h2 ?h3 ?hd ?hf ?hs ?hb) ?cB ?cF ?cX ?cN ?cT ?ck ?cd ?cu ?_; (case cN => k_asm); (case h1 => k_mem); (case h2 => k_mem); (case h3 => k_mem); (case hd => first | with_reducible assumption | assumption); (case hf => first | with_reducible assumption | assumption); (case hs => first | with_reducible assumption | assumption); (case hb => first | with_reducible assumption | assumption); walk_at "mine ct"; k_whole; (intro v9 l9 h9 tk9 hP9 F9 N9; obtain ⟨e9, d9⟩ := hP9; subst e9 d9; (try k_sweep); (try dsimp only)))) | walk_at "call ref")
  rename _ = Value.bool _ ∧ _ => hP9
  obtain ⟨d9, e9⟩ := hP9
  subst d9 e9
  clear C2
  (repeat' (first | with_reducible ((with_reducible show wpAny _ _ (call (Value.ref 402) _) _ _ _); k_here; (k_dflt (refine' CtQ.use ?hC ?cB ?cF ?cX ?cN ?cT ?ck ?cd ?cu ?_; (case hC => first | assumption | apply_assumption); (case cN => k_asm); walk_at "mine ct"; k_whole; intro v9 l9 h9 tk9 hP9 F9 N9; (try dsimp only at hP9); (try dsimp only)))) | with_reducible ((with_reducible show wpAny _ _ (call (Value.ref 423) _) _ _ _); k_here; (k_dflt (refine' CtQ.use ?hC ?cB ?cF ?cX ?cN ?cT ?ck ?cd ?cu ?_; (case hC => first | assumption | apply_assumption); (case cN => k_asm); walk_at "mine ct"; k_whole; intro v9 l9 h9 tk9 hP9 F9 N9; (try dsimp only at hP9); (try dsimp only)))) | with_reducible ((with_reducible show wpAny _ _ (call (Value.ref 409) _) _ _ _); k_here; (k_dflt (refine' CtQ.use ?hC ?cB ?cF ?cX ?cN ?cT ?ck ?cd ?cu ?_; (case hC => first | assumption | apply_assumption); (case cN => k_asm); walk_at "mine ct"; k_whole; intro v9 l9 h9 tk9 hP9 F9 N9; (try dsimp only at hP9); (try dsimp only)))) | with_reducible ((with_reducible show wpAny _ _ (call (Value.ref 395) _) _ _ _); k_here; (k_dflt (refine' CtQ.use ?hC ?cB ?cF ?cX ?cN ?cT ?ck ?cd ?cu ?_; (case hC => first | assumption | apply_assumption); (case cN => k_asm); walk_at "mine ct"; k_whole; intro v9 l9 h9 tk9 hP9 F9 N9; (try dsimp only at hP9); (try dsimp only)))) | with_reducible ((with_reducible show wpAny _ _ (call (Value.ref 493) _) _ _ _); k_here; (k_dflt (refine' CtQ.use ?hC ?cB ?cF ?cX ?cN ?cT ?ck ?cd ?cu ?_; (case hC => first | assumption | apply_assumption); (case cN => k_asm); walk_at "mine ct"; k_whole; intro v9 l9 h9 tk9 hP9 F9 N9; (try dsimp only at hP9); (try dsimp only)))) | with_reducible ((with_reducible show wpAny _ _ (call (Value.ref 493) _) _ _ _); k_here; k_dflt (refine' CtQ.use (emark_no ?h1 ?h2 ?hO ?hO2 ?hne ?hd ?hf ?hs ?hD ?hv ?hb) ?cB ?cF ?cX ?cN ?cT ?ck ?cd ?cu ?_; (case hd => first | with_reducible assumption | assumption); (case hf => first | with_reducible assumption | assumption); (case hb => first | with_reducible assumption | assumption); (case cN => exact pick2 (by k_asm) (by walk_at "mine pick") (by walk_at "mine pick")); (case h1 => k_mem); (case h2 => k_mem); (case hO => walk_at "mine off"); (case hO2 => walk_at "mine off"); (case hne => first | assumption | omega); (case hs => first | with_reducible assumption | assumption); (case hD => first | assumption | omega); (case hv => first | assumption | omega); walk_at "mine ct"; k_whole; (intro v9 l9 h9 tk9 hP9 F9 N9; obtain ⟨d9, a9, q9, n9, e9, i9, f9, o9, o8, o7⟩ := hP9; subst e9 d9; (have o5 := o9); (k_lt o5); (have o6 := ltN o8); (have o4 := ltN o7); (try k_sweep); (try dsimp only)))) | with_reducible ((with_reducible show wpAny _ _ (call (Value.ref 493) _) _ _ _); k_here; k_dflt (refine' CtQ.use (emark_yes ?h1 ?h2 ?h3 ?hd ?hf ?hs ?hb) ?cB ?cF ?cX ?cN ?cT ?ck ?cd ?cu ?_; (case cN => k_asm); (case h1 => k_mem); (case h2 => k_mem); (case h3 => k_mem); (case hd => first | with_reducible assumption | assumption); (case hf => first | with_reducible assumption | assumption); (case hs => first | with_reducible assumption | assumption); (case hb => first | with_reducible assumption | assumption); walk_at "mine ct"; k_whole; (intro v9 l9 h9 tk9 hP9 F9 N9; obtain ⟨e9, d9⟩ := hP9; subst e9 d9; (try k_sweep); (try dsimp only)))) | with_reducible refine ite_pos (by decide) ?_ | with_reducible refine ite_neg (by decide) ?_ | (k_unfold; (try dsimp only)) | (k_end; wrow_close) | walk1 | (dsimp only; walk1) | (leave1; try dsimp only)))
  exact hret _ _ _ _ (by assumption) (by assumption) (by assumption)
theorem name_no (g1 : (rd, instObj 468 rdd) ∈ led) (g2 : (rdd, rdD w R sc er tk) ∈ led) (g3 : (tk, instObj 38 tkd) ∈ led) (g4 : (tkd, toD w j1 j2 j3 (.str kd tkk) val (.int pl tkp)) ∈ led) (hb : (kd == Str.ofString "ident") = false)
    (C : ∀ tc, CtQ prog w 2 423 [.ref rd, .str (Str.ofString "expected identifier") tc] led (PostT tc)) : CtQ prog w 8 430 [.ref rd] led (fun v l => v = .none ∧ ∃ tc v0, PostT tc v0 l) := by
  intro p9 loose mean mg mb dp un gd cn cs a9 ccd cl outer A₀ base h₀ L m s Q E B F X N T hk hd hu hret
  ((have kf : (PySem.Challenge.rw_pq0763_01 = PySem.Challenge.rw_pq0763_01) ∧ (KK = KK) := by (k_fill; exact ⟨rfl, rfl⟩)); clear kf)
  (first | ((with_reducible show wpAny _ _ (call (Value.ref 402) _) _ _ _); k_here; (k_dflt (refine' CtQ.use ?hC ?cB ?cF ?cX ?cN ?cT ?ck ?cd ?cu ?_; (case hC => first | assumption | apply_assumption); (case cN => k_asm); walk_at "mine ct"; k_whole; intro v9 l9 h9 tk9 hP9 F9 N9; (try dsimp only at hP9); (try dsimp only)))) | ((with_reducible show wpAny _ _ (call (Value.ref 423) _) _ _ _); k_here; (k_dflt (refine' CtQ.use ?hC ?cB ?cF ?cX ?cN ?cT ?ck ?cd ?cu ?_; (case hC => first | assumption | apply_assumption); (case cN => k_asm); walk_at "mine ct"; k_whole; intro v9 l9 h9 tk9 hP9 F9 N9; (try dsimp only at hP9); (try dsimp only)))) | ((with_reducible show wpAny _ _ (call (Value.ref 409) _) _ _ _); k_here; (k_dflt (refine' CtQ.use ?hC ?cB ?cF ?cX ?cN ?cT ?ck ?cd ?cu ?_; (case hC => first | assumption | apply_assumption); (case cN => k_asm); walk_at "mine ct"; k_whole; intro v9 l9 h9 tk9 hP9 F9 N9; (try dsimp only at hP9); (try dsimp only)))) | ((with_reducible show wpAny _ _ (call (Value.ref 395) _) _ _ _); k_here; (k_dflt (refine' CtQ.use ?hC ?cB ?cF ?cX ?cN ?cT ?ck ?cd ?cu ?_; (case hC => first | assumption | apply_assumption); (case cN => k_asm); walk_at "mine ct"; k_whole; intro v9 l9 h9 tk9 hP9 F9 N9; (try dsimp only at hP9); (try dsimp only)))) | ((with_reducible show wpAny _ _ (call (Value.ref 493) _) _ _ _); k_here; (k_dflt (refine' CtQ.use ?hC ?cB ?cF ?cX ?cN ?cT ?ck ?cd ?cu ?_; (case hC => first | assumption | apply_assumption); (case cN => k_asm); walk_at "mine ct"; k_whole; intro v9 l9 h9 tk9 hP9 F9 N9; (try dsimp only at hP9); (try dsimp only)))) | ((with_reducible show wpAny _ _ (call (Value.ref 493) _) _ _ _); k_here; k_dflt (refine' CtQ.use (emark_no ?h1 ?h2 ?hO ?hO2 ?hne ?hd ?hf ?hs ?hD ?hv ?hb) ?cB ?cF ?cX ?cN ?cT ?ck ?cd ?cu ?_; (case hd => first | with_reducible assumption | assumption); (case hf => first | with_reducible assumption | assumption); (case hb => first | with_reducible assumption | assumption); (case cN => exact pick2 (by k_asm) (by walk_at "mine pick") (by walk_at "mine pick")); (case h1 => k_mem); (case h2 => k_mem); (case hO => walk_at "mine off"); (case hO2 => walk_at "mine off"); (case hne => first | assumption | omega); (case hs => first | with_reducible assumption | assumption); (case hD => first | assumption | omega); (case hv => first | assumption | omega); walk_at "mine ct"; k_whole; (intro v9 l9 h9 tk9 hP9 F9 N9; obtain ⟨d9, a9, q9, n9, e9, i9, f9, o9, o8, o7⟩ := hP9; subst e9 d9; (have o5 := o9); (k_lt o5); (have o6 := ltN o8); (have o4 := ltN o7); (try k_sweep); (try dsimp only)))) | ((with_reducible show wpAny _ _ (call (Value.ref 493) _) _ _ _); k_here; k_dflt (refine' CtQ.use (emark_yes ?h1 ?h2 ?h3 ?hd ?hf ?hs ?hb) ?cB ?cF ?cX ?cN ?cT ?ck ?cd ?cu ?_; (case cN => k_asm); (case h1 => k_mem); (case h2 => k_mem); (case h3 => k_mem); (case hd => first | with_reducible assumption | assumption); (case hf => first | with_reducible assumption | assumption); (case hs => first | with_reducible assumption | assumption); (case hb => first | with_reducible assumption | assumption); walk_at "mine ct"; k_whole; (intro v9 l9 h9 tk9 hP9 F9 N9; obtain ⟨e9, d9⟩ := hP9; subst e9 d9; (try k_sweep); (try dsimp only)))) | walk_at "call ref")
  have C2 : ∀ tq, CtQ prog w 1 402 [.ref rd, .str (Str.ofString "ident") tq] led (fun v l => v = .bool false ∧ l = led) := fun tq => at_ok g1 g2 g3 g4 hb
  repeat ((fail_if_success (with_reducible show wpAny _ _ (call (Value.ref 402) _) _ _ _)); (first | with_reducible ((with_reducible show wpAny _ _ (call (Value.ref 402) _) _ _ _); k_here; (k_dflt (refine' CtQ.use ?hC ?cB ?cF ?cX ?cN ?cT ?ck ?cd ?cu ?_; (case hC => first | assumption | apply_assumption); (case cN => k_asm); walk_at "mine ct"; k_whole; intro v9 l9 h9 tk9 hP9 F9 N9; (try dsimp only at hP9); (try dsimp only)))) | with_reducible ((with_reducible show wpAny _ _ (call (Value.ref 423) _) _ _ _); k_here; (k_dflt (refine' CtQ.use ?hC ?cB ?cF ?cX ?cN ?cT ?ck ?cd ?cu ?_; (case hC => first | assumption | apply_assumption); (case cN => k_asm); walk_at "mine ct"; k_whole; intro v9 l9 h9 tk9 hP9 F9 N9; (try dsimp only at hP9); (try dsimp only)))) | with_reducible ((with_reducible show wpAny _ _ (call (Value.ref 409) _) _ _ _); k_here; (k_dflt (refine' CtQ.use ?hC ?cB ?cF ?cX ?cN ?cT ?ck ?cd ?cu ?_; (case hC => first | assumption | apply_assumption); (case cN => k_asm); walk_at "mine ct"; k_whole; intro v9 l9 h9 tk9 hP9 F9 N9; (try dsimp only at hP9); (try dsimp only)))) | with_reducible ((with_reducible show wpAny _ _ (call (Value.ref 395) _) _ _ _); k_here; (k_dflt (refine' CtQ.use ?hC ?cB ?cF ?cX ?cN ?cT ?ck ?cd ?cu ?_; (case hC => first | assumption | apply_assumption); (case cN => k_asm); walk_at "mine ct"; k_whole; intro v9 l9 h9 tk9 hP9 F9 N9; (try dsimp only at hP9); (try dsimp only)))) | with_reducible ((with_reducible show wpAny _ _ (call (Value.ref 493) _) _ _ _); k_here; (k_dflt (refine' CtQ.use ?hC ?cB ?cF ?cX ?cN ?cT ?ck ?cd ?cu ?_; (case hC => first | assumption | apply_assumption); (case cN => k_asm); walk_at "mine ct"; k_whole; intro v9 l9 h9 tk9 hP9 F9 N9; (try dsimp only at hP9); (try dsimp only)))) | with_reducible ((with_reducible show wpAny _ _ (call (Value.ref 493) _) _ _ _); k_here; k_dflt (refine' CtQ.use (emark_no ?h1 ?h2 ?hO ?hO2 ?hne ?hd ?hf ?hs ?hD ?hv ?hb) ?cB ?cF ?cX ?cN ?cT ?ck ?cd ?cu ?_; (case hd => first | with_reducible assumption | assumption); (case hf => first | with_reducible assumption | assumption); (case hb => first | with_reducible assumption | assumption); (case cN => exact pick2 (by k_asm) (by walk_at "mine pick") (by walk_at "mine pick")); (case h1 => k_mem); (case h2 => k_mem); (case hO => walk_at "mine off"); (case hO2 => walk_at "mine off"); (case hne => first | assumption | omega); (case hs => first | with_reducible assumption | assumption); (case hD => first | assumption | omega); (case hv => first | assumption | omega); walk_at "mine ct"; k_whole; (intro v9 l9 h9 tk9 hP9 F9 N9; obtain ⟨d9, a9, q9, n9, e9, i9, f9, o9, o8, o7⟩ := hP9; subst e9 d9; (have o5 := o9); (k_lt o5); (have o6 := ltN o8); (have o4 := ltN o7); (try k_sweep); (try dsimp only)))) | with_reducible ((with_reducible show wpAny _ _ (call (Value.ref 493) _) _ _ _); k_here; k_dflt (refine' CtQ.use (emark_yes ?h1 ?h2 ?h3 ?hd ?hf ?hs ?hb) ?cB ?cF ?cX ?cN ?cT ?ck ?cd ?cu ?_; (case cN => k_asm); (case h1 => k_mem); (case h2 => k_mem); (case h3 => k_mem); (case hd => first | with_reducible assumption | assumption); (case hf => first | with_reducible assumption | assumption); (case hs => first | with_reducible assumption | assumption); (case hb => first | with_reducible assumption | assumption); walk_at "mine ct"; k_whole; (intro v9 l9 h9 tk9 hP9 F9 N9; obtain ⟨e9, d9⟩ := hP9; subst e9 d9; (try k_sweep); (try dsimp only)))) | with_reducible refine ite_pos (by decide) ?_ | with_reducible refine ite_neg (by decide) ?_ | walk_at "mine step"))
  (first | ((with_reducible show wpAny _ _ (call (Value.ref 402) _) _ _ _); k_here; (k_dflt (refine' CtQ.use ?hC ?cB ?cF ?cX ?cN ?cT ?ck ?cd ?cu ?_; (case hC => first | assumption | apply_assumption); (case cN => k_asm); walk_at "mine ct"; k_whole; intro v9 l9 h9 tk9 hP9 F9 N9; (try dsimp only at hP9); (try dsimp only)))) | ((with_reducible show wpAny _ _ (call (Value.ref 423) _) _ _ _); k_here; (k_dflt (refine' CtQ.use ?hC ?cB ?cF ?cX ?cN ?cT ?ck ?cd ?cu ?_; (case hC => first | assumption | apply_assumption); (case cN => k_asm); walk_at "mine ct"; k_whole; intro v9 l9 h9 tk9 hP9 F9 N9; (try dsimp only at hP9); (try dsimp only)))) | ((with_reducible show wpAny _ _ (call (Value.ref 409) _) _ _ _); k_here; (k_dflt (refine' CtQ.use ?hC ?cB ?cF ?cX ?cN ?cT ?ck ?cd ?cu ?_; (case hC => first | assumption | apply_assumption); (case cN => k_asm); walk_at "mine ct"; k_whole; intro v9 l9 h9 tk9 hP9 F9 N9; (try dsimp only at hP9); (try dsimp only)))) | ((with_reducible show wpAny _ _ (call (Value.ref 395) _) _ _ _); k_here; (k_dflt (refine' CtQ.use ?hC ?cB ?cF ?cX ?cN ?cT ?ck ?cd ?cu ?_; (case hC => first | assumption | apply_assumption); (case cN => k_asm); walk_at "mine ct"; k_whole; intro v9 l9 h9 tk9 hP9 F9 N9; (try dsimp only at hP9); (try dsimp only)))) | ((with_reducible show wpAny _ _ (call (Value.ref 493) _) _ _ _); k_here; (k_dflt (refine' CtQ.use ?hC ?cB ?cF ?cX ?cN ?cT ?ck ?cd ?cu ?_; (case hC => first | assumption | apply_assumption); (case cN => k_asm); walk_at "mine ct"; k_whole; intro v9 l9 h9 tk9 hP9 F9 N9; (try dsimp only at hP9); (try dsimp only)))) | ((with_reducible show wpAny _ _ (call (Value.ref 493) _) _ _ _); k_here; k_dflt (refine' CtQ.use (emark_no ?h1 ?h2 ?hO ?hO2 ?hne ?hd ?hf ?hs ?hD ?hv ?hb) ?cB ?cF ?cX ?cN ?cT ?ck ?cd ?cu ?_; (case hd => first | with_reducible assumption | assumption); (case hf => first | with_reducible assumption | assumption); (case hb => first | with_reducible assumption | assumption); (case cN => exact pick2 (by k_asm) (by walk_at "mine pick") (by walk_at "mine pick")); (case h1 => k_mem); (case h2 => k_mem); (case hO => walk_at "mine off"); (case hO2 => walk_at "mine off"); (case hne => first | assumption | omega); (case hs => first | with_reducible assumption | assumption); (case hD => first | assumption | omega); (case hv => first | assumption | omega); walk_at "mine ct"; k_whole; (intro v9 l9 h9 tk9 hP9 F9 N9; obtain ⟨d9, a9, q9, n9, e9, i9, f9, o9, o8, o7⟩ := hP9; subst e9 d9; (have o5 := o9); (k_lt o5); (have o6 := ltN o8); (have o4 := ltN o7); (try k_sweep); (try dsimp only)))) | ((with_reducible show wpAny _ _ (call (Value.ref 493) _) _ _ _); k_here; k_dflt (refine' CtQ.use (emark_yes ?h1 ?h2 ?h3 ?hd ?hf ?hs ?hb) ?cB ?cF ?cX ?cN ?cT ?ck ?cd ?cu ?_; (case cN => k_asm); (case h1 => k_mem); (case h2 => k_mem); (case h3 => k_mem); (case hd => first | with_reducible assumption | assumption); (case hf => first | with_reducible assumption | assumption); (case hs => first | with_reducible assumption | assumption); (case hb => first | with_reducible assumption | assumption); walk_at "mine ct"; k_whole; (intro v9 l9 h9 tk9 hP9 F9 N9; obtain ⟨e9, d9⟩ := hP9; subst e9 d9; (try k_sweep); (try dsimp only)))) | walk_at "call ref")
  rename _ = Value.bool _ ∧ _ => hP9
  obtain ⟨d9, e9⟩ := hP9
  subst d9 e9
  clear C2
  (repeat' (first | with_reducible ((with_reducible show wpAny _ _ (call (Value.ref 402) _) _ _ _); k_here; (k_dflt (refine' CtQ.use ?hC ?cB ?cF ?cX ?cN ?cT ?ck ?cd ?cu ?_; (case hC => first | assumption | apply_assumption); (case cN => k_asm); walk_at "mine ct"; k_whole; intro v9 l9 h9 tk9 hP9 F9 N9; (try dsimp only at hP9); (try dsimp only)))) | with_reducible ((with_reducible show wpAny _ _ (call (Value.ref 423) _) _ _ _); k_here; (k_dflt (refine' CtQ.use ?hC ?cB ?cF ?cX ?cN ?cT ?ck ?cd ?cu ?_; (case hC => first | assumption | apply_assumption); (case cN => k_asm); walk_at "mine ct"; k_whole; intro v9 l9 h9 tk9 hP9 F9 N9; (try dsimp only at hP9); (try dsimp only)))) | with_reducible ((with_reducible show wpAny _ _ (call (Value.ref 409) _) _ _ _); k_here; (k_dflt (refine' CtQ.use ?hC ?cB ?cF ?cX ?cN ?cT ?ck ?cd ?cu ?_; (case hC => first | assumption | apply_assumption); (case cN => k_asm); walk_at "mine ct"; k_whole; intro v9 l9 h9 tk9 hP9 F9 N9; (try dsimp only at hP9); (try dsimp only)))) | with_reducible ((with_reducible show wpAny _ _ (call (Value.ref 395) _) _ _ _); k_here; (k_dflt (refine' CtQ.use ?hC ?cB ?cF ?cX ?cN ?cT ?ck ?cd ?cu ?_; (case hC => first | assumption | apply_assumption); (case cN => k_asm); walk_at "mine ct"; k_whole; intro v9 l9 h9 tk9 hP9 F9 N9; (try dsimp only at hP9); (try dsimp only)))) | with_reducible ((with_reducible show wpAny _ _ (call (Value.ref 493) _) _ _ _); k_here; (k_dflt (refine' CtQ.use ?hC ?cB ?cF ?cX ?cN ?cT ?ck ?cd ?cu ?_; (case hC => first | assumption | apply_assumption); (case cN => k_asm); walk_at "mine ct"; k_whole; intro v9 l9 h9 tk9 hP9 F9 N9; (try dsimp only at hP9); (try dsimp only)))) | with_reducible ((with_reducible show wpAny _ _ (call (Value.ref 493) _) _ _ _); k_here; k_dflt (refine' CtQ.use (emark_no ?h1 ?h2 ?hO ?hO2 ?hne ?hd ?hf ?hs ?hD ?hv ?hb) ?cB ?cF ?cX ?cN ?cT ?ck ?cd ?cu ?_; (case hd => first | with_reducible assumption | assumption); (case hf => first | with_reducible assumption | assumption); (case hb => first | with_reducible assumption | assumption); (case cN => exact pick2 (by k_asm) (by walk_at "mine pick") (by walk_at "mine pick")); (case h1 => k_mem); (case h2 => k_mem); (case hO => walk_at "mine off"); (case hO2 => walk_at "mine off"); (case hne => first | assumption | omega); (case hs => first | with_reducible assumption | assumption); (case hD => first | assumption | omega); (case hv => first | assumption | omega); walk_at "mine ct"; k_whole; (intro v9 l9 h9 tk9 hP9 F9 N9; obtain ⟨d9, a9, q9, n9, e9, i9, f9, o9, o8, o7⟩ := hP9; subst e9 d9; (have o5 := o9); (k_lt o5); (have o6 := ltN o8); (have o4 := ltN o7); (try k_sweep); (try dsimp only)))) | with_reducible ((with_reducible show wpAny _ _ (call (Value.ref 493) _) _ _ _); k_here; k_dflt (refine' CtQ.use (emark_yes ?h1 ?h2 ?h3 ?hd ?hf ?hs ?hb) ?cB ?cF ?cX ?cN ?cT ?ck ?cd ?cu ?_; (case cN => k_asm); (case h1 => k_mem); (case h2 => k_mem); (case h3 => k_mem); (case hd => first | with_reducible assumption | assumption); (case hf => first | with_reducible assumption | assumption); (case hs => first | with_reducible assumption | assumption); (case hb => first | with_reducible assumption | assumption); walk_at "mine ct"; k_whole; (intro v9 l9 h9 tk9 hP9 F9 N9; obtain ⟨e9, d9⟩ := hP9; subst e9 d9; (try k_sweep); (try dsimp only)))) | with_reducible refine ite_pos (by decide) ?_ | with_reducible refine ite_neg (by decide) ?_ | (k_unfold; (try dsimp only)) | (k_end; wrow_close) | walk1 | (dsimp only; walk1) | (leave1; try dsimp only)))
  exact hret _ _ _ _ ⟨rfl, _, _, by assumption⟩ (by assumption) (by assumption)
end
theorem notin_lb {prog : Program} {w : World} {A : Around} {E : Value → Shared → Prop} {s : Shared} {l : Addr} {vs : List Value} {ys : List Str} {k : Str} {t : Tok} {Q : Value → Shared → Prop} {b : Bool} (hl : s.heap.IsList l vs.toArray) (hi : StrsAre vs ys) (hb : (ys.any fun x => x == k) = b) (h : Q (.bool !b) s) : wpAny (model prog w) A (compareOp .NotIn (.str k t) (.ref l)) Q E s := by subst hb; exact notin_list_strs hl hi h
theorem memc {α : Type} {a : α} {r r' : List α} (h : ∀ p ∈ r, p ∈ r') : ∀ p ∈ a :: r, p ∈ a :: r' := fun p hp => by
  rcases List.mem_cons.mp hp with e | hp
  · exact e ▸ .head _
  · exact .tail _ (h p hp)
theorem memt {α : Type} {a : α} {r r' : List α} (h : ∀ p ∈ r, p ∈ r') : ∀ p ∈ r, p ∈ a :: r' := fun p hp => .tail _ (h p hp)
structure TS where
  i : Nat
  x : Addr
  d : Addr
  j1 : Tok
  j2 : Tok
  j3 : Tok
  tk : Tok
  val : Value
  tp : Tok
  t : Tok
structure Toks (kw : List Str) (src : Str) (n : Nat) (kd : Nat → Str) (V : Nat → Value → Prop) (q e : Nat → Int) : Prop where
  tok : ∀ i, i ≤ n → TokAt kw src (q i) (kd i) (V i) (e i)
  sign : ∀ i, i ≤ n → Sign src (q i)
  gap : ∀ i, i ≤ n → Gap src (e i) (q (min (i + 1) n))
  q0 : ∀ i, i ≤ n → 0 ≤ q i
  q1 : ∀ i, i ≤ n → q i < 2 ^ 17
  e0 : ∀ i, i ≤ n → 0 ≤ e i
  e1 : ∀ i, i ≤ n → e i < 2 ^ 17
  eof : ∀ i, i ≤ n → ((kd i == Str.ofString "eof") = true ↔ i = n)
noncomputable abbrev TS.inst (c : TS) : Addr × Obj := (c.x, instObj 38 c.d)
noncomputable abbrev TS.obj (w : World) (kd : Nat → Str) (q : Nat → Int) (c : TS) : Addr × Obj := (c.d, toD w c.j1 c.j2 c.j3 (.str (kd c.i) c.tk) c.val (.int (q c.i) c.tp))
structure TS.Off (c : TS) (l : List (Addr × Obj)) : Prop where
  x : ∀ p ∈ l, @Ne Nat p.1 c.x
  d : ∀ p ∈ l, @Ne Nat p.1 c.d
section
variable {prog : Program} {w : World} {R : RK} {rest : List (Addr × Obj)} {rd rdd sc scd er wa kl : Addr} {k1 k2 k3 k4 t0 tq : Tok} {src : Str} {ws kvs : List Value} {kw : List Str} {wn kn n i0 : Nat} {kd : Nat → Str} {V : Nat → Value → Prop} {q e : Nat → Int} {ka kb : Str}
/-- one step from token i -/
theorem step_at {c : TS} (TT : Toks kw src n kd V q e) (g1 : (rd, instObj 468 rdd) ∈ rest) (h1 : (sc, instObj 186 scd) ∈ rest) (hw : (wa, tupO ws wn) ∈ rest) (hws : StrsAre ws kw) (hO : OwnOff rest [scd]) (hO2 : OwnOff rest [rdd]) (hne : @Ne Nat rdd scd) (hl : src.length < 2 ^ 20)
    (hi : c.i ≤ n) (hx : @Ne Nat c.x scd) (hd : @Ne Nat c.d scd) (hx2 : @Ne Nat c.x rdd) (hd2 : @Ne Nat c.d rdd) :
    CtQ prog w 6 395 [.ref rd] (c.inst :: c.obj w kd q :: (scd, scD w k1 k2 k3 k4 src t0 (.ref er) (e c.i) c.t (.ref wa)) :: (rdd, rdD w R sc er c.x) :: rest)
      (fun v l => v = .ref c.x ∧ ∃ c' : TS, c'.i = min (c.i + 1) n ∧ V c'.i c'.val ∧ l = c'.inst :: c'.obj w kd q :: (scd, scD w k1 k2 k3 k4 src t0 (.ref er) (e c'.i) c'.t (.ref wa)) :: (rdd, rdD w R sc er c'.x) :: c.inst :: c.obj w kd q :: rest ∧
        (∀ p ∈ rest, @LT.lt Nat _ p.1 c'.d) ∧ @LT.lt Nat _ scd c'.d ∧ @LT.lt Nat _ rdd c'.d ∧ @LT.lt Nat _ c.x c'.d ∧ @LT.lt Nat _ c.d c'.d ∧ @LT.lt Nat _ c'.d c'.x) := by
  have hm : min (c.i + 1) n ≤ n := Nat.min_le_right _ _
  refine CtQ.post (CtQ.of_news (fun p hp => ?_) (Ct.q (step_ok (R := R) (k1 := k1) (k2 := k2) (k3 := k3) (k4 := k4) (t0 := t0) (rest := c.inst :: c.obj w kd q :: rest) (sc := sc) (er := er) (tk := c.x) (t1 := c.t) (.tail _ (.tail _ g1)) (.tail _ (.tail _ h1)) (.tail _ (.tail _ hw)) hws (off_cons hx (off_cons hd hO)) (off_cons hx2 (off_cons hd2 hO2)) hne hl (TT.e0 _ hi) (TT.q0 _ hm) (TT.q1 _ hm) (TT.e1 _ hm) (TT.gap _ hi) (TT.sign _ hm) (TT.tok _ hm)))) ?_
  · rcases List.mem_cons.mp hp with h | hp
    · exact h ▸ .tail _ (.tail _ (.head _))
    rcases List.mem_cons.mp hp with h | hp
    · exact h ▸ .tail _ (.tail _ (.tail _ (.head _)))
    rcases List.mem_cons.mp hp with h | hp
    · exact h ▸ .head _
    rcases List.mem_cons.mp hp with h | hp
    · exact h ▸ .tail _ (.head _)
    · exact .tail _ (.tail _ (.tail _ (.tail _ hp)))
  · rintro v l ⟨rfl, x', d', j1, j2, j3, tk, val, tp, t, hV, rfl, o1, o2, o3, o4⟩
    exact ⟨rfl, ⟨min (c.i + 1) n, x', d', j1, j2, j3, tk, val, tp, t⟩, rfl, hV, rfl, fun p hp => o1 p (.tail _ (.tail _ hp)), o2, o3, o1 _ (.head _), o1 _ (.tail _ (.head _)), o4⟩
theorem skipto_ok {c0 : TS} {tq2 : Tok} (TT : Toks kw src n kd V q e) (g1 : (rd, instObj 468 rdd) ∈ rest) (h1 : (sc, instObj 186 scd) ∈ rest) (hw : (wa, tupO ws wn) ∈ rest) (hws : StrsAre ws kw) (hO : OwnOff rest [scd]) (hO2 : OwnOff rest [rdd]) (hne : @Ne Nat rdd scd) (hl : src.length < 2 ^ 20)
    (hkl : (kl, listOf kvs.toArray kn) ∈ rest) (hkv : StrsAre kvs [ka, kb]) (hi : c0.i ≤ n) (hV : V c0.i c0.val) (hoff : c0.Off rest) (hx : @Ne Nat c0.x scd) (hd : @Ne Nat c0.d scd) (hx2 : @Ne Nat c0.x rdd) (hd2 : @Ne Nat c0.d rdd) :
    CtQ prog w 7 465 [.ref rd, .ref kl] (c0.inst :: c0.obj w kd q :: (scd, scD w k1 k2 k3 k4 src t0 (.ref er) (e c0.i) c0.t (.ref wa)) :: (rdd, rdD w R sc er c0.x) :: rest)
      (fun v l => v = .none ∧ ∃ c : TS, c0.i ≤ c.i ∧ c.i ≤ n ∧ (∀ m, c0.i ≤ m → m < c.i → ([ka, kb].any fun x => x == kd m) = false) ∧ (c.i = n ∨ ([ka, kb].any fun x => x == kd c.i) = true) ∧ V c.i c.val ∧ c.Off rest ∧ @Ne Nat c.x scd ∧ @Ne Nat c.d scd ∧ @Ne Nat c.x rdd ∧ @Ne Nat c.d rdd ∧
        l = c.inst :: c.obj w kd q :: (scd, scD w k1 k2 k3 k4 src t0 (.ref er) (e c.i) c.t (.ref wa)) :: (rdd, rdD w R sc er c.x) :: rest) := by
  intro p9 loose mean mg mb dp un gd cn cs a9 ccd cl outer A₀ base h₀ L m s Q E B F X N T hk hd9 hu hret
  ((have kf : (PySem.Challenge.rw_pq0763_01 = PySem.Challenge.rw_pq0763_01) ∧ (KK = KK) := by (k_fill; exact ⟨rfl, rfl⟩)); clear kf)
  have kmk := kstMark
  (first | ((with_reducible show wpAny _ _ (call (Value.ref 402) _) _ _ _); k_here; (k_dflt (refine' CtQ.use ?hC ?cB ?cF ?cX ?cN ?cT ?ck ?cd ?cu ?_; (case hC => first | assumption | apply_assumption); (case cN => k_asm); walk_at "mine ct"; k_whole; intro v9 l9 h9 tk9 hP9 F9 N9; (try dsimp only at hP9); (try dsimp only)))) | ((with_reducible show wpAny _ _ (call (Value.ref 423) _) _ _ _); k_here; (k_dflt (refine' CtQ.use ?hC ?cB ?cF ?cX ?cN ?cT ?ck ?cd ?cu ?_; (case hC => first | assumption | apply_assumption); (case cN => k_asm); walk_at "mine ct"; k_whole; intro v9 l9 h9 tk9 hP9 F9 N9; (try dsimp only at hP9); (try dsimp only)))) | ((with_reducible show wpAny _ _ (call (Value.ref 409) _) _ _ _); k_here; (k_dflt (refine' CtQ.use ?hC ?cB ?cF ?cX ?cN ?cT ?ck ?cd ?cu ?_; (case hC => first | assumption | apply_assumption); (case cN => k_asm); walk_at "mine ct"; k_whole; intro v9 l9 h9 tk9 hP9 F9 N9; (try dsimp only at hP9); (try dsimp only)))) | ((with_reducible show wpAny _ _ (call (Value.ref 395) _) _ _ _); k_here; (k_dflt (refine' CtQ.use ?hC ?cB ?cF ?cX ?cN ?cT ?ck ?cd ?cu ?_; (case hC => first | assumption | apply_assumption); (case cN => k_asm); walk_at "mine ct"; k_whole; intro v9 l9 h9 tk9 hP9 F9 N9; (try dsimp only at hP9); (try dsimp only)))) | ((with_reducible show wpAny _ _ (call (Value.ref 493) _) _ _ _); k_here; (k_dflt (refine' CtQ.use ?hC ?cB ?cF ?cX ?cN ?cT ?ck ?cd ?cu ?_; (case hC => first | assumption | apply_assumption); (case cN => k_asm); walk_at "mine ct"; k_whole; intro v9 l9 h9 tk9 hP9 F9 N9; (try dsimp only at hP9); (try dsimp only)))) | ((with_reducible show wpAny _ _ (call (Value.ref 493) _) _ _ _); k_here; k_dflt (refine' CtQ.use (emark_no ?h1 ?h2 ?hO ?hO2 ?hne ?hd ?hf ?hs ?hD ?hv ?hb) ?cB ?cF ?cX ?cN ?cT ?ck ?cd ?cu ?_; (case hd => first | with_reducible assumption | assumption); (case hf => first | with_reducible assumption | assumption); (case hb => first | with_reducible assumption | assumption); (case cN => exact pick2 (by k_asm) (by walk_at "mine pick") (by walk_at "mine pick")); (case h1 => k_mem); (case h2 => k_mem); (case hO => walk_at "mine off"); (case hO2 => walk_at "mine off"); (case hne => first | assumption | omega); (case hs => first | with_reducible assumption | assumption); (case hD => first | assumption | omega); (case hv => first | assumption | omega); walk_at "mine ct"; k_whole; (intro v9 l9 h9 tk9 hP9 F9 N9; obtain ⟨d9, a9, q9, n9, e9, i9, f9, o9, o8, o7⟩ := hP9; subst e9 d9; (have o5 := o9); (k_lt o5); (have o6 := ltN o8); (have o4 := ltN o7); (try k_sweep); (try dsimp only)))) | ((with_reducible show wpAny _ _ (call (Value.ref 493) _) _ _ _); k_here; k_dflt (refine' CtQ.use (emark_yes ?h1 ?h2 ?h3 ?hd ?hf ?hs ?hb) ?cB ?cF ?cX ?cN ?cT ?ck ?cd ?cu ?_; (case cN => k_asm); (case h1 => k_mem); (case h2 => k_mem); (case h3 => k_mem); (case hd => first | with_reducible assumption | assumption); (case hf => first | with_reducible assumption | assumption); (case hs => first | with_reducible assumption | assumption); (case hb => first | with_reducible assumption | assumption); walk_at "mine ct"; k_whole; (intro v9 l9 h9 tk9 hP9 F9 N9; obtain ⟨e9, d9⟩ := hP9; subst e9 d9; (try k_sweep); (try dsimp only)))) | walk_at "call ref")
  (repeat ((fail_if_success (with_reducible show wpAny _ _ (exec (Stmt.While _ _ _ _) _) _ _ _)); (first | with_reducible ((with_reducible show wpAny _ _ (compareOp CmpOp.NotIn (Value.str _ _) (Value.ref _)) _ _ _); k_here; k_dflt (refine' notin_lb ?k1 ?k2 ?k3 ?_; (case k2 => first | with_reducible assumption | assumption); (case k1 => exact News.isList (by k_asm) (by k_mem)); (case k3 => first | with_reducible assumption | assumption); k_whole); (try simp only [Bool.not_true, Bool.not_false])) | with_reducible ((with_reducible show wpAny _ _ (call (Value.ref 402) _) _ _ _); k_here; (k_dflt (refine' CtQ.use ?hC ?cB ?cF ?cX ?cN ?cT ?ck ?cd ?cu ?_; (case hC => first | assumption | apply_assumption); (case cN => k_asm); walk_at "mine ct"; k_whole; intro v9 l9 h9 tk9 hP9 F9 N9; (try dsimp only at hP9); (try dsimp only)))) | with_reducible ((with_reducible show wpAny _ _ (call (Value.ref 423) _) _ _ _); k_here; (k_dflt (refine' CtQ.use ?hC ?cB ?cF ?cX ?cN ?cT ?ck ?cd ?cu ?_; (case hC => first | assumption | apply_assumption); (case cN => k_asm); walk_at "mine ct"; k_whole; intro v9 l9 h9 tk9 hP9 F9 N9; (try dsimp only at hP9); (try dsimp only)))) | with_reducible ((with_reducible show wpAny _ _ (call (Value.ref 409) _) _ _ _); k_here; (k_dflt (refine' CtQ.use ?hC ?cB ?cF ?cX ?cN ?cT ?ck ?cd ?cu ?_; (case hC => first | assumption | apply_assumption); (case cN => k_asm); walk_at "mine ct"; k_whole; intro v9 l9 h9 tk9 hP9 F9 N9; (try dsimp only at hP9); (try dsimp only)))) | with_reducible ((with_reducible show wpAny _ _ (call (Value.ref 395) _) _ _ _); k_here; (k_dflt (refine' CtQ.use ?hC ?cB ?cF ?cX ?cN ?cT ?ck ?cd ?cu ?_; (case hC => first | assumption | apply_assumption); (case cN => k_asm); walk_at "mine ct"; k_whole; intro v9 l9 h9 tk9 hP9 F9 N9; (try dsimp only at hP9); (try dsimp only)))) | with_reducible ((with_reducible show wpAny _ _ (call (Value.ref 493) _) _ _ _); k_here; (k_dflt (refine' CtQ.use ?hC ?cB ?cF ?cX ?cN ?cT ?ck ?cd ?cu ?_; (case hC => first | assumption | apply_assumption); (case cN => k_asm); walk_at "mine ct"; k_whole; intro v9 l9 h9 tk9 hP9 F9 N9; (try dsimp only at hP9); (try dsimp only)))) | with_reducible ((with_reducible show wpAny _ _ (call (Value.ref 493) _) _ _ _); k_here; k_dflt (refine' CtQ.use (emark_no ?h1 ?h2 ?hO ?hO2 ?hne ?hd ?hf ?hs ?hD ?hv ?hb) ?cB ?cF ?cX ?cN ?cT ?ck ?cd ?cu ?_; (case hd => first | with_reducible assumption | assumption); (case hf => first | with_reducible assumption | assumption); (case hb => first | with_reducible assumption | assumption); (case cN => exact pick2 (by k_asm) (by walk_at "mine pick") (by walk_at "mine pick")); (case h1 => k_mem); (case h2 => k_mem); (case hO => walk_at "mine off"); (case hO2 => walk_at "mine off"); (case hne => first | assumption | omega); (case hs => first | with_reducible assumption | assumption); (case hD => first | assumption | omega); (case hv => first | assumption | omega); walk_at "mine ct"; k_whole; (intro v9 l9 h9 tk9 hP9 F9 N9; obtain ⟨d9, a9, q9, n9, e9, i9, f9, o9, o8, o7⟩ := hP9; subst e9 d9; (have o5 := o9); (k_lt o5); (have o6 := ltN o8); (have o4 := ltN o7); (try k_sweep); (try dsimp only)))) | with_reducible ((with_reducible show wpAny _ _ (call (Value.ref 493) _) _ _ _); k_here; k_dflt (refine' CtQ.use (emark_yes ?h1 ?h2 ?h3 ?hd ?hf ?hs ?hb) ?cB ?cF ?cX ?cN ?cT ?ck ?cd ?cu ?_; (case cN => k_asm); (case h1 => k_mem); (case h2 => k_mem); (case h3 => k_mem); (case hd => first | with_reducible assumption | assumption); (case hf => first | with_reducible assumption | assumption); (case hs => first | with_reducible assumption | assumption); (case hb => first | with_reducible assumption | assumption); walk_at "mine ct"; k_whole; (intro v9 l9 h9 tk9 hP9 F9 N9; obtain ⟨e9, d9⟩ := hP9; subst e9 d9; (try k_sweep); (try dsimp only)))) | with_reducible refine ite_pos (by decide) ?_ | with_reducible refine ite_neg (by decide) ?_ | walk_at "mine step")))
  rename Fr _ _ _ _ => F0
  rename News _ _ _ _ => N0
  refine' ksw_while (σ := TS) (fun c => c.inst :: c.obj w kd q :: (scd, scD w k1 k2 k3 k4 src t0 (.ref er) (e c.i) c.t (.ref wa)) :: (rdd, rdD w R sc er c.x) :: rest) (fun c => []) (fun _ => True) []
    (fun c => c0.i ≤ c.i ∧ c.i ≤ n ∧ (∀ m, c0.i ≤ m → m < c.i → ([ka, kb].any fun x => x == kd m) = false) ∧ V c.i c.val ∧ c.Off rest ∧ @Ne Nat c.x scd ∧ @Ne Nat c.d scd ∧ @Ne Nat c.x rdd ∧ @Ne Nat c.d rdd) (fun c => n - c.i) c0 F0 N0 trivial ?kk ⟨Nat.le_refl _, hi, fun _ a b => absurd a (by omega), hV, hoff, hx, hd, hx2, hd2⟩ ?turn
  case kk => (first | ((try dsimp only); (repeat (refine allc rfl ?_)); exact alln) | kst_all)
  case turn =>
    clear F0 N0
    rintro c u h9 tk9 - ⟨i1, i2, i3, i4, i5, i6, i7, i8, i9⟩ F1 N1
    dsimp only at F1
    try k_fold
    have C := step_at (prog := prog) (w := w) (R := R) (k1 := k1) (k2 := k2) (k3 := k3) (k4 := k4) (t0 := t0) (er := er) TT g1 h1 hw hws hO hO2 hne hl i2 i6 i7 i8 i9
    obtain ⟨i, x, d, j1, j2, j3, tk, val, tp, t⟩ := c
    dsimp only [TS.inst, TS.obj] at N1 C i1 i2 i3 i4 i6 i7 i8 i9
    cases hb : [ka, kb].any fun x => x == kd i
    · cases hb2 : (kd i == Str.ofString "eof")
      · (repeat' (first | with_reducible ((with_reducible show wpAny _ _ (compareOp CmpOp.NotIn (Value.str _ _) (Value.ref _)) _ _ _); k_here; k_dflt (refine' notin_lb ?k1 ?k2 ?k3 ?_; (case k2 => first | with_reducible assumption | assumption); (case k1 => exact News.isList (by k_asm) (by k_mem)); (case k3 => first | with_reducible assumption | assumption); k_whole); (try simp only [Bool.not_true, Bool.not_false])) | with_reducible ((with_reducible show wpAny _ _ (call (Value.ref 402) _) _ _ _); k_here; (k_dflt (refine' CtQ.use ?hC ?cB ?cF ?cX ?cN ?cT ?ck ?cd ?cu ?_; (case hC => first | assumption | apply_assumption); (case cN => k_asm); walk_at "mine ct"; k_whole; intro v9 l9 h9 tk9 hP9 F9 N9; (try dsimp only at hP9); (try dsimp only)))) | with_reducible ((with_reducible show wpAny _ _ (call (Value.ref 423) _) _ _ _); k_here; (k_dflt (refine' CtQ.use ?hC ?cB ?cF ?cX ?cN ?cT ?ck ?cd ?cu ?_; (case hC => first | assumption | apply_assumption); (case cN => k_asm); walk_at "mine ct"; k_whole; intro v9 l9 h9 tk9 hP9 F9 N9; (try dsimp only at hP9); (try dsimp only)))) | with_reducible ((with_reducible show wpAny _ _ (call (Value.ref 409) _) _ _ _); k_here; (k_dflt (refine' CtQ.use ?hC ?cB ?cF ?cX ?cN ?cT ?ck ?cd ?cu ?_; (case hC => first | assumption | apply_assumption); (case cN => k_asm); walk_at "mine ct"; k_whole; intro v9 l9 h9 tk9 hP9 F9 N9; (try dsimp only at hP9); (try dsimp only)))) | with_reducible ((with_reducible show wpAny _ _ (call (Value.ref 395) _) _ _ _); k_here; (k_dflt (refine' CtQ.use ?hC ?cB ?cF ?cX ?cN ?cT ?ck ?cd ?cu ?_; (case hC => first | assumption | apply_assumption); (case cN => k_asm); walk_at "mine ct"; k_whole; intro v9 l9 h9 tk9 hP9 F9 N9; (try dsimp only at hP9); (try dsimp only)))) | with_reducible ((with_reducible show wpAny _ _ (call (Value.ref 493) _) _ _ _); k_here; (k_dflt (refine' CtQ.use ?hC ?cB ?cF ?cX ?cN ?cT ?ck ?cd ?cu ?_; (case hC => first | assumption | apply_assumption); (case cN => k_asm); walk_at "mine ct"; k_whole; intro v9 l9 h9 tk9 hP9 F9 N9; (try dsimp only at hP9); (try dsimp only)))) | with_reducible ((with_reducible show wpAny _ _ (call (Value.ref 493) _) _ _ _); k_here; k_dflt (refine' CtQ.use (emark_no ?h1 ?h2 ?hO ?hO2 ?hne ?hd ?hf ?hs ?hD ?hv ?hb) ?cB ?cF ?cX ?cN ?cT ?ck ?cd ?cu ?_; (case hd => first | with_reducible assumption | assumption); (case hf => first | with_reducible assumption | assumption); (case hb => first | with_reducible assumption | assumption); (case cN => exact pick2 (by k_asm) (by walk_at "mine pick") (by walk_at "mine pick")); (case h1 => k_mem); (case h2 => k_mem); (case hO => walk_at "mine off"); (case hO2 => walk_at "mine off"); (case hne => first | assumption | omega); (case hs => first | with_reducible assumption | assumption); (case hD => first | assumption | omega); (case hv => first | assumption | omega); walk_at "mine ct"; k_whole; (intro v9 l9 h9 tk9 hP9 F9 N9; obtain ⟨d9, a9, q9, n9, e9, i9, f9, o9, o8, o7⟩ := hP9; subst e9 d9; (have o5 := o9); (k_lt o5); (have o6 := ltN o8); (have o4 := ltN o7); (try k_sweep); (try dsimp only)))) | with_reducible ((with_reducible show wpAny _ _ (call (Value.ref 493) _) _ _ _); k_here; k_dflt (refine' CtQ.use (emark_yes ?h1 ?h2 ?h3 ?hd ?hf ?hs ?hb) ?cB ?cF ?cX ?cN ?cT ?ck ?cd ?cu ?_; (case cN => k_asm); (case h1 => k_mem); (case h2 => k_mem); (case h3 => k_mem); (case hd => first | with_reducible assumption | assumption); (case hf => first | with_reducible assumption | assumption); (case hs => first | with_reducible assumption | assumption); (case hb => first | with_reducible assumption | assumption); walk_at "mine ct"; k_whole; (intro v9 l9 h9 tk9 hP9 F9 N9; obtain ⟨e9, d9⟩ := hP9; subst e9 d9; (try k_sweep); (try dsimp only)))) | with_reducible refine ite_pos (by decide) ?_ | with_reducible refine ite_neg (by decide) ?_ | (k_unfold; (try dsimp only)) | (k_end; wrow_close) | walk1 | (dsimp only; walk1) | (leave1; try dsimp only)))
        rename _ = Value.ref x ∧ _ => hP9
        obtain ⟨-, c', h1', h2', rfl, o1, o2, o3, o4, o5, o6⟩ := hP9
        have hin : i ≠ n := fun e => by rw [(TT.eof i i2).mpr e] at hb2; cases hb2
        refine ksw_end c' (by assumption) (by assumption) (memc (memc (memc (memc (memt (memt fun _ h => h)))))) trivial (by (first | ((try dsimp only); (repeat (refine allc rfl ?_)); exact alln) | kst_all)) (by (intro z h2 h3; (simp only [List.forall_mem_cons, List.not_mem_nil, false_implies, implies_true, and_true, ne_eq, List.contains_cons, List.contains_nil, Bool.or_false, Bool.or_eq_false_iff, beq_eq_false_iff_ne] at h2 h3); simp [kstB, h2, h3])) ?e6 ?e7
        case e6 =>
          refine ⟨by omega, by omega, fun m a b => ?_, h2', ⟨fun p hp => ?_, fun p hp => ?_⟩, ?_, ?_, ?_, ?_⟩
          · by_cases e : m = i
            · exact e ▸ hb
            · exact i3 m a (by omega)
          · have := o1 p hp; omega
          · have := o1 p hp; omega
          all_goals omega
        case e7 => dsimp only; omega
      · (repeat' (first | with_reducible ((with_reducible show wpAny _ _ (compareOp CmpOp.NotIn (Value.str _ _) (Value.ref _)) _ _ _); k_here; k_dflt (refine' notin_lb ?k1 ?k2 ?k3 ?_; (case k2 => first | with_reducible assumption | assumption); (case k1 => exact News.isList (by k_asm) (by k_mem)); (case k3 => first | with_reducible assumption | assumption); k_whole); (try simp only [Bool.not_true, Bool.not_false])) | with_reducible ((with_reducible show wpAny _ _ (call (Value.ref 402) _) _ _ _); k_here; (k_dflt (refine' CtQ.use ?hC ?cB ?cF ?cX ?cN ?cT ?ck ?cd ?cu ?_; (case hC => first | assumption | apply_assumption); (case cN => k_asm); walk_at "mine ct"; k_whole; intro v9 l9 h9 tk9 hP9 F9 N9; (try dsimp only at hP9); (try dsimp only)))) | with_reducible ((with_reducible show wpAny _ _ (call (Value.ref 423) _) _ _ _); k_here; (k_dflt (refine' CtQ.use ?hC ?cB ?cF ?cX ?cN ?cT ?ck ?cd ?cu ?_; (case hC => first | assumption | apply_assumption); (case cN => k_asm); walk_at "mine ct"; k_whole; intro v9 l9 h9 tk9 hP9 F9 N9; (try dsimp only at hP9); (try dsimp only)))) | with_reducible ((with_reducible show wpAny _ _ (call (Value.ref 409) _) _ _ _); k_here; (k_dflt (refine' CtQ.use ?hC ?cB ?cF ?cX ?cN ?cT ?ck ?cd ?cu ?_; (case hC => first | assumption | apply_assumption); (case cN => k_asm); walk_at "mine ct"; k_whole; intro v9 l9 h9 tk9 hP9 F9 N9; (try dsimp only at hP9); (try dsimp only)))) | with_reducible ((with_reducible show wpAny _ _ (call (Value.ref 395) _) _ _ _); k_here; (k_dflt (refine' CtQ.use ?hC ?cB ?cF ?cX ?cN ?cT ?ck ?cd ?cu ?_; (case hC => first | assumption | apply_assumption); (case cN => k_asm); walk_at "mine ct"; k_whole; intro v9 l9 h9 tk9 hP9 F9 N9; (try dsimp only at hP9); (try dsimp only)))) | with_reducible ((with_reducible show wpAny _ _ (call (Value.ref 493) _) _ _ _); k_here; (k_dflt (refine' CtQ.use ?hC ?cB ?cF ?cX ?cN ?cT ?ck ?cd ?cu ?_; (case hC => first | assumption | apply_assumption); (case cN => k_asm); walk_at "mine ct"; k_whole; intro v9 l9 h9 tk9 hP9 F9 N9; (try dsimp only at hP9); (try dsimp only)))) | with_reducible ((with_reducible show wpAny _ _ (call (Value.ref 493) _) _ _ _); k_here; k_dflt (refine' CtQ.use (emark_no ?h1 ?h2 ?hO ?hO2 ?hne ?hd ?hf ?hs ?hD ?hv ?hb) ?cB ?cF ?cX ?cN ?cT ?ck ?cd ?cu ?_; (case hd => first | with_reducible assumption | assumption); (case hf => first | with_reducible assumption | assumption); (case hb => first | with_reducible assumption | assumption); (case cN => exact pick2 (by k_asm) (by walk_at "mine pick") (by walk_at "mine pick")); (case h1 => k_mem); (case h2 => k_mem); (case hO => walk_at "mine off"); (case hO2 => walk_at "mine off"); (case hne => first | assumption | omega); (case hs => first | with_reducible assumption | assumption); (case hD => first | assumption | omega); (case hv => first | assumption | omega); walk_at "mine ct"; k_whole; (intro v9 l9 h9 tk9 hP9 F9 N9; obtain ⟨d9, a9, q9, n9, e9, i9, f9, o9, o8, o7⟩ := hP9; subst e9 d9; (have o5 := o9); (k_lt o5); (have o6 := ltN o8); (have o4 := ltN o7); (try k_sweep); (try dsimp only)))) | with_reducible ((with_reducible show wpAny _ _ (call (Value.ref 493) _) _ _ _); k_here; k_dflt (refine' CtQ.use (emark_yes ?h1 ?h2 ?h3 ?hd ?hf ?hs ?hb) ?cB ?cF ?cX ?cN ?cT ?ck ?cd ?cu ?_; (case cN => k_asm); (case h1 => k_mem); (case h2 => k_mem); (case h3 => k_mem); (case hd => first | with_reducible assumption | assumption); (case hf => first | with_reducible assumption | assumption); (case hs => first | with_reducible assumption | assumption); (case hb => first | with_reducible assumption | assumption); walk_at "mine ct"; k_whole; (intro v9 l9 h9 tk9 hP9 F9 N9; obtain ⟨e9, d9⟩ := hP9; subst e9 d9; (try k_sweep); (try dsimp only)))) | with_reducible refine ite_pos (by decide) ?_ | with_reducible refine ite_neg (by decide) ?_ | (k_unfold; (try dsimp only)) | (k_end; wrow_close) | walk1 | (dsimp only; walk1) | (leave1; try dsimp only)))
        exact hret _ _ _ _ ⟨rfl, ⟨i, x, d, j1, j2, j3, _, val, tp, t⟩, i1, i2, i3, .inl ((TT.eof i i2).mp hb2), i4, i5, i6, i7, i8, i9, rfl⟩ (by assumption) (by assumption)
    · (repeat' (first | with_reducible ((with_reducible show wpAny _ _ (compareOp CmpOp.NotIn (Value.str _ _) (Value.ref _)) _ _ _); k_here; k_dflt (refine' notin_lb ?k1 ?k2 ?k3 ?_; (case k2 => first | with_reducible assumption | assumption); (case k1 => exact News.isList (by k_asm) (by k_mem)); (case k3 => first | with_reducible assumption | assumption); k_whole); (try simp only [Bool.not_true, Bool.not_false])) | with_reducible ((with_reducible show wpAny _ _ (call (Value.ref 402) _) _ _ _); k_here; (k_dflt (refine' CtQ.use ?hC ?cB ?cF ?cX ?cN ?cT ?ck ?cd ?cu ?_; (case hC => first | assumption | apply_assumption); (case cN => k_asm); walk_at "mine ct"; k_whole; intro v9 l9 h9 tk9 hP9 F9 N9; (try dsimp only at hP9); (try dsimp only)))) | with_reducible ((with_reducible show wpAny _ _ (call (Value.ref 423) _) _ _ _); k_here; (k_dflt (refine' CtQ.use ?hC ?cB ?cF ?cX ?cN ?cT ?ck ?cd ?cu ?_; (case hC => first | assumption | apply_assumption); (case cN => k_asm); walk_at "mine ct"; k_whole; intro v9 l9 h9 tk9 hP9 F9 N9; (try dsimp only at hP9); (try dsimp only)))) | with_reducible ((with_reducible show wpAny _ _ (call (Value.ref 409) _) _ _ _); k_here; (k_dflt (refine' CtQ.use ?hC ?cB ?cF ?cX ?cN ?cT ?ck ?cd ?cu ?_; (case hC => first | assumption | apply_assumption); (case cN => k_asm); walk_at "mine ct"; k_whole; intro v9 l9 h9 tk9 hP9 F9 N9; (try dsimp only at hP9); (try dsimp only)))) | with_reducible ((with_reducible show wpAny _ _ (call (Value.ref 395) _) _ _ _); k_here; (k_dflt (refine' CtQ.use ?hC ?cB ?cF ?cX ?cN ?cT ?ck ?cd ?cu ?_; (case hC => first | assumption | apply_assumption); (case cN => k_asm); walk_at "mine ct"; k_whole; intro v9 l9 h9 tk9 hP9 F9 N9; (try dsimp only at hP9); (try dsimp only)))) | with_reducible ((with_reducible show wpAny _ _ (call (Value.ref 493) _) _ _ _); k_here; (k_dflt (refine' CtQ.use ?hC ?cB ?cF ?cX ?cN ?cT ?ck ?cd ?cu ?_; (case hC => first | assumption | apply_assumption); (case cN => k_asm); walk_at "mine ct"; k_whole; intro v9 l9 h9 tk9 hP9 F9 N9; (try dsimp only at hP9); (try dsimp only)))) | with_reducible ((with_reducible show wpAny _ _ (call (Value.ref 493) _) _ _ _); k_here; k_dflt (refine' CtQ.use (emark_no ?h1 ?h2 ?hO ?hO2 ?hne ?hd ?hf ?hs ?hD ?hv ?hb) ?cB ?cF ?cX ?cN ?cT ?ck ?cd ?cu ?_; (case hd => first | with_reducible assumption | assumption); (case hf => first | with_reducible assumption | assumption); (case hb => first | with_reducible assumption | assumption); (case cN => exact pick2 (by k_asm) (by walk_at "mine pick") (by walk_at "mine pick")); (case h1 => k_mem); (case h2 => k_mem); (case hO => walk_at "mine off"); (case hO2 => walk_at "mine off"); (case hne => first | assumption | omega); (case hs => first | with_reducible assumption | assumption); (case hD => first | assumption | omega); (case hv => first | assumption | omega); walk_at "mine ct"; k_whole; (intro v9 l9 h9 tk9 hP9 F9 N9; obtain ⟨d9, a9, q9, n9, e9, i9, f9, o9, o8, o7⟩ := hP9; subst e9 d9; (have o5 := o9); (k_lt o5); (have o6 := ltN o8); (have o4 := ltN o7); (try k_sweep); (try dsimp only)))) | with_reducible ((with_reducible show wpAny _ _ (call (Value.ref 493) _) _ _ _); k_here; k_dflt (refine' CtQ.use (emark_yes ?h1 ?h2 ?h3 ?hd ?hf ?hs ?hb) ?cB ?cF ?cX ?cN ?cT ?ck ?cd ?cu ?_; (case cN => k_asm); (case h1 => k_mem); (case h2 => k_mem); (case h3 => k_mem); (case hd => first | with_reducible assumption | assumption); (case hf => first | with_reducible assumption | assumption); (case hs => first | with_reducible assumption | assumption); (case hb => first | with_reducible assumption | assumption); walk_at "mine ct"; k_whole; (intro v9 l9 h9 tk9 hP9 F9 N9; obtain ⟨e9, d9⟩ := hP9; subst e9 d9; (try k_sweep); (try dsimp only)))) | with_reducible refine ite_pos (by decide) ?_ | with_reducible refine ite_neg (by decide) ?_ | (k_unfold; (try dsimp only)) | (k_end; wrow_close) | walk1 | (dsimp only; walk1) | (leave1; try dsimp only)))
      exact hret _ _ _ _ ⟨rfl, ⟨i, x, d, j1, j2, j3, _, val, tp, t⟩, i1, i2, i3, .inr hb, i4, i5, i6, i7, i8, i9, rfl⟩ (by assumption) (by assumption)
end
theorem CtQ.weak {prog : Program} {w : World} {d : Nat} {f : Addr} {vs : List Value} {led : List (Addr × Obj)} {P P' : Value → List (Addr × Obj) → Prop} (C : CtQ prog w d f vs led P) (h : ∀ v l, P v l → ∃ l', (∀ p ∈ l', p ∈ l) ∧ P' v l') : CtQ prog w d f vs led P' := by
  intro p9 loose mean mg mb dp un gd cn cs a9 ccd cl outer A₀ base h₀ L m s Q E B F X N T hk hd hu hret
  refine C _ _ _ _ _ _ _ _ _ _ _ _ _ _ _ _ _ _ _ _ _ _ B F X N T hk hd hu fun v l h' tk' hp F' N' => ?_
  obtain ⟨l', hs, hp'⟩ := h v l hp
  exact hret v l' h' tk' hp' F' (kst_newsOf N' hs)
structure TK12 where
  k0 : Tok
  k1 : Tok
  k2 : Tok
  k3 : Tok
  k4 : Tok
  k5 : Tok
  k6 : Tok
  k7 : Tok
  k8 : Tok
  k9 : Tok
  k10 : Tok
  k11 : Tok
  v0 : Value
  v1 : Value
  v2 : Value
  v3 : Value
  v4 : Value
  v5 : Value
  v6 : Value
  v7 : Value
  v8 : Value
  v9 : Value
  v10 : Value
  v11 : Value
noncomputable abbrev tyO (w : World) (K : TK12) : Obj := dictOf [ent w "number" K.k0 K.v0, ent w "form" K.k1 K.v1, ent w "size" K.k2 K.v2, ent w "base" K.k3 K.v3, ent w "length" K.k4 K.v4, ent w "fields" K.k5 K.v5, ent w "level" K.k6 K.v6, ent w "params" K.k7 K.v7, ent w "module" K.k8 K.v8, ent w "label" K.k9 K.v9, ent w "hidden" K.k10 K.v10, ent w "exno" K.k11 K.v11] 12
theorem news_tail {h₀ h : Heap} {L : Addr} {a : Addr × Obj} {r : List (Addr × Obj)} (N : News h₀ L h (a :: r)) : News h₀ L h r := kst_newsOf N fun _ h => .tail _ h
theorem type_ok {w : World} {led : List (Addr × Obj)} {a b c : Value} :
    Ct w 1 207 [a, b, c] led (fun r l => ∃ x d K, r = .ref x ∧ l = (x, instObj 207 d) :: (d, tyO w K) :: led ∧ (∀ p ∈ led, p.1 < d) ∧ @LT.lt Nat _ d x) := by
  intro prog p loose mean mg mb dp un gd cn cs a9 ccd cl outer A₀ base h₀ L m s Q E B F X N T hk hd hu hret
  ((have kf : (PySem.Challenge.rw_pq0763_01 = PySem.Challenge.rw_pq0763_01) ∧ (KK = KK) := by (k_fill; exact ⟨rfl, rfl⟩)); clear kf)
  have kmk := kstMark
  walk_at "call ref"
  (repeat' (first | with_reducible ((with_reducible show wpAny _ _ (setItem (Value.ref _) (Value.str _ _) _) _ _ _); k_here; k_dflt (refine' kda_set (knd := PySem.strKind _ _) ?F ?N ?U ?d (strKind_is _ _ _ _) ?z ?_; (case F => k_asm); (case N => k_asm); (case U => k_updF); (case d => first | with_reducible assumption | assumption); (case z => (rw [sizeLine_eq]; omega))); intro h' o' F' N' hd'; (try dsimp only at N'); (try k_sweep)) | with_reducible ((with_reducible show wpAny _ _ (compareOp CmpOp.In (Value.str _ _) (Value.ref _)) _ _ _); k_here; k_dflt (refine' kda_in (knd := PySem.strKind _ _) ?k1 ?k2 ?k3 ?k4 (strKind_is _ _ _ _) false ?k5 ?_; (case k1 => k_asm); (case k3 => first | with_reducible assumption | assumption); (case k2 => k_mem); (case k4 => first | with_reducible assumption | assumption); (case k5 => first | with_reducible assumption | assumption))) | with_reducible ((with_reducible show wpAny _ _ (subscriptTail _ _ (Value.ref _) (Value.int (-1) _)) _ _ _); k_here; (with_unfolding_all refine' kde_neg ?k1 ?k2 ?k3 ?k4 ?k5 ?_ ?k6; (case k2 => decide); (case k3 => decide); (case k1 => exact News.isList (by k_asm) (by k_mem)); (case k4 => exact rfl); (case k5 => exact rfl); (case k6 => with_unfolding_all rfl); k_whole)) | with_reducible ((with_reducible show wpAny _ _ (compareOp CmpOp.In (Value.str _ _) (Value.ref _)) _ _ _); k_here; k_dflt (refine' in_tb ?k1 ?k2 ?k3 ?_; (case k1 => exact News.isTup (by k_asm) (by k_mem)); (case k2 => first | with_reducible assumption | assumption); (case k3 => first | with_reducible assumption | assumption); k_whole)) | with_reducible refine ite_pos (by decide) ?_ | with_reducible refine ite_neg (by decide) ?_ | (k_unfold; (try dsimp only)) | (k_end; wrow_close) | walk1 | (dsimp only; walk1) | (leave1; try dsimp only)))
  rename News h₀ L _ _ => N9
  exact hret _ _ _ _ ⟨_, _, ⟨_, _, _, _, _, _, _, _, _, _, _, _, _, _, _, _, _, _, _, _, _, _, _, _⟩, rfl, rfl, by assumption, by assumption⟩ (by assumption) (news_tail (news_tail (news_tail N9)))
structure TK14 where
  k0 : Tok
  k1 : Tok
  k2 : Tok
  k3 : Tok
  k4 : Tok
  k5 : Tok
  k6 : Tok
  k7 : Tok
  k8 : Tok
  k9 : Tok
  k10 : Tok
  k11 : Tok
  k12 : Tok
  k13 : Tok
  v0 : Value
  v1 : Value
  v2 : Value
  v3 : Value
  v4 : Value
  v5 : Value
  v6 : Value
  v7 : Value
  v8 : Value
  v9 : Value
  v10 : Value
  v11 : Value
  v12 : Value
  v13 : Value
noncomputable abbrev obO (w : World) (K : TK14) : Obj := dictOf [ent w "name" K.k0 K.v0, ent w "kind" K.k1 K.v1, ent w "type" K.k2 K.v2, ent w "place" K.k3 K.v3, ent w "exported" K.k4 K.v4, ent w "readonly" K.k5 K.v5, ent w "level" K.k6 K.v6, ent w "module" K.k7 K.v7, ent w "value" K.k8 K.v8, ent w "slot" K.k9 K.v9, ent w "offset" K.k10 K.v10, ent w "number" K.k11 K.v11, ent w "isparam" K.k12 K.v12, ent w "narrowed" K.k13 K.v13] 14
noncomputable def Free (kvs : List (Str × Value)) (ns : List Str) : Prop := kvs.length ≤ ns.length ∧ ∀ b, (ns.any fun z => z == b) = false → valueAt kvs b = none
theorem Free.put {kvs : List (Str × Value)} {ns : List Str} {name : Str} {v : Value} (h : Free kvs ns) (hn : (ns.any fun z => z == name) = false) : Free (stored kvs name v) (name :: ns) := by
  rw [stored_absent (h.2 name hn)]
  refine ⟨by rw [List.length_append, List.length_cons, List.length_cons, List.length_nil]; have := h.1; omega, fun b hb => ?_⟩
  rw [List.any_cons, Bool.or_eq_false_iff] at hb
  have h1 := h.2 b hb.2
  unfold valueAt at h1 ⊢
  rw [Option.map_eq_none_iff, List.find?_eq_none] at h1 ⊢
  intro x hx
  rcases List.mem_append.mp hx with hx | hx
  · exact h1 x hx
  · rw [List.mem_singleton.mp hx]
    have := hb.1
    rw [beq_eq_false_iff_ne] at this
    simpa using this
noncomputable abbrev scO (w : World) (j1 j2 j3 j4 : Tok) (a b c d : Value) : Obj := dictOf [ent w "types" j1 a, ent w "module" j2 b, ent w "stack" j3 c, ent w "level" j4 d] 4
noncomputable abbrev spO (w : World) (j1 j2 j3 j4 j5 : Tok) (a b c d e : Value) : Obj := dictOf [ent w "level" j1 a, ent w "label" j2 b, ent w "names" j3 c, ent w "order" j4 d, ent w "slots" j5 e] 5
theorem insert_ok {prog : Program} {w : World} {rest : List (Addr × Obj)} {ss ssd stk sp spd nm od : Addr} {j1 j2 j3 j4 i1 i2 i3 i4 i5 tn tk tl tv : Tok} {tyv av bv cv ev pv : Value} {name kind : Str} {sn vn : Nat} {vs : List Value} {no : Obj} {kvs : List (Str × Value)} {ns : List Str}
    (h1 : (ss, instObj 348 ssd) ∈ rest) (h2 : (ssd, scO w j1 j2 j3 j4 av bv (.ref stk) (.int (-1) tl)) ∈ rest) (h3 : (stk, listOf #[.ref sp] sn) ∈ rest) (h4 : (sp, instObj 285 spd) ∈ rest) (h5 : (spd, spO w i1 i2 i3 i4 i5 pv cv (.ref nm) (.ref od) ev) ∈ rest)
    (hO : OwnOff rest [nm]) (hO2 : OwnOff rest [od]) (hne : @Ne Nat nm od) (hd : no.IsDictOf (strKind prog w) kvs) (hs : (nm == sysModules) = false) (hf : Free kvs ns) (hN : ns.length ≤ 100) (hv : vs.length ≤ 100)
    (hfr : (ns.any fun z => z == name) = false) (hk1 : (kind == Str.ofString "var") = false) (hk2 : (kind == Str.ofString "par") = false) :
    CtQ prog w 3 338 [.ref ss, .str name tn, .str kind tk, tyv, .int 0 tv] ((nm, no) :: (od, listOf vs.toArray vn) :: rest) (fun v l => ∃ ob obd K no' kvs', v = .ref ob ∧ l = (ob, instObj 228 obd) :: (obd, obO w K) :: (nm, no') :: (od, listOf (vs ++ [Value.ref ob]).toArray (vn + 1)) :: rest ∧ no'.IsDictOf (strKind prog w) kvs' ∧ Free kvs' (name :: ns) ∧ (∀ p ∈ rest, p.1 < obd) ∧ @LT.lt Nat _ nm obd ∧ @LT.lt Nat _ od obd ∧ @LT.lt Nat _ obd ob) := by
  intro p9 loose mean mg mb dp un gd cn cs a9 ccd cl outer A₀ base h₀ L m s Q E B F X N T hk hd9 hu hret
  have hva : (valueAt kvs name).isSome = false := by rw [hf.2 name hfr]; rfl
  have hlen : kvs.length ≤ 100 := Nat.le_trans hf.1 hN
  ((have kf : (PySem.Challenge.rw_pq0763_01 = PySem.Challenge.rw_pq0763_01) ∧ (KK = KK) := by (k_fill; exact ⟨rfl, rfl⟩)); clear kf)
  have kmk := kstMark
  walk_at "call ref"
  (repeat' (first | with_reducible ((with_reducible show wpAny _ _ (setItem (Value.ref _) (Value.str _ _) _) _ _ _); k_here; k_dflt (refine' kda_set (knd := PySem.strKind _ _) ?F ?N ?U ?d (strKind_is _ _ _ _) ?z ?_; (case F => k_asm); (case N => k_asm); (case U => k_updF); (case d => first | with_reducible assumption | assumption); (case z => (rw [sizeLine_eq]; omega))); intro h' o' F' N' hd'; (try dsimp only at N'); (try k_sweep)) | with_reducible ((with_reducible show wpAny _ _ (compareOp CmpOp.In (Value.str _ _) (Value.ref _)) _ _ _); k_here; k_dflt (refine' kda_in (knd := PySem.strKind _ _) ?k1 ?k2 ?k3 ?k4 (strKind_is _ _ _ _) false ?k5 ?_; (case k1 => k_asm); (case k3 => first | with_reducible assumption | assumption); (case k2 => k_mem); (case k4 => first | with_reducible assumption | assumption); (case k5 => first | with_reducible assumption | assumption))) | with_reducible ((with_reducible show wpAny _ _ (subscriptTail _ _ (Value.ref _) (Value.int (-1) _)) _ _ _); k_here; (with_unfolding_all refine' kde_neg ?k1 ?k2 ?k3 ?k4 ?k5 ?_ ?k6; (case k2 => decide); (case k3 => decide); (case k1 => exact News.isList (by k_asm) (by k_mem)); (case k4 => exact rfl); (case k5 => exact rfl); (case k6 => with_unfolding_all rfl); k_whole)) | with_reducible ((with_reducible show wpAny _ _ (compareOp CmpOp.In (Value.str _ _) (Value.ref _)) _ _ _); k_here; k_dflt (refine' in_tb ?k1 ?k2 ?k3 ?_; (case k1 => exact News.isTup (by k_asm) (by k_mem)); (case k2 => first | with_reducible assumption | assumption); (case k3 => first | with_reducible assumption | assumption); k_whole)) | with_reducible refine ite_pos (by decide) ?_ | with_reducible refine ite_neg (by decide) ?_ | (k_unfold; (try dsimp only)) | (k_end; wrow_close) | walk1 | (dsimp only; walk1) | (leave1; try dsimp only)))
  have hF9 := fun v => hf.put (v := v) hfr
  rename _ ∧ _ ∧ AllLt _ _ => l1
  rename News h₀ L _ _ => N9
  rw [List.push_toArray] at N9
  exact hret _ _ _ _ ⟨_, _, ⟨_, _, _, _, _, _, _, _, _, _, _, _, _, _, _, _, _, _, _, _, _, _, _, _, _, _, _, _⟩, _, _, rfl, rfl, by assumption, hF9 _, kst_ltOf l1.2.2, l1.1, l1.2.1, by assumption⟩ (by assumption) N9
noncomputable def InsP (prog : Program) (w : World) (nm od : Addr) (rest : List (Addr × Obj)) (name : Str) (ns : List Str) (vl : Nat) (v : Value) (l : List (Addr × Obj)) : Prop :=
  ∃ ob obd K no' kvs' vs' vn', v = .ref ob ∧ l = (ob, instObj 228 obd) :: (obd, obO w K) :: (nm, no') :: (od, listOf (List.toArray vs') vn') :: rest ∧ vs'.length ≤ vl + 1 ∧ no'.IsDictOf (strKind prog w) kvs' ∧ Free kvs' (name :: ns) ∧ (∀ p ∈ rest, p.1 < obd) ∧ @LT.lt Nat _ nm obd ∧ @LT.lt Nat _ od obd ∧ @LT.lt Nat _ obd ob
theorem CtQ.uins {prog : Program} {w : World} {d9 : Nat} {f : Addr} {vs : List Value} {led rest : List (Addr × Obj)} {nm od : Addr} {name : Str} {ns : List Str} {vl : Nat} (C : CtQ prog w d9 f vs led (InsP prog w nm od rest name ns vl))
    {p : Program} {loose : List Str} {mean : ExcName → Option Value} {mg mb : Str → Option Value} {dp un : Nat} {gd : Option (List Code)} {cn : Str} {cs : Scope} {a : Addr} {ccd : Value} {cl : List (Str × Addr)} {outer : List Env} {A₀ : Around} {base h₀ : Heap} {L : Addr} {m : Str → Option Value} {s : Shared} {Q : Value → Shared → Prop} {E : Value → Shared → Prop}
    (B : Below A₀ base outer h₀) (F : Fr h₀ L s.heap m) (X : (KK w.params).In h₀) (N : News h₀ L s.heap (led)) (T : Top p loose mean mg mb h₀) (hk : cs.kind = .function) (hd : dp + d9 < recursionLimit) (hu : un + 8 * d9 < cLine)
    (ret : ∀ ob obd K no' kvs' vs' vn' h' tk', vs'.length ≤ vl + 1 → no'.IsDictOf (strKind prog w) kvs' → Free kvs' (name :: ns) → (∀ p ∈ rest, p.1 < obd) → @LT.lt Nat _ nm obd → @LT.lt Nat _ od obd → @LT.lt Nat _ obd ob → Fr h₀ L h' m → News h₀ L h' ((ob, instObj 228 obd) :: (obd, obO w K) :: (nm, no') :: (od, listOf (List.toArray vs') vn') :: rest) → Q (.ref ob) { s with heap := h', toks := tk' }) :
    wpAny (model prog w) (ktrTop dp un gd cn cs L a ccd cl outer) (call (.ref f) vs) Q E s :=
  CtQ.use C B F X N T hk hd hu fun v l h' tk' hp F' N' => by obtain ⟨ob, obd, K, no', kvs', vs', vn', rfl, rfl, h1, h2, h3, h4, h5, h6, h7⟩ := hp; exact ret ob obd K no' kvs' vs' vn' h' tk' h1 h2 h3 h4 h5 h6 h7 F' N'
theorem insert_ok2 {prog : Program} {w : World} {rest : List (Addr × Obj)} {ss ssd stk sp spd nm od : Addr} {j1 j2 j3 j4 i1 i2 i3 i4 i5 tn tk tl tv : Tok} {tyv av bv cv ev pv : Value} {name kind : Str} {sn vn : Nat} {vs : List Value} {no : Obj} {kvs : List (Str × Value)} {ns : List Str}
    (h1 : (ss, instObj 348 ssd) ∈ rest) (h2 : (ssd, scO w j1 j2 j3 j4 av bv (.ref stk) (.int (-1) tl)) ∈ rest) (h3 : (stk, listOf #[.ref sp] sn) ∈ rest) (h4 : (sp, instObj 285 spd) ∈ rest) (h5 : (spd, spO w i1 i2 i3 i4 i5 pv cv (.ref nm) (.ref od) ev) ∈ rest)
    (hO : OwnOff rest [nm]) (hO2 : OwnOff rest [od]) (hne : @Ne Nat nm od) (hd : no.IsDictOf (strKind prog w) kvs) (hs : (nm == sysModules) = false) (hf : Free kvs ns) (hN : ns.length ≤ 100) (hv : vs.length ≤ 100)
    (hfr : (ns.any fun z => z == name) = false) (hk1 : (kind == Str.ofString "var") = false) (hk2 : (kind == Str.ofString "par") = false) :
    CtQ prog w 3 338 [.ref ss, .str name tn, .str kind tk, tyv, .int 0 tv] ((nm, no) :: (od, listOf vs.toArray vn) :: rest) (InsP prog w nm od rest name ns vs.length) := by
  refine CtQ.post (insert_ok h1 h2 h3 h4 h5 hO hO2 hne hd hs hf hN hv hfr hk1 hk2) ?_
  rintro v l ⟨ob, obd, K, no', kvs', e1, e2, r⟩
  exact ⟨ob, obd, K, no', kvs', _, _, e1, e2, by simp, r⟩
local macro_rules | `(tactic| walk_at "mine sub") => `(tactic| first | exact (fun _ h => h) | (refine memt ?_; walk_at "mine sub"))
section
variable {prog : Program} {w : World} {A : Around} {E : Value → Shared → Prop} {s : Shared} {env : Env} {h₀ : Heap} {x : Str} {body : List Stmt} {Q : Flow → Shared → Prop}
noncomputable def LpEnd {σ : Type} (h₀ : Heap) (L : Addr) (s₁ : Shared) (front : σ → List (Addr × Obj)) (rest' : List (Addr × Obj)) (ps : σ → List (Str × Value)) (x : Str) (stored : List Str) (m₀ : Str → Option Value) (P : σ → Prop) (c : σ) (s₂ : Shared) : Prop :=
  ∃ (c' : σ) (h' : Heap) (tk : Nat) (m' : Str → Option Value) (news' : List (Addr × Obj)), s₂ = { s₁ with heap := h', toks := tk } ∧ Fr h₀ L h' m' ∧ News h₀ L h' news' ∧ (∀ p ∈ front c', p ∈ news') ∧ (∀ p ∈ rest', p ∈ news') ∧
    (∀ p ∈ front c', p.1 ∈ (front c).map (·.1) ∨ ∀ q ∈ rest', @Ne Nat q.1 p.1) ∧ (∀ p ∈ ps c', m' p.1 = some p.2) ∧ (∀ z, z ≠ x → (∀ p ∈ ps c', z ≠ p.1) → stored.contains z = false → m' z = m₀ z) ∧ P c'
noncomputable def LpPost {σ : Type} (h₀ : Heap) (L : Addr) (s₁ : Shared) (front : σ → List (Addr × Obj)) (rest' : List (Addr × Obj)) (ps : σ → List (Str × Value)) (x : Str) (stored : List Str) (m₀ : Str → Option Value) (P : σ → Prop) (Q : Flow → Shared → Prop) (c : σ) (f : Flow) (s₂ : Shared) : Prop :=
  match f with
  | .ret v => Q (.ret v) s₂
  | .brk => Q .next s₂
  | _ => LpEnd h₀ L s₁ front rest' ps x stored m₀ P c s₂
theorem lp_off {σ : Type} {L : Addr} {s₁ : Shared} {front : σ → List (Addr × Obj)} {rest' : List (Addr × Obj)} {ps : σ → List (Str × Value)} {stored : List Str} {m₀ m' : Str → Option Value} {P : σ → Prop} {c : σ} {h' : Heap} {tk : Nat} {news' : List (Addr × Obj)} (c' : σ)
    (F : Fr h₀ L h' m') (N : News h₀ L h' news') (h1 : ∀ p ∈ front c', p ∈ news') (h2 : ∀ p ∈ rest', p ∈ news') (h3 : ∀ p ∈ front c', p.1 ∈ (front c).map (·.1) ∨ ∀ q ∈ rest', @Ne Nat q.1 p.1) (hk : ∀ p ∈ ps c', m' p.1 = some p.2)
    (hr : ∀ z, z ≠ x → (∀ p ∈ ps c', z ≠ p.1) → stored.contains z = false → m' z = m₀ z) (hp : P c') : LpEnd h₀ L s₁ front rest' ps x stored m₀ P c { s₁ with heap := h', toks := tk } := ⟨c', h', tk, m', news', rfl, F, N, h1, h2, h3, hk, hr, hp⟩
theorem lp_end {σ : Type} {L : Addr} {s₁ : Shared} {front : σ → List (Addr × Obj)} {rest' : List (Addr × Obj)} {ps : σ → List (Str × Value)} {stored : List Str} {m₀ m' : Str → Option Value} {P : σ → Prop} {c : σ} {h' : Heap} {tk : Nat} {news' : List (Addr × Obj)} (c' : σ)
    (F : Fr h₀ L h' m') (N : News h₀ L h' news') (h1 : ∀ p ∈ front c', p ∈ news') (h2 : ∀ p ∈ rest', p ∈ news') (h3 : ∀ p ∈ front c', p.1 ∈ (front c).map (·.1) ∨ ∀ q ∈ rest', @LT.lt Nat _ q.1 p.1) (hk : ∀ p ∈ ps c', m' p.1 = some p.2)
    (hr : ∀ z, z ≠ x → (∀ p ∈ ps c', z ≠ p.1) → stored.contains z = false → m' z = m₀ z) (hp : P c') : LpEnd h₀ L s₁ front rest' ps x stored m₀ P c { s₁ with heap := h', toks := tk } := lp_off c' F N h1 h2 (fun p hp => (h3 p hp).imp id fun h q hq => Nat.ne_of_lt (h q hq)) hk hr hp
theorem lp_loop {σ : Type} {I : Addr} {fp : List Addr} {n : Nat} {Pv : Nat → Value → Prop} {St : Nat → Heap → Prop} {m₀ : Str → Option Value} (front : σ → List (Addr × Obj)) (rest : List (Addr × Obj)) (ps : σ → List (Str × Value)) (stored : List Str) (P : Nat → σ → Prop) (c₀ : σ)
    (W : Walks prog w A I fp [I] n Pv St) (hfp : ∀ a ∈ fp, a = I ∨ a ∈ rest.map (·.1)) (hob : ∀ i h, St i h → ∃ o, h.get? I = some o) (hLf : env.locals ∉ fp) (hI : h₀.get? I = none) (hnw : ∀ p ∈ front c₀ ++ rest, p.1 ≠ I) (hst : St 0 s.heap)
    (F : Fr h₀ env.locals s.heap m₀) (N : News h₀ env.locals s.heap (front c₀ ++ rest)) (hk : ∀ p ∈ ps c₀, m₀ p.1 = some p.2) (hp : P 0 c₀)
    (turn : ∀ (i : Nat) (v : Value) (c : σ) (u : Str → Option Value) h tk rest', i < n → Pv i v → P i c → (∀ p ∈ rest, p ∈ rest') → (∀ b, b ∈ (front c).map (·.1) → OwnOff rest [b] → OwnOff rest' [b]) →
      Fr h₀ env.locals h (fun y => if y = x then some v else kstB (fun z => if stored.contains z then u z else m₀ z) (ps c) y) → News h₀ env.locals h (front c ++ rest') →
      wpAny (model prog w) A (execs body env) (LpPost h₀ env.locals { s with heap := h, toks := tk } front rest' ps x stored m₀ (P (i + 1)) Q c) E { s with heap := h, toks := tk })
    (done : ∀ (c : σ) (u : Str → Option Value) h tk, P n c → Fr h₀ env.locals h (fun y => if y = x then u y else kstB (fun z => if stored.contains z then u z else m₀ z) (ps c) y) → News h₀ env.locals h (front c ++ rest) → Q .next { s with heap := h, toks := tk }) :
    LoopAtV prog w A h₀ env x body Q E (.ref I) s := by
  refine ⟨I, fp, [I], n, Pv, St, m₀, front c₀ ++ rest, fun i m nx => ∃ c, nx = front c ++ rest ∧ (∀ p ∈ ps c, m p.1 = some p.2) ∧ (∀ z, z ≠ x → (∀ p ∈ ps c, z ≠ p.1) → stored.contains z = false → m z = m₀ z) ∧ P i c, rfl, W, hLf, ?_, ?_, hst, F, N, ⟨c₀, rfl, hk, fun _ _ _ _ => rfl, hp⟩, ?_, ?_⟩
  · intro b hb; rw [List.mem_singleton.mp hb]; exact hI
  · intro p hp hI'; exact hnw p hp (List.mem_singleton.mp hI')
  · rintro i v m₁ nx s₁ own ⟨h, tk, rfl⟩ hin hP ⟨c, rfl, h1, h2, hp'⟩ hoff hown _ hmem hst' F₁ N₁
    obtain ⟨oI, hoI⟩ := hob _ _ hst'
    have hIown : (I, oI) ∈ own := hmem I (W.sub _ (.head _)) hI oI hoI
    have N₂ : News h₀ env.locals h (front c ++ (own ++ rest)) := kst_newsOf N₁ fun p hp => by
      rcases List.mem_append.mp hp with hp | hp
      · exact List.mem_append_right _ (List.mem_append_left _ hp)
      · rcases List.mem_append.mp hp with hp | hp
        · exact List.mem_append_left _ hp
        · exact List.mem_append_right _ (List.mem_append_right _ hp)
    have hsep : ∀ b, b ∈ (front c).map (·.1) → OwnOff rest [b] → OwnOff (own ++ rest) [b] := by
      intro b hb ho p hp b' hb'
      rw [List.mem_singleton.mp hb']
      rcases List.mem_append.mp hp with hp | hp
      · rcases hfp _ (hown p hp) with e | e
        · obtain ⟨q, hq, rfl⟩ := List.mem_map.mp hb
          exact fun e' => hoff q (List.mem_append_left _ hq) (List.mem_singleton.mpr (e'.symm.trans e))
        · obtain ⟨q, hq, e⟩ := List.mem_map.mp e
          exact e ▸ ho q hq b (.head _)
      · exact ho p hp b (.head _)
    refine wpAny_mono (turn i v c m₁ h tk (own ++ rest) hin hP hp' (fun p hp => List.mem_append_right _ hp) hsep (kst_fr h1 h2 F₁) N₂) (fun f s₂ p => ?_) fun _ _ e => e
    have fin : LpEnd h₀ env.locals { s with heap := h, toks := tk } front (own ++ rest) ps x stored m₀ (P (i + 1)) c s₂ → LoopStepU h₀ env.locals [I] own (fun m nx => ∃ c, nx = front c ++ rest ∧ (∀ p ∈ ps c, m p.1 = some p.2) ∧ (∀ z, z ≠ x → (∀ p ∈ ps c, z ≠ p.1) → stored.contains z = false → m z = m₀ z) ∧ P (i + 1) c) { s with heap := h, toks := tk } .next s₂ := by
      rintro ⟨c', h', tk', m', news', e, F', N', a1, a2, a3, a4, a5, a6⟩
      refine ⟨rfl, h', tk', m', front c' ++ rest, e, F', fun p hp => N' p ?_, fun p hp hq => ?_, c', rfl, a4, a5, a6⟩
      · rcases List.mem_append.mp hp with hp | hp
        · exact a2 p (List.mem_append_left _ hp)
        · rcases List.mem_append.mp hp with hp | hp
          · exact a1 p hp
          · exact a2 p (List.mem_append_right _ hp)
      · have e := List.mem_singleton.mp hq
        rcases List.mem_append.mp hp with hp | hp
        · rcases a3 p hp with h3 | h3
          · obtain ⟨q, hq', e'⟩ := List.mem_map.mp h3
            exact hoff q (List.mem_append_left _ hq') (List.mem_singleton.mpr (e'.trans e))
          · have := h3 _ (List.mem_append_left _ hIown)
            rw [e] at this
            exact this rfl
        · exact hoff p (List.mem_append_right _ hp) hq
    cases f with
    | ret v => exact .ret p
    | brk => exact .brk p
    | next => exact .next (fin p)
    | cont => exact .cont (fin p)
  · rintro h' tk m' news' F' N' _ ⟨c, rfl, h1, h2, hp'⟩
    exact done c m' h' tk hp' (kst_frOut h1 h2 F') N'
theorem lp_tuple {σ : Type} {T : Addr} {vs : List Value} {tn : Nat} {m₀ : Str → Option Value} (front : σ → List (Addr × Obj)) (rest : List (Addr × Obj)) (ps : σ → List (Str × Value)) (stored : List Str) (P : Nat → σ → Prop) (c₀ : σ)
    (hh : A.handled = none) (hT : (T, tupO vs tn) ∈ rest) (F : Fr h₀ env.locals s.heap m₀) (N : News h₀ env.locals s.heap (front c₀ ++ rest)) (hk : ∀ p ∈ ps c₀, m₀ p.1 = some p.2) (hp : P 0 c₀)
    (turn : ∀ (i : Nat) (v : Value) (c : σ) (u : Str → Option Value) h tk rest', vs[i]? = some v → P i c → (∀ p ∈ rest, p ∈ rest') → (∀ b, b ∈ (front c).map (·.1) → OwnOff rest [b] → OwnOff rest' [b]) →
      Fr h₀ env.locals h (fun y => if y = x then some v else kstB (fun z => if stored.contains z then u z else m₀ z) (ps c) y) → News h₀ env.locals h (front c ++ rest') →
      wpAny (model prog w) A (execs body env) (LpPost h₀ env.locals { s with heap := h, toks := tk } front rest' ps x stored m₀ (P (i + 1)) Q c) E { s with heap := h, toks := tk })
    (done : ∀ (c : σ) (u : Str → Option Value) h tk, P vs.length c → Fr h₀ env.locals h (fun y => if y = x then u y else kstB (fun z => if stored.contains z then u z else m₀ z) (ps c) y) → News h₀ env.locals h (front c ++ rest) → Q .next { s with heap := h, toks := tk }) :
    wpAny (model prog w) A (pyIter (.ref T)) (fun it s₂ => LoopAtV prog w A h₀ env x body Q E it s₂) E s := by
  have hol := (N _ (List.mem_append_right _ hT)).1
  have hls : s.heap.IsTuple T vs.toArray := ⟨_, hol, rfl, tn, rfl⟩
  have hne : T ≠ s.heap.objs.size := Nat.ne_of_lt (Heap.lt_size hol)
  refine wpAny_pyIter_tuple hls ?_
  have W := Walks.tuple (prog := prog) (w := w) hh s.heap.objs.size T hne vs.toArray
  have hlen : vs.toArray.size = vs.length := by simp
  rw [hlen] at W
  refine lp_loop front rest ps stored P c₀ W ?_ ?_ ?_ (next_is_new F) ?_ ⟨⟨_, Heap.get?_push_size _ rfl, rfl, rfl⟩, hls.at fun o e => Heap.get?_push_of_some _ e⟩ (F.push _) (fun p hp => ⟨Heap.get?_push_of_some _ (N p hp).1, (N p hp).2⟩) hk hp (fun i v c u h tk rest' _ hv => turn i v c u h tk rest' (by simpa using hv)) done
  · intro a ha
    rcases List.mem_cons.mp ha with e | ha
    · exact .inl e
    · exact .inr (List.mem_map.mpr ⟨_, hT, (List.mem_singleton.mp ha).symm⟩)
  · rintro i h ⟨⟨o, ho, _⟩, _⟩; exact ⟨o, ho⟩
  · intro hm
    rcases List.mem_cons.mp hm with e | hm
    · exact absurd F.ns.lt (e ▸ Nat.lt_irrefl _)
    · exact (N _ (List.mem_append_right _ hT)).2.1 ((List.mem_singleton.mp hm).symm)
  · intro p hp e
    exact absurd (Heap.lt_size (N p hp).1) (e ▸ Nat.lt_irrefl _)
theorem lp_range {σ : Type} {r : Addr} {a₀ b₀ : Int} {t₀ u₀ v₀ : Tok} {n : Nat} {m₀ : Str → Option Value} (front : σ → List (Addr × Obj)) (rest : List (Addr × Obj)) (ps : σ → List (Str × Value)) (stored : List Str) (P : Nat → σ → Prop) (c₀ : σ)
    (hh : A.handled = none) (hr : IsRange s.heap r a₀ b₀ 1 t₀ u₀ v₀) (hsmall : Builtin.Range.small a₀ b₀ 1 = true) (hn : Builtin.Range.rangeSize a₀ b₀ 1 = (n : Int)) (F : Fr h₀ env.locals s.heap m₀) (N : News h₀ env.locals s.heap (front c₀ ++ rest)) (hk : ∀ p ∈ ps c₀, m₀ p.1 = some p.2) (hp : P 0 c₀)
    (turn : ∀ (i : Nat) (v : Value) (c : σ) (u : Str → Option Value) h tk rest', i < n → P i c → (∀ p ∈ rest, p ∈ rest') → (∀ b, b ∈ (front c).map (·.1) → OwnOff rest [b] → OwnOff rest' [b]) →
      Fr h₀ env.locals h (fun y => if y = x then some v else kstB (fun z => if stored.contains z then u z else m₀ z) (ps c) y) → News h₀ env.locals h (front c ++ rest') →
      wpAny (model prog w) A (execs body env) (LpPost h₀ env.locals { s with heap := h, toks := tk } front rest' ps x stored m₀ (P (i + 1)) Q c) E { s with heap := h, toks := tk })
    (done : ∀ (c : σ) (u : Str → Option Value) h tk, P n c → Fr h₀ env.locals h (fun y => if y = x then u y else kstB (fun z => if stored.contains z then u z else m₀ z) (ps c) y) → News h₀ env.locals h (front c ++ rest) → Q .next { s with heap := h, toks := tk }) :
    wpAny (model prog w) A (pyIter (.ref r)) (fun it s₂ => LoopAtV prog w A h₀ env x body Q E it s₂) E s := by
  refine wpAny_pyIter_range hr hsmall ?_
  have W := (Walks.range (prog := prog) (w := w) hh s.heap.objs.size a₀ 1 n).bound
  refine lp_loop front rest ps stored P c₀ W (fun a ha => .inl (List.mem_singleton.mp ha)) (fun i h hi => ⟨_, hi⟩) ?_ (next_is_new F) ?_ (by show IsRangeIter _ _ _ _ _; rw [hn]; simpa using Heap.get?_push_size _ rfl) (F.push _) (fun p hp => ⟨Heap.get?_push_of_some _ (N p hp).1, (N p hp).2⟩) hk hp (fun i v c u h tk rest' hi _ => turn i v c u h tk rest' hi) done
  · intro hm
    exact absurd F.ns.lt ((List.mem_singleton.mp hm) ▸ Nat.lt_irrefl _)
  · intro p hp e
    exact absurd (Heap.lt_size (N p hp).1) (e ▸ Nat.lt_irrefl _)
end
local macro_rules | `(tactic| walk_at "LpPost") => `(tactic| (dsimp only [LpPost]))
structure TK9 where
  k0 : Tok
  k1 : Tok
  k2 : Tok
  k3 : Tok
  k4 : Tok
  k5 : Tok
  k6 : Tok
  k7 : Tok
  k8 : Tok
  v0 : Value
  v1 : Addr
  v2 : Addr
  v3 : Addr
  v4 : Addr
  v5 : Addr
  v6 : Addr
  v7 : Addr
  v8 : Addr
noncomputable abbrev tsO (w : World) (K : TK9) : Obj := dictOf [ent w "counter" K.k0 K.v0, ent w "known" K.k1 (.ref K.v1), ent w "boolean" K.k2 (.ref K.v2), ent w "char" K.k3 (.ref K.v3), ent w "byte" K.k4 (.ref K.v4), ent w "integer" K.k5 (.ref K.v5), ent w "mask" K.k6 (.ref K.v6), ent w "nil" K.k7 (.ref K.v7), ent w "none" K.k8 (.ref K.v8)] 9
noncomputable def stdN : List Str := [Str.ofString "ABS", Str.ofString "ODD", Str.ofString "LEN", Str.ofString "LSL", Str.ofString "ASR", Str.ofString "ROR", Str.ofString "ORD", Str.ofString "CHR", Str.ofString "INC", Str.ofString "DEC", Str.ofString "INCL", Str.ofString "EXCL", Str.ofString "NEW", Str.ofString "ASSERT"]
theorem fill_ok {prog : Program} {w : World} {rest : List (Addr × Obj)} {ss ssd stk sp spd nm od ty tyd : Addr} {j1 j2 j3 j4 i1 i2 i3 i4 i5 tl : Tok} {bv cv ev pv : Value} {sn vn : Nat} {vs : List Value} {no : Obj} {K : TK9}
    (h1 : (ss, instObj 348 ssd) ∈ rest) (h2 : (ssd, scO w j1 j2 j3 j4 (.ref ty) bv (.ref stk) (.int (-1) tl)) ∈ rest) (h3 : (stk, listOf #[.ref sp] sn) ∈ rest) (h4 : (sp, instObj 285 spd) ∈ rest) (h5 : (spd, spO w i1 i2 i3 i4 i5 pv cv (.ref nm) (.ref od) ev) ∈ rest)
    (h6 : (ty, instObj 264 tyd) ∈ rest) (h7 : (tyd, tsO w K) ∈ rest)
    (hO : OwnOff rest [nm]) (hO2 : OwnOff rest [od]) (hne : @Ne Nat nm od) (hd : no.IsDictOf (strKind prog w) []) (hs : (nm == sysModules) = false) (hv : vs.length ≤ 1) :
    CtQ prog w 4 373 [.ref ss] ((nm, no) :: (od, listOf vs.toArray vn) :: rest) (fun v l => v = .none ∧ l = rest) := by
  intro p9 loose mean mg mb dp un gd cn cs a9 ccd cl outer A₀ base h₀ L m s Q E B F X N T hk hd9 hu hret
  have hf0 : Free [] [] := ⟨Nat.le_refl _, fun _ _ => rfl⟩
  ((have kf : (PySem.Challenge.rw_pq0763_01 = PySem.Challenge.rw_pq0763_01) ∧ (KK = KK) := by (k_fill; exact ⟨rfl, rfl⟩)); clear kf)
  have kmk := kstMark
  (first | ((with_reducible show wpAny _ _ (call (Value.ref 338) _) _ _ _); k_here; k_dflt (refine' CtQ.uins (insert_ok2 ?h1 ?h2 ?h3 ?h4 ?h5 ?hO ?hO2 ?hne ?hd ?hs ?hf ?hN ?hv ?hfr ?hk1 ?hk2) ?cB ?cF ?cX ?cN ?cT ?ck ?cd ?cu ?_; (case h1 => first | with_reducible assumption | assumption); (case h2 => first | with_reducible assumption | assumption); (case h3 => first | with_reducible assumption | assumption); (case h4 => first | with_reducible assumption | assumption); (case h5 => first | with_reducible assumption | assumption); (case cN => (refine kst_newsOf (by k_asm) ?_; (refine allc (by k_mem) (?_); refine allc (by k_mem) (?_); walk_at "mine sub"))); (case hO => first | with_reducible assumption | assumption); (case hO2 => first | with_reducible assumption | assumption); (case hne => first | with_reducible assumption | assumption); (case hs => first | with_reducible assumption | assumption); (case hd => first | with_reducible assumption | assumption); (case hf => first | with_reducible assumption | assumption); (case hN => first | omega | exact Nat.le_of_ble_eq_true rfl); (case hv => omega); (case hfr => first | assumption | decide +kernel); (case hk1 => decide +kernel); (case hk2 => decide +kernel); walk_at "mine ct"; k_whole; (intro ob9 obd9 K9 no9 kvs9 vs9 vn9 h9 tk9 ln9 hd9 hf9 o9 o8 o7 o6 F9 N9; (replace o9 := allLt_of o9); (try k_sweep); (try dsimp only)))) | walk_at "call ref")
  (repeat ((fail_if_success (with_reducible show wpAny _ _ (exec (Stmt.For _ _ _ _ _) _) _ _ _)); (first | with_reducible ((with_reducible show wpAny _ _ (call (Value.ref 338) _) _ _ _); k_here; k_dflt (refine' CtQ.uins (insert_ok2 ?h1 ?h2 ?h3 ?h4 ?h5 ?hO ?hO2 ?hne ?hd ?hs ?hf ?hN ?hv ?hfr ?hk1 ?hk2) ?cB ?cF ?cX ?cN ?cT ?ck ?cd ?cu ?_; (case h1 => first | with_reducible assumption | assumption); (case h2 => first | with_reducible assumption | assumption); (case h3 => first | with_reducible assumption | assumption); (case h4 => first | with_reducible assumption | assumption); (case h5 => first | with_reducible assumption | assumption); (case cN => (refine kst_newsOf (by k_asm) ?_; (refine allc (by k_mem) (?_); refine allc (by k_mem) (?_); walk_at "mine sub"))); (case hO => first | with_reducible assumption | assumption); (case hO2 => first | with_reducible assumption | assumption); (case hne => first | with_reducible assumption | assumption); (case hs => first | with_reducible assumption | assumption); (case hd => first | with_reducible assumption | assumption); (case hf => first | with_reducible assumption | assumption); (case hN => first | omega | exact Nat.le_of_ble_eq_true rfl); (case hv => omega); (case hfr => first | assumption | decide +kernel); (case hk1 => decide +kernel); (case hk2 => decide +kernel); walk_at "mine ct"; k_whole; (intro ob9 obd9 K9 no9 kvs9 vs9 vn9 h9 tk9 ln9 hd9 hf9 o9 o8 o7 o6 F9 N9; (replace o9 := allLt_of o9); (try k_sweep); (try dsimp only)))) | with_reducible refine ite_pos (by decide) ?_ | with_reducible refine ite_neg (by decide) ?_ | walk_at "mine step")))
  rename Fr _ _ _ _ => F0
  refine' For_invVF F0 ?k1 ?k2 ?_
  case k1 => exact rfl
  case k2 => exact rfl
  (repeat ((fail_if_success (with_reducible show wpAny _ _ (pyIter _) _ _ _)); (first | with_reducible ((with_reducible show wpAny _ _ (call (Value.ref 338) _) _ _ _); k_here; k_dflt (refine' CtQ.uins (insert_ok2 ?h1 ?h2 ?h3 ?h4 ?h5 ?hO ?hO2 ?hne ?hd ?hs ?hf ?hN ?hv ?hfr ?hk1 ?hk2) ?cB ?cF ?cX ?cN ?cT ?ck ?cd ?cu ?_; (case h1 => first | with_reducible assumption | assumption); (case h2 => first | with_reducible assumption | assumption); (case h3 => first | with_reducible assumption | assumption); (case h4 => first | with_reducible assumption | assumption); (case h5 => first | with_reducible assumption | assumption); (case cN => (refine kst_newsOf (by k_asm) ?_; (refine allc (by k_mem) (?_); refine allc (by k_mem) (?_); walk_at "mine sub"))); (case hO => first | with_reducible assumption | assumption); (case hO2 => first | with_reducible assumption | assumption); (case hne => first | with_reducible assumption | assumption); (case hs => first | with_reducible assumption | assumption); (case hd => first | with_reducible assumption | assumption); (case hf => first | with_reducible assumption | assumption); (case hN => first | omega | exact Nat.le_of_ble_eq_true rfl); (case hv => omega); (case hfr => first | assumption | decide +kernel); (case hk1 => decide +kernel); (case hk2 => decide +kernel); walk_at "mine ct"; k_whole; (intro ob9 obd9 K9 no9 kvs9 vs9 vn9 h9 tk9 ln9 hd9 hf9 o9 o8 o7 o6 F9 N9; (replace o9 := allLt_of o9); (try k_sweep); (try dsimp only)))) | with_reducible refine ite_pos (by decide) ?_ | with_reducible refine ite_neg (by decide) ?_ | walk_at "mine step")))
  rename Fr _ _ _ _ => F0
  rename News _ _ _ _ => N0
  rename _ ∧ _ ∧ _ ∧ _ ∧ _ ∧ _ ∧ AllLt _ _ => l9
  rename Free _ _ => f9
  rename Obj.IsDictOf _ _ _ => d9
  have hOD : ∀ (D : Addr) (o : Obj), @LT.lt Nat _ nm D → OwnOff ((D, o) :: rest) [nm] := fun D o h => off_cons (by omega) hO
  have hOD2 : ∀ (D : Addr) (o : Obj), @LT.lt Nat _ od D → OwnOff ((D, o) :: rest) [od] := fun D o h => off_cons (by omega) hO2
  refine lp_tuple (σ := Obj × List (Str × Value) × List Str × List Value × Nat) (fun c => [(nm, c.1), (od, listOf c.2.2.2.1.toArray c.2.2.2.2)]) ((_, tupO _ _) :: rest) (fun c => []) [] (fun i c => c.1.IsDictOf (strKind prog w) c.2.1 ∧ Free c.2.1 c.2.2.1 ∧ c.2.2.1.length ≤ 10 + i ∧ c.2.2.2.1.length ≤ 10 + i ∧ ∀ j y, i ≤ j → stdN[j]? = some y → (c.2.2.1.any fun z => z == y) = false) (_, _, _, _, _) (by rfl) (.head _) F0 (kst_newsOf N0 (allc (by k_mem) (allc (by k_mem) (allc (by k_mem) (by walk_at "mine sub"))))) (by (first | ((try dsimp only); (repeat (refine allc rfl ?_)); exact alln) | kst_all)) ⟨d9, f9, Nat.le_of_ble_eq_true rfl, ?hp1, ?hp2⟩ ?turn ?done
  case hp1 => dsimp only; omega
  case hp2 =>
    intro j y _ hj
    have h9 : (stdN.all fun y => !(([Str.ofString "TRUE", Str.ofString "FALSE", Str.ofString "SET", Str.ofString "INTEGER", Str.ofString "BYTE", Str.ofString "CHAR", Str.ofString "BOOLEAN"] : List Str).any fun z => z == y)) = true := by decide +kernel
    have := List.all_eq_true.mp h9 y (List.mem_of_getElem? hj)
    simpa using this
  case turn =>
    clear F0 N0 f9 d9 hd hf0 hv
    rintro i v ⟨no1, kvs1, ns1, vs1, vn1⟩ u h9 tk9 rest' hi ⟨d1, f1, a1, a2, a3⟩ hsub hoff F1 N1
    obtain ⟨y, tz, rfl, hy⟩ := StrsAre.item (ys := stdN) (by unfold stdN; repeat constructor) i v hi
    clear hi
    dsimp only [List.cons_append, List.nil_append, List.map_cons, List.map_nil] at d1 f1 a1 a2 a3 F1 N1 hoff
    have hi14 : i < 14 := (List.getElem?_eq_some_iff.mp hy).1
    have hfr := a3 i y (Nat.le_refl _) hy
    replace h1 := hsub _ (.tail _ h1)
    replace h2 := hsub _ (.tail _ h2)
    replace h3 := hsub _ (.tail _ h3)
    replace h4 := hsub _ (.tail _ h4)
    replace h5 := hsub _ (.tail _ h5)
    replace h6 := hsub _ (.tail _ h6)
    replace h7 := hsub _ (.tail _ h7)
    have e1 := hoff nm (.head _) (hOD _ _ (by omega))
    have e2 := hoff od (.tail _ (.head _)) (hOD2 _ _ (by omega))
    clear hO hO2 hOD hOD2 hoff hsub l9
    have a4 : ∀ j z, i + 1 ≤ j → stdN[j]? = some z → ((y :: ns1).any fun x => x == z) = false := by
      intro j z hj hz
      rw [List.any_cons, a3 j z (by omega) hz, Bool.or_false, beq_eq_false_iff_ne]
      intro e
      subst e
      have hn : stdN.Nodup := by decide +kernel
      have := (List.getElem?_inj (List.getElem?_eq_some_iff.mp hy).1 hn).mp (hy.trans hz.symm)
      omega
    try k_fold
    (repeat' (first | with_reducible ((with_reducible show wpAny _ _ (call (Value.ref 338) _) _ _ _); k_here; k_dflt (refine' CtQ.uins (insert_ok2 ?h1 ?h2 ?h3 ?h4 ?h5 ?hO ?hO2 ?hne ?hd ?hs ?hf ?hN ?hv ?hfr ?hk1 ?hk2) ?cB ?cF ?cX ?cN ?cT ?ck ?cd ?cu ?_; (case h1 => first | with_reducible assumption | assumption); (case h2 => first | with_reducible assumption | assumption); (case h3 => first | with_reducible assumption | assumption); (case h4 => first | with_reducible assumption | assumption); (case h5 => first | with_reducible assumption | assumption); (case cN => (refine kst_newsOf (by k_asm) ?_; (refine allc (by k_mem) (?_); refine allc (by k_mem) (?_); walk_at "mine sub"))); (case hO => first | with_reducible assumption | assumption); (case hO2 => first | with_reducible assumption | assumption); (case hne => first | with_reducible assumption | assumption); (case hs => first | with_reducible assumption | assumption); (case hd => first | with_reducible assumption | assumption); (case hf => first | with_reducible assumption | assumption); (case hN => first | omega | exact Nat.le_of_ble_eq_true rfl); (case hv => omega); (case hfr => first | assumption | decide +kernel); (case hk1 => decide +kernel); (case hk2 => decide +kernel); walk_at "mine ct"; k_whole; (intro ob9 obd9 K9 no9 kvs9 vs9 vn9 h9 tk9 ln9 hd9 hf9 o9 o8 o7 o6 F9 N9; (replace o9 := allLt_of o9); (try k_sweep); (try dsimp only)))) | with_reducible refine ite_pos (by decide) ?_ | with_reducible refine ite_neg (by decide) ?_ | (k_unfold; (try dsimp only)) | (k_end; wrow_close) | walk1 | (dsimp only; walk1) | (leave1; try dsimp only)))
    rename Fr _ _ _ _ => F9
    rename News _ _ _ _ => N9
    rename Free _ _ => f9
    rename Obj.IsDictOf _ _ _ => d9
    exact lp_end (_, _, _, _, _) F9 N9 (by exact (allc (by k_mem) (allc (by k_mem) (fun _ h => nomatch h)))) (by walk_at "mine sub") (by exact (allc (.inl (.head _)) (allc (.inl (.tail _ (.head _))) (fun _ h => nomatch h)))) (by (first | ((try dsimp only); (repeat (refine allc rfl ?_)); exact alln) | kst_all)) (by (intro z h1 h2 h3; (simp only [List.forall_mem_cons, List.not_mem_nil, false_implies, implies_true, and_true, ne_eq, List.contains_cons, List.contains_nil, Bool.or_false, Bool.or_eq_false_iff, beq_eq_false_iff_ne] at h1 h2 h3); simp [kstB, h1, h2, h3])) ⟨d9, f9, by dsimp only [List.length_cons]; omega, by dsimp only; omega, a4⟩
  case done =>
    clear F0 N0 l9 f9 d9 hd hf0 hv
    rintro ⟨no1, kvs1, ns1, vs1, vn1⟩ u h9 tk9 - F1 N1
    dsimp only [List.cons_append, List.nil_append] at F1 N1
    try k_fold
    (repeat' (first | with_reducible ((with_reducible show wpAny _ _ (call (Value.ref 338) _) _ _ _); k_here; k_dflt (refine' CtQ.uins (insert_ok2 ?h1 ?h2 ?h3 ?h4 ?h5 ?hO ?hO2 ?hne ?hd ?hs ?hf ?hN ?hv ?hfr ?hk1 ?hk2) ?cB ?cF ?cX ?cN ?cT ?ck ?cd ?cu ?_; (case h1 => first | with_reducible assumption | assumption); (case h2 => first | with_reducible assumption | assumption); (case h3 => first | with_reducible assumption | assumption); (case h4 => first | with_reducible assumption | assumption); (case h5 => first | with_reducible assumption | assumption); (case cN => (refine kst_newsOf (by k_asm) ?_; (refine allc (by k_mem) (?_); refine allc (by k_mem) (?_); walk_at "mine sub"))); (case hO => first | with_reducible assumption | assumption); (case hO2 => first | with_reducible assumption | assumption); (case hne => first | with_reducible assumption | assumption); (case hs => first | with_reducible assumption | assumption); (case hd => first | with_reducible assumption | assumption); (case hf => first | with_reducible assumption | assumption); (case hN => first | omega | exact Nat.le_of_ble_eq_true rfl); (case hv => omega); (case hfr => first | assumption | decide +kernel); (case hk1 => decide +kernel); (case hk2 => decide +kernel); walk_at "mine ct"; k_whole; (intro ob9 obd9 K9 no9 kvs9 vs9 vn9 h9 tk9 ln9 hd9 hf9 o9 o8 o7 o6 F9 N9; (replace o9 := allLt_of o9); (try k_sweep); (try dsimp only)))) | with_reducible refine ite_pos (by decide) ?_ | with_reducible refine ite_neg (by decide) ?_ | (k_unfold; (try dsimp only)) | (k_end; wrow_close) | walk1 | (dsimp only; walk1) | (leave1; try dsimp only)))
    rename News h₀ L _ _ => N9
    exact hret _ _ _ _ ⟨rfl, rfl⟩ (by assumption) (news_tail (news_tail (news_tail N9)))
local macro_rules | `(tactic| walk_at "compareOp NotEq") => `(tactic| (k_here; dsimp only [vs]))
theorem off_of_lt {l : List (Addr × Obj)} {d b : Addr} (h : ∀ p ∈ l, @LT.lt Nat _ p.1 d) (k : @LE.le Nat _ d b) : OwnOff l [b] := by
  intro p hp c hc e
  rw [List.mem_singleton.mp hc] at e
  have := h p hp
  rw [e] at this
  exact absurd this (Nat.not_lt.mpr k)
theorem getL_head {e : DictEntry} {es : List DictEntry} {name : Str} (h : e.key.isStr name = true) : getL name (e :: es) = some (some e.val) := by
  simp only [getL, List.find?, h]
theorem putL_head {e : DictEntry} {es : List DictEntry} {name : Str} {hsh : Int} {key v : Value} {n : Nat} (h : e.key.isStr name = true) : (putL name hsh key v (e :: es), putN name (e :: es) n) = (⟨e.hash, e.key, v⟩ :: es, n) := by
  unfold putN; rw [List.any_cons, h, Bool.true_or, if_pos rfl]; unfold putL; rw [if_pos h]
theorem new_ok {w : World} {led : List (Addr × Obj)} {ts d : Addr} {k0 t0 tf tz : Tok} {n sz : Int} {f : Str} {es : List DictEntry} {m : Nat} (hn : @Ne Nat ts d) (hO : OwnOff led [d]) (hz : es.length ≤ 100) :
    Ct w 6 254 [.ref ts, .str f tf, .int sz tz] ((ts, instObj 264 d) :: (d, dictOf (ent w "counter" k0 (.int n t0) :: es) m) :: led) (fun r l => ∃ x t', r = .ref x ∧ l = (ts, instObj 264 d) :: (d, dictOf (ent w "counter" k0 (.int (n + 1) t') :: es) m) :: led) := by
  intro prog p loose mean mg mb dp un gd cn cs a9 ccd cl outer A₀ base h₀ L mf s Q E B F X N T hk hd hu hret
  ((have kf : (PySem.Challenge.rw_pq0763_01 = PySem.Challenge.rw_pq0763_01) ∧ (KK = KK) := by (k_fill; exact ⟨rfl, rfl⟩)); clear kf)
  have kmk := kstMark
  have hk9 : ∀ t : Tok, (Value.str (Str.ofString "counter") t).isStr (Str.ofString "counter") = true := fun _ => by simp [Value.isStr]
  (first | ((with_reducible show wpAny _ _ (call (Value.ref 207) _) _ _ _); k_here; k_dflt (refine' Ct.use type_ok ?cB ?cF ?cX ?cN ?cT ?ck ?cd ?cu ?_; (case cN => k_asm); walk_at "mine ct"; k_whole; intro v9 l9 h9 tk9 hP9 F9 N9; obtain ⟨x9, y9, K9, d9, e9, o9, o8⟩ := hP9; subst e9 d9; (k_lt o9); (try k_sweep); (try dsimp only))) | walk_at "call ref")
  repeat ((fail_if_success (with_reducible show wpAny _ _ (getAttr (Value.ref ts) _ _) _ _ _)); (first | with_reducible ((with_reducible show wpAny _ _ (call (Value.ref 207) _) _ _ _); k_here; k_dflt (refine' Ct.use type_ok ?cB ?cF ?cX ?cN ?cT ?ck ?cd ?cu ?_; (case cN => k_asm); walk_at "mine ct"; k_whole; intro v9 l9 h9 tk9 hP9 F9 N9; obtain ⟨x9, y9, K9, d9, e9, o9, o8⟩ := hP9; subst e9 d9; (k_lt o9); (try k_sweep); (try dsimp only))) | with_reducible refine ite_pos (by decide) ?_ | with_reducible refine ite_neg (by decide) ?_ | walk_at "mine step"))
  refine' get_own ?k1 ?k2 ?k3 ?k4 ?k5 ?k6 ?k7 ?k8 ?k9 ?_
  case k1 => k_asm
  case k2 => k_asm
  case k3 => k_inst
  case k4 => k_is
  case k5 => k_is
  case k6 => k_is
  case k7 => k_is
  case k8 => exact getL_head (hk9 k0)
  case k9 => k_handed
  repeat ((fail_if_success (with_reducible show wpAny _ _ (setAttr (Value.ref ts) _ _) _ _ _)); (first | with_reducible ((with_reducible show wpAny _ _ (call (Value.ref 207) _) _ _ _); k_here; k_dflt (refine' Ct.use type_ok ?cB ?cF ?cX ?cN ?cT ?ck ?cd ?cu ?_; (case cN => k_asm); walk_at "mine ct"; k_whole; intro v9 l9 h9 tk9 hP9 F9 N9; obtain ⟨x9, y9, K9, d9, e9, o9, o8⟩ := hP9; subst e9 d9; (k_lt o9); (try k_sweep); (try dsimp only))) | with_reducible refine ite_pos (by decide) ?_ | with_reducible refine ite_neg (by decide) ?_ | walk_at "mine step"))
  refine' set_dict ?k1 ?k2 ?k3 ?k4 ?k5 ?k6 ?k7 ?k8 ?k9 ?k10 (putL_head (e := ent w "counter" k0 (.int n t0)) (es := es) (n := m) (hk9 k0)) ?k12 ?k13 ?_
  case k1 => k_asm
  case k2 => k_asm
  case k3 => k_asm
  case k4 => k_inst
  case k5 => exact rfl
  case k6 => k_is
  case k7 => k_is
  case k8 => k_is
  case k9 => k_is
  case k10 => rw [getL_head (hk9 k0)]; rfl
  case k12 => k_upd
  case k13 => (rw [List.length_cons]; omega)
  intro h7 F7 N7
  (try k_sweep)
  repeat ((fail_if_success (with_reducible show wpAny _ _ (getAttr (Value.ref ts) _ _) _ _ _)); (first | with_reducible ((with_reducible show wpAny _ _ (call (Value.ref 207) _) _ _ _); k_here; k_dflt (refine' Ct.use type_ok ?cB ?cF ?cX ?cN ?cT ?ck ?cd ?cu ?_; (case cN => k_asm); walk_at "mine ct"; k_whole; intro v9 l9 h9 tk9 hP9 F9 N9; obtain ⟨x9, y9, K9, d9, e9, o9, o8⟩ := hP9; subst e9 d9; (k_lt o9); (try k_sweep); (try dsimp only))) | with_reducible refine ite_pos (by decide) ?_ | with_reducible refine ite_neg (by decide) ?_ | walk_at "mine step"))
  refine' get_own ?k1 ?k2 ?k3 ?k4 ?k5 ?k6 ?k7 ?k8 ?k9 ?_
  case k1 => k_asm
  case k2 => k_asm
  case k3 => k_inst
  case k4 => k_is
  case k5 => k_is
  case k6 => k_is
  case k7 => k_is
  case k8 => exact getL_head (hk9 k0)
  case k9 => k_handed
  (repeat' (first | with_reducible ((with_reducible show wpAny _ _ (call (Value.ref 207) _) _ _ _); k_here; k_dflt (refine' Ct.use type_ok ?cB ?cF ?cX ?cN ?cT ?ck ?cd ?cu ?_; (case cN => k_asm); walk_at "mine ct"; k_whole; intro v9 l9 h9 tk9 hP9 F9 N9; obtain ⟨x9, y9, K9, d9, e9, o9, o8⟩ := hP9; subst e9 d9; (k_lt o9); (try k_sweep); (try dsimp only))) | with_reducible refine ite_pos (by decide) ?_ | with_reducible refine ite_neg (by decide) ?_ | (k_unfold; (try dsimp only)) | (k_end; wrow_close) | walk1 | (dsimp only; walk1) | (leave1; try dsimp only)))
  rename News h₀ L _ _ => N9
  exact hret _ _ _ _ ⟨_, _, rfl, rfl⟩ (by assumption) (news_tail (news_tail N9))
theorem types_ok {w : World} {led : List (Addr × Obj)} :
    Ct w 8 264 [] led (fun r l => ∃ x d K, r = .ref x ∧ l = (x, instObj 264 d) :: (d, tsO w K) :: led ∧ (∀ p ∈ led, p.1 < d) ∧ @LT.lt Nat _ d x) := by
  intro prog p loose mean mg mb dp un gd cn cs a9 ccd cl outer A₀ base h₀ L m s Q E B F X N T hk hd hu hret
  ((have kf : (PySem.Challenge.rw_pq0763_01 = PySem.Challenge.rw_pq0763_01) ∧ (KK = KK) := by (k_fill; exact ⟨rfl, rfl⟩)); clear kf)
  have kmk := kstMark
  (first | ((with_reducible show wpAny _ _ (call (Value.ref 207) _) _ _ _); k_here; k_dflt (refine' Ct.use type_ok ?cB ?cF ?cX ?cN ?cT ?ck ?cd ?cu ?_; (case cN => k_asm); walk_at "mine ct"; k_whole; intro v9 l9 h9 tk9 hP9 F9 N9; obtain ⟨x9, y9, K9, d9, e9, o9, o8⟩ := hP9; subst e9 d9; (k_lt o9); (try k_sweep); (try dsimp only))) | walk_at "call ref")
  repeat ((fail_if_success (with_reducible show wpAny _ _ (call (Value.ref 254) _) _ _ _)); (first | with_reducible ((with_reducible show wpAny _ _ (call (Value.ref 207) _) _ _ _); k_here; k_dflt (refine' Ct.use type_ok ?cB ?cF ?cX ?cN ?cT ?ck ?cd ?cu ?_; (case cN => k_asm); walk_at "mine ct"; k_whole; intro v9 l9 h9 tk9 hP9 F9 N9; obtain ⟨x9, y9, K9, d9, e9, o9, o8⟩ := hP9; subst e9 d9; (k_lt o9); (try k_sweep); (try dsimp only))) | with_reducible refine ite_pos (by decide) ?_ | with_reducible refine ite_neg (by decide) ?_ | walk_at "mine step"))
  iterate 7
    repeat ((fail_if_success (with_reducible show wpAny _ _ (call (Value.ref 254) _) _ _ _)); (first | with_reducible ((with_reducible show wpAny _ _ (call (Value.ref 207) _) _ _ _); k_here; k_dflt (refine' Ct.use type_ok ?cB ?cF ?cX ?cN ?cT ?ck ?cd ?cu ?_; (case cN => k_asm); walk_at "mine ct"; k_whole; intro v9 l9 h9 tk9 hP9 F9 N9; obtain ⟨x9, y9, K9, d9, e9, o9, o8⟩ := hP9; subst e9 d9; (k_lt o9); (try k_sweep); (try dsimp only))) | with_reducible refine ite_pos (by decide) ?_ | with_reducible refine ite_neg (by decide) ?_ | walk_at "mine step"))
    refine' Ct.use (new_ok (led := led) ?hn ?hO ?hz) ?cB ?cF ?cX ?cN ?cT ?ck ?cd ?cu ?_
    case cN => (refine kst_newsOf (by k_asm) ?_; refine allc (by k_mem) (allc (by k_mem) (by walk_at "mine sub")))
    case hn => omega
    case hO => exact off_of_lt (by assumption) (Nat.le_refl _)
    case hz => exact Nat.le_of_ble_eq_true rfl
    walk_at "mine ct"
    k_whole
    intro v9 l9 h9 tk9 hP9 F9 N9
    obtain ⟨x9, t9, e9, d9⟩ := hP9
    subst e9 d9
    try k_sweep
    try dsimp only
  (repeat' (first | with_reducible ((with_reducible show wpAny _ _ (call (Value.ref 207) _) _ _ _); k_here; k_dflt (refine' Ct.use type_ok ?cB ?cF ?cX ?cN ?cT ?ck ?cd ?cu ?_; (case cN => k_asm); walk_at "mine ct"; k_whole; intro v9 l9 h9 tk9 hP9 F9 N9; obtain ⟨x9, y9, K9, d9, e9, o9, o8⟩ := hP9; subst e9 d9; (k_lt o9); (try k_sweep); (try dsimp only))) | with_reducible refine ite_pos (by decide) ?_ | with_reducible refine ite_neg (by decide) ?_ | (k_unfold; (try dsimp only)) | (k_end; wrow_close) | walk1 | (dsimp only; walk1) | (leave1; try dsimp only)))
  rename News h₀ L _ _ => N9
  exact hret _ _ _ _ ⟨_, _, ⟨_, _, _, _, _, _, _, _, _, _, _, _, _, _, _, _, _, _⟩, rfl, rfl, by assumption, by assumption⟩ (by assumption) N9
noncomputable def kwords : List Str := [Str.ofString "ARRAY", Str.ofString "BEGIN", Str.ofString "BY", Str.ofString "CASE", Str.ofString "CONST", Str.ofString "DIV", Str.ofString "DO", Str.ofString "ELSE", Str.ofString "ELSIF", Str.ofString "END", Str.ofString "FOR", Str.ofString "IF", Str.ofString "IMPORT", Str.ofString "IN", Str.ofString "IS", Str.ofString "MOD", Str.ofString "MODULE", Str.ofString "NIL", Str.ofString "OF", Str.ofString "OR", Str.ofString "POINTER", Str.ofString "PROCEDURE", Str.ofString "RECORD", Str.ofString "REPEAT", Str.ofString "RETURN", Str.ofString "THEN", Str.ofString "TO", Str.ofString "TYPE", Str.ofString "UNTIL", Str.ofString "VAR", Str.ofString "WHILE"]
noncomputable def ScnP (w : World) (led : List (Addr × Obj)) (er : Addr) (src : Str) (t0 : Tok) (r : Value) (l : List (Addr × Obj)) : Prop :=
  ∃ sc scd wa k1 k2 k3 k4 t1 ws wn, r = .ref sc ∧ StrsAre ws kwords ∧ l = (wa, tupO ws wn) :: (sc, instObj 186 scd) :: (scd, scD w k1 k2 k3 k4 src t0 (.ref er) 0 t1 (.ref wa)) :: led ∧ (∀ p ∈ led, p.1 < scd) ∧ @LT.lt Nat _ scd sc ∧ @LT.lt Nat _ sc wa
theorem ScnP.intro {w : World} {led : List (Addr × Obj)} {er sc scd wa : Addr} {src : Str} {t0 k1 k2 k3 k4 t1 : Tok} {ws : List Value} {wn : Nat} (h1 : StrsAre ws kwords) (h2 : ∀ p ∈ led, p.1 < scd) (h3 : @LT.lt Nat _ scd sc) (h4 : @LT.lt Nat _ sc wa) : ScnP w led er src t0 (.ref sc) ((wa, tupO ws wn) :: (sc, instObj 186 scd) :: (scd, scD w k1 k2 k3 k4 src t0 (.ref er) 0 t1 (.ref wa)) :: led) := ⟨_, _, _, _, _, _, _, _, _, _, rfl, h1, rfl, h2, h3, h4⟩
set_option maxHeartbeats 1000000 in
theorem scanner_ok {w : World} {led : List (Addr × Obj)} {er : Addr} {src : Str} {t0 : Tok} :
    Ct w 4 186 [.str src t0, .ref er] led (ScnP w led er src t0) := by
  intro prog p loose mean mg mb dp un gd cn cs a9 ccd cl outer A₀ base h₀ L m s Q E B F X N T hk hd hu hret
  ((have kf : (PySem.Challenge.rw_pq0763_01 = PySem.Challenge.rw_pq0763_01) ∧ (KK = KK) := by (k_fill; exact ⟨rfl, rfl⟩)); clear kf)
  have kmk := kstMark
  walk_at "call ref"
  (repeat' (first | with_reducible refine ite_pos (by decide) ?_ | with_reducible refine ite_neg (by decide) ?_ | (k_unfold; (try dsimp only)) | (k_end; wrow_close) | walk1 | (dsimp only; walk1) | (leave1; try dsimp only)))
  rename _ ∧ _ ∧ AllLt _ _ => l1
  refine hret _ _ _ _ (ScnP.intro ?hs (by assumption) (by assumption) l1.1) (by assumption) (by assumption)
  case hs => unfold kwords; repeat constructor
theorem scanner_use {w : World} {led : List (Addr × Obj)} {er : Addr} {src : Str} {t0 : Tok}
    {prog p : Program} {loose : List Str} {mean : ExcName → Option Value} {mg mb : Str → Option Value} {dp un : Nat} {gd : Option (List Code)} {cn : Str} {cs : Scope} {a : Addr} {ccd : Value} {cl : List (Str × Addr)} {outer : List Env} {A₀ : Around} {base h₀ : Heap} {L : Addr} {m : Str → Option Value} {s : Shared} {Q : Value → Shared → Prop} {E : Value → Shared → Prop}
    (B : Below A₀ base outer h₀) (F : Fr h₀ L s.heap m) (X : (KK w.params).In h₀) (N : News h₀ L s.heap (led)) (T : Top p loose mean mg mb h₀) (hk : cs.kind = .function) (hd : dp + 4 < recursionLimit) (hu : un + 8 * 4 < cLine)
    (ret : ∀ sc scd wa k1 k2 k3 k4 t1 ws wn h' tk', StrsAre ws kwords → (∀ p ∈ led, p.1 < scd) → @LT.lt Nat _ scd sc → @LT.lt Nat _ sc wa → Fr h₀ L h' m → News h₀ L h' ((wa, tupO ws wn) :: (sc, instObj 186 scd) :: (scd, scD w k1 k2 k3 k4 src t0 (.ref er) 0 t1 (.ref wa)) :: led) → Q (.ref sc) { s with heap := h', toks := tk' }) :
    wpAny (model prog w) (ktrTop dp un gd cn cs L a ccd cl outer) (call (.ref 186) [.str src t0, .ref er]) Q E s :=
  scanner_ok.use B F X N T hk hd hu fun v l h' tk' hp F' N' => by obtain ⟨sc, scd, wa, k1, k2, k3, k4, t1, ws, wn, rfl, h1, rfl, h2, h3, h4⟩ := hp; exact ret sc scd wa k1 k2 k3 k4 t1 ws wn h' tk' h1 h2 h3 h4 F' N'
noncomputable def ScoP (prog : Program) (w : World) (led : List (Addr × Obj)) (ty : Addr) (r : Value) (l : List (Addr × Obj)) : Prop :=
  ∃ ss ssd stk sp spd nm od no sn on j1 j2 j3 j4 i1 i2 i3 i4 i5 bv pv cv ev tl, r = .ref ss ∧ no.IsDictOf (strKind prog w) [] ∧ (nm == sysModules) = false ∧
      l = (stk, listOf #[.ref sp] sn) :: (od, listOf (List.toArray []) on) :: (nm, no) :: (sp, instObj 285 spd) :: (spd, spO w i1 i2 i3 i4 i5 pv cv (.ref nm) (.ref od) ev) :: (ss, instObj 348 ssd) :: (ssd, scO w j1 j2 j3 j4 (.ref ty) bv (.ref stk) (.int (-1) tl)) :: led ∧
      (∀ p ∈ led, p.1 < ssd) ∧ @LT.lt Nat _ ssd ss ∧ @LT.lt Nat _ ss spd ∧ @LT.lt Nat _ spd sp ∧ @LT.lt Nat _ sp nm ∧ @LT.lt Nat _ nm od ∧ @LT.lt Nat _ od stk
theorem ScoP.intro {prog : Program} {w : World} {led : List (Addr × Obj)} {ty ss ssd stk sp spd nm od : Addr} {no : Obj} {sn on : Nat} {j1 j2 j3 j4 i1 i2 i3 i4 i5 tl : Tok} {bv pv cv ev : Value} (h1 : no.IsDictOf (strKind prog w) []) (h2 : (nm == sysModules) = false) (h3 : ∀ p ∈ led, p.1 < ssd) (h4 : @LT.lt Nat _ ssd ss) (h5 : @LT.lt Nat _ ss spd) (h6 : @LT.lt Nat _ spd sp) (h7 : @LT.lt Nat _ sp nm) (h8 : @LT.lt Nat _ nm od) (h9 : @LT.lt Nat _ od stk) : ScoP prog w led ty (.ref ss) ((stk, listOf #[.ref sp] sn) :: (od, listOf (List.toArray []) on) :: (nm, no) :: (sp, instObj 285 spd) :: (spd, spO w i1 i2 i3 i4 i5 pv cv (.ref nm) (.ref od) ev) :: (ss, instObj 348 ssd) :: (ssd, scO w j1 j2 j3 j4 (.ref ty) bv (.ref stk) (.int (-1) tl)) :: led) :=
  ⟨_, _, _, _, _, _, _, _, _, _, _, _, _, _, _, _, _, _, _, _, _, _, _, _, rfl, h1, h2, rfl, h3, h4, h5, h6, h7, h8, h9⟩
set_option maxHeartbeats 1000000 in
theorem scopes_ok {prog : Program} {w : World} {led : List (Addr × Obj)} {ty : Addr} {t0 : Tok} :
    CtQ prog w 4 348 [.ref ty, .str (Str.ofString "") t0] led (ScoP prog w led ty) := by
  intro p loose mean mg mb dp un gd cn cs a9 ccd cl outer A₀ base h₀ L m s Q E B F X N T hk hd hu hret
  ((have kf : (PySem.Challenge.rw_pq0763_01 = PySem.Challenge.rw_pq0763_01) ∧ (KK = KK) := by (k_fill; exact ⟨rfl, rfl⟩)); clear kf)
  have kmk := kstMark
  walk_at "call ref"
  (repeat' (first | with_reducible refine ite_pos (by decide) ?_ | with_reducible refine ite_neg (by decide) ?_ | (k_unfold; (try dsimp only)) | (k_end; wrow_close) | walk1 | (dsimp only; walk1) | (leave1; try dsimp only)))
  refine hret _ _ _ _ (ScoP.intro (by assumption) (by assumption) (by assumption) ?_ ?_ ?_ ?_ ?_ ?_) (by assumption) (by assumption)
  all_goals omega
theorem scopes_use {prog : Program} {w : World} {led : List (Addr × Obj)} {ty : Addr} {t0 : Tok}
    {p : Program} {loose : List Str} {mean : ExcName → Option Value} {mg mb : Str → Option Value} {dp un : Nat} {gd : Option (List Code)} {cn : Str} {cs : Scope} {a : Addr} {ccd : Value} {cl : List (Str × Addr)} {outer : List Env} {A₀ : Around} {base h₀ : Heap} {L : Addr} {m : Str → Option Value} {s : Shared} {Q : Value → Shared → Prop} {E : Value → Shared → Prop}
    (B : Below A₀ base outer h₀) (F : Fr h₀ L s.heap m) (X : (KK w.params).In h₀) (N : News h₀ L s.heap (led)) (T : Top p loose mean mg mb h₀) (hk : cs.kind = .function) (hd : dp + 4 < recursionLimit) (hu : un + 8 * 4 < cLine)
    (ret : ∀ ss ssd stk sp spd nm od no sn on j1 j2 j3 j4 i1 i2 i3 i4 i5 bv pv cv ev tl h' tk', no.IsDictOf (strKind prog w) [] → (nm == sysModules) = false → (∀ p ∈ led, p.1 < ssd) → @LT.lt Nat _ ssd ss → @LT.lt Nat _ ss spd → @LT.lt Nat _ spd sp → @LT.lt Nat _ sp nm → @LT.lt Nat _ nm od → @LT.lt Nat _ od stk → Fr h₀ L h' m → News h₀ L h' ((stk, listOf #[.ref sp] sn) :: (od, listOf (List.toArray []) on) :: (nm, no) :: (sp, instObj 285 spd) :: (spd, spO w i1 i2 i3 i4 i5 pv cv (.ref nm) (.ref od) ev) :: (ss, instObj 348 ssd) :: (ssd, scO w j1 j2 j3 j4 (.ref ty) bv (.ref stk) (.int (-1) tl)) :: led) → Q (.ref ss) { s with heap := h', toks := tk' }) :
    wpAny (model prog w) (ktrTop dp un gd cn cs L a ccd cl outer) (call (.ref 348) [.ref ty, .str (Str.ofString "") t0]) Q E s :=
  CtQ.use (scopes_ok (t0 := t0)) B F X N T hk hd hu fun v l h' tk' hp F' N' => by obtain ⟨ss, ssd, stk, sp, spd, nm, od, no, sn, on, j1, j2, j3, j4, i1, i2, i3, i4, i5, bv, pv, cv, ev, tl, rfl, h1, h2, rfl, h3, h4, h5, h6, h7, h8, h9⟩ := hp; exact ret ss ssd stk sp spd nm od no sn on j1 j2 j3 j4 i1 i2 i3 i4 i5 bv pv cv ev tl h' tk' h1 h2 h3 h4 h5 h6 h7 h8 h9 F' N'
local macro_rules | `(tactic| walk_at "mine off") => `(tactic| first | assumption | (refine off_of_lt (by assumption) ?_; omega) | (refine off_cons ?_ ?_; (first | assumption | omega); walk_at "mine off"))
noncomputable def ReaP (w : World) (rest : List (Addr × Obj)) (er : Addr) (t0 : Tok) (src : Str) (q q' : Int) (kd : Str) (V : Value → Prop) (kw : List Str) (r : Value) (l : List (Addr × Obj)) : Prop :=
  ∃ rd rdd sc scd wa x d R k1 k2 k3 k4 t j1 j2 j3 tk val tp ws wn, r = .ref rd ∧ V val ∧ StrsAre ws kw ∧
      l = (x, instObj 38 d) :: (d, toD w j1 j2 j3 (.str kd tk) val (.int q tp)) :: (scd, scD w k1 k2 k3 k4 src t0 (.ref er) q' t (.ref wa)) :: (wa, tupO ws wn) :: (sc, instObj 186 scd) :: (rd, instObj 468 rdd) :: (rdd, rdD w R sc er x) :: rest ∧
      (∀ p ∈ rest, p.1 < rdd) ∧ @LT.lt Nat _ rdd rd ∧ @LT.lt Nat _ rd scd ∧ @LT.lt Nat _ scd sc ∧ @LT.lt Nat _ sc wa ∧ @LT.lt Nat _ wa d ∧ @LT.lt Nat _ d x
theorem ReaP.intro {w : World} {rest : List (Addr × Obj)} {er rd rdd sc scd wa x d : Addr} {t0 k1 k2 k3 k4 t j1 j2 j3 tk tp : Tok} {src kd : Str} {q q' : Int} {V : Value → Prop} {kw : List Str} {R : RK} {val : Value} {ws : List Value} {wn : Nat}
    (h1 : V val) (h2 : StrsAre ws kw) (h3 : ∀ p ∈ rest, p.1 < rdd) (h4 : @LT.lt Nat _ rdd rd) (h5 : @LT.lt Nat _ rd scd) (h6 : @LT.lt Nat _ scd sc) (h7 : @LT.lt Nat _ sc wa) (h8 : @LT.lt Nat _ wa d) (h9 : @LT.lt Nat _ d x) : ReaP w rest er t0 src q q' kd V kw (.ref rd) ((x, instObj 38 d) :: (d, toD w j1 j2 j3 (.str kd tk) val (.int q tp)) :: (scd, scD w k1 k2 k3 k4 src t0 (.ref er) q' t (.ref wa)) :: (wa, tupO ws wn) :: (sc, instObj 186 scd) :: (rd, instObj 468 rdd) :: (rdd, rdD w R sc er x) :: rest) :=
  ⟨_, _, _, _, _, _, _, _, _, _, _, _, _, _, _, _, _, _, _, _, _, rfl, h1, h2, rfl, h3, h4, h5, h6, h7, h8, h9⟩
theorem reader_ok {prog : Program} {w : World} {rest : List (Addr × Obj)} {ty tyd er : Addr} {K : TK9} {t0 : Tok} {src : Str} {q q' : Int} {kd : Str} {V : Value → Prop} {kw : List Str}
    (h6 : (ty, instObj 264 tyd) ∈ rest) (h7 : (tyd, tsO w K) ∈ rest) (hkw : kw = kwords) (hl : src.length < 2 ^ 17)
    (h5 : 0 ≤ q) (h4 : q < 2 ^ 17) (h9 : q' < 2 ^ 17) (hg : Gap src 0 q) (hq : Sign src q) (ht : TokAt kw src q kd V q') :
    CtQ prog w 9 468 [.str src t0, .ref ty, .ref er, .none] rest (ReaP w rest er t0 src q q' kd V kw) := by
  intro p loose mean mg mb dp un gd cn cs a9 ccd cl outer A₀ base h₀ L m s Q E B F X N T hk hd hu hret
  subst hkw
  ((have kf : (PySem.Challenge.rw_pq0763_01 = PySem.Challenge.rw_pq0763_01) ∧ (KK = KK) := by (k_fill; exact ⟨rfl, rfl⟩)); clear kf)
  have kmk := kstMark
  (first | ((with_reducible show wpAny _ _ (call (Value.ref 106) _) _ _ _); k_here; k_dflt (refine' Ct.utk (take_ok ?h1 ?hO ?h3 ?h5 ?h4 ?h6 ?hl ?hw ?hws ?hg ?hq ?ht) ?cB ?cF ?cX ?cN ?cT ?ck ?cd ?cu ?_; (case cN => exact pick1 (by k_asm) (by walk_at "mine pick")); (case h1 => k_mem); (case hO => walk_at "mine off"); (case hg => first | with_reducible assumption | assumption); (case ht => first | with_reducible assumption | assumption); (case h3 => omega); (case h5 => omega); (case h4 => omega); (case h6 => omega); (case hl => first | assumption | omega); (case hw => k_mem); (case hws => first | with_reducible assumption | assumption); (case hq => first | with_reducible assumption | assumption); walk_at "mine ct"; k_whole; walk_at "mine tk")) | ((with_reducible show wpAny _ _ (call (Value.ref 348) _) _ _ _); k_here; k_dflt (refine' scopes_use ?cB ?cF ?cX ?cN ?cT ?ck ?cd ?cu ?_; (case cN => k_asm); walk_at "mine ct"; k_whole; intro ss ssd stk sp spd nm od no sn on j1 j2 j3 j4 i1 i2 i3 i4 i5 bv pv cv ev tl h9 tk9 f9 g9 o9 o8 o7 o6 o4 o3 o2 F9 N9; (have o5 := allLt_of o9); (try simp only [AllLt, and_true] at o5); (try k_sweep); (try dsimp only))) | ((with_reducible show wpAny _ _ (call (Value.ref 186) _) _ _ _); k_here; k_dflt (refine' scanner_use ?cB ?cF ?cX ?cN ?cT ?ck ?cd ?cu ?_; (case cN => k_asm); walk_at "mine ct"; k_whole; intro x9 y9 w9 a1 a2 a3 a4 t1 ws wn h9 tk9 ws9 o9 o8 o7 F9 N9; (have o5 := allLt_of o9); (try simp only [AllLt, and_true] at o5); (try k_sweep); (try dsimp only))) | ((with_reducible show wpAny _ _ (call (Value.ref 373) _) _ _ _); k_here; k_dflt (refine' CtQ.use (fill_ok (vs := []) ?h1 ?h2 ?h3 ?h4 ?h5 ?h6 ?h7 ?hO ?hO2 ?hne ?hd ?hs ?hv) ?cB ?cF ?cX ?cN ?cT ?ck ?cd ?cu ?_; (case hd => first | with_reducible assumption | assumption); (case hs => first | with_reducible assumption | assumption); (case cN => exact pick2 (by k_asm) (by walk_at "mine pick") (by walk_at "mine pick")); (case h1 => k_mem); (case h2 => k_mem); (case h3 => k_mem); (case h4 => k_mem); (case h5 => k_mem); (case h6 => k_mem); (case h7 => k_mem); (case hO => walk_at "mine off"); (case hO2 => walk_at "mine off"); (case hne => omega); (case hv => exact Nat.zero_le _); walk_at "mine ct"; k_whole; intro v9 l9 h9 tk9 hP9 F9 N9; obtain ⟨d9, e9⟩ := hP9; subst e9 d9; (try k_sweep); (try dsimp only))) | ((with_reducible show wpAny _ _ (call (Value.ref 106) _) _ _ _); k_here; k_dflt (refine' Ct.utk (take_ok ?h1 ?hO ?h3 ?h5 ?h4 ?h6 ?hl ?hw ?hws ?hg ?hq ?ht) ?cB ?cF ?cX ?cN ?cT ?ck ?cd ?cu ?_; (case cN => k_asm); (case h1 => k_mem); (case hO => walk_at "mine off"); (case hg => first | with_reducible assumption | assumption); (case ht => first | with_reducible assumption | assumption); (case h3 => omega); (case h5 => omega); (case h4 => omega); (case h6 => omega); (case hl => first | with_reducible assumption | assumption); (case hw => k_mem); (case hws => first | with_reducible assumption | assumption); (case hq => first | with_reducible assumption | assumption); walk_at "mine ct"; k_whole; walk_at "mine tk")) | walk_at "call ref")
  rename_i rd rdd hA FA NA lA mA gA LA hB FGA FB NB BB XB TB
  repeat ((fail_if_success (with_reducible show wpAny _ _ (call (Value.ref 348) _) _ _ _)); (first | with_reducible ((with_reducible show wpAny _ _ (call (Value.ref 106) _) _ _ _); k_here; k_dflt (refine' Ct.utk (take_ok ?h1 ?hO ?h3 ?h5 ?h4 ?h6 ?hl ?hw ?hws ?hg ?hq ?ht) ?cB ?cF ?cX ?cN ?cT ?ck ?cd ?cu ?_; (case cN => exact pick1 (by k_asm) (by walk_at "mine pick")); (case h1 => k_mem); (case hO => walk_at "mine off"); (case hg => first | with_reducible assumption | assumption); (case ht => first | with_reducible assumption | assumption); (case h3 => omega); (case h5 => omega); (case h4 => omega); (case h6 => omega); (case hl => first | assumption | omega); (case hw => k_mem); (case hws => first | with_reducible assumption | assumption); (case hq => first | with_reducible assumption | assumption); walk_at "mine ct"; k_whole; walk_at "mine tk")) | with_reducible ((with_reducible show wpAny _ _ (call (Value.ref 348) _) _ _ _); k_here; k_dflt (refine' scopes_use ?cB ?cF ?cX ?cN ?cT ?ck ?cd ?cu ?_; (case cN => k_asm); walk_at "mine ct"; k_whole; intro ss ssd stk sp spd nm od no sn on j1 j2 j3 j4 i1 i2 i3 i4 i5 bv pv cv ev tl h9 tk9 f9 g9 o9 o8 o7 o6 o4 o3 o2 F9 N9; (have o5 := allLt_of o9); (try simp only [AllLt, and_true] at o5); (try k_sweep); (try dsimp only))) | with_reducible ((with_reducible show wpAny _ _ (call (Value.ref 186) _) _ _ _); k_here; k_dflt (refine' scanner_use ?cB ?cF ?cX ?cN ?cT ?ck ?cd ?cu ?_; (case cN => k_asm); walk_at "mine ct"; k_whole; intro x9 y9 w9 a1 a2 a3 a4 t1 ws wn h9 tk9 ws9 o9 o8 o7 F9 N9; (have o5 := allLt_of o9); (try simp only [AllLt, and_true] at o5); (try k_sweep); (try dsimp only))) | with_reducible ((with_reducible show wpAny _ _ (call (Value.ref 373) _) _ _ _); k_here; k_dflt (refine' CtQ.use (fill_ok (vs := []) ?h1 ?h2 ?h3 ?h4 ?h5 ?h6 ?h7 ?hO ?hO2 ?hne ?hd ?hs ?hv) ?cB ?cF ?cX ?cN ?cT ?ck ?cd ?cu ?_; (case hd => first | with_reducible assumption | assumption); (case hs => first | with_reducible assumption | assumption); (case cN => exact pick2 (by k_asm) (by walk_at "mine pick") (by walk_at "mine pick")); (case h1 => k_mem); (case h2 => k_mem); (case h3 => k_mem); (case h4 => k_mem); (case h5 => k_mem); (case h6 => k_mem); (case h7 => k_mem); (case hO => walk_at "mine off"); (case hO2 => walk_at "mine off"); (case hne => omega); (case hv => exact Nat.zero_le _); walk_at "mine ct"; k_whole; intro v9 l9 h9 tk9 hP9 F9 N9; obtain ⟨d9, e9⟩ := hP9; subst e9 d9; (try k_sweep); (try dsimp only))) | with_reducible ((with_reducible show wpAny _ _ (call (Value.ref 106) _) _ _ _); k_here; k_dflt (refine' Ct.utk (take_ok ?h1 ?hO ?h3 ?h5 ?h4 ?h6 ?hl ?hw ?hws ?hg ?hq ?ht) ?cB ?cF ?cX ?cN ?cT ?ck ?cd ?cu ?_; (case cN => k_asm); (case h1 => k_mem); (case hO => walk_at "mine off"); (case hg => first | with_reducible assumption | assumption); (case ht => first | with_reducible assumption | assumption); (case h3 => omega); (case h5 => omega); (case h4 => omega); (case h6 => omega); (case hl => first | with_reducible assumption | assumption); (case hw => k_mem); (case hws => first | with_reducible assumption | assumption); (case hq => first | with_reducible assumption | assumption); walk_at "mine ct"; k_whole; walk_at "mine tk")) | with_reducible refine ite_pos (by decide) ?_ | with_reducible refine ite_neg (by decide) ?_ | walk_at "mine step"))
  rename News _ LA _ _ => N1
  have f1 : @LT.lt Nat _ rd y9 ∧ @LT.lt Nat _ rdd y9 := ⟨o5.1, o5.2.1⟩
  have e3 : OwnOff rest [rdd] := off_of_lt lA (Nat.le_refl _)
  have e4 : OwnOff rest [y9] := off_of_lt lA (Nat.le_of_lt f1.2)
  have e1 : OwnOff ((w9, tupO ws wn) :: (x9, instObj 186 y9) :: (rd, instObj 468 rdd) :: rest) [rdd] := off_cons (by omega) (off_cons (by omega) (off_cons (by omega) e3))
  have e2 : OwnOff ((w9, tupO ws wn) :: (x9, instObj 186 y9) :: (rd, instObj 468 rdd) :: rest) [y9] := off_cons (by omega) (off_cons (by omega) (off_cons (by omega) e4))
  have hw9 : (w9, tupO ws wn) ∈ ((w9, tupO ws wn) :: (x9, instObj 186 y9) :: (rd, instObj 468 rdd) :: rest) := .head _
  have hx9 : (x9, instObj 186 y9) ∈ ((w9, tupO ws wn) :: (x9, instObj 186 y9) :: (rd, instObj 468 rdd) :: rest) := .tail _ (.head _)
  have hrd : (rd, instObj 468 rdd) ∈ ((w9, tupO ws wn) :: (x9, instObj 186 y9) :: (rd, instObj 468 rdd) :: rest) := .tail _ (.tail _ (.head _))
  have hsub : ∀ p ∈ rest, p ∈ ((w9, tupO ws wn) :: (x9, instObj 186 y9) :: (rd, instObj 468 rdd) :: rest) := fun _ h => .tail _ (.tail _ (.tail _ h))
  have N2 := kst_newsOf (l' := (rdd, dictOf _ _) :: (y9, scD w a1 a2 a3 a4 src t0 (.ref er) 0 t1 (.ref w9)) :: ((w9, tupO ws wn) :: (x9, instObj 186 y9) :: (rd, instObj 468 rdd) :: rest)) N1 (allc (by k_mem) (allc (by k_mem) (allc (by k_mem) (allc (by k_mem) (allc (by k_mem) (by walk_at "mine sub"))))))
  clear N1 e3 e4
  have hRl : ∀ p ∈ ((w9, tupO ws wn) :: (x9, instObj 186 y9) :: (rd, instObj 468 rdd) :: rest), @LT.lt Nat _ p.1 (w9 + 1) := allc (by dsimp only; omega) (allc (by dsimp only; omega) (allc (by dsimp only; omega) fun p hp => Nat.lt_of_lt_of_le (lA p hp) (show @LE.le Nat _ rdd (w9 + 1) by omega)))
  have h6' := hsub _ h6
  have h7' := hsub _ h7
  have d1 : @LT.lt Nat _ x9 w9 := o7
  have d2 : @LT.lt Nat _ y9 x9 := o8
  generalize ((w9, tupO ws wn) :: (x9, instObj 186 y9) :: (rd, instObj 468 rdd) :: rest) = R at N2 e1 e2 hw9 hx9 hrd hsub h6' h7' hRl
  clear o9 o8 o7 o5
  repeat ((fail_if_success (with_reducible show wpAny _ _ (call (Value.ref 373) _) _ _ _)); (first | with_reducible ((with_reducible show wpAny _ _ (call (Value.ref 106) _) _ _ _); k_here; k_dflt (refine' Ct.utk (take_ok ?h1 ?hO ?h3 ?h5 ?h4 ?h6 ?hl ?hw ?hws ?hg ?hq ?ht) ?cB ?cF ?cX ?cN ?cT ?ck ?cd ?cu ?_; (case cN => exact pick1 (by k_asm) (by walk_at "mine pick")); (case h1 => k_mem); (case hO => walk_at "mine off"); (case hg => first | with_reducible assumption | assumption); (case ht => first | with_reducible assumption | assumption); (case h3 => omega); (case h5 => omega); (case h4 => omega); (case h6 => omega); (case hl => first | assumption | omega); (case hw => k_mem); (case hws => first | with_reducible assumption | assumption); (case hq => first | with_reducible assumption | assumption); walk_at "mine ct"; k_whole; walk_at "mine tk")) | with_reducible ((with_reducible show wpAny _ _ (call (Value.ref 348) _) _ _ _); k_here; k_dflt (refine' scopes_use ?cB ?cF ?cX ?cN ?cT ?ck ?cd ?cu ?_; (case cN => k_asm); walk_at "mine ct"; k_whole; intro ss ssd stk sp spd nm od no sn on j1 j2 j3 j4 i1 i2 i3 i4 i5 bv pv cv ev tl h9 tk9 f9 g9 o9 o8 o7 o6 o4 o3 o2 F9 N9; (have o5 := allLt_of o9); (try simp only [AllLt, and_true] at o5); (try k_sweep); (try dsimp only))) | with_reducible ((with_reducible show wpAny _ _ (call (Value.ref 186) _) _ _ _); k_here; k_dflt (refine' scanner_use ?cB ?cF ?cX ?cN ?cT ?ck ?cd ?cu ?_; (case cN => k_asm); walk_at "mine ct"; k_whole; intro x9 y9 w9 a1 a2 a3 a4 t1 ws wn h9 tk9 ws9 o9 o8 o7 F9 N9; (have o5 := allLt_of o9); (try simp only [AllLt, and_true] at o5); (try k_sweep); (try dsimp only))) | with_reducible ((with_reducible show wpAny _ _ (call (Value.ref 373) _) _ _ _); k_here; k_dflt (refine' CtQ.use (fill_ok (vs := []) ?h1 ?h2 ?h3 ?h4 ?h5 ?h6 ?h7 ?hO ?hO2 ?hne ?hd ?hs ?hv) ?cB ?cF ?cX ?cN ?cT ?ck ?cd ?cu ?_; (case hd => first | with_reducible assumption | assumption); (case hs => first | with_reducible assumption | assumption); (case cN => exact pick2 (by k_asm) (by walk_at "mine pick") (by walk_at "mine pick")); (case h1 => k_mem); (case h2 => k_mem); (case h3 => k_mem); (case h4 => k_mem); (case h5 => k_mem); (case h6 => k_mem); (case h7 => k_mem); (case hO => walk_at "mine off"); (case hO2 => walk_at "mine off"); (case hne => omega); (case hv => exact Nat.zero_le _); walk_at "mine ct"; k_whole; intro v9 l9 h9 tk9 hP9 F9 N9; obtain ⟨d9, e9⟩ := hP9; subst e9 d9; (try k_sweep); (try dsimp only))) | with_reducible ((with_reducible show wpAny _ _ (call (Value.ref 106) _) _ _ _); k_here; k_dflt (refine' Ct.utk (take_ok ?h1 ?hO ?h3 ?h5 ?h4 ?h6 ?hl ?hw ?hws ?hg ?hq ?ht) ?cB ?cF ?cX ?cN ?cT ?ck ?cd ?cu ?_; (case cN => k_asm); (case h1 => k_mem); (case hO => walk_at "mine off"); (case hg => first | with_reducible assumption | assumption); (case ht => first | with_reducible assumption | assumption); (case h3 => omega); (case h5 => omega); (case h4 => omega); (case h6 => omega); (case hl => first | with_reducible assumption | assumption); (case hw => k_mem); (case hws => first | with_reducible assumption | assumption); (case hq => first | with_reducible assumption | assumption); walk_at "mine ct"; k_whole; walk_at "mine tk")) | with_reducible refine ite_pos (by decide) ?_ | with_reducible refine ite_neg (by decide) ?_ | walk_at "mine step"))
  have q9 : @LT.lt Nat _ w9 ssd := o9 _ (.tail _ (.tail _ hw9))
  (first | with_reducible ((with_reducible show wpAny _ _ (call (Value.ref 106) _) _ _ _); k_here; k_dflt (refine' Ct.utk (take_ok ?h1 ?hO ?h3 ?h5 ?h4 ?h6 ?hl ?hw ?hws ?hg ?hq ?ht) ?cB ?cF ?cX ?cN ?cT ?ck ?cd ?cu ?_; (case cN => exact pick1 (by k_asm) (by walk_at "mine pick")); (case h1 => k_mem); (case hO => walk_at "mine off"); (case hg => first | with_reducible assumption | assumption); (case ht => first | with_reducible assumption | assumption); (case h3 => omega); (case h5 => omega); (case h4 => omega); (case h6 => omega); (case hl => first | assumption | omega); (case hw => k_mem); (case hws => first | with_reducible assumption | assumption); (case hq => first | with_reducible assumption | assumption); walk_at "mine ct"; k_whole; walk_at "mine tk")) | with_reducible ((with_reducible show wpAny _ _ (call (Value.ref 348) _) _ _ _); k_here; k_dflt (refine' scopes_use ?cB ?cF ?cX ?cN ?cT ?ck ?cd ?cu ?_; (case cN => k_asm); walk_at "mine ct"; k_whole; intro ss ssd stk sp spd nm od no sn on j1 j2 j3 j4 i1 i2 i3 i4 i5 bv pv cv ev tl h9 tk9 f9 g9 o9 o8 o7 o6 o4 o3 o2 F9 N9; (have o5 := allLt_of o9); (try simp only [AllLt, and_true] at o5); (try k_sweep); (try dsimp only))) | with_reducible ((with_reducible show wpAny _ _ (call (Value.ref 186) _) _ _ _); k_here; k_dflt (refine' scanner_use ?cB ?cF ?cX ?cN ?cT ?ck ?cd ?cu ?_; (case cN => k_asm); walk_at "mine ct"; k_whole; intro x9 y9 w9 a1 a2 a3 a4 t1 ws wn h9 tk9 ws9 o9 o8 o7 F9 N9; (have o5 := allLt_of o9); (try simp only [AllLt, and_true] at o5); (try k_sweep); (try dsimp only))) | with_reducible ((with_reducible show wpAny _ _ (call (Value.ref 373) _) _ _ _); k_here; k_dflt (refine' CtQ.use (fill_ok (vs := []) ?h1 ?h2 ?h3 ?h4 ?h5 ?h6 ?h7 ?hO ?hO2 ?hne ?hd ?hs ?hv) ?cB ?cF ?cX ?cN ?cT ?ck ?cd ?cu ?_; (case hd => first | with_reducible assumption | assumption); (case hs => first | with_reducible assumption | assumption); (case cN => exact pick2 (by k_asm) (by walk_at "mine pick") (by walk_at "mine pick")); (case h1 => k_mem); (case h2 => k_mem); (case h3 => k_mem); (case h4 => k_mem); (case h5 => k_mem); (case h6 => k_mem); (case h7 => k_mem); (case hO => walk_at "mine off"); (case hO2 => walk_at "mine off"); (case hne => omega); (case hv => exact Nat.zero_le _); walk_at "mine ct"; k_whole; intro v9 l9 h9 tk9 hP9 F9 N9; obtain ⟨d9, e9⟩ := hP9; subst e9 d9; (try k_sweep); (try dsimp only))) | with_reducible ((with_reducible show wpAny _ _ (call (Value.ref 106) _) _ _ _); k_here; k_dflt (refine' Ct.utk (take_ok ?h1 ?hO ?h3 ?h5 ?h4 ?h6 ?hl ?hw ?hws ?hg ?hq ?ht) ?cB ?cF ?cX ?cN ?cT ?ck ?cd ?cu ?_; (case cN => k_asm); (case h1 => k_mem); (case hO => walk_at "mine off"); (case hg => first | with_reducible assumption | assumption); (case ht => first | with_reducible assumption | assumption); (case h3 => omega); (case h5 => omega); (case h4 => omega); (case h6 => omega); (case hl => first | with_reducible assumption | assumption); (case hw => k_mem); (case hws => first | with_reducible assumption | assumption); (case hq => first | with_reducible assumption | assumption); walk_at "mine ct"; k_whole; walk_at "mine tk")) | with_reducible refine ite_pos (by decide) ?_ | with_reducible refine ite_neg (by decide) ?_ | walk_at "mine step")
  rename News _ LA _ _ => N3
  have N4 := kst_newsOf (l' := (rdd, dictOf _ _) :: (y9, scD w a1 a2 a3 a4 src t0 (.ref er) 0 t1 (.ref w9)) :: R) N3 (allc (by k_mem) (allc (by k_mem) (by walk_at "mine sub")))
  clear N3 o8 o7 o6 o4 o3 o2 o5
  (repeat' (first | with_reducible ((with_reducible show wpAny _ _ (call (Value.ref 106) _) _ _ _); k_here; k_dflt (refine' Ct.utk (take_ok ?h1 ?hO ?h3 ?h5 ?h4 ?h6 ?hl ?hw ?hws ?hg ?hq ?ht) ?cB ?cF ?cX ?cN ?cT ?ck ?cd ?cu ?_; (case cN => exact pick1 (by k_asm) (by walk_at "mine pick")); (case h1 => k_mem); (case hO => walk_at "mine off"); (case hg => first | with_reducible assumption | assumption); (case ht => first | with_reducible assumption | assumption); (case h3 => omega); (case h5 => omega); (case h4 => omega); (case h6 => omega); (case hl => first | assumption | omega); (case hw => k_mem); (case hws => first | with_reducible assumption | assumption); (case hq => first | with_reducible assumption | assumption); walk_at "mine ct"; k_whole; walk_at "mine tk")) | with_reducible ((with_reducible show wpAny _ _ (call (Value.ref 348) _) _ _ _); k_here; k_dflt (refine' scopes_use ?cB ?cF ?cX ?cN ?cT ?ck ?cd ?cu ?_; (case cN => k_asm); walk_at "mine ct"; k_whole; intro ss ssd stk sp spd nm od no sn on j1 j2 j3 j4 i1 i2 i3 i4 i5 bv pv cv ev tl h9 tk9 f9 g9 o9 o8 o7 o6 o4 o3 o2 F9 N9; (have o5 := allLt_of o9); (try simp only [AllLt, and_true] at o5); (try k_sweep); (try dsimp only))) | with_reducible ((with_reducible show wpAny _ _ (call (Value.ref 186) _) _ _ _); k_here; k_dflt (refine' scanner_use ?cB ?cF ?cX ?cN ?cT ?ck ?cd ?cu ?_; (case cN => k_asm); walk_at "mine ct"; k_whole; intro x9 y9 w9 a1 a2 a3 a4 t1 ws wn h9 tk9 ws9 o9 o8 o7 F9 N9; (have o5 := allLt_of o9); (try simp only [AllLt, and_true] at o5); (try k_sweep); (try dsimp only))) | with_reducible ((with_reducible show wpAny _ _ (call (Value.ref 373) _) _ _ _); k_here; k_dflt (refine' CtQ.use (fill_ok (vs := []) ?h1 ?h2 ?h3 ?h4 ?h5 ?h6 ?h7 ?hO ?hO2 ?hne ?hd ?hs ?hv) ?cB ?cF ?cX ?cN ?cT ?ck ?cd ?cu ?_; (case hd => first | with_reducible assumption | assumption); (case hs => first | with_reducible assumption | assumption); (case cN => exact pick2 (by k_asm) (by walk_at "mine pick") (by walk_at "mine pick")); (case h1 => k_mem); (case h2 => k_mem); (case h3 => k_mem); (case h4 => k_mem); (case h5 => k_mem); (case h6 => k_mem); (case h7 => k_mem); (case hO => walk_at "mine off"); (case hO2 => walk_at "mine off"); (case hne => omega); (case hv => exact Nat.zero_le _); walk_at "mine ct"; k_whole; intro v9 l9 h9 tk9 hP9 F9 N9; obtain ⟨d9, e9⟩ := hP9; subst e9 d9; (try k_sweep); (try dsimp only))) | with_reducible ((with_reducible show wpAny _ _ (call (Value.ref 106) _) _ _ _); k_here; k_dflt (refine' Ct.utk (take_ok ?h1 ?hO ?h3 ?h5 ?h4 ?h6 ?hl ?hw ?hws ?hg ?hq ?ht) ?cB ?cF ?cX ?cN ?cT ?ck ?cd ?cu ?_; (case cN => k_asm); (case h1 => k_mem); (case hO => walk_at "mine off"); (case hg => first | with_reducible assumption | assumption); (case ht => first | with_reducible assumption | assumption); (case h3 => omega); (case h5 => omega); (case h4 => omega); (case h6 => omega); (case hl => first | with_reducible assumption | assumption); (case hw => k_mem); (case hws => first | with_reducible assumption | assumption); (case hq => first | with_reducible assumption | assumption); walk_at "mine ct"; k_whole; walk_at "mine tk")) | with_reducible refine ite_pos (by decide) ?_ | with_reducible refine ite_neg (by decide) ?_ | (k_unfold; (try dsimp only)) | (k_end; wrow_close) | walk1 | (dsimp only; walk1) | (leave1; try dsimp only)))
  rename News h₀ L _ _ => N9
  rename _ ∧ _ ∧ _ ∧ _ ∧ _ ∧ AllLt _ R => o7
  refine hret _ _ _ _ (ReaP.intro (R := ⟨_, _, _, _, _, _, _, _, _, _, _, _, _, _, _, _, _, _, _, _, _, _, _⟩) (by assumption) (by assumption) (by assumption) mA f1.1 d2 d1 (kst_ltOf o7.2.2.2.2.2 _ hw9) (by assumption)) (by assumption) (kst_newsOf N9 (allc (by k_mem) (allc (by k_mem) (allc (by k_mem) (allc (by k_mem) (allc (by k_mem) (allc (by k_mem) (allc (by k_mem) fun p hp => .tail _ (.tail _ (.tail _ (.tail _ (.tail _ (.tail _ (.tail _ (hsub p hp)))))))))))))))
theorem CtQ.urea {prog : Program} {w : World} {d9 : Nat} {f : Addr} {vs : List Value} {led rest : List (Addr × Obj)} {er : Addr} {t0 : Tok} {src kd : Str} {q q' : Int} {V : Value → Prop} {kw : List Str} (C : CtQ prog w d9 f vs led (ReaP w rest er t0 src q q' kd V kw))
    {p : Program} {loose : List Str} {mean : ExcName → Option Value} {mg mb : Str → Option Value} {dp un : Nat} {gd : Option (List Code)} {cn : Str} {cs : Scope} {a : Addr} {ccd : Value} {cl : List (Str × Addr)} {outer : List Env} {A₀ : Around} {base h₀ : Heap} {L : Addr} {m : Str → Option Value} {s : Shared} {Q : Value → Shared → Prop} {E : Value → Shared → Prop}
    (B : Below A₀ base outer h₀) (F : Fr h₀ L s.heap m) (X : (KK w.params).In h₀) (N : News h₀ L s.heap (led)) (T : Top p loose mean mg mb h₀) (hk : cs.kind = .function) (hd : dp + d9 < recursionLimit) (hu : un + 8 * d9 < cLine)
    (ret : ∀ rd rdd sc scd wa x d R k1 k2 k3 k4 t j1 j2 j3 tk val tp ws wn h' tk', V val → StrsAre ws kw → (∀ p ∈ rest, p.1 < rdd) → @LT.lt Nat _ rdd rd → @LT.lt Nat _ rd scd → @LT.lt Nat _ scd sc → @LT.lt Nat _ sc wa → @LT.lt Nat _ wa d → @LT.lt Nat _ d x → Fr h₀ L h' m → News h₀ L h' ((x, instObj 38 d) :: (d, toD w j1 j2 j3 (.str kd tk) val (.int q tp)) :: (scd, scD w k1 k2 k3 k4 src t0 (.ref er) q' t (.ref wa)) :: (wa, tupO ws wn) :: (sc, instObj 186 scd) :: (rd, instObj 468 rdd) :: (rdd, rdD w R sc er x) :: rest) → Q (.ref rd) { s with heap := h', toks := tk' }) :
    wpAny (model prog w) (ktrTop dp un gd cn cs L a ccd cl outer) (call (.ref f) vs) Q E s :=
  CtQ.use C B F X N T hk hd hu fun v l h' tk' hp F' N' => by obtain ⟨rd, rdd, sc, scd, wa, x, d, R, k1, k2, k3, k4, t, j1, j2, j3, tk, val, tp, ws, wn, rfl, h1, h2, rfl, h3, h4, h5, h6, h7, h8, h9⟩ := hp; exact ret rd rdd sc scd wa x d R k1 k2 k3 k4 t j1 j2 j3 tk val tp ws wn h' tk' h1 h2 h3 h4 h5 h6 h7 h8 h9 F' N'
noncomputable def ErrP (prog : Program) (w : World) (led : List (Addr × Obj)) (r : Value) (l : List (Addr × Obj)) : Prop :=
  ∃ er erd ero erp po j1 j2 n, r = .ref er ∧ po.IsDictOf (intKind prog w) [] ∧ FlatPairs PyData.int [] [] ∧ (erp == sysModules) = false ∧ l = (erp, po) :: (ero, listOf (List.toArray []) n) :: (er, instObj 510 erd) :: (erd, erD w j1 j2 ero erp) :: led ∧ (∀ p ∈ led, p.1 < erd) ∧ @LT.lt Nat _ erd er ∧ @LT.lt Nat _ er ero ∧ @LT.lt Nat _ ero erp
theorem CtQ.uerr {prog : Program} {w : World} {d9 : Nat} {f : Addr} {vs : List Value} {led l0 : List (Addr × Obj)} (C : CtQ prog w d9 f vs l0 (ErrP prog w led))
    {p : Program} {loose : List Str} {mean : ExcName → Option Value} {mg mb : Str → Option Value} {dp un : Nat} {gd : Option (List Code)} {cn : Str} {cs : Scope} {a : Addr} {ccd : Value} {cl : List (Str × Addr)} {outer : List Env} {A₀ : Around} {base h₀ : Heap} {L : Addr} {m : Str → Option Value} {s : Shared} {Q : Value → Shared → Prop} {E : Value → Shared → Prop}
    (B : Below A₀ base outer h₀) (F : Fr h₀ L s.heap m) (X : (KK w.params).In h₀) (N : News h₀ L s.heap (l0)) (T : Top p loose mean mg mb h₀) (hk : cs.kind = .function) (hd : dp + d9 < recursionLimit) (hu : un + 8 * d9 < cLine)
    (ret : ∀ er erd ero erp po j1 j2 n h' tk', po.IsDictOf (intKind prog w) [] → FlatPairs PyData.int [] [] → (erp == sysModules) = false → (∀ p ∈ led, p.1 < erd) → @LT.lt Nat _ erd er → @LT.lt Nat _ er ero → @LT.lt Nat _ ero erp → Fr h₀ L h' m → News h₀ L h' ((erp, po) :: (ero, listOf (List.toArray []) n) :: (er, instObj 510 erd) :: (erd, erD w j1 j2 ero erp) :: led) → Q (.ref er) { s with heap := h', toks := tk' }) :
    wpAny (model prog w) (ktrTop dp un gd cn cs L a ccd cl outer) (call (.ref f) vs) Q E s :=
  CtQ.use C B F X N T hk hd hu fun v l h' tk' hp F' N' => by obtain ⟨er, erd, ero, erp, po, j1, j2, n, rfl, h1, h2, h3, rfl, h4, h5, h6, h7⟩ := hp; exact ret er erd ero erp po j1 j2 n h' tk' h1 h2 h3 h4 h5 h6 h7 F' N'
theorem errors_ok {prog : Program} {w : World} {led : List (Addr × Obj)} :
    CtQ prog w 3 510 [] led (ErrP prog w led) := by
  intro p loose mean mg mb dp un gd cn cs a9 ccd cl outer A₀ base h₀ L m s Q E B F X N T hk hd hu hret
  ((have kf : (PySem.Challenge.rw_pq0763_01 = PySem.Challenge.rw_pq0763_01) ∧ (KK = KK) := by (k_fill; exact ⟨rfl, rfl⟩)); clear kf)
  have kmk := kstMark
  walk_at "call ref"
  (repeat' (first | with_reducible ((with_reducible show wpAny _ _ (binaryOp Operator.Pow (Value.int _ _) (Value.int _ _)) _ _ _); k_here; k_dflt (refine' pow_int_small ?k1 ?k2 ?k3 ?_; (case k1 => first | with_reducible assumption | assumption); (case k2 => omega); (case k3 => decide))) | with_reducible ((with_reducible show wpAny _ _ (binaryOp Operator.Mod (Value.int _ _) (Value.int _ _)) _ _ _); k_here; k_dflt (refine' mod_int' ?kb ?_; (case kb => first | assumption | omega))) | with_reducible ((with_reducible show wpAny _ _ (binaryOp Operator.FloorDiv (Value.int _ _) (Value.int _ _)) _ _ _); k_here; k_dflt (refine' floordiv_int ?kb ?_ (Or.inl (PyProof.noPylong_of_log2 ?kp)); (case kb => first | assumption | omega); (case kp => first | with_reducible assumption | assumption))) | with_reducible ((with_reducible show wpAny _ _ (call (Value.builtin "len") [Value.ref _]) _ _ _); k_here; k_dflt (refine' kst_len ?k1 ?k2 ?k3 ?k4 ?_; (case k1 => k_asm); (case k2 => k_mem); (case k3 => exact IntsAre.length (by assumption)); (case k4 => omega); k_whole)) | with_reducible ((with_reducible show wpAny _ _ (compareOp CmpOp.Eq (Value.ref _) (Value.ref _)) _ _ _); k_here; k_dflt (refine' eq_lb (us := []) (ms := []) ?k1 ?k2 ?k3 .nil ?k5 ?k6 ?_; (case k1 => exact News.isList (by k_asm) (by k_mem)); (case k2 => first | with_reducible assumption | assumption); (case k3 => exact News.isList (by k_asm) (by k_mem)); (case k5 => walk_at "mine units"); (case k6 => first | with_reducible assumption | assumption); k_whole)) | with_reducible ((with_reducible show wpAny _ _ (subscriptTail _ _ (Value.ref _) (Value.int (-1) _)) _ _ _); k_here; (with_unfolding_all refine' kde_neg ?k1 ?k2 ?k3 ?k4 ?k5 ?_ ?k6; (case k2 => decide); (case k3 => decide); (case k1 => exact News.isList (by k_asm) (by k_mem)); (case k4 => exact rfl); (case k5 => exact rfl); (case k6 => with_unfolding_all rfl); k_whole)) | with_reducible refine ite_pos (by decide) ?_ | with_reducible refine ite_neg (by decide) ?_ | (k_unfold; (try dsimp only)) | (k_end; wrow_close) | walk1 | (dsimp only; walk1) | (leave1; try dsimp only)))
  refine hret _ _ _ _ ⟨_, _, _, _, _, _, _, _, rfl, by assumption, .nil, by assumption, rfl, by assumption, ?_, ?_, ?_⟩ (by assumption) (by assumption)
  all_goals omega
theorem eq_lb {prog : Program} {w : World} {A : Around} {E : Value → Shared → Prop} {s : Shared} {a b : Addr} {vs us : List Value} {ns ms : List Int} {Q : Value → Shared → Prop} {r : Bool} (hl : s.heap.IsList a vs.toArray) (hi : IntsAre vs ns) (hl' : s.heap.IsList b us.toArray) (hi' : IntsAre us ms) (hu : A.units + 64 < cLine) (hr : decide (ns = ms) = r)
    (h : Q (.bool r) s) : wpAny (model prog w) A (compareOp .Eq (.ref a) (.ref b)) Q E s := by subst hr; exact eq_intsK hl hi hl' hi' hu h
theorem pow7 {n : Int} (h : n ≤ 100) : (7 : Int) ^ n.toNat ≠ 0 ∧ ((7 : Int) ^ n.toNat).natAbs.log2 < 9000 := by
  have h1 : n.toNat ≤ 100 := by omega
  generalize n.toNat = k at h1
  have h2 : (0 : Int) < 7 ^ k := Int.pow_pos (by decide)
  refine ⟨by omega, ?_⟩
  rw [Int.natAbs_pow]
  have h3 : (7 : Nat) ^ k ≤ 7 ^ 100 := Nat.pow_le_pow_right (by decide) h1
  have h4 : ((7 : Int).natAbs ^ k) < 2 ^ 9000 := Nat.lt_of_le_of_lt h3 (by decide +kernel)
  rcases Nat.eq_zero_or_pos ((7 : Int).natAbs ^ k) with e | e
  · rw [e]; decide
  · exact (Nat.log2_lt (by omega)).mpr h4
section
local macro_rules | `(tactic| walk_at "subscriptTail") => `(tactic| (k_here; (with_reducible show wpAny _ _ (subscriptTail _ _ (Value.ref _) (Value.int (Int.fmod _ _) _)) _ _ _); (with_unfolding_all refine' item_anyK ?k1 ?k2 ?k3 ?k4 ?k5 ?_ ?k6; (case k2 => assumption); (case k1 => exact News.isList (by k_asm) (by k_mem)); (case k3 => assumption); (case k4 => assumption); (case k5 => omega); (case k6 => with_unfolding_all rfl); k_whole); intro _))
theorem draw_ok {w : World} {rest : List (Addr × Obj)} {st row : Addr} {rvs : List Value} {ns : List Int} {rn sn : Nat} {at' : Int} {ta tm : Tok} {mo : Int}
    (h1 : (row, listOf rvs.toArray rn) ∈ rest) (hi : IntsAre rvs ns) (hO : OwnOff rest [st]) (hl : ns.length ≤ 40) (h0 : 0 ≤ at') (h9 : at' ≤ 100) (m0 : 0 < mo) (m1 : mo ≤ 10) :
    Ct w 12 521 [.ref st, .int mo tm] ((st, listOf #[.ref row, .int at' ta] sn) :: rest) (fun r l => ∃ k tk t', r = .int k tk ∧ 0 ≤ k ∧ k < mo ∧ l = (st, listOf #[.ref row, .int (at' + 1) t'] sn) :: rest) := by
  intro prog p loose mean mg mb dp un gd cn cs a9 ccd cl outer A₀ base h₀ L m s Q E B F X N T hk hd hu hret
  ((have kf : (PySem.Challenge.rw_pq0763_01 = PySem.Challenge.rw_pq0763_01) ∧ (KK = KK) := by (k_fill; exact ⟨rfl, rfl⟩)); clear kf)
  have kmk := kstMark
  by_cases hne : ns = []
  · have hr : decide (ns = []) = true := decide_eq_true hne
    walk_at "call ref"
    (repeat' (first | with_reducible ((with_reducible show wpAny _ _ (binaryOp Operator.Pow (Value.int _ _) (Value.int _ _)) _ _ _); k_here; k_dflt (refine' pow_int_small ?k1 ?k2 ?k3 ?_; (case k1 => first | with_reducible assumption | assumption); (case k2 => omega); (case k3 => decide))) | with_reducible ((with_reducible show wpAny _ _ (binaryOp Operator.Mod (Value.int _ _) (Value.int _ _)) _ _ _); k_here; k_dflt (refine' mod_int' ?kb ?_; (case kb => first | assumption | omega))) | with_reducible ((with_reducible show wpAny _ _ (binaryOp Operator.FloorDiv (Value.int _ _) (Value.int _ _)) _ _ _); k_here; k_dflt (refine' floordiv_int ?kb ?_ (Or.inl (PyProof.noPylong_of_log2 ?kp)); (case kb => first | assumption | omega); (case kp => first | with_reducible assumption | assumption))) | with_reducible ((with_reducible show wpAny _ _ (call (Value.builtin "len") [Value.ref _]) _ _ _); k_here; k_dflt (refine' kst_len ?k1 ?k2 ?k3 ?k4 ?_; (case k1 => k_asm); (case k2 => k_mem); (case k3 => exact IntsAre.length (by assumption)); (case k4 => omega); k_whole)) | with_reducible ((with_reducible show wpAny _ _ (compareOp CmpOp.Eq (Value.ref _) (Value.ref _)) _ _ _); k_here; k_dflt (refine' eq_lb (us := []) (ms := []) ?k1 ?k2 ?k3 .nil ?k5 ?k6 ?_; (case k1 => exact News.isList (by k_asm) (by k_mem)); (case k2 => first | with_reducible assumption | assumption); (case k3 => exact News.isList (by k_asm) (by k_mem)); (case k5 => walk_at "mine units"); (case k6 => first | with_reducible assumption | assumption); k_whole)) | with_reducible ((with_reducible show wpAny _ _ (subscriptTail _ _ (Value.ref _) (Value.int (-1) _)) _ _ _); k_here; (with_unfolding_all refine' kde_neg ?k1 ?k2 ?k3 ?k4 ?k5 ?_ ?k6; (case k2 => decide); (case k3 => decide); (case k1 => exact News.isList (by k_asm) (by k_mem)); (case k4 => exact rfl); (case k5 => exact rfl); (case k6 => with_unfolding_all rfl); k_whole)) | with_reducible refine ite_pos (by decide) ?_ | with_reducible refine ite_neg (by decide) ?_ | (k_unfold; (try dsimp only)) | (k_end; wrow_close) | walk1 | (dsimp only; walk1) | (leave1; try dsimp only)))
    rename News h₀ L _ _ => N9
    exact hret _ _ _ _ ⟨0, _, _, rfl, Int.le_refl _, m0, rfl⟩ (by assumption) (news_tail N9)
  · have hr : decide (ns = []) = false := decide_eq_false hne
    have hp1 : 0 < ns.length := List.length_pos_iff.mpr hne
    obtain ⟨f1, f2, f3, f4⟩ : 0 ≤ at'.fdiv ns.length ∧ at'.fdiv ns.length ≤ 100 ∧ 0 ≤ at'.fmod ns.length ∧ at'.fmod ns.length < ns.length := by
      have e1 : (0 : Int) < ns.length := by omega
      refine ⟨Int.fdiv_nonneg h0 (by omega), ?_, Int.fmod_nonneg_of_pos _ e1, Int.fmod_lt_of_pos _ e1⟩
      rw [Int.fdiv_eq_ediv_of_nonneg _ (by omega)]
      exact Int.le_trans (Int.ediv_le_self _ h0) h9
    obtain ⟨g1, g2⟩ := pow7 f2
    have g3 : ((ns.length : Int)).natAbs.log2 < 9000 := by
      rw [Int.natAbs_natCast]
      exact Nat.lt_of_le_of_lt (Nat.log2_le_self _) (by omega)
    walk_at "call ref"
    (repeat' (first | with_reducible ((with_reducible show wpAny _ _ (binaryOp Operator.Pow (Value.int _ _) (Value.int _ _)) _ _ _); k_here; k_dflt (refine' pow_int_small ?k1 ?k2 ?k3 ?_; (case k1 => first | with_reducible assumption | assumption); (case k2 => omega); (case k3 => decide))) | with_reducible ((with_reducible show wpAny _ _ (binaryOp Operator.Mod (Value.int _ _) (Value.int _ _)) _ _ _); k_here; k_dflt (refine' mod_int' ?kb ?_; (case kb => first | assumption | omega))) | with_reducible ((with_reducible show wpAny _ _ (binaryOp Operator.FloorDiv (Value.int _ _) (Value.int _ _)) _ _ _); k_here; k_dflt (refine' floordiv_int ?kb ?_ (Or.inl (PyProof.noPylong_of_log2 ?kp)); (case kb => first | assumption | omega); (case kp => first | with_reducible assumption | assumption))) | with_reducible ((with_reducible show wpAny _ _ (call (Value.builtin "len") [Value.ref _]) _ _ _); k_here; k_dflt (refine' kst_len ?k1 ?k2 ?k3 ?k4 ?_; (case k1 => k_asm); (case k2 => k_mem); (case k3 => exact IntsAre.length (by assumption)); (case k4 => omega); k_whole)) | with_reducible ((with_reducible show wpAny _ _ (compareOp CmpOp.Eq (Value.ref _) (Value.ref _)) _ _ _); k_here; k_dflt (refine' eq_lb (us := []) (ms := []) ?k1 ?k2 ?k3 .nil ?k5 ?k6 ?_; (case k1 => exact News.isList (by k_asm) (by k_mem)); (case k2 => first | with_reducible assumption | assumption); (case k3 => exact News.isList (by k_asm) (by k_mem)); (case k5 => walk_at "mine units"); (case k6 => first | with_reducible assumption | assumption); k_whole)) | with_reducible ((with_reducible show wpAny _ _ (subscriptTail _ _ (Value.ref _) (Value.int (-1) _)) _ _ _); k_here; (with_unfolding_all refine' kde_neg ?k1 ?k2 ?k3 ?k4 ?k5 ?_ ?k6; (case k2 => decide); (case k3 => decide); (case k1 => exact News.isList (by k_asm) (by k_mem)); (case k4 => exact rfl); (case k5 => exact rfl); (case k6 => with_unfolding_all rfl); k_whole)) | with_reducible refine ite_pos (by decide) ?_ | with_reducible refine ite_neg (by decide) ?_ | (k_unfold; (try dsimp only)) | (k_end; wrow_close) | walk1 | (dsimp only; walk1) | (leave1; try dsimp only)))
    rename News h₀ L _ _ => N9
    exact hret _ _ _ _ ⟨_, _, _, rfl, Int.fmod_nonneg_of_pos _ m0, Int.fmod_lt_of_pos _ m0, rfl⟩ (by assumption) (news_tail N9)
end
theorem Ct.udraw {w : World} {d9 : Nat} {f : Addr} {vs : List Value} {led : List (Addr × Obj)} {mo : Int} {G : Tok → List (Addr × Obj)} (C : Ct w d9 f vs led (fun r l => ∃ k tk t', r = .int k tk ∧ 0 ≤ k ∧ k < mo ∧ l = G t'))
    {prog p : Program} {loose : List Str} {mean : ExcName → Option Value} {mg mb : Str → Option Value} {dp un : Nat} {gd : Option (List Code)} {cn : Str} {cs : Scope} {a : Addr} {ccd : Value} {cl : List (Str × Addr)} {outer : List Env} {A₀ : Around} {base h₀ : Heap} {L : Addr} {m : Str → Option Value} {s : Shared} {Q : Value → Shared → Prop} {E : Value → Shared → Prop}
    (B : Below A₀ base outer h₀) (F : Fr h₀ L s.heap m) (X : (KK w.params).In h₀) (N : News h₀ L s.heap (led)) (T : Top p loose mean mg mb h₀) (hk : cs.kind = .function) (hd : dp + d9 < recursionLimit) (hu : un + 8 * d9 < cLine)
    (ret : ∀ k tk t' h' tk', 0 ≤ k ∧ k < mo → Fr h₀ L h' m → News h₀ L h' (G t') → Q (.int k tk) { s with heap := h', toks := tk' }) :
    wpAny (model prog w) (ktrTop dp un gd cn cs L a ccd cl outer) (call (.ref f) vs) Q E s :=
  C.use B F X N T hk hd hu fun v l h' tk' hp F' N' => by obtain ⟨k, tk, t', rfl, h1, h2, rfl⟩ := hp; exact ret k tk t' h' tk' ⟨h1, h2⟩ F' N'
noncomputable def lawGet {nm : Str} {pr : Arguments} {b : List Stmt} {sc : Scope} {bd : Str} {ps : Pos} (st : Stmt) (_ : st = Stmt.FunctionDef nm pr b [] none [] sc none bd ps) : List Stmt × Scope := (b, sc)
noncomputable def lawBS : List Stmt × Scope := lawGet (stAt 28) rfl
noncomputable def nth5 {s0 s1 s2 s3 s4 s5 : Stmt} {r : List Stmt} (l : List Stmt) (_ : l = s0 :: s1 :: s2 :: s3 :: s4 :: s5 :: r) : Stmt × List Stmt := (s5, r)
noncomputable def loop1 : Stmt := (nth5 lawBS.1 rfl).1
noncomputable def tail1 : List Stmt := (nth5 lawBS.1 rfl).2
noncomputable def loop2 : Stmt := (nth5 tail1 rfl).1
noncomputable def lawSc : Scope := lawBS.2
noncomputable def kindsL : List Str := [Str.ofString "ident", Str.ofString "MODULE", Str.ofString "int", Str.ofString ":=", Str.ofString "string", Str.ofString ";", Str.ofString "END", Str.ofString "ident", Str.ofString ".."]
noncomputable def writL : List Str := [Str.ofString "x", Str.ofString "MODULE", Str.ofString "12", Str.ofString ":=", Str.ofString "\"ab\"", Str.ofString ";", Str.ofString "END", Str.ofString "y1", Str.ofString ".."]
noncomputable def sepL : List Str := [Str.ofString " ", Str.ofString "\n", Str.ofString " (* ; END *) "]
noncomputable def kn (k : Int) : Str := kindsL.getD k.toNat (Str.ofString "")
noncomputable def wr (k : Int) : Str := writL.getD k.toNat (Str.ofString "")
noncomputable def sp (k : Int) : Str := sepL.getD k.toNat (Str.ofString "")
noncomputable def sayF : Str → List (Int × Int) → Str
  | a, [] => a
  | a, x :: r => sayF (a ++ wr x.1 ++ sp x.2) r
noncomputable def rowsF : Str → List (Int × Int) → List (Str × Int × Str)
  | _, [] => []
  | a, x :: r => (kn x.1, (a.length : Int), wr x.1) :: rowsF (a ++ wr x.1 ++ sp x.2) r
theorem sayF_snoc (a : Str) (ks : List (Int × Int)) (x : Int × Int) : sayF a (ks ++ [x]) = sayF a ks ++ wr x.1 ++ sp x.2 := by
  induction ks generalizing a with
  | nil => rfl
  | cons y r ih => exact ih _
theorem rowsF_snoc (a : Str) (ks : List (Int × Int)) (x : Int × Int) : rowsF a (ks ++ [x]) = rowsF a ks ++ [(kn x.1, ((sayF a ks).length : Int), wr x.1)] := by
  induction ks generalizing a with
  | nil => rfl
  | cons y r ih => exact congrArg _ (ih _)
theorem rowsF_length (a : Str) (ks : List (Int × Int)) : (rowsF a ks).length = ks.length := by
  induction ks generalizing a with
  | nil => rfl
  | cons y r ih => exact congrArg _ (ih _)
theorem getD_in {P : Str → Prop} {l : List Str} {d : Str} (h : ∀ x ∈ l, P x) (hd : P d) (n : Nat) : P (l.getD n d) := by
  rw [List.getD_eq_getElem?_getD]
  cases e : l[n]? with
  | none => exact hd
  | some y => exact h y (List.mem_of_getElem? e)
theorem all_le {l : List Str} {n : Nat} (h : (l.all fun x => decide (x.length ≤ n)) = true) : ∀ x ∈ l, x.length ≤ n := fun x hx => of_decide_eq_true (List.all_eq_true.mp h x hx)
theorem wr_len (k : Int) : (wr k).length ≤ 6 := getD_in (P := fun x => x.length ≤ 6) (all_le (by decide +kernel)) (by decide +kernel) _
theorem sp_len (k : Int) : (sp k).length ≤ 13 := getD_in (P := fun x => x.length ≤ 13) (all_le (by decide +kernel)) (by decide +kernel) _
theorem kn_len (k : Int) : (kn k).length ≤ 6 := getD_in (P := fun x => x.length ≤ 6) (all_le (by decide +kernel)) (by decide +kernel) _
theorem sayF_len (a : Str) (ks : List (Int × Int)) : (sayF a ks).length ≤ a.length + 19 * ks.length := by
  induction ks generalizing a with
  | nil => exact Nat.le_refl _
  | cons y r ih =>
    have h1 := ih (a ++ wr y.1 ++ sp y.2)
    have h2 := wr_len y.1
    have h3 := sp_len y.2
    rw [Str.length_append, Str.length_append] at h1
    show (sayF _ r).length ≤ _
    rw [List.length_cons]
    omega
/-- the rows' tuples lie in the ledger -/
inductive RowsAre (led : List (Addr × Obj)) : List Value → List (Str × Int × Str) → Prop
  | nil : RowsAre led [] []
  | cons {a : Addr} {t1 t2 t3 : Tok} {n : Nat} {k s : Str} {p : Int} {vs : List Value} {rs : List (Str × Int × Str)} : (a, tupO [.str k t1, .int p t2, .str s t3] n) ∈ led → RowsAre led vs rs → RowsAre led (.ref a :: vs) ((k, p, s) :: rs)
theorem RowsAre.mono {led led' : List (Addr × Obj)} {vs : List Value} {rs : List (Str × Int × Str)} (h : RowsAre led vs rs) (hs : ∀ p ∈ led, p ∈ led') : RowsAre led' vs rs := by
  induction h with
  | nil => exact .nil
  | cons hm _ ih => exact .cons (hs _ hm) ih
theorem RowsAre.snoc {led : List (Addr × Obj)} {vs : List Value} {rs : List (Str × Int × Str)} {a : Addr} {t1 t2 t3 : Tok} {n : Nat} {k s : Str} {p : Int} (h : RowsAre led vs rs) (hm : (a, tupO [.str k t1, .int p t2, .str s t3] n) ∈ led) : RowsAre led (vs ++ [Value.ref a]) (rs ++ [(k, p, s)]) := by
  induction h with
  | nil => exact .cons hm .nil
  | cons h0 _ ih => exact .cons h0 ih
theorem RowsAre.length {led : List (Addr × Obj)} {vs : List Value} {rs : List (Str × Int × Str)} (h : RowsAre led vs rs) : vs.length = rs.length := by
  induction h with
  | nil => rfl
  | cons _ _ ih => exact congrArg (· + 1) ih
theorem RowsAre.at {led : List (Addr × Obj)} {vs : List Value} {rs : List (Str × Int × Str)} (h : RowsAre led vs rs) {i : Nat} {r : Str × Int × Str} (hi : rs[i]? = some r) : ∃ a t1 t2 t3 n, vs[i]? = some (.ref a) ∧ (a, tupO [.str r.1 t1, .int r.2.1 t2, .str r.2.2 t3] n) ∈ led := by
  induction h generalizing i with
  | nil => cases hi
  | cons h0 _ ih =>
    cases i with
    | zero => cases hi; exact ⟨_, _, _, _, _, rfl, h0⟩
    | succ i => exact ih hi
theorem item_strs {prog : Program} {w : World} {A : Around} {E : Value → Shared → Prop} {s : Shared} {value slice : PySem.Expr} {l : Addr} {vs : List Value} {ys : List Str} {k : Int} {u : Tok} {Q : Value → Shared → Prop}
    (hl : s.heap.IsList l vs.toArray) (hs : StrsAre vs ys) (h0 : 0 ≤ k) (h1 : k < ys.length) (hn : ys.length ≤ 100) (h : ∀ t, Q (.str (ys.getD k.toNat (Str.ofString "")) t) s)
    (hp : subscripted slice false (.ref l) (.int k u) = operate [.ref l, .int k u] (getItem (.ref l) (.int k u)) := by with_unfolding_all rfl) :
    wpAny (model prog w) A (subscriptTail value slice (.ref l) (.int k u)) Q E s := by
  have hk : k.toNat < ys.length := by omega
  obtain ⟨t, hv⟩ := hs.get k.toNat (ys.getD k.toNat (Str.ofString "")) (by rw [List.getD_eq_getElem?_getD, List.getElem?_eq_getElem hk]; rfl)
  exact tail_any hl.typeIs slot_list_getitem.lookup (wpAny_getItem_list hl h0 (by omega) (by simpa using hv) (h t)) hp
theorem wrl (n : Nat) : (writL.getD n (Str.ofString "")).length ≤ 6 := getD_in (P := fun x => x.length ≤ 6) (all_le (by decide +kernel)) (by decide +kernel) _
theorem spl (n : Nat) : (([Str.ofString " ", Str.ofString "\n", Str.ofString " (* ; END *) "] : List Str).getD n (Str.ofString "")).length ≤ 13 := getD_in (P := fun x => x.length ≤ 13) (all_le (l := sepL) (by decide +kernel)) (by decide +kernel) _
theorem len_app {x y : Str} {m n : Nat} (h : x.length ≤ m) (k : y.length ≤ n) : (x ++ y).length ≤ m + n := by rw [Str.length_append]; omega
local macro_rules | `(tactic| walk_at "call ref") => `(tactic| (k_here; (with_reducible show wpAny _ _ (call (Value.ref 521) _) _ _ _); k_dflt (refine' Ct.udraw (draw_ok ?h1 ?hi ?hO ?hl ?h0 ?h9 ?m0 ?m1) ?cB ?cF ?cX ?cN ?cT ?ck ?cd ?cu ?_; (case cN => exact pick1 (by k_asm) (by walk_at "mine pick")); (case h1 => k_mem); (case hi => assumption); (case hO => walk_at "mine off"); (case hl => assumption); (case h0 => omega); (case h9 => omega); (case m0 => decide); (case m1 => decide); walk_at "mine ct"; k_whole; intro k9 t9 t8 h9 tk9 q7 F9 N9; (try dsimp only at N9); (try k_sweep); (try dsimp only))))
local macro_rules | `(tactic| walk_at "mine slen") => `(tactic| first | omega | (dsimp only [kindsL, writL, List.length_cons, List.length_nil]; omega))
local macro_rules | `(tactic| walk_at "call type:range") => `(tactic| (k_here; (rename Fr _ _ _ _ => F'); (rename News _ _ _ _ => N'); (with_unfolding_all refine range1_rows F' N' ?_); intro _ _ _ _ _ _ _ _ _))
local macro_rules | `(tactic| k_mem) => `(tactic| (refine List.mem_append_right _ ?_; k_mem))
local macro_rules | `(tactic| walk_at "mine len") => `(tactic| first | exact wrl _ | exact spl _ | (refine' len_app ?la ?lb; (case la => walk_at "mine len"); (case lb => walk_at "mine len")) | assumption)
theorem fr_kst {h₀ h : Heap} {L : Addr} {m : Str → Option Value} {ps : List (Str × Value)} (hk : ∀ p ∈ ps, m p.1 = some p.2) (F : Fr h₀ L h m) : Fr h₀ L h (kstB m ps) := by
  have e : kstB m ps = m := by funext y; exact kstB_eq hk fun _ => rfl
  rw [e]; exact F
structure L1 where
  ks : List (Int × Int)
  tt : Tok
  at' : Int
  ta : Tok
  rvs : List Value
  rn : Nat
  tl : List (Addr × Obj)
theorem off_app {b : Addr} {l r : List (Addr × Obj)} (h : OwnOff l [b]) (k : OwnOff r [b]) : OwnOff (l ++ r) [b] := fun p hp => (List.mem_append.mp hp).elim (h p) (k p)
theorem l1_next {i : Nat} {ks : List (Int × Int)} {at' k j : Int} {rvs : List Value} {tl : List (Addr × Obj)} {st rw D : Addr} {t1 t2 t3 : Tok} {n : Nat} (c1 : ks.length = i) (c2 : ∀ x ∈ ks, 0 ≤ x.1 ∧ x.1 < 9 ∧ 0 ≤ x.2 ∧ x.2 < 3) (c3 : at' = 1 + 2 * (i : Int)) (c4 : RowsAre tl rvs (rowsF (Str.ofString "") ks)) (c5 : OwnOff tl [st]) (c6 : OwnOff tl [rw])
    (a : 0 ≤ k ∧ k < 9) (b : 0 ≤ j ∧ j < 3) (o1 : @LT.lt Nat _ st D) (o2 : @LT.lt Nat _ rw D) :
    (ks ++ [(k, j)]).length = i + 1 ∧ (∀ x ∈ ks ++ [(k, j)], 0 ≤ x.1 ∧ x.1 < 9 ∧ 0 ≤ x.2 ∧ x.2 < 3) ∧ at' + 1 + 1 = 1 + 2 * ((i + 1 : Nat) : Int) ∧ RowsAre ((D, tupO [.str (kindsL.getD k.toNat (Str.ofString "")) t1, .int (((sayF (Str.ofString "") ks).length : Nat) : Int) t2, .str (writL.getD k.toNat (Str.ofString "")) t3] n) :: tl) (rvs ++ [Value.ref D]) (rowsF (Str.ofString "") (ks ++ [(k, j)])) ∧
      OwnOff ((D, tupO [.str (kindsL.getD k.toNat (Str.ofString "")) t1, .int (((sayF (Str.ofString "") ks).length : Nat) : Int) t2, .str (writL.getD k.toNat (Str.ofString "")) t3] n) :: tl) [st] ∧ OwnOff ((D, tupO [.str (kindsL.getD k.toNat (Str.ofString "")) t1, .int (((sayF (Str.ofString "") ks).length : Nat) : Int) t2, .str (writL.getD k.toNat (Str.ofString "")) t3] n) :: tl) [rw] := by
  refine ⟨by simp [c1], ?_, by omega, ?_, off_cons (by omega) c5, off_cons (by omega) c6⟩
  · intro x hx
    rcases List.mem_append.mp hx with hx | hx
    · exact c2 x hx
    · rw [List.mem_singleton.mp hx]; exact ⟨a.1, a.2, b.1, b.2⟩
  · rw [rowsF_snoc]
    exact (c4.mono fun p hp => .tail _ hp).snoc (.head _)
set_option maxHeartbeats 2000000 in
theorem loop1_ok {prog p9 : Program} {w : World} {loose : List Str} {mean : ExcName → Option Value} {mg mb : Str → Option Value} {dp un : Nat} {gd : Option (List Code)} {a : Addr} {ccd : Value} {outer : List Env} {A₀ : Around} {base h₀ : Heap} {L : Addr} {s : Shared} {Q : Flow → Shared → Prop} {E : Value → Shared → Prop}
    {rest : List (Addr × Obj)} {st row rw kl wl : Addr} {rvs kvs wvs : List Value} {ns : List Int} {rn sn kn' wn' qn : Nat} {ta t0 : Tok} {u0 : Str → Option Value}
    (B : Below A₀ base outer h₀) (X : (KK w.params).In h₀) (T : Top p9 loose mean mg mb h₀) (hd : dp + 12 < recursionLimit) (hu : un + 8 * 12 < cLine)
    (F : Fr h₀ L s.heap (kstB u0 [(Str.ofString "state", Value.ref st), (Str.ofString "written", Value.ref wl), (Str.ofString "kinds", Value.ref kl), (Str.ofString "rows", Value.ref rw), (Str.ofString "said", Value.str (Str.ofString "") t0)]))
    (N : News h₀ L s.heap ((st, listOf #[.ref row, .int 0 ta] sn) :: (rw, listOf (List.toArray []) qn) :: rest))
    (h1 : (row, listOf rvs.toArray rn) ∈ rest) (hi : IntsAre rvs ns) (hl : ns.length ≤ 40) (h2 : (kl, listOf kvs.toArray kn') ∈ rest) (hkv : StrsAre kvs kindsL) (h3 : (wl, listOf wvs.toArray wn') ∈ rest) (hwv : StrsAre wvs writL)
    (hO : OwnOff rest [st]) (hO2 : OwnOff rest [rw]) (hne : @Ne Nat st rw) (hE : PassesOwn (model prog w) (ktrTop dp un gd (Str.ofString "law") lawSc L a ccd [] outer) (envOf (Str.ofString "law") lawSc L a ccd) E)
    (hQ : ∀ (c : L1) (u : Str → Option Value) h tk, c.ks.length ≤ 8 → (∀ x ∈ c.ks, 0 ≤ x.1 ∧ x.1 < 9 ∧ 0 ≤ x.2 ∧ x.2 < 3) → 0 ≤ c.at' → c.at' ≤ 17 → RowsAre c.tl c.rvs (rowsF (Str.ofString "") c.ks) → OwnOff c.tl [st] → OwnOff c.tl [rw] →
      Fr h₀ L h (kstB u [(Str.ofString "state", Value.ref st), (Str.ofString "written", Value.ref wl), (Str.ofString "kinds", Value.ref kl), (Str.ofString "rows", Value.ref rw), (Str.ofString "said", Value.str (sayF (Str.ofString "") c.ks) c.tt)]) →
      News h₀ L h ((st, listOf #[.ref row, .int c.at' c.ta] sn) :: (rw, listOf c.rvs.toArray c.rn) :: (c.tl ++ rest)) → Q .next { s with heap := h, toks := tk }) :
    wpAny (model prog w) (ktrTop dp un gd (Str.ofString "law") lawSc L a ccd [] outer) (exec loop1 (envOf (Str.ofString "law") lawSc L a ccd)) Q E s := by
  ((have kf : (PySem.Challenge.rw_pq0763_01 = PySem.Challenge.rw_pq0763_01) ∧ (KK = KK) := by (k_fill; exact ⟨rfl, rfl⟩)); clear kf)
  have kmk := kstMark
  unfold lawSc loop1 nth5 lawBS lawGet at *
  dsimp only at *
  refine' For_invVF F ?k1 ?k2 ?_ ?k3 hE
  case k1 => exact rfl
  case k2 => exact rfl
  case k3 => intro _; rfl
  (repeat ((fail_if_success (with_reducible show wpAny _ _ (pyIter _) _ _ _)); (first | with_reducible ((with_reducible show wpAny _ _ (binaryOp Operator.Add (Value.str _ _) (Value.str _ _)) _ _ _); k_here; k_dflt (refine' add_str ?_ (Nat.le_trans (Nat.add_le_add ?h1 ?h2) ?h3); (case h1 => walk_at "mine len"); (case h2 => walk_at "mine len"); (case h3 => exact Nat.le_of_ble_eq_true rfl)); intro _ _) | with_reducible ((with_reducible show wpAny _ _ (subscriptTail _ _ (Value.ref _) (Value.int _ _)) _ _ _); k_here; (with_unfolding_all refine' item_strs ?k1 ?k2 ?k3 ?k4 ?k5 ?_ ?k6; (case k1 => exact News.isList (by k_asm) (by k_mem)); (case k2 => first | assumption | (repeat constructor)); (case k3 => omega); (case k4 => walk_at "mine slen"); (case k5 => exact Nat.le_of_ble_eq_true rfl); (case k6 => with_unfolding_all rfl); k_whole); intro _) | with_reducible refine ite_pos (by decide) ?_ | with_reducible refine ite_neg (by decide) ?_ | walk_at "mine step")))
  rename Fr _ _ _ _ => F0
  rename News _ _ _ _ => N0
  rename IsRange _ _ _ _ _ _ _ _ => r0
  rename (0 : Int) ≤ _ ∧ _ < (9 : Int) => k9
  refine lp_range (σ := L1) (fun c => (st, listOf #[.ref row, .int c.at' c.ta] sn) :: (rw, listOf c.rvs.toArray c.rn) :: c.tl) rest (fun c => [(Str.ofString "said", Value.str (sayF (Str.ofString "") c.ks) c.tt)]) [Str.ofString "which"]
    (fun i c => c.ks.length = i ∧ (∀ x ∈ c.ks, 0 ≤ x.1 ∧ x.1 < 9 ∧ 0 ≤ x.2 ∧ x.2 < 3) ∧ c.at' = 1 + 2 * (i : Int) ∧ RowsAre c.tl c.rvs (rowsF (Str.ofString "") c.ks) ∧ OwnOff c.tl [st] ∧ OwnOff c.tl [rw]) ⟨[], _, 0 + 1, _, [], _, []⟩ (by rfl) r0 (small_one (by omega) (by omega) (by omega) (by omega)) (rangeSize_nat _ _) F0 N0 (by (first | ((try dsimp only); (repeat (refine allc rfl ?_)); exact alln) | kst_all)) ?hp ?turn ?done
  case hp =>
    refine ⟨rfl, ?_, rfl, RowsAre.nil, ?_, ?_⟩
    · intro x h; cases h
    · intro x h; cases h
    · intro x h; cases h
  case done =>
    clear F0 N0 hE
    rintro c u h tk ⟨c1, c2, c3, c4, c5, c6⟩ F1 N1
    refine hQ c _ h tk (by omega) c2 (by omega) (by omega) c4 c5 c6 (fr_kst (by (first | ((try dsimp only); (repeat (refine allc rfl ?_)); exact alln) | kst_all)) F1) N1
  case turn =>
    rintro i v ⟨ks, tt, at', ta1, rvs1, rn1, tl⟩ u h9 tk9 rest' hi9 ⟨c1, c2, c3, c4, c5, c6⟩ hsub hoff F1 N1
    dsimp only [List.map_cons, List.cons_append] at c1 c2 c3 c4 c5 c6 hoff F1 N1
    have e1 := off_app c5 (hoff st (.head _) hO)
    have e2 := off_app c6 (hoff rw (.tail _ (.head _)) hO2)
    have hi8 : i < 8 := by omega
    clear hO hO2 hQ F0 N0 r0 k9 hi9
    have hR : ∀ p ∈ rest', p ∈ tl ++ rest' := fun p hp => List.mem_append_right _ hp
    replace h1 := hR _ (hsub _ h1)
    replace h2 := hR _ (hsub _ h2)
    replace h3 := hR _ (hsub _ h3)
    have hT : ∀ p ∈ tl, p ∈ tl ++ rest' := fun p hp => List.mem_append_left _ hp
    generalize tl ++ rest' = RR at N1 e1 e2 h1 h2 h3 hR hT
    have hP := fun (k j : Int) (D : Addr) (t1 t2 t3 : Tok) (n : Nat) => l1_next (k := k) (j := j) (D := D) (t1 := t1) (t2 := t2) (t3 := t3) (n := n) c1 c2 c3 c4 c5 c6
    have hlen := sayF_len (Str.ofString "") ks
    rw [show (Str.ofString "").length = 0 by decide +kernel] at hlen
    have hrl : rvs1.length ≤ 8 := by rw [c4.length, rowsF_length]; omega
    have hlen2 : (sayF (Str.ofString "") ks).length ≤ 200 := by omega
    clear hlen
    dsimp only [kstB] at F1
    try k_fold
    (repeat' (first | with_reducible ((with_reducible show wpAny _ _ (binaryOp Operator.Add (Value.str _ _) (Value.str _ _)) _ _ _); k_here; k_dflt (refine' add_str ?_ (Nat.le_trans (Nat.add_le_add ?h1 ?h2) ?h3); (case h1 => walk_at "mine len"); (case h2 => walk_at "mine len"); (case h3 => exact Nat.le_of_ble_eq_true rfl)); intro _ _) | with_reducible ((with_reducible show wpAny _ _ (subscriptTail _ _ (Value.ref _) (Value.int _ _)) _ _ _); k_here; (with_unfolding_all refine' item_strs ?k1 ?k2 ?k3 ?k4 ?k5 ?_ ?k6; (case k1 => exact News.isList (by k_asm) (by k_mem)); (case k2 => first | assumption | (repeat constructor)); (case k3 => omega); (case k4 => walk_at "mine slen"); (case k5 => exact Nat.le_of_ble_eq_true rfl); (case k6 => with_unfolding_all rfl); k_whole); intro _) | with_reducible refine ite_pos (by decide) ?_ | with_reducible refine ite_neg (by decide) ?_ | (k_unfold; (try dsimp only)) | (k_end; wrow_close) | walk1 | (dsimp only; walk1) | (leave1; try dsimp only)))
    rename Fr _ _ _ _ => F9
    rename News _ _ _ _ => N9
    rename (0 : Int) ≤ _ ∧ _ < (9 : Int) => k9
    rename (0 : Int) ≤ _ ∧ _ < (3 : Int) => j9
    rename _ ∧ _ ∧ AllLt _ RR => l9
    rw [List.push_toArray] at N9
    refine' lp_end ⟨ks ++ [(_, _)], _, at' + 1 + 1, _, _, _, (_, tupO _ _) :: tl⟩ F9 N9 ?g1 ?g2 ?g3 ?g4 (by (intro z h1 h2 h3; (simp only [List.forall_mem_cons, List.not_mem_nil, false_implies, implies_true, and_true, ne_eq, List.contains_cons, List.contains_nil, Bool.or_false, Bool.or_eq_false_iff, beq_eq_false_iff_ne] at h1 h2 h3); simp [kstB, h1, h2, h3])) (hP _ _ _ _ _ _ _ k9 j9 l9.1 l9.2.1)
    case g1 => exact allc (by k_mem) (allc (by k_mem) (allc (by k_mem) (fun p hp => .tail _ (.tail _ (.tail _ (.tail _ (hT p hp)))))))
    case g2 => exact fun p hp => .tail _ (.tail _ (.tail _ (.tail _ (hR p hp))))
    case g3 =>
      refine allc (.inl (.head _)) (allc (.inl (.tail _ (.head _))) (allc (.inr fun q hq => kst_ltOf l9.2.2 q (hR q hq)) (fun p hp => .inl (.tail _ (.tail _ (List.mem_map.mpr ⟨p, hp, rfl⟩))))))
    case g4 =>
      refine allc (?_) (fun _ h => nomatch h)
      dsimp only
      rw [sayF_snoc]
      rfl
theorem ch_at {src : Str} {n : Nat} {c : Nat} (h : src.cps.toList[n]? = some c) : ch src (n : Int) = ⟨#[c]⟩ := by
  obtain ⟨hl, hc⟩ := List.getElem?_eq_some_iff.mp h
  unfold ch
  rw [beq_iff_eq.mp (slice_closes (x := src) (i := (n : Int)) (j := (n : Int) + 1) ⟨by omega, by omega, by omega⟩)]
  have e1 : ((n : Int)).toNat = n := by omega
  have e2 : ((n : Int) + 1 - (n : Int)).toNat = 1 := by omega
  rw [e1, e2, List.drop_eq_getElem_cons hl, hc]
  rfl
theorem ch_end {src : Str} : ch src (src.length : Int) = Str.ofString "" := by
  have e2 : Txt.slice src (some (src.length : Int)) (some ((src.length : Int) + 1)) = Txt.slice src (some (src.length : Int)) (some (src.length : Int)) := by
    have h0 : ¬ ((src.length : Int) < 0) := by omega
    have h1 : ¬ ((src.length : Int) + 1 < 0) := by omega
    have h2 : (1 : Int) > 0 := by decide
    have h3 : min ((src.length : Int) + 1) (src.length : Int) = (src.length : Int) := by omega
    unfold Txt.slice
    simp only [Builtin.Str.strSliceIndices, h0, h1, h2, h3, if_false, if_true, Int.min_self]
  unfold ch
  rw [e2, beq_iff_eq.mp (slice_closes (x := src) (i := (src.length : Int)) (j := (src.length : Int)) ⟨by omega, by omega, Int.le_of_eq (by show ((src.cps.size : Nat) : Int) = _; simp)⟩)]
  simp
  decide +kernel
/-- the codes l stand in src from q on -/
noncomputable def Seg (src : Str) (q : Int) (l : List Nat) : Prop := ∀ (m c : Nat), l[m]? = some c → ch src (q + m) = ⟨#[c]⟩
theorem seg_of {src : Str} {p l r : List Nat} (h : src.cps.toList = p ++ l ++ r) : Seg src (p.length : Int) l := by
  intro m c hm
  have : (p.length : Int) + m = ((p.length + m : Nat) : Int) := by omega
  rw [this]
  refine ch_at ?_
  have hl := (List.getElem?_eq_some_iff.mp hm).1
  rw [h, List.append_assoc, List.getElem?_append_right (by omega), show p.length + m - p.length = m by omega, List.getElem?_append_left hl, hm]
theorem Seg.drop {src : Str} {q : Int} {l : List Nat} (h : Seg src q l) (n : Nat) : Seg src (q + n) (l.drop n) := by
  intro m c hm
  rw [List.getElem?_drop] at hm
  have := h (n + m) c hm
  rw [show q + (n : Int) + (m : Int) = q + ((n + m : Nat) : Int) by omega]
  exact this
theorem slice_seg {src : Str} {p l r : List Nat} (h : src.cps.toList = p ++ l ++ r) : Txt.slice src (some (p.length : Int)) (some ((p.length : Int) + (l.length : Int))) = ⟨l.toArray⟩ := by
  have hl : src.cps.toList.length = p.length + l.length + r.length := by rw [h, List.length_append, List.length_append]
  rw [beq_iff_eq.mp (slice_closes (x := src) (i := (p.length : Int)) (j := (p.length : Int) + (l.length : Int)) ⟨by omega, by omega, by omega⟩)]
  have e1 : ((p.length : Int)).toNat = p.length := by omega
  have e2 : ((p.length : Int) + (l.length : Int) - (p.length : Int)).toNat = l.length := by omega
  rw [e1, e2, h, List.append_assoc, List.drop_left, List.take_left]
noncomputable def okW (c : Nat) : Bool := isLetter ⟨#[c]⟩ || isDigit ⟨#[c]⟩
theorem tok_word {kw : List Str} {src : Str} {q : Int} {l : List Nat} {n : Nat} {nm : Str} {b : Bool} (hS : Seg src q l) (hn : 0 < n) (hall : ((List.range n).all fun m => (l[m]?).any okW) = true)
    (h0 : (l[0]?).any (fun c => isLetter ⟨#[c]⟩) = true) (he : (l[n]?).any (fun c => !isLetter ⟨#[c]⟩ && !isDigit ⟨#[c]⟩) = true) (hs : Txt.slice src (some q) (some (q + (n : Int))) = nm) (hb : (kw.any fun z => z == nm) = b) :
    TokAt kw src q (if b = true then nm else Str.ofString "ident") (IsS (if b = true then Str.ofString "" else nm)) (q + (n : Int)) := by
  have any_some : ∀ {m : Nat} {f : Nat → Bool}, (l[m]?).any f = true → ∃ c, ch src (q + m) = ⟨#[c]⟩ ∧ f c = true := by
    intro m f h
    cases e : l[m]? with
    | none => rw [e] at h; cases h
    | some c => rw [e] at h; exact ⟨c, hS m c e, h⟩
  obtain ⟨c0, e0, f0⟩ := any_some h0
  obtain ⟨cn, en, fn⟩ := any_some he
  rw [Bool.and_eq_true, Bool.not_eq_true', Bool.not_eq_true'] at fn
  have e0' : ch src q = ⟨#[c0]⟩ := by simpa using e0
  refine .word (q + (n : Int)) nm b (by omega) ?_ (by rw [e0']; exact f0) (by rw [e0']; exact one_ne0) (by rw [en]; exact fn.1) (by rw [en]; exact fn.2) hs hb
  intro pl h1 h2
  obtain ⟨m, rfl⟩ : ∃ m : Nat, pl = q + (m : Int) := ⟨(pl - q).toNat, by omega⟩
  obtain ⟨c, e, f⟩ := any_some (List.all_eq_true.mp hall m (List.mem_range.mpr (by omega)))
  rw [e]
  exact f
theorem seg0 {src : Str} {q : Int} {l : List Nat} (h : Seg src q l) {c : Nat} (hc : l[0]? = some c) : ch src q = ⟨#[c]⟩ := by simpa using h 0 c hc
/-- what stands at a token: the word's codes, then the gap's -/
structure Here (src : Str) (q : Int) (k j : Int) : Prop where
  seg : Seg src q ((wr k).cps.toList ++ (sp j).cps.toList)
  sl : Txt.slice src (some q) (some (q + ((wr k).length : Int))) = wr k
noncomputable def VK (k : Int) : Value → Prop := if k = 2 then IsI 12 else if k = 4 then IsS (Str.ofString "ab") else if k = 0 then IsS (Str.ofString "x") else if k = 7 then IsS (Str.ofString "y1") else IsS (Str.ofString "")
theorem three {j : Int} (h : 0 ≤ j ∧ j < 3) : j = 0 ∨ j = 1 ∨ j = 2 := by omega
theorem nine {k : Int} (h : 0 ≤ k ∧ k < 9) : k = 0 ∨ k = 1 ∨ k = 2 ∨ k = 3 ∨ k = 4 ∨ k = 5 ∨ k = 6 ∨ k = 7 ∨ k = 8 := by omega
theorem sep_cps {j : Int} (h : 0 ≤ j ∧ j < 3) : ∃ b r, (sp j).cps.toList = b :: r ∧ (b = 32 ∨ b = 10) := by
  rcases three h with rfl | rfl | rfl
  · exact ⟨32, [], by decide +kernel, .inl rfl⟩
  · exact ⟨10, [], by decide +kernel, .inr rfl⟩
  · exact ⟨32, [40, 42, 32, 59, 32, 69, 78, 68, 32, 42, 41, 32], by decide +kernel, .inl rfl⟩
theorem Seg.pre {src : Str} {q : Int} {l r : List Nat} (h : Seg src q (l ++ r)) : Seg src q l := fun m c hm => h m c (by rw [List.getElem?_append_left (List.getElem?_eq_some_iff.mp hm).1]; exact hm)
theorem tok_at {src : Str} {q k j : Int} (hk : 0 ≤ k ∧ k < 9) (hj : 0 ≤ j ∧ j < 3) (h : Here src q k j) : TokAt kwords src q (kn k) (VK k) (q + ((wr k).length : Int)) := by
  obtain ⟨hS, hsl⟩ := h
  obtain ⟨b, r, hb, hb2⟩ := sep_cps hj
  rw [hb, show b :: r = [b] ++ r from rfl, ← List.append_assoc] at hS
  replace hS := hS.pre
  clear hb r hj
  have word : ∀ {l : List Nat} {n : Nat} {k : Int}, (∀ b : Nat, b = 32 ∨ b = 10 → (((List.range n).all fun m => ((l ++ [b])[m]?).any okW) && ((l ++ [b])[0]?).any (fun c => isLetter ⟨#[c]⟩) && ((l ++ [b])[n]?).any (fun c => !isLetter ⟨#[c]⟩ && !isDigit ⟨#[c]⟩)) = true) → 0 < n →
      Seg src q (l ++ [b]) → Txt.slice src (some q) (some (q + (n : Int))) = wr k → TokAt kwords src q (if (kwords.any fun z => z == wr k) = true then wr k else Str.ofString "ident") (IsS (if (kwords.any fun z => z == wr k) = true then Str.ofString "" else wr k)) (q + (n : Int)) := by
    intro l n k hc hn hS hs
    have := hc b hb2
    rw [Bool.and_eq_true, Bool.and_eq_true] at this
    exact tok_word hS hn this.1.1 this.1.2 this.2 hs rfl
  have two : ∀ {P : Nat → Prop}, P 32 → P 10 → ∀ b : Nat, b = 32 ∨ b = 10 → P b := fun h1 h2 b hb => by rcases hb with rfl | rfl; exact h1; exact h2
  have hle : b ≤ 32 := by omega
  rcases nine hk with rfl | rfl | rfl | rfl | rfl | rfl | rfl | rfl | rfl
  · rw [show (wr 0).cps.toList = [120] by decide +kernel] at hS
    rw [show ((wr 0).length : Int) = ((1 : Nat) : Int) by decide +kernel] at hsl ⊢
    have := word (k := 0) (two (by decide +kernel) (by decide +kernel)) (by decide) hS hsl
    rwa [show (kwords.any fun z => z == wr 0) = false by decide +kernel] at this
  · rw [show (wr 1).cps.toList = [77, 79, 68, 85, 76, 69] by decide +kernel] at hS
    rw [show ((wr 1).length : Int) = ((6 : Nat) : Int) by decide +kernel] at hsl ⊢
    have := word (k := 1) (two (by decide +kernel) (by decide +kernel)) (by decide) hS hsl
    rwa [show (kwords.any fun z => z == wr 1) = true by decide +kernel] at this
  · rw [show (wr 2).cps.toList = [49, 50] by decide +kernel] at hS
    rw [show ((wr 2).length : Int) = 2 by decide +kernel] at hsl ⊢
    have h0 := hS 0 49 rfl
    have h1 := hS 1 50 rfl
    have h2 := hS 2 b rfl
    exact .num b (by rw [show q = q + ((0 : Nat) : Int) by omega, h0]; decide +kernel) (h1.trans (by decide +kernel)) h2 hle (hsl.trans (by decide +kernel))
  · rw [show (wr 3).cps.toList = [58, 61] by decide +kernel] at hS
    rw [show ((wr 3).length : Int) = ((2 : Nat) : Int) by decide +kernel] at hsl ⊢
    have h0 := seg0 hS (c := 58) rfl
    have h1 := hS 1 61 rfl
    exact .sym ⟨#[58]⟩ ⟨#[61]⟩ (kn 3) 2 h0 h1 (by decide +kernel) (by decide +kernel) (by decide +kernel) (by decide +kernel) (by decide +kernel) (by decide +kernel) (by decide +kernel) (by decide +kernel) (by decide) (.inl ⟨by decide +kernel, by decide +kernel⟩)
  · rw [show (wr 4).cps.toList = [34, 97, 98, 34] by decide +kernel] at hS
    rw [show ((wr 4).length : Int) = 4 by decide +kernel] at hsl ⊢
    have h0 := seg0 hS (c := 34) rfl
    have h1 := hS 1 97 rfl
    have h2 := hS 2 98 rfl
    have h3 := hS 3 34 rfl
    exact .str (h0.trans (by decide +kernel)) (h1.trans (by decide +kernel)) (h2.trans (by decide +kernel)) (h3.trans (by decide +kernel))
  · rw [show (wr 5).cps.toList = [59] by decide +kernel] at hS
    rw [show ((wr 5).length : Int) = ((1 : Nat) : Int) by decide +kernel] at hsl ⊢
    have h0 := seg0 hS (c := 59) rfl
    have h1 := hS 1 b rfl
    exact .sym ⟨#[59]⟩ ⟨#[b]⟩ (kn 5) 1 h0 h1 (by decide +kernel) (Nat.le_refl _) (by decide +kernel) (by decide +kernel) (by decide +kernel) (by decide +kernel) (by decide +kernel) (by decide +kernel) (by decide) (.inr ⟨by rcases hb2 with rfl | rfl <;> decide +kernel, by decide +kernel, by decide +kernel⟩)
  · rw [show (wr 6).cps.toList = [69, 78, 68] by decide +kernel] at hS
    rw [show ((wr 6).length : Int) = ((3 : Nat) : Int) by decide +kernel] at hsl ⊢
    have := word (k := 6) (two (by decide +kernel) (by decide +kernel)) (by decide) hS hsl
    rwa [show (kwords.any fun z => z == wr 6) = true by decide +kernel] at this
  · rw [show (wr 7).cps.toList = [121, 49] by decide +kernel] at hS
    rw [show ((wr 7).length : Int) = ((2 : Nat) : Int) by decide +kernel] at hsl ⊢
    have := word (k := 7) (two (by decide +kernel) (by decide +kernel)) (by decide) hS hsl
    rwa [show (kwords.any fun z => z == wr 7) = false by decide +kernel] at this
  · rw [show (wr 8).cps.toList = [46, 46] by decide +kernel] at hS
    rw [show ((wr 8).length : Int) = ((2 : Nat) : Int) by decide +kernel] at hsl ⊢
    have h0 := seg0 hS (c := 46) rfl
    have h1 := hS 1 46 rfl
    exact .sym ⟨#[46]⟩ ⟨#[46]⟩ (kn 8) 2 h0 h1 (by decide +kernel) (by decide +kernel) (by decide +kernel) (by decide +kernel) (by decide +kernel) (by decide +kernel) (by decide +kernel) (by decide +kernel) (by decide) (.inl ⟨by decide +kernel, by decide +kernel⟩)
theorem sign_at {src : Str} {q k j : Int} (hk : 0 ≤ k ∧ k < 9) (h : Here src q k j) : Sign src q := by
  have : ∃ c r, (wr k).cps.toList = c :: r ∧ 32 < c ∧ c ≠ 40 := by
    rcases nine hk with rfl | rfl | rfl | rfl | rfl | rfl | rfl | rfl | rfl
    · exact ⟨120, [], by decide +kernel, by decide, by decide⟩
    · exact ⟨77, [79, 68, 85, 76, 69], by decide +kernel, by decide, by decide⟩
    · exact ⟨49, [50], by decide +kernel, by decide, by decide⟩
    · exact ⟨58, [61], by decide +kernel, by decide, by decide⟩
    · exact ⟨34, [97, 98, 34], by decide +kernel, by decide, by decide⟩
    · exact ⟨59, [], by decide +kernel, by decide, by decide⟩
    · exact ⟨69, [78, 68], by decide +kernel, by decide, by decide⟩
    · exact ⟨121, [49], by decide +kernel, by decide, by decide⟩
    · exact ⟨46, [46], by decide +kernel, by decide, by decide⟩
  obtain ⟨c, r, e, h1, h2⟩ := this
  have hS := h.seg
  rw [e] at hS
  exact .inr ⟨c, seg0 hS rfl, h1, h2⟩
theorem gap_at {src : Str} {q k j : Int} (hj : 0 ≤ j ∧ j < 3) (h : Here src q k j) : Gap src (q + ((wr k).length : Int)) (q + ((wr k).length : Int) + ((sp j).length : Int)) := by
  have hS := h.seg.drop (wr k).length
  have hlen : (wr k).length = (wr k).cps.toList.length := by simp [Str.length]
  rw [hlen, List.drop_left, ← hlen] at hS
  generalize q + ((wr k).length : Int) = p at hS ⊢
  rcases three hj with rfl | rfl | rfl
  · rw [show (sp 0).cps.toList = [32] by decide +kernel] at hS
    rw [show ((sp 0).length : Int) = 1 by decide +kernel]
    refine .inr (.inl ⟨by omega, 32, ?_, by decide⟩)
    rw [show p + 1 - 1 = p by omega]; exact seg0 hS rfl
  · rw [show (sp 1).cps.toList = [10] by decide +kernel] at hS
    rw [show ((sp 1).length : Int) = 1 by decide +kernel]
    refine .inr (.inl ⟨by omega, 10, ?_, by decide⟩)
    rw [show p + 1 - 1 = p by omega]; exact seg0 hS rfl
  · rw [show (sp 2).cps.toList = [32, 40, 42, 32, 59, 32, 69, 78, 68, 32, 42, 41, 32] by decide +kernel] at hS
    rw [show ((sp 2).length : Int) = 13 by decide +kernel]
    have at' : ∀ (m c : Nat) (z : Int), z = p + m → ([32, 40, 42, 32, 59, 32, 69, 78, 68, 32, 42, 41, 32] : List Nat)[m]? = some c → ch src z = ⟨#[c]⟩ := fun m c z e h => e ▸ hS m c h
    refine .inr (.inr (.inr ⟨by omega, ⟨32, at' 0 32 _ (by omega) rfl, by decide⟩, ⟨?_, ?_, ?_, ?_, ?_⟩, ⟨32, at' 12 32 _ (by omega) rfl, by decide⟩⟩))
    · exact (at' 1 40 _ (by omega) rfl).trans (by decide +kernel)
    · exact (at' 2 42 _ (by omega) rfl).trans (by decide +kernel)
    · intro pl h1 h2
      have : pl = p + 3 ∨ pl = p + 4 ∨ pl = p + 5 ∨ pl = p + 6 ∨ pl = p + 7 ∨ pl = p + 8 ∨ pl = p + 9 := by omega
      rcases this with rfl | rfl | rfl | rfl | rfl | rfl | rfl
      · exact ⟨_, _, at' 3 32 _ (by omega) rfl, at' 4 59 _ (by omega) rfl, by decide +kernel, by decide +kernel, by decide +kernel, by decide +kernel, by decide +kernel⟩
      · exact ⟨_, _, at' 4 59 _ (by omega) rfl, at' 5 32 _ (by omega) rfl, by decide +kernel, by decide +kernel, by decide +kernel, by decide +kernel, by decide +kernel⟩
      · exact ⟨_, _, at' 5 32 _ (by omega) rfl, at' 6 69 _ (by omega) rfl, by decide +kernel, by decide +kernel, by decide +kernel, by decide +kernel, by decide +kernel⟩
      · exact ⟨_, _, at' 6 69 _ (by omega) rfl, at' 7 78 _ (by omega) rfl, by decide +kernel, by decide +kernel, by decide +kernel, by decide +kernel, by decide +kernel⟩
      · exact ⟨_, _, at' 7 78 _ (by omega) rfl, at' 8 68 _ (by omega) rfl, by decide +kernel, by decide +kernel, by decide +kernel, by decide +kernel, by decide +kernel⟩
      · exact ⟨_, _, at' 8 68 _ (by omega) rfl, at' 9 32 _ (by omega) rfl, by decide +kernel, by decide +kernel, by decide +kernel, by decide +kernel, by decide +kernel⟩
      · exact ⟨_, _, at' 9 32 _ (by omega) rfl, at' 10 42 _ (by omega) rfl, by decide +kernel, by decide +kernel, by decide +kernel, by decide +kernel, by decide +kernel⟩
    · exact (at' 10 42 _ (by omega) rfl).trans (by decide +kernel)
    · exact (at' 11 41 _ (by omega) rfl).trans (by decide +kernel)
theorem sayF_app (a : Str) (l r : List (Int × Int)) : sayF a (l ++ r) = sayF (sayF a l) r := by
  induction l generalizing a with
  | nil => rfl
  | cons y l ih => exact ih _
theorem cps_app (a b : Str) : (a ++ b).cps.toList = a.cps.toList ++ b.cps.toList := by rw [Str.cps_append, Array.toList_append]
theorem sayF_cps (a : Str) (r : List (Int × Int)) : ∃ S, (sayF a r).cps.toList = a.cps.toList ++ S := by
  induction r generalizing a with
  | nil => exact ⟨[], by simp [sayF]⟩
  | cons y r ih =>
    obtain ⟨S, hS⟩ := ih (a ++ wr y.1 ++ sp y.2)
    exact ⟨(wr y.1).cps.toList ++ (sp y.2).cps.toList ++ S, by show (sayF _ r).cps.toList = _; rw [hS, cps_app, cps_app]; simp only [List.append_assoc]⟩
theorem len_cps (a : Str) : a.cps.toList.length = a.length := by simp [Str.length]
noncomputable abbrev ksAt (ks : List (Int × Int)) (i : Nat) : Int × Int := ks.getD i (0, 0)
noncomputable def qF (ks : List (Int × Int)) (i : Nat) : Int := ((sayF (Str.ofString "") (ks.take i)).length : Int)
noncomputable def kdF (ks : List (Int × Int)) (i : Nat) : Str := if i < ks.length then kn (ksAt ks i).1 else Str.ofString "eof"
noncomputable def VF (ks : List (Int × Int)) (i : Nat) : Value → Prop := if i < ks.length then VK (ksAt ks i).1 else IsS (Str.ofString "")
noncomputable def sgF (ks : List (Int × Int)) (i : Nat) : Str := if i < ks.length then wr (ksAt ks i).1 else Str.ofString ""
noncomputable def eF (ks : List (Int × Int)) (i : Nat) : Int := if i < ks.length then qF ks i + ((wr (ksAt ks i).1).length : Int) else qF ks i
section
variable {ks : List (Int × Int)}
theorem ksAt_eq {i : Nat} (h : i < ks.length) : ksAt ks i = ks[i] := by
  show ks.getD i (0, 0) = _
  rw [List.getD_eq_getElem?_getD, List.getElem?_eq_getElem h]; rfl
theorem ks_split {i : Nat} (h : i < ks.length) : ks = ks.take i ++ ksAt ks i :: ks.drop (i + 1) := by
  rw [ksAt_eq h, List.getElem_cons_drop, List.take_append_drop]
theorem here_at {i : Nat} (h : i < ks.length) : Here (sayF (Str.ofString "") ks) (qF ks i) (ksAt ks i).1 (ksAt ks i).2 := by
  obtain ⟨S, hS⟩ := sayF_cps (sayF (Str.ofString "") (ks.take i) ++ wr (ksAt ks i).1 ++ sp (ksAt ks i).2) (ks.drop (i + 1))
  have e : (sayF (Str.ofString "") ks).cps.toList = (sayF (Str.ofString "") (ks.take i)).cps.toList ++ ((wr (ksAt ks i).1).cps.toList ++ (sp (ksAt ks i).2).cps.toList) ++ S := by
    conv => lhs; rw [ks_split h]
    rw [sayF_app]
    show (sayF (sayF (Str.ofString "") (ks.take i) ++ wr (ksAt ks i).1 ++ sp (ksAt ks i).2) (ks.drop (i + 1))).cps.toList = _
    rw [hS, cps_app, cps_app]
    simp only [List.append_assoc]
  have hq : qF ks i = (((sayF (Str.ofString "") (ks.take i)).cps.toList.length : Nat) : Int) := by rw [len_cps]; rfl
  refine ⟨?_, ?_⟩
  · rw [hq]; exact seg_of e
  · rw [hq, ← len_cps (wr _)]
    have e2 : (sayF (Str.ofString "") ks).cps.toList = (sayF (Str.ofString "") (ks.take i)).cps.toList ++ (wr (ksAt ks i).1).cps.toList ++ ((sp (ksAt ks i).2).cps.toList ++ S) := by rw [e]; simp only [List.append_assoc]
    rw [slice_seg e2]
theorem q_next {i : Nat} (h : i < ks.length) : qF ks (i + 1) = qF ks i + ((wr (ksAt ks i).1).length : Int) + ((sp (ksAt ks i).2).length : Int) := by
  have : ks.take (i + 1) = ks.take i ++ [ksAt ks i] := by rw [List.take_add_one, List.getElem?_eq_getElem h, ksAt_eq h]; rfl
  unfold qF
  rw [this, sayF_snoc, Str.length_append, Str.length_append]
  omega
theorem q_end : qF ks ks.length = ((sayF (Str.ofString "") ks).length : Int) := by unfold qF; rw [List.take_length]
theorem q_bound (h8 : ks.length ≤ 8) (i : Nat) : 0 ≤ qF ks i ∧ qF ks i ≤ 152 := by
  have h1 := sayF_len (Str.ofString "") (ks.take i)
  rw [show (Str.ofString "").length = 0 by decide +kernel] at h1
  have h2 : (ks.take i).length ≤ 8 := by rw [List.length_take]; omega
  unfold qF
  omega
theorem kn_eof {k : Int} (h : 0 ≤ k ∧ k < 9) : (kn k == Str.ofString "eof") = false := by
  rcases nine h with rfl | rfl | rfl | rfl | rfl | rfl | rfl | rfl | rfl <;> decide +kernel
theorem ks_in (hb : ∀ x ∈ ks, 0 ≤ x.1 ∧ x.1 < 9 ∧ 0 ≤ x.2 ∧ x.2 < 3) {i : Nat} (h : i < ks.length) : (0 ≤ (ksAt ks i).1 ∧ (ksAt ks i).1 < 9) ∧ (0 ≤ (ksAt ks i).2 ∧ (ksAt ks i).2 < 3) := by
  have : ksAt ks i ∈ ks := by rw [ksAt_eq h]; exact List.getElem_mem h
  obtain ⟨a, b, c, d⟩ := hb _ this
  exact ⟨⟨a, b⟩, c, d⟩
theorem toks_of (h8 : ks.length ≤ 8) (hb : ∀ x ∈ ks, 0 ≤ x.1 ∧ x.1 < 9 ∧ 0 ≤ x.2 ∧ x.2 < 3) : Toks kwords (sayF (Str.ofString "") ks) ks.length (kdF ks) (VF ks) (qF ks) (eF ks) where
  tok := fun i hi => by
    unfold kdF VF eF
    by_cases h : i < ks.length
    · rw [if_pos h, if_pos h, if_pos h]
      exact tok_at (ks_in hb h).1 (ks_in hb h).2 (here_at h)
    · rw [if_neg h, if_neg h, if_neg h]
      have : i = ks.length := by omega
      subst this
      exact .eof (by rw [q_end]; exact ch_end)
  sign := fun i hi => by
    by_cases h : i < ks.length
    · exact sign_at (ks_in hb h).1 (here_at h)
    · have : i = ks.length := by omega
      subst this
      exact .inl (by rw [q_end]; exact ch_end)
  gap := fun i hi => by
    unfold eF
    by_cases h : i < ks.length
    · rw [if_pos h, show min (i + 1) ks.length = i + 1 by omega, q_next h]
      exact gap_at (ks_in hb h).2 (here_at h)
    · rw [if_neg h, show min (i + 1) ks.length = i by omega]
      exact .inl rfl
  q0 := fun i _ => (q_bound h8 i).1
  q1 := fun i _ => by have := (q_bound h8 i).2; omega
  e0 := fun i _ => by
    have := (q_bound h8 i).1
    unfold eF
    split <;> omega
  e1 := fun i _ => by
    have := (q_bound h8 i).2
    have h2 := wr_len (ksAt ks i).1
    unfold eF
    split <;> omega
  eof := fun i hi => by
    unfold kdF
    by_cases h : i < ks.length
    · rw [if_pos h, kn_eof (ks_in hb h).1]
      constructor
      · intro e; cases e
      · intro e; omega
    · rw [if_neg h]
      constructor
      · intro _; omega
      · intro _; decide +kernel
theorem rows_at {i : Nat} (hi : i ≤ ks.length) : (rowsF (Str.ofString "") ks ++ [(Str.ofString "eof", ((sayF (Str.ofString "") ks).length : Int), Str.ofString "")])[i]? = some (kdF ks i, qF ks i, sgF ks i) := by
  by_cases h : i < ks.length
  · have e : ∀ (ks : List (Int × Int)) (a : Str) (i : Nat), i < ks.length → (rowsF a ks)[i]? = some (kn (ksAt ks i).1, ((sayF a (ks.take i)).length : Int), wr (ksAt ks i).1) := by
      intro ks
      induction ks with
      | nil => intro a i h; cases h
      | cons y r ih =>
        intro a i h
        cases i with
        | zero => rfl
        | succ i => exact ih _ i (Nat.lt_of_succ_lt_succ h)
    rw [List.getElem?_append_left (by rw [rowsF_length]; exact h), e ks _ i h]
    unfold kdF sgF qF
    rw [if_pos h, if_pos h]
  · have : i = ks.length := by omega
    subst this
    rw [List.getElem?_append_right (by rw [rowsF_length]; exact Nat.le_refl _), rowsF_length, Nat.sub_self]
    unfold kdF sgF
    rw [if_neg h, if_neg h, q_end]
    rfl
theorem VK_ident {k : Int} (h : 0 ≤ k ∧ k < 9) {v : Value} (hk : (kn k == Str.ofString "ident") = true) (hv : VK k v) : ∃ t, v = .str (wr k) t := by
  rcases nine h with rfl | rfl | rfl | rfl | rfl | rfl | rfl | rfl | rfl
  all_goals first
    | exact absurd hk (by decide +kernel)
    | (simp only [VK, Int.reduceEq, if_false, if_true] at hv; obtain ⟨t, e⟩ := hv; exact ⟨t, by rw [e]; first | rfl | (congr 1; decide +kernel)⟩)
theorem VK_int {k : Int} (h : 0 ≤ k ∧ k < 9) {v : Value} (hk : (kn k == Str.ofString "int") = true) (hv : VK k v) : ∃ t, v = .int 12 t := by
  rcases nine h with rfl | rfl | rfl | rfl | rfl | rfl | rfl | rfl | rfl
  all_goals first
    | exact absurd hk (by decide +kernel)
    | (simp only [VK, Int.reduceEq, if_false, if_true] at hv; exact hv)
theorem VK_str {k : Int} (h : 0 ≤ k ∧ k < 9) {v : Value} (hk : (kn k == Str.ofString "string") = true) (hv : VK k v) : ∃ t, v = .str (Str.ofString "ab") t := by
  rcases nine h with rfl | rfl | rfl | rfl | rfl | rfl | rfl | rfl | rfl
  all_goals first
    | exact absurd hk (by decide +kernel)
    | (simp only [VK, Int.reduceEq, if_false, if_true] at hv; exact hv)
theorem V_ident (hb : ∀ x ∈ ks, 0 ≤ x.1 ∧ x.1 < 9 ∧ 0 ≤ x.2 ∧ x.2 < 3) {i : Nat} {v : Value} (hk : (kdF ks i == Str.ofString "ident") = true) (hv : VF ks i v) : ∃ t, v = .str (sgF ks i) t := by
  unfold kdF at hk; unfold VF at hv; unfold sgF
  by_cases h : i < ks.length
  · rw [if_pos h] at *
    exact VK_ident (ks_in hb h).1 hk hv
  · rw [if_neg h] at *
    exact absurd hk (by decide +kernel)
theorem V_int (hb : ∀ x ∈ ks, 0 ≤ x.1 ∧ x.1 < 9 ∧ 0 ≤ x.2 ∧ x.2 < 3) {i : Nat} {v : Value} (hk : (kdF ks i == Str.ofString "int") = true) (hv : VF ks i v) : ∃ t, v = .int 12 t := by
  unfold kdF at hk; unfold VF at hv
  by_cases h : i < ks.length
  · rw [if_pos h] at *
    exact VK_int (ks_in hb h).1 hk hv
  · rw [if_neg h] at *
    exact absurd hk (by decide +kernel)
theorem V_str (hb : ∀ x ∈ ks, 0 ≤ x.1 ∧ x.1 < 9 ∧ 0 ≤ x.2 ∧ x.2 < 3) {i : Nat} {v : Value} (hk : (kdF ks i == Str.ofString "string") = true) (hv : VF ks i v) : ∃ t, v = .str (Str.ofString "ab") t := by
  unfold kdF at hk; unfold VF at hv
  by_cases h : i < ks.length
  · rw [if_pos h] at *
    exact VK_str (ks_in hb h).1 hk hv
  · rw [if_neg h] at *
    exact absurd hk (by decide +kernel)
/-- the places part: no two tokens stand at one place -/
theorem q_inj (hb : ∀ x ∈ ks, 0 ≤ x.1 ∧ x.1 < 9 ∧ 0 ≤ x.2 ∧ x.2 < 3) {i : Nat} (h : i < ks.length) : qF ks i < qF ks (i + 1) := by
  rw [q_next h]
  have : 0 < (wr (ksAt ks i).1).length := by
    rcases nine (ks_in hb h).1 with e | e | e | e | e | e | e | e | e <;> rw [e] <;> decide +kernel
  omega
end
inductive MarksAre (led : List (Addr × Obj)) : List Value → List (Int × Str) → Prop
  | nil : MarksAre led [] []
  | cons {a : Addr} {t1 t2 : Tok} {n : Nat} {c : Str} {p : Int} {vs : List Value} {ms : List (Int × Str)} : (a, tupO [.int p t1, .str c t2] n) ∈ led → MarksAre led vs ms → MarksAre led (.ref a :: vs) ((p, c) :: ms)
theorem MarksAre.mono {led led' : List (Addr × Obj)} {vs : List Value} {ms : List (Int × Str)} (h : MarksAre led vs ms) (hs : ∀ p ∈ led, p ∈ led') : MarksAre led' vs ms := by
  induction h with
  | nil => exact .nil
  | cons hm _ ih => exact .cons (hs _ hm) ih
theorem MarksAre.snoc {led : List (Addr × Obj)} {vs : List Value} {ms : List (Int × Str)} {a : Addr} {t1 t2 : Tok} {n : Nat} {c : Str} {p : Int} (h : MarksAre led vs ms) (hm : (a, tupO [.int p t1, .str c t2] n) ∈ led) : MarksAre led (vs ++ [Value.ref a]) (ms ++ [(p, c)]) := by
  induction h with
  | nil => exact .cons hm .nil
  | cons h0 _ ih => exact .cons h0 ih
theorem MarksAre.length {led : List (Addr × Obj)} {vs : List Value} {ms : List (Int × Str)} (h : MarksAre led vs ms) : vs.length = ms.length := by
  induction h with
  | nil => rfl
  | cons _ _ ih => exact congrArg (· + 1) ih
theorem MarksAre.get {led : List (Addr × Obj)} {vs : List Value} {ms : List (Int × Str)} (h : MarksAre led vs ms) {i : Nat} {v : Value} (hv : vs[i]? = some v) : ∃ a t1 t2 n p c, v = .ref a ∧ (a, tupO [.int p t1, .str c t2] n) ∈ led ∧ ms[i]? = some (p, c) := by
  induction h generalizing i with
  | nil => cases hv
  | cons h0 _ ih =>
    cases i with
    | zero => cases hv; exact ⟨_, _, _, _, _, _, rfl, h0, rfl⟩
    | succ i => exact ih hv
noncomputable def md (m : Int × Str) : PyData := .tuple [.int m.1, .str m.2]
theorem marks_reads {h₀ h : Heap} {L : Addr} {led : List (Addr × Obj)} {vs : List Value} {ms : List (Int × Str)} (N : News h₀ L h led) (hm : MarksAre led vs ms) : ReadsAll h vs (ms.map md) [] := by
  induction hm with
  | nil => exact .nil
  | cons h0 _ ih =>
    have := ReadsAll.cons (Reads.tuple (N _ h0).1 rfl rfl (ReadsAll.cons (Reads.int _ _) (ReadsAll.cons (Reads.str _ _) .nil))) ih
    simpa [md] using this
theorem marks_depth : ∀ ms : List (Int × Str), PyData.depthAll (ms.map md) ≤ 2
  | [] => by simp [PyData.depthAll]
  | m :: r => by
    have := marks_depth r
    simp only [List.map_cons, PyData.depthAll, md, PyData.depth] at *
    omega
theorem marks_can : ∀ {ms : List (Int × Str)}, (∀ m ∈ ms, PyData.strOk m.2 = true) → PyData.canLayAll0 (ms.map md) = true
  | [], _ => by simp [PyData.canLayAll0]
  | m :: r, h => by simp [PyData.canLayAll0, md, PyData.canLay0, marks_can fun m hm => h m (.tail _ hm), h m (.head _)]
theorem marks_shaped {ms : List (Int × Str)} (h : ∀ m ∈ ms, PyData.strOk m.2 = true) : shaped (.list (ms.map md)) = true := by
  have h1 := marks_depth ms
  have h2 : PyData.depth (.list (ms.map md)) ≤ 64 := by simp only [PyData.depth]; omega
  show (PyData.canLay0 (.list (ms.map md)) && decide (PyData.depth (.list (ms.map md)) ≤ 64)) = true
  rw [Bool.and_eq_true]
  exact ⟨by simp only [PyData.canLay0]; exact marks_can h, decide_eq_true h2⟩
theorem marks_mix : ∀ ms : List (Int × Str), noMixAll (ms.map md) (ms.map md) = true
  | [] => by simp [noMixAll]
  | m :: r => by simp [noMixAll, md, noMix, marks_mix r]
theorem marks_same : ∀ ms : List (Int × Str), PySem.Spec.sameAll (ms.map md) (ms.map md) = true
  | [] => by simp [PySem.Spec.sameAll]
  | m :: r => by simp [PySem.Spec.sameAll, md, PySem.Spec.same, marks_same r]
section
variable {prog : Program} {w : World} {A : Around} {E : Value → Shared → Prop} {s : Shared} {h₀ : Heap} {L : Addr} {led : List (Addr × Obj)} {Q : Value → Shared → Prop}
theorem ne_marks {a b : Addr} {vs us : List Value} {m n : Nat} {ms : List (Int × Str)} (N : News h₀ L s.heap led) (ha : (a, listOf vs.toArray m) ∈ led) (hb : (b, listOf us.toArray n) ∈ led) (h1 : MarksAre led vs ms) (h2 : MarksAre led us ms) (ho : ∀ m ∈ ms, PyData.strOk m.2 = true) (hu : A.units + 64 < cLine) (h : Q (.bool false) s) :
    wpAny (model prog w) A (compareOp .NotEq (.ref a) (.ref b)) Q E s := by
  refine ne_dataH_same (Reads.list (N _ ha).1 rfl rfl (by simpa using marks_reads N h1)) (Reads.list (N _ hb).1 rfl rfl (by simpa using marks_reads N h2)) (marks_shaped ho) (marks_shaped ho) hu ?_ ?_
  · simp only [noMix]; exact marks_mix ms
  · simp only [PySem.Spec.same]; rw [marks_same]; exact h
theorem ne_pair {a b : Addr} {x : Str} {p : Int} {t1 t2 t3 t4 : Tok} {m n : Nat} (N : News h₀ L s.heap led) (ha : (a, tupO [.str x t1, .int p t2] m) ∈ led) (hb : (b, tupO [.str x t3, .int p t4] n) ∈ led) (ho : PyData.strOk x = true) (hu : A.units + 64 < cLine) (h : Q (.bool false) s) :
    wpAny (model prog w) A (compareOp .NotEq (.ref a) (.ref b)) Q E s := by
  refine ne_dataH_same (da := .tuple [.str x, .int p]) (db := .tuple [.str x, .int p]) (Reads.tuple (N _ ha).1 rfl rfl (ReadsAll.cons (Reads.str _ _) (ReadsAll.cons (Reads.int _ _) .nil))) (Reads.tuple (N _ hb).1 rfl rfl (ReadsAll.cons (Reads.str _ _) (ReadsAll.cons (Reads.int _ _) .nil))) ?_ ?_ hu ?_ ?_
  · simp [shaped, PyData.canLay0, PyData.canLayAll0, PyData.depth, PyData.depthAll, ho]
  · simp [shaped, PyData.canLay0, PyData.canLayAll0, PyData.depth, PyData.depthAll, ho]
  · simp [noMix, noMixAll]
  · simp [PySem.Spec.same, PySem.Spec.sameAll]; exact h
end
theorem ints_of_marks {ms : List (Int × Str)} {ys : List Value} {i : Nat} {p : Int} {c : Str} {t : Tok} (h : IntsAre ys ((ms.take i).map (·.1))) (hm : ms[i]? = some (p, c)) : IntsAre (ys ++ [.int p t]) ((ms.take (i + 1)).map (·.1)) := by
  rw [List.take_add_one, hm, List.map_append]
  have app : ∀ {a b : List Value} {x y : List Int}, IntsAre a x → IntsAre b y → IntsAre (a ++ b) (x ++ y) := by
    intro a b x y h k
    induction h with
    | nil => exact k
    | cons n t _ ih => exact .cons n t ih
  exact app h (.cons p t .nil)
theorem comp_rest {prog : Program} {w : World} {A : Around} {h₀ : Heap} {L : Addr} {m : Str → Option Value} {env : Env} {x x₂ : Str} {pos : Pos} {scope : Scope} {cl : List (Str × Addr)} {s : Shared} {S : List (Addr × Obj) → Prop} {Fin : List Value → List (Addr × Obj) → Prop} {mvs : List Value} {ms : List (Int × Str)} {news : List (Addr × Obj)}
    (hk : ∀ C, (compEnvC scope cl C env).scope.kind = .function) (hl : ∀ C, (compEnvC scope cl C env).kindOf x = some .local) (hx : (x == ("__debug__" : Str)) = false) (M : MarksAre news mvs ms) (hS : S news) (fin : ∀ ys, IntsAre ys (ms.map (·.1)) → Fin ys news) :
    ∀ (k i : Nat) (ys : List Value), i + k = ms.length → IntsAre ys ((ms.take i).map (·.1)) → LCp.CompRestP prog w A h₀ L m env (.Name x pos) x x₂ scope cl s S (fun i v => mvs.toArray[i]? = some v) Fin k i ys news := by
  intro k
  induction k with
  | zero =>
    intro i ys hi hy
    refine LCp.CompRestP.zero (fin ys ?_)
    rwa [List.take_of_length_le (by omega)] at hy
  | succ k ih =>
    intro i ys hi hy
    refine LCp.CompRestP.succ fun v hv => ?_
    obtain ⟨t, t1, t2, n, p, c, rfl, hm, hp⟩ := M.get (i := i) (v := v) (by simpa using hv)
    refine ⟨t, _, _, _, _, rfl, hm, rfl, rfl, ?_⟩
    intro I oI C oC D m₂ h tk E' hN h1 h2 F N off ne
    refine ldVarK (hN.ns (N _ (.tail _ (.head _))).1) h1 ?_ (hk C) (hl C) hx
    exact LCg.CompEnd.intro F N news (fun _ h => h) off hS (ih (i + 1) _ (by omega) (ints_of_marks hy hp))
theorem nin_b {prog : Program} {w : World} {A : Around} {E : Value → Shared → Prop} {s : Shared} {l : Addr} {vs : List Value} {ns : List Int} {k : Int} {t : Tok} {Q : Value → Shared → Prop} {b : Bool} (hl : s.heap.IsList l vs.toArray) (hi : IntsAre vs ns) (hb : (ns.any (· == k)) = b) (h : Q (.bool !b) s) :
    wpAny (model prog w) A (compareOp .NotIn (.int k t) (.ref l)) Q E s := by subst hb; exact notin_list_ints hl hi h
theorem any_fst (ms : List (Int × Str)) (k : Int) : ((ms.map (·.1)).any (· == k)) = ms.any fun m => m.1 == k := by rw [List.any_map]; rfl
theorem off1_ne {D b : Addr} {o : Obj} : ∀ {l : List (Addr × Obj)}, LCg.Off1 D l → (b, o) ∈ l → @Ne Nat D b
  | _ :: _, h, .head _ => fun e => h.1 e.symm
  | _ :: _, h, .tail _ hm => off1_ne h.2 hm
theorem item_ref {prog : Program} {w : World} {A : Around} {E : Value → Shared → Prop} {s : Shared} {value slice : PySem.Expr} {l : Addr} {vs : List Value} {k : Nat} {u : Tok} {v : Value} {Q : Value → Shared → Prop}
    (hl : s.heap.IsList l vs.toArray) (hx : vs[k]? = some v) (hn : vs.length ≤ 100) (h : Q v s)
    (hp : subscripted slice false (.ref l) (.int k u) = operate [.ref l, .int k u] (getItem (.ref l) (.int k u)) := by with_unfolding_all rfl) :
    wpAny (model prog w) A (subscriptTail value slice (.ref l) (.int k u)) Q E s := by
  have hk := (List.getElem?_eq_some_iff.mp hx).1
  exact tail_any hl.typeIs slot_list_getitem.lookup (wpAny_getItem_list hl (by omega) (by omega) (by simpa using hx) h) hp
section
variable {prog : Program} {w : World} {A : Around} {E : Value → Shared → Prop} {s : Shared} {h₀ : Heap} {L : Addr} {m : Str → Option Value} {news : List (Addr × Obj)}
/-- the first two of three: the places of [:2] -/
theorem applied2 {sl : Addr} {u : Tok} {Q : Int × Int × Nat → Shared → Prop} (hs : s.heap.IsSliceOf sl .none (.int 2 u) .none) (h : Q (0, 1, 2) s) : wpAny (model prog w) A (Builtin.Slice.sliceApplied (.ref sl) (pure (3 : Int))) Q E s := by
  obtain ⟨o, ho, _, hd⟩ := hs
  unfold Builtin.Slice.sliceApplied Builtin.Slice.sliceFields
  refine wpAny_bind (wpAny_bind (wpAny_field ho hd (x := .none) rfl (wpAny_bind (wpAny_field ho hd (x := .int 2 u) rfl (wpAny_bind (wpAny_field ho hd (x := .none) rfl (wpAny_pure ?_)))))))
  refine wpAny_bind (slicePart_none ?_)
  refine wpAny_bind (slicePart_none (wpAny_bind (slicePart_int (wpAny_bind (wpAny_pure (wpAny_pure ?_))))))
  exact h
theorem get2 {t sl : Addr} {a b c : Value} {u : Tok} {Q : Value → Shared → Prop} (ht : IsTup s.heap t #[a, b, c]) (hs : s.heap.IsSliceOf sl .none (.int 2 u) .none) (h : Q (.ref s.heap.objs.size) { s with heap := s.heap.push { cls := .type "tuple", data := .seq #[a, b] } }) :
    wpAny (model prog w) A (getItem (.ref t) (.ref sl)) Q E s := by
  obtain ⟨o, ho, hc, _⟩ := id hs
  unfold getItem
  try with_reducible refine wpAny_holding ?_
  first | refine wpAny_bind (wpAny_pure ?_) | skip
  refine wpAny_bind (wpAny_sequenceKey ht.typeIs (by decide) (wpAny_bind (wpAny_callSpecial?_slot (name := Str.ofString "__getitem__") ht.typeIs slot_tuple_getitem (wpAny_call_entry slot_tuple_getitem ht.typeIs entry_tuple_getitem ?_ (args_tuple_getitem _ _)))))
  show wpAny _ _ (Builtin.Tuple.tupleItemsOf (.ref t) >>= _) _ _ s
  have hT : s.TypeIs (.ref sl) "slice" := ⟨o, ho, hc⟩
  refine wpAny_bind (tupleItemsOf_ ht (wpAny_bind (wpAny_typeOf hT ?_)))
  rw [if_pos (by decide)]
  refine wpAny_bind (applied2 hs ?_)
  dsimp only
  rw [if_neg (by simp)]
  have e : (List.filterMap (fun (k : Nat) => (#[a, b, c] : Array Value)[((0 : Int) + (k : Int) * 1).toNat]?) (List.range 2)).toArray = #[a, b] := rfl
  rw [e]
  first
    | exact wpAny_bind (m := Builtin.Tuple.tupleExact _) (wpAny_newObj_type (wpAny_pure ⟨_, rfl, wpAny_pure h⟩) (by show (2 : Nat) ≤ sizeLine; rw [sizeLine_eq]; decide))
    | exact wpAny_bind (m := Builtin.Tuple.tupleExact _) (wpAny_newObj_type (wpAny_bind (wpAny_pure (wpAny_pure ⟨_, rfl, wpAny_pure h⟩))) (by show (2 : Nat) ≤ sizeLine; rw [sizeLine_eq]; decide))
theorem slice2 {value slice : PySem.Expr} {t : Addr} {a b c : Value} {u : Tok} {Q : Value → Shared → Prop} (F : Fr h₀ L s.heap m) (N : News h₀ L s.heap news) (ht : IsTup s.heap t #[a, b, c])
    (h : ∀ h', Fr h₀ L h' m → News h₀ L h' ((s.heap.objs.size + 1, tupO [a, b] 0) :: news) → Q (.ref (s.heap.objs.size + 1)) { s with heap := h' })
    (hs : subscripted slice false (.ref t) (.ref s.heap.objs.size) = operate [.ref s.heap.objs.size, .ref t] (getItem (.ref t) (.ref s.heap.objs.size)) := by with_unfolding_all rfl)
    (hg : ∀ r, letTemporaryGo value (.ref t) r = pure () := by intro _; with_unfolding_all rfl) :
    wpAny (model prog w) A (subscriptTail value slice (.ref t) (.ref s.heap.objs.size)) Q E { s with heap := s.heap.push { cls := .type "slice", data := .fields #[.none, .int 2 u, .none] } } := by
  have ht' : IsTup (s.heap.push { cls := .type "slice", data := .fields #[.none, .int 2 u, .none] }) t #[a, b, c] := ht.keeps fun _ _ e => Heap.get?_push_of_some _ e
  refine subscriptTail_ops (s := { s with heap := s.heap.push { cls := .type "slice", data := .fields #[.none, .int 2 u, .none] } }) ht'.typeIs slot_tuple_getitem.lookup (get2 ht' (Heap.IsSliceOf.new ..) ?_) hs hg
  have N1 := News.push (F.push { cls := .type "slice", data := .fields #[.none, .int 2 u, .none] }) (N.grown fun _ _ e => Heap.get?_push_of_some _ e) (tupO [a, b] 0)
  rw [Heap.size_push] at N1
  show Q (.ref (s.heap.push _).objs.size) _
  rw [Heap.size_push]
  exact h _ ((F.push _).push _) N1
end
theorem item_fst {prog : Program} {w : World} {A : Around} {E : Value → Shared → Prop} {s : Shared} {value slice : PySem.Expr} {t : Addr} {a b c : Value} {u : Tok} {Q : Value → Shared → Prop} (ht : IsTup s.heap t #[a, b, c]) (h : Q a s)
    (hp : subscripted slice false (.ref t) (.int 0 u) = operate [.ref t, .int 0 u] (getItem (.ref t) (.int 0 u)) := by with_unfolding_all rfl) :
    wpAny (model prog w) A (subscriptTail value slice (.ref t) (.int 0 u)) Q E s :=
  tail_any ht.typeIs slot_tuple_getitem.lookup (getItem_tuple ht (by decide) (by decide) (j := 0) rfl rfl h) hp
theorem ok_in {l : List Str} (h : (l.all PyData.strOk) = true) (n : Nat) : PyData.strOk (l.getD n (Str.ofString "")) = true := getD_in (P := fun x => PyData.strOk x = true) (fun x hx => List.all_eq_true.mp h x hx) (by decide +kernel) n
theorem kn_ok (k : Int) : PyData.strOk (kn k) = true := ok_in (by decide +kernel) _
theorem wr_ok (k : Int) : PyData.strOk (wr k) = true := ok_in (by decide +kernel) _
theorem kdF_ok (ks : List (Int × Int)) (j : Nat) : PyData.strOk (kdF ks j) = true := by
  unfold kdF; split
  · exact kn_ok _
  · decide +kernel
theorem sgF_ok (ks : List (Int × Int)) (j : Nat) : PyData.strOk (sgF ks j) = true := by
  unfold sgF; split
  · exact wr_ok _
  · decide +kernel
theorem min_b {prog : Program} {w : World} {A : Around} {E : Value → Shared → Prop} {s : Shared} {h₀ : Heap} {L : Addr} {m : Str → Option Value} {news : List (Addr × Obj)} {a b : Int} {t u : Tok} {Q : Value → Shared → Prop} {z : Nat} (hh : A.handled = none) (F : Fr h₀ L s.heap m) (N : News h₀ L s.heap news) (hz : (if b < a then b else a) = (z : Int))
    (h : ∀ h' tk t', Fr h₀ L h' m → News h₀ L h' news → Q (.int (z : Int) t') { s with heap := h', toks := tk }) : wpAny (model prog w) A (call (.builtin "min") [.int a t, .int b u]) Q E s :=
  min_two_N hh F N fun h' tk F' N' => by rw [hz]; exact h h' tk _ F' N'
noncomputable def forBody {t i : PySem.Expr} {b : List Stmt} {p : Pos} (st : Stmt) (_ : st = Stmt.For t i b [] p) : List Stmt := b
noncomputable def turn2 : List Stmt := forBody loop2 rfl
noncomputable def sfx : List Stmt := (nth5 turn2 rfl).2
local macro_rules | `(tactic| walk_at "eval ListComp") => `(tactic| (k_here; k_dflt (refine LCp.ListComp_P (F₀ := by k_asm) (by with_unfolding_all rfl) (by decide) (by rfl) (by decide) (by rfl) (by rfl) (by decide) ?_)))
local macro_rules | `(tactic| walk_at "SrcLP") => `(tactic| (k_here; k_dflt (refine' LCp.SrcLP.ledger (by rfl) (by k_asm) (by k_asm) ?hm ?hz ?_; (case hm => k_mem); (case hz => (rw [sizeLine_eq, List.size_toArray]; omega))); intro g9; (refine' comp_rest (fun _ => rfl) (fun _ => rfl) (by decide) ?cm ?cs ?_ _ 0 [] ?cn .nil); (case cm => exact MarksAre.mono (by assumption) (by walk_at "mine sub")); (case cs => exact .inr ⟨_, by k_mem, rfl, _, rfl⟩); (case cn => (rw [List.size_toArray, Nat.zero_add]; assumption)); intro ys9 hy9 D9 h9 tk9 F9 N9 o9; (try simp only [LCg.Off1] at o9)))
theorem subN {h₀ h : Heap} {L : Addr} {RR led : List (Addr × Obj)} (_ : News h₀ L h led) (hs : ∀ p ∈ RR, p ∈ led) : ∀ p ∈ RR, p ∈ led := hs
noncomputable def last3 {s1 s2 s3 : Stmt} (l : List Stmt) (_ : l = [s1, s2, s3]) : List Stmt := [s3]
noncomputable def sfxL : List Stmt := last3 sfx rfl
noncomputable def last2 {s1 s2 s3 : Stmt} (l : List Stmt) (_ : l = [s1, s2, s3]) : List Stmt := [s2, s3]
noncomputable def sfxM : List Stmt := last2 sfx rfl
structure Hold (p : Prop) : Prop where
  out : p
theorem sfxL_ok {prog p9 : Program} {w : World} {loose : List Str} {mean : ExcName → Option Value} {mg mb : Str → Option Value} {dp un : Nat} {gd : Option (List Code)} {a : Addr} {ccd : Value} {outer : List Env} {A₀ : Around} {base h₀ : Heap} {L : Addr} {s : Shared} {Q : Flow → Shared → Prop} {E : Value → Shared → Prop}
    {led : List (Addr × Obj)} {st kl rw rd rdd sc er erd ero erp mk x d ra : Addr} {j1 j2 j3 tkk tkp i1 i2 ta q1 q2 q3 : Tok} {val : Value} {RK9 : RK} {rvs evs mvs : List Value} {rn en mn j qn : Nat} {ks : List (Int × Int)} {ms : List (Int × Str)} {u0 : Str → Option Value}
    (B : Below A₀ base outer h₀) (X : (KK w.params).In h₀) (T : Top p9 loose mean mg mb h₀) (hd : dp + 12 < recursionLimit) (hu : un + 8 * 12 < cLine)
    (F : Fr h₀ L s.heap (kstB u0 [(Str.ofString "state", Value.ref st), (Str.ofString "kinds", Value.ref kl), (Str.ofString "rows", Value.ref rw), (Str.ofString "rd", Value.ref rd), (Str.ofString "errors", Value.ref er), (Str.ofString "marks", Value.ref mk), (Str.ofString "at", Value.int j ta)]))
    (N : News h₀ L s.heap led) (hmk : (mk, listOf mvs.toArray mn) ∈ led) (hok : PyData.strOk (kdF ks j) = true) (hrl2 : rvs.length ≤ 100)
    (r1 : (rw, listOf rvs.toArray rn) ∈ led) (hv : rvs[j]? = some (.ref ra)) (hm9 : (ra, tupO [.str (kdF ks j) q1, .int (qF ks j) q2, .str (sgF ks j) q3] qn) ∈ led)
    (g1 : (rd, instObj 468 rdd) ∈ led) (g2 : (rdd, rdD w RK9 sc er x) ∈ led) (g3 : (x, instObj 38 d) ∈ led) (g4 : (d, toD w j1 j2 j3 (.str (kdF ks j) tkk) val (.int (qF ks j) tkp)) ∈ led) (g5 : (er, instObj 510 erd) ∈ led) (g6 : (erd, erD w i1 i2 ero erp) ∈ led) (g7 : (ero, listOf evs.toArray en) ∈ led)
    (m1 : MarksAre led mvs ms) (m2 : MarksAre led evs ms) (ho : ∀ m ∈ ms, PyData.strOk m.2 = true)
    (hE : PassesOwn (model prog w) (ktrTop dp un gd (Str.ofString "law") lawSc L a ccd [] outer) (envOf (Str.ofString "law") lawSc L a ccd) E)
    (hQ : ∀ (u : Str → Option Value) h tk,
      Fr h₀ L h (kstB u [(Str.ofString "state", Value.ref st), (Str.ofString "kinds", Value.ref kl), (Str.ofString "rows", Value.ref rw), (Str.ofString "rd", Value.ref rd), (Str.ofString "errors", Value.ref er), (Str.ofString "marks", Value.ref mk), (Str.ofString "at", Value.int j ta)]) →
      News h₀ L h led → Q .next { s with heap := h, toks := tk }) :
    Hold (wpAny (model prog w) (ktrTop dp un gd (Str.ofString "law") lawSc L a ccd [] outer) (execs sfxL (envOf (Str.ofString "law") lawSc L a ccd)) Q E s) := by
  refine Hold.mk ?_
  ((have kf : (PySem.Challenge.rw_pq0763_01 = PySem.Challenge.rw_pq0763_01) ∧ (KK = KK) := by (k_fill; exact ⟨rfl, rfl⟩)); clear kf)
  have kmk := kstMark
  unfold lawSc sfxL last3 lawBS lawGet at *
  dsimp only at hE ⊢
  dsimp only [kstB] at F
  (repeat' (first | with_reducible ((with_reducible show wpAny _ _ (subscriptTail _ _ (Value.ref _) (Value.int 0 _)) _ _ _); k_here; (with_unfolding_all refine' item_fst ?k1 ?_ ?k6; (case k1 => exact News.isTup (by k_asm) (by k_mem)); (case k6 => with_unfolding_all rfl); k_whole)) | with_reducible ((with_reducible show wpAny _ _ (subscriptTail _ _ (Value.ref _) (Value.int (Nat.cast _) _)) _ _ _); k_here; (with_unfolding_all refine' item_ref ?k1 ?k2 ?k3 ?_ ?k6; (case k1 => exact News.isList (by k_asm) (by k_mem)); (case k2 => first | with_reducible assumption | assumption); (case k3 => omega); (case k6 => with_unfolding_all rfl); k_whole)) | with_reducible ((with_reducible show wpAny _ _ (call (Value.builtin "min") _) _ _ _); k_here; k_dflt (refine' min_b ?kh ?kF ?kN ?kz ?_; (case kh => exact rfl); (case kF => k_asm); (case kN => k_asm); (case kz => first | with_reducible assumption | assumption)); intro h9 tk9 t9 F9 N9) | with_reducible ((with_reducible show wpAny _ _ (call (Value.builtin "len") [Value.ref _]) _ _ _); k_here; k_dflt (refine' kst_len ?k1 ?k2 ?k3 ?k4 ?_; (case k1 => k_asm); (case k2 => k_mem); (case k3 => first | with_reducible assumption | assumption); (case k4 => omega); k_whole)) | with_reducible ((with_reducible show wpAny _ _ (subscriptTail _ _ (Value.ref _) (Value.ref _)) _ _ _); k_here; (with_unfolding_all refine' slice2 ?kF ?kN ?kT ?_ ?k6 ?k7; (case kF => k_asm); (case kN => k_asm); (case kT => exact News.isTup (by k_asm) (by k_mem)); (case k6 => with_unfolding_all rfl); (case k7 => intro _; with_unfolding_all rfl)); intro h9 F9 N9) | with_reducible ((with_reducible show wpAny _ _ (compareOp CmpOp.NotIn (Value.int _ _) (Value.ref _)) _ _ _); k_here; k_dflt (refine' nin_b ?k1 ?k2 ?k3 ?_; (case k1 => exact News.isList (by k_asm) (by k_mem)); (case k2 => first | with_reducible assumption | assumption); (case k3 => first | with_reducible assumption | assumption); k_whole); (try simp only [Bool.not_true, Bool.not_false])) | with_reducible ((with_reducible show wpAny _ _ (compareOp CmpOp.NotEq (Value.ref _) (Value.ref _)) _ _ _); k_here; k_dflt (first | (refine' ne_pair ?k1 ?k2 ?k3 ?k4 ?k5 ?_; (case k1 => k_asm); (case k2 => k_mem); (case k3 => k_mem); (case k4 => first | assumption | apply_assumption); (case k5 => walk_at "mine units")) | (refine' ne_marks ?k1 ?k2 ?k3 ?k4 ?k5 ?k6 ?k7 ?_; (case k1 => k_asm); (case k2 => k_mem); (case k3 => k_mem); (case k4 => exact MarksAre.mono (by assumption) (by walk_at "mine sub")); (case k5 => exact MarksAre.mono (by assumption) (by walk_at "mine sub")); (case k6 => first | with_reducible assumption | assumption); (case k7 => walk_at "mine units")))) | with_reducible refine ite_pos (by decide) ?_ | with_reducible refine ite_neg (by decide) ?_ | (k_unfold; (try dsimp only)) | (k_end; wrow_close) | walk1 | (dsimp only; walk1) | (leave1; try dsimp only)))
  rename Fr _ _ _ _ => F9
  rename News _ _ _ _ => N9
  exact hQ _ _ _ (fr_kst (by (first | ((try dsimp only); (repeat (refine allc rfl ?_)); exact alln) | kst_all)) F9) (kst_newsOf N9 (by walk_at "mine sub"))
theorem sfxM_ok {prog p9 : Program} {w : World} {loose : List Str} {mean : ExcName → Option Value} {mg mb : Str → Option Value} {dp un : Nat} {gd : Option (List Code)} {a : Addr} {ccd : Value} {outer : List Env} {A₀ : Around} {base h₀ : Heap} {L : Addr} {s : Shared} {Q : Flow → Shared → Prop} {E : Value → Shared → Prop}
    {RR : List (Addr × Obj)} {st kl rw rd rdd sc er erd ero erp mk x d : Addr} {j1 j2 j3 tkk tkp i1 i2 ta0 tf tsp : Tok} {val : Value} {RK9 : RK} {rvs evs mvs : List Value} {rn en mn n j : Nat} {ks : List (Int × Int)} {ms ms' : List (Int × Str)} {f : Str} {sp' : Int} {u0 : Str → Option Value} {ml : List (Addr × Obj)}
    (B : Below A₀ base outer h₀) (X : (KK w.params).In h₀) (T : Top p9 loose mean mg mb h₀) (hd : dp + 12 < recursionLimit) (hu : un + 8 * 12 < cLine)
    (F : Fr h₀ L s.heap (kstB u0 [(Str.ofString "state", Value.ref st), (Str.ofString "kinds", Value.ref kl), (Str.ofString "rows", Value.ref rw), (Str.ofString "rd", Value.ref rd), (Str.ofString "errors", Value.ref er), (Str.ofString "marks", Value.ref mk), (Str.ofString "at", Value.int j ta0), (Str.ofString "fault", Value.str f tf), (Str.ofString "spot_of", Value.int sp' tsp)]))
    (N : News h₀ L s.heap ((mk, listOf mvs.toArray mn) :: RR))
    (h8 : ks.length ≤ 8) (hb : ∀ x ∈ ks, 0 ≤ x.1 ∧ x.1 < 9 ∧ 0 ≤ x.2 ∧ x.2 < 3) (hn : n = ks.length)
    (r1 : (rw, listOf rvs.toArray rn) ∈ RR) (r2 : RowsAre RR rvs (rowsF (Str.ofString "") ks ++ [(Str.ofString "eof", ((sayF (Str.ofString "") ks).length : Int), Str.ofString "")]))
    (g1 : (rd, instObj 468 rdd) ∈ RR) (g2 : (rdd, rdD w RK9 sc er x) ∈ RR) (g3 : (x, instObj 38 d) ∈ RR) (g4 : (d, toD w j1 j2 j3 (.str (kdF ks j) tkk) val (.int (qF ks j) tkp)) ∈ RR) (g5 : (er, instObj 510 erd) ∈ RR) (g6 : (erd, erD w i1 i2 ero erp) ∈ RR) (g7 : (ero, listOf evs.toArray en) ∈ RR)
    (hO : OwnOff RR [mk]) (hml : ∀ p ∈ ml, p ∈ RR) (m1 : MarksAre ml mvs ms) (m2 : MarksAre RR evs ms') (ho : ∀ m ∈ ms', PyData.strOk m.2 = true) (hl : ms'.length ≤ 20) (hfl : f.length ≤ 30)
    (hjn : j ≤ n)
    (hm : ms' = if (f == Str.ofString "") = false ∧ (ms.any fun m => m.1 == sp') = false then ms ++ [(sp', f)] else ms)
    (hE : PassesOwn (model prog w) (ktrTop dp un gd (Str.ofString "law") lawSc L a ccd [] outer) (envOf (Str.ofString "law") lawSc L a ccd) E)
    (hQ : ∀ (u : Str → Option Value) (mvs' : List Value) mn' (add : List (Addr × Obj)) ta h tk, MarksAre (add ++ ml) mvs' ms' → (∀ p ∈ add, ∀ q ∈ (mk, listOf mvs.toArray mn) :: RR, @LT.lt Nat _ q.1 p.1) →
      Fr h₀ L h (kstB u [(Str.ofString "state", Value.ref st), (Str.ofString "kinds", Value.ref kl), (Str.ofString "rows", Value.ref rw), (Str.ofString "rd", Value.ref rd), (Str.ofString "errors", Value.ref er), (Str.ofString "marks", Value.ref mk), (Str.ofString "at", Value.int j ta)]) →
      News h₀ L h ((mk, listOf mvs'.toArray mn') :: (add ++ RR)) → Q .next { s with heap := h, toks := tk }) :
    wpAny (model prog w) (ktrTop dp un gd (Str.ofString "law") lawSc L a ccd [] outer) (execs sfxM (envOf (Str.ofString "law") lawSc L a ccd)) Q E s := by
  ((have kf : (PySem.Challenge.rw_pq0763_01 = PySem.Challenge.rw_pq0763_01) ∧ (KK = KK) := by (k_fill; exact ⟨rfl, rfl⟩)); clear kf)
  have kmk := kstMark
  unfold lawSc sfxM last2 lawBS lawGet at *
  dsimp only at hE ⊢
  dsimp only [kstB] at F
  have hml9 : mvs.length = ms.length := m1.length
  have hml2 : mvs.length ≤ 20 := by
    rw [hml9]
    refine Nat.le_trans ?_ hl
    rw [hm]; split
    · simp
    · exact Nat.le_refl _
  have hnb := any_fst ms sp'
  have hok := kdF_ok ks
  generalize hbb : (ms.any fun m => m.1 == sp') = bb at hm hnb
  clear hbb
  have hrl : rvs.length = n + 1 := by rw [r2.length, List.length_append, rowsF_length, List.length_cons, List.length_nil, hn]
  have hrl2 : rvs.length ≤ 100 := by omega
  obtain ⟨ra, q1, q2, q3, qn, hv, hm9⟩ := r2.at (rows_at (ks := ks) (i := j) (by omega))
  dsimp only at hm9
  have m0 := m1
  replace m1 := m1.mono hml
  have key0 : ∀ {u : Str → Option Value} {ta h tk led}, ms' = ms → Fr h₀ L h (kstB u [(Str.ofString "state", Value.ref st), (Str.ofString "kinds", Value.ref kl), (Str.ofString "rows", Value.ref rw), (Str.ofString "rd", Value.ref rd), (Str.ofString "errors", Value.ref er), (Str.ofString "marks", Value.ref mk), (Str.ofString "at", Value.int j ta)]) → News h₀ L h led → (mk, listOf mvs.toArray mn) ∈ led → (∀ p ∈ RR, p ∈ led) → Q .next { s with heap := h, toks := tk } := by
    intro u ta h tk led e F9 N9 k1 k3
    subst e
    exact hQ u mvs mn [] ta h tk m0 (fun p h => nomatch h) F9 (kst_newsOf N9 (allc (k1) (k3)))
  have key1 : ∀ {u : Str → Option Value} {ta h tk led D t1 t2 k mn'}, ms' = ms ++ [(sp', f)] → Fr h₀ L h (kstB u [(Str.ofString "state", Value.ref st), (Str.ofString "kinds", Value.ref kl), (Str.ofString "rows", Value.ref rw), (Str.ofString "rd", Value.ref rd), (Str.ofString "errors", Value.ref er), (Str.ofString "marks", Value.ref mk), (Str.ofString "at", Value.int j ta)]) → News h₀ L h led → (mk, listOf (mvs ++ [Value.ref D]).toArray mn') ∈ led → (D, tupO [.int sp' t1, .str f t2] k) ∈ led → (∀ p ∈ RR, p ∈ led) → @LT.lt Nat _ mk D → (∀ q ∈ RR, @LT.lt Nat _ q.1 D) → Q .next { s with heap := h, toks := tk } := by
    intro u ta h tk led D t1 t2 k mn' e F9 N9 k1 k2 k3 k4 k5
    subst e
    refine hQ u (mvs ++ [Value.ref D]) mn' [(D, tupO [.int sp' t1, .str f t2] k)] ta h tk ((m0.mono fun _ h => .tail _ h).snoc (.head _)) ?_ F9 (kst_newsOf N9 (allc (k1) (allc (k2) (k3))))
    intro p hp q hq
    rw [List.mem_singleton.mp hp]
    rcases List.mem_cons.mp hq with e | hq
    · rw [e]; exact k4
    · exact k5 q hq
  clear hQ m0 hml
  cases hf : (f == Str.ofString "")
  · cases bb
    · rw [hf, if_pos ⟨rfl, rfl⟩] at hm
      subst hm
      repeat ((fail_if_success (with_reducible show wpAny _ _ (execs [Stmt.If (PySem.Expr.BoolOp BoolOp.Or _ _) _ _ _] _) _ _ _)); (first | with_reducible ((with_reducible show wpAny _ _ (subscriptTail _ _ (Value.ref _) (Value.int 0 _)) _ _ _); k_here; (with_unfolding_all refine' item_fst ?k1 ?_ ?k6; (case k1 => exact News.isTup (by k_asm) (by k_mem)); (case k6 => with_unfolding_all rfl); k_whole)) | with_reducible ((with_reducible show wpAny _ _ (subscriptTail _ _ (Value.ref _) (Value.int (Nat.cast _) _)) _ _ _); k_here; (with_unfolding_all refine' item_ref ?k1 ?k2 ?k3 ?_ ?k6; (case k1 => exact News.isList (by k_asm) (by k_mem)); (case k2 => first | with_reducible assumption | assumption); (case k3 => omega); (case k6 => with_unfolding_all rfl); k_whole)) | with_reducible ((with_reducible show wpAny _ _ (call (Value.builtin "min") _) _ _ _); k_here; k_dflt (refine' min_b ?kh ?kF ?kN ?kz ?_; (case kh => exact rfl); (case kF => k_asm); (case kN => k_asm); (case kz => first | with_reducible assumption | assumption)); intro h9 tk9 t9 F9 N9) | with_reducible ((with_reducible show wpAny _ _ (call (Value.builtin "len") [Value.ref _]) _ _ _); k_here; k_dflt (refine' kst_len ?k1 ?k2 ?k3 ?k4 ?_; (case k1 => k_asm); (case k2 => k_mem); (case k3 => first | with_reducible assumption | assumption); (case k4 => omega); k_whole)) | with_reducible ((with_reducible show wpAny _ _ (subscriptTail _ _ (Value.ref _) (Value.ref _)) _ _ _); k_here; (with_unfolding_all refine' slice2 ?kF ?kN ?kT ?_ ?k6 ?k7; (case kF => k_asm); (case kN => k_asm); (case kT => exact News.isTup (by k_asm) (by k_mem)); (case k6 => with_unfolding_all rfl); (case k7 => intro _; with_unfolding_all rfl)); intro h9 F9 N9) | with_reducible ((with_reducible show wpAny _ _ (compareOp CmpOp.NotIn (Value.int _ _) (Value.ref _)) _ _ _); k_here; k_dflt (refine' nin_b ?k1 ?k2 ?k3 ?_; (case k1 => exact News.isList (by k_asm) (by k_mem)); (case k2 => first | with_reducible assumption | assumption); (case k3 => first | with_reducible assumption | assumption); k_whole); (try simp only [Bool.not_true, Bool.not_false])) | with_reducible ((with_reducible show wpAny _ _ (compareOp CmpOp.NotEq (Value.ref _) (Value.ref _)) _ _ _); k_here; k_dflt (first | (refine' ne_pair ?k1 ?k2 ?k3 ?k4 ?k5 ?_; (case k1 => k_asm); (case k2 => k_mem); (case k3 => k_mem); (case k4 => first | assumption | apply_assumption); (case k5 => walk_at "mine units")) | (refine' ne_marks ?k1 ?k2 ?k3 ?k4 ?k5 ?k6 ?k7 ?_; (case k1 => k_asm); (case k2 => k_mem); (case k3 => k_mem); (case k4 => exact MarksAre.mono (by assumption) (by walk_at "mine sub")); (case k5 => exact MarksAre.mono (by assumption) (by walk_at "mine sub")); (case k6 => first | with_reducible assumption | assumption); (case k7 => walk_at "mine units")))) | with_reducible refine ite_pos (by decide) ?_ | with_reducible refine ite_neg (by decide) ?_ | walk_at "mine step"))
      rename Fr _ _ _ _ => F9
      rename News _ _ _ _ => N9
      rename _ ∧ _ ∧ AllLt _ RR => l9
      rw [List.push_toArray] at N9
      have hsub := subN (RR := RR) N9 (by walk_at "mine sub")
      try dsimp only
      with_reducible refine Hold.out ?_
      refine' sfxL_ok (ks := ks) (mvs := mvs ++ [Value.ref _]) (rvs := rvs) (evs := evs) (ms := ms ++ [(sp', f)]) B X T (by omega) (by omega) (fr_kst (by (first | ((try dsimp only); (repeat (refine allc rfl ?_)); exact alln) | kst_all)) F9) N9 (by k_mem) (hok _) hrl2 (hsub _ r1) hv (hsub _ hm9) (hsub _ g1) (hsub _ g2) (hsub _ g3) (hsub _ g4) (hsub _ g5) (hsub _ g6) (hsub _ g7) ((m1.mono hsub).snoc (by k_mem)) (m2.mono hsub) ho hE ?_
      intro u h tk F8 N8
      exact key1 rfl F8 N8 (by k_mem) (by k_mem) hsub l9.2.1 (kst_ltOf l9.2.2)
    · rw [hf, if_neg (by simp)] at hm
      subst hm
      repeat ((fail_if_success (with_reducible show wpAny _ _ (execs [Stmt.If (PySem.Expr.BoolOp BoolOp.Or _ _) _ _ _] _) _ _ _)); (first | with_reducible ((with_reducible show wpAny _ _ (subscriptTail _ _ (Value.ref _) (Value.int 0 _)) _ _ _); k_here; (with_unfolding_all refine' item_fst ?k1 ?_ ?k6; (case k1 => exact News.isTup (by k_asm) (by k_mem)); (case k6 => with_unfolding_all rfl); k_whole)) | with_reducible ((with_reducible show wpAny _ _ (subscriptTail _ _ (Value.ref _) (Value.int (Nat.cast _) _)) _ _ _); k_here; (with_unfolding_all refine' item_ref ?k1 ?k2 ?k3 ?_ ?k6; (case k1 => exact News.isList (by k_asm) (by k_mem)); (case k2 => first | with_reducible assumption | assumption); (case k3 => omega); (case k6 => with_unfolding_all rfl); k_whole)) | with_reducible ((with_reducible show wpAny _ _ (call (Value.builtin "min") _) _ _ _); k_here; k_dflt (refine' min_b ?kh ?kF ?kN ?kz ?_; (case kh => exact rfl); (case kF => k_asm); (case kN => k_asm); (case kz => first | with_reducible assumption | assumption)); intro h9 tk9 t9 F9 N9) | with_reducible ((with_reducible show wpAny _ _ (call (Value.builtin "len") [Value.ref _]) _ _ _); k_here; k_dflt (refine' kst_len ?k1 ?k2 ?k3 ?k4 ?_; (case k1 => k_asm); (case k2 => k_mem); (case k3 => first | with_reducible assumption | assumption); (case k4 => omega); k_whole)) | with_reducible ((with_reducible show wpAny _ _ (subscriptTail _ _ (Value.ref _) (Value.ref _)) _ _ _); k_here; (with_unfolding_all refine' slice2 ?kF ?kN ?kT ?_ ?k6 ?k7; (case kF => k_asm); (case kN => k_asm); (case kT => exact News.isTup (by k_asm) (by k_mem)); (case k6 => with_unfolding_all rfl); (case k7 => intro _; with_unfolding_all rfl)); intro h9 F9 N9) | with_reducible ((with_reducible show wpAny _ _ (compareOp CmpOp.NotIn (Value.int _ _) (Value.ref _)) _ _ _); k_here; k_dflt (refine' nin_b ?k1 ?k2 ?k3 ?_; (case k1 => exact News.isList (by k_asm) (by k_mem)); (case k2 => first | with_reducible assumption | assumption); (case k3 => first | with_reducible assumption | assumption); k_whole); (try simp only [Bool.not_true, Bool.not_false])) | with_reducible ((with_reducible show wpAny _ _ (compareOp CmpOp.NotEq (Value.ref _) (Value.ref _)) _ _ _); k_here; k_dflt (first | (refine' ne_pair ?k1 ?k2 ?k3 ?k4 ?k5 ?_; (case k1 => k_asm); (case k2 => k_mem); (case k3 => k_mem); (case k4 => first | assumption | apply_assumption); (case k5 => walk_at "mine units")) | (refine' ne_marks ?k1 ?k2 ?k3 ?k4 ?k5 ?k6 ?k7 ?_; (case k1 => k_asm); (case k2 => k_mem); (case k3 => k_mem); (case k4 => exact MarksAre.mono (by assumption) (by walk_at "mine sub")); (case k5 => exact MarksAre.mono (by assumption) (by walk_at "mine sub")); (case k6 => first | with_reducible assumption | assumption); (case k7 => walk_at "mine units")))) | with_reducible refine ite_pos (by decide) ?_ | with_reducible refine ite_neg (by decide) ?_ | walk_at "mine step"))
      rename Fr _ _ _ _ => F9
      rename News _ _ _ _ => N9
      have hsub := subN (RR := RR) N9 (by walk_at "mine sub")
      try dsimp only
      with_reducible refine Hold.out ?_
      refine' sfxL_ok (ks := ks) (mvs := mvs) (rvs := rvs) (evs := evs) (ms := _) B X T (by omega) (by omega) (fr_kst (by (first | ((try dsimp only); (repeat (refine allc rfl ?_)); exact alln) | kst_all)) F9) N9 (by k_mem) (hok _) hrl2 (hsub _ r1) hv (hsub _ hm9) (hsub _ g1) (hsub _ g2) (hsub _ g3) (hsub _ g4) (hsub _ g5) (hsub _ g6) (hsub _ g7) (m1.mono hsub) (m2.mono hsub) ho hE ?_
      intro u h tk F8 N8
      exact key0 rfl F8 N8 (by k_mem) hsub
  · rw [hf, if_neg (by simp)] at hm
    subst hm
    repeat ((fail_if_success (with_reducible show wpAny _ _ (execs [Stmt.If (PySem.Expr.BoolOp BoolOp.Or _ _) _ _ _] _) _ _ _)); (first | with_reducible ((with_reducible show wpAny _ _ (subscriptTail _ _ (Value.ref _) (Value.int 0 _)) _ _ _); k_here; (with_unfolding_all refine' item_fst ?k1 ?_ ?k6; (case k1 => exact News.isTup (by k_asm) (by k_mem)); (case k6 => with_unfolding_all rfl); k_whole)) | with_reducible ((with_reducible show wpAny _ _ (subscriptTail _ _ (Value.ref _) (Value.int (Nat.cast _) _)) _ _ _); k_here; (with_unfolding_all refine' item_ref ?k1 ?k2 ?k3 ?_ ?k6; (case k1 => exact News.isList (by k_asm) (by k_mem)); (case k2 => first | with_reducible assumption | assumption); (case k3 => omega); (case k6 => with_unfolding_all rfl); k_whole)) | with_reducible ((with_reducible show wpAny _ _ (call (Value.builtin "min") _) _ _ _); k_here; k_dflt (refine' min_b ?kh ?kF ?kN ?kz ?_; (case kh => exact rfl); (case kF => k_asm); (case kN => k_asm); (case kz => first | with_reducible assumption | assumption)); intro h9 tk9 t9 F9 N9) | with_reducible ((with_reducible show wpAny _ _ (call (Value.builtin "len") [Value.ref _]) _ _ _); k_here; k_dflt (refine' kst_len ?k1 ?k2 ?k3 ?k4 ?_; (case k1 => k_asm); (case k2 => k_mem); (case k3 => first | with_reducible assumption | assumption); (case k4 => omega); k_whole)) | with_reducible ((with_reducible show wpAny _ _ (subscriptTail _ _ (Value.ref _) (Value.ref _)) _ _ _); k_here; (with_unfolding_all refine' slice2 ?kF ?kN ?kT ?_ ?k6 ?k7; (case kF => k_asm); (case kN => k_asm); (case kT => exact News.isTup (by k_asm) (by k_mem)); (case k6 => with_unfolding_all rfl); (case k7 => intro _; with_unfolding_all rfl)); intro h9 F9 N9) | with_reducible ((with_reducible show wpAny _ _ (compareOp CmpOp.NotIn (Value.int _ _) (Value.ref _)) _ _ _); k_here; k_dflt (refine' nin_b ?k1 ?k2 ?k3 ?_; (case k1 => exact News.isList (by k_asm) (by k_mem)); (case k2 => first | with_reducible assumption | assumption); (case k3 => first | with_reducible assumption | assumption); k_whole); (try simp only [Bool.not_true, Bool.not_false])) | with_reducible ((with_reducible show wpAny _ _ (compareOp CmpOp.NotEq (Value.ref _) (Value.ref _)) _ _ _); k_here; k_dflt (first | (refine' ne_pair ?k1 ?k2 ?k3 ?k4 ?k5 ?_; (case k1 => k_asm); (case k2 => k_mem); (case k3 => k_mem); (case k4 => first | assumption | apply_assumption); (case k5 => walk_at "mine units")) | (refine' ne_marks ?k1 ?k2 ?k3 ?k4 ?k5 ?k6 ?k7 ?_; (case k1 => k_asm); (case k2 => k_mem); (case k3 => k_mem); (case k4 => exact MarksAre.mono (by assumption) (by walk_at "mine sub")); (case k5 => exact MarksAre.mono (by assumption) (by walk_at "mine sub")); (case k6 => first | with_reducible assumption | assumption); (case k7 => walk_at "mine units")))) | with_reducible refine ite_pos (by decide) ?_ | with_reducible refine ite_neg (by decide) ?_ | walk_at "mine step"))
    rename Fr _ _ _ _ => F9
    rename News _ _ _ _ => N9
    have hsub := subN (RR := RR) N9 (by walk_at "mine sub")
    try dsimp only
    with_reducible refine Hold.out ?_
    refine' sfxL_ok (ks := ks) (mvs := mvs) (rvs := rvs) (evs := evs) (ms := _) B X T (by omega) (by omega) (fr_kst (by (first | ((try dsimp only); (repeat (refine allc rfl ?_)); exact alln) | kst_all)) F9) N9 (by k_mem) (hok _) hrl2 (hsub _ r1) hv (hsub _ hm9) (hsub _ g1) (hsub _ g2) (hsub _ g3) (hsub _ g4) (hsub _ g5) (hsub _ g6) (hsub _ g7) (m1.mono hsub) (m2.mono hsub) ho hE ?_
    intro u h tk F8 N8
    exact key0 rfl F8 N8 (by k_mem) hsub
theorem sfx_ok {prog p9 : Program} {w : World} {loose : List Str} {mean : ExcName → Option Value} {mg mb : Str → Option Value} {dp un : Nat} {gd : Option (List Code)} {a : Addr} {ccd : Value} {outer : List Env} {A₀ : Around} {base h₀ : Heap} {L : Addr} {s : Shared} {Q : Flow → Shared → Prop} {E : Value → Shared → Prop}
    {RR : List (Addr × Obj)} {st kl rw rd rdd sc er erd ero erp mk x d : Addr} {j1 j2 j3 tkk tkp i1 i2 ta0 tf tsp tg : Tok} {val : Value} {RK9 : RK} {rvs evs mvs : List Value} {rn en mn n j a0 : Nat} {ks : List (Int × Int)} {ms ms' : List (Int × Str)} {g : Bool} {f : Str} {sp' : Int} {u0 : Str → Option Value} {ml : List (Addr × Obj)}
    (B : Below A₀ base outer h₀) (X : (KK w.params).In h₀) (T : Top p9 loose mean mg mb h₀) (hd : dp + 12 < recursionLimit) (hu : un + 8 * 12 < cLine)
    (F : Fr h₀ L s.heap (kstB u0 [(Str.ofString "state", Value.ref st), (Str.ofString "kinds", Value.ref kl), (Str.ofString "rows", Value.ref rw), (Str.ofString "rd", Value.ref rd), (Str.ofString "errors", Value.ref er), (Str.ofString "marks", Value.ref mk), (Str.ofString "at", Value.int a0 ta0), (Str.ofString "gone", Value.bool g), (Str.ofString "fault", Value.str f tf), (Str.ofString "spot_of", Value.int sp' tsp)]))
    (N : News h₀ L s.heap ((mk, listOf mvs.toArray mn) :: RR))
    (h8 : ks.length ≤ 8) (hb : ∀ x ∈ ks, 0 ≤ x.1 ∧ x.1 < 9 ∧ 0 ≤ x.2 ∧ x.2 < 3) (hn : n = ks.length)
    (r1 : (rw, listOf rvs.toArray rn) ∈ RR) (r2 : RowsAre RR rvs (rowsF (Str.ofString "") ks ++ [(Str.ofString "eof", ((sayF (Str.ofString "") ks).length : Int), Str.ofString "")]))
    (g1 : (rd, instObj 468 rdd) ∈ RR) (g2 : (rdd, rdD w RK9 sc er x) ∈ RR) (g3 : (x, instObj 38 d) ∈ RR) (g4 : (d, toD w j1 j2 j3 (.str (kdF ks j) tkk) val (.int (qF ks j) tkp)) ∈ RR) (g5 : (er, instObj 510 erd) ∈ RR) (g6 : (erd, erD w i1 i2 ero erp) ∈ RR) (g7 : (ero, listOf evs.toArray en) ∈ RR)
    (hO : OwnOff RR [mk]) (hml : ∀ p ∈ ml, p ∈ RR) (m1 : MarksAre ml mvs ms) (m2 : MarksAre RR evs ms') (ho : ∀ m ∈ ms', PyData.strOk m.2 = true) (hl : ms'.length ≤ 20) (hfl : f.length ≤ 30)
    (ha : a0 ≤ n) (hj : j = if g = true then min (a0 + 1) n else a0)
    (hm : ms' = if (f == Str.ofString "") = false ∧ (ms.any fun m => m.1 == sp') = false then ms ++ [(sp', f)] else ms)
    (hE : PassesOwn (model prog w) (ktrTop dp un gd (Str.ofString "law") lawSc L a ccd [] outer) (envOf (Str.ofString "law") lawSc L a ccd) E)
    (hQ : ∀ (u : Str → Option Value) (mvs' : List Value) mn' (add : List (Addr × Obj)) ta h tk, MarksAre (add ++ ml) mvs' ms' → (∀ p ∈ add, ∀ q ∈ (mk, listOf mvs.toArray mn) :: RR, @LT.lt Nat _ q.1 p.1) →
      Fr h₀ L h (kstB u [(Str.ofString "state", Value.ref st), (Str.ofString "kinds", Value.ref kl), (Str.ofString "rows", Value.ref rw), (Str.ofString "rd", Value.ref rd), (Str.ofString "errors", Value.ref er), (Str.ofString "marks", Value.ref mk), (Str.ofString "at", Value.int j ta)]) →
      News h₀ L h ((mk, listOf mvs'.toArray mn') :: (add ++ RR)) → Q .next { s with heap := h, toks := tk }) :
    wpAny (model prog w) (ktrTop dp un gd (Str.ofString "law") lawSc L a ccd [] outer) (execs sfx (envOf (Str.ofString "law") lawSc L a ccd)) Q E s := by
  have hjn : j ≤ n := by rw [hj]; split <;> omega
  ((have kf : (PySem.Challenge.rw_pq0763_01 = PySem.Challenge.rw_pq0763_01) ∧ (KK = KK) := by (k_fill; exact ⟨rfl, rfl⟩)); clear kf)
  have kmk := kstMark
  unfold lawSc sfx nth5 lawBS lawGet at *
  dsimp only at hE ⊢
  dsimp only [kstB] at F
  have hrl : rvs.length = n + 1 := by rw [r2.length, List.length_append, rowsF_length, List.length_cons, List.length_nil, hn]
  have hrl2 : rvs.length ≤ 100 := by omega
  have hmin : (if ((n + 1 : Nat) : Int) - 1 < (a0 : Int) + 1 then ((n + 1 : Nat) : Int) - 1 else (a0 : Int) + 1) = ((min (a0 + 1) n : Nat) : Int) := by split <;> omega
  have fin : ∀ {u : Str → Option Value} {ta h tk}, Fr h₀ L h (kstB u [(Str.ofString "state", Value.ref st), (Str.ofString "kinds", Value.ref kl), (Str.ofString "rows", Value.ref rw), (Str.ofString "rd", Value.ref rd), (Str.ofString "errors", Value.ref er), (Str.ofString "marks", Value.ref mk), (Str.ofString "at", Value.int j ta), (Str.ofString "fault", Value.str f tf), (Str.ofString "spot_of", Value.int sp' tsp)]) → News h₀ L h ((mk, listOf mvs.toArray mn) :: RR) →
      wpAny (model prog w) (ktrTop dp un gd (Str.ofString "law") lawSc L a ccd [] outer) (execs sfxM (envOf (Str.ofString "law") lawSc L a ccd)) Q E { s with heap := h, toks := tk } := by
    intro u ta h tk F9 N9
    exact sfxM_ok (s := { s with heap := h, toks := tk }) B X T hd hu F9 N9 h8 hb hn r1 r2 g1 g2 g3 g4 g5 g6 g7 hO hml m1 m2 ho hl hfl hjn hm hE hQ
  clear hQ
  cases g
  · simp only [Bool.false_eq_true, if_false] at hj
    subst hj
    repeat ((fail_if_success (with_reducible show wpAny _ _ (execs [_, _] _) _ _ _)); (first | with_reducible ((with_reducible show wpAny _ _ (subscriptTail _ _ (Value.ref _) (Value.int 0 _)) _ _ _); k_here; (with_unfolding_all refine' item_fst ?k1 ?_ ?k6; (case k1 => exact News.isTup (by k_asm) (by k_mem)); (case k6 => with_unfolding_all rfl); k_whole)) | with_reducible ((with_reducible show wpAny _ _ (subscriptTail _ _ (Value.ref _) (Value.int (Nat.cast _) _)) _ _ _); k_here; (with_unfolding_all refine' item_ref ?k1 ?k2 ?k3 ?_ ?k6; (case k1 => exact News.isList (by k_asm) (by k_mem)); (case k2 => first | with_reducible assumption | assumption); (case k3 => omega); (case k6 => with_unfolding_all rfl); k_whole)) | with_reducible ((with_reducible show wpAny _ _ (call (Value.builtin "min") _) _ _ _); k_here; k_dflt (refine' min_b ?kh ?kF ?kN ?kz ?_; (case kh => exact rfl); (case kF => k_asm); (case kN => k_asm); (case kz => first | with_reducible assumption | assumption)); intro h9 tk9 t9 F9 N9) | with_reducible ((with_reducible show wpAny _ _ (call (Value.builtin "len") [Value.ref _]) _ _ _); k_here; k_dflt (refine' kst_len ?k1 ?k2 ?k3 ?k4 ?_; (case k1 => k_asm); (case k2 => k_mem); (case k3 => first | with_reducible assumption | assumption); (case k4 => omega); k_whole)) | with_reducible ((with_reducible show wpAny _ _ (subscriptTail _ _ (Value.ref _) (Value.ref _)) _ _ _); k_here; (with_unfolding_all refine' slice2 ?kF ?kN ?kT ?_ ?k6 ?k7; (case kF => k_asm); (case kN => k_asm); (case kT => exact News.isTup (by k_asm) (by k_mem)); (case k6 => with_unfolding_all rfl); (case k7 => intro _; with_unfolding_all rfl)); intro h9 F9 N9) | with_reducible ((with_reducible show wpAny _ _ (compareOp CmpOp.NotIn (Value.int _ _) (Value.ref _)) _ _ _); k_here; k_dflt (refine' nin_b ?k1 ?k2 ?k3 ?_; (case k1 => exact News.isList (by k_asm) (by k_mem)); (case k2 => first | with_reducible assumption | assumption); (case k3 => first | with_reducible assumption | assumption); k_whole); (try simp only [Bool.not_true, Bool.not_false])) | with_reducible ((with_reducible show wpAny _ _ (compareOp CmpOp.NotEq (Value.ref _) (Value.ref _)) _ _ _); k_here; k_dflt (first | (refine' ne_pair ?k1 ?k2 ?k3 ?k4 ?k5 ?_; (case k1 => k_asm); (case k2 => k_mem); (case k3 => k_mem); (case k4 => first | assumption | apply_assumption); (case k5 => walk_at "mine units")) | (refine' ne_marks ?k1 ?k2 ?k3 ?k4 ?k5 ?k6 ?k7 ?_; (case k1 => k_asm); (case k2 => k_mem); (case k3 => k_mem); (case k4 => exact MarksAre.mono (by assumption) (by walk_at "mine sub")); (case k5 => exact MarksAre.mono (by assumption) (by walk_at "mine sub")); (case k6 => first | with_reducible assumption | assumption); (case k7 => walk_at "mine units")))) | with_reducible refine ite_pos (by decide) ?_ | with_reducible refine ite_neg (by decide) ?_ | walk_at "mine step"))
    rename Fr _ _ _ _ => F9
    rename News _ _ _ _ => N9
    exact fin (fr_kst (by (first | ((try dsimp only); (repeat (refine allc rfl ?_)); exact alln) | kst_all)) F9) N9
  · simp only [if_true] at hj
    subst hj
    repeat ((fail_if_success (with_reducible show wpAny _ _ (execs [_, _] _) _ _ _)); (first | with_reducible ((with_reducible show wpAny _ _ (subscriptTail _ _ (Value.ref _) (Value.int 0 _)) _ _ _); k_here; (with_unfolding_all refine' item_fst ?k1 ?_ ?k6; (case k1 => exact News.isTup (by k_asm) (by k_mem)); (case k6 => with_unfolding_all rfl); k_whole)) | with_reducible ((with_reducible show wpAny _ _ (subscriptTail _ _ (Value.ref _) (Value.int (Nat.cast _) _)) _ _ _); k_here; (with_unfolding_all refine' item_ref ?k1 ?k2 ?k3 ?_ ?k6; (case k1 => exact News.isList (by k_asm) (by k_mem)); (case k2 => first | with_reducible assumption | assumption); (case k3 => omega); (case k6 => with_unfolding_all rfl); k_whole)) | with_reducible ((with_reducible show wpAny _ _ (call (Value.builtin "min") _) _ _ _); k_here; k_dflt (refine' min_b ?kh ?kF ?kN ?kz ?_; (case kh => exact rfl); (case kF => k_asm); (case kN => k_asm); (case kz => first | with_reducible assumption | assumption)); intro h9 tk9 t9 F9 N9) | with_reducible ((with_reducible show wpAny _ _ (call (Value.builtin "len") [Value.ref _]) _ _ _); k_here; k_dflt (refine' kst_len ?k1 ?k2 ?k3 ?k4 ?_; (case k1 => k_asm); (case k2 => k_mem); (case k3 => first | with_reducible assumption | assumption); (case k4 => omega); k_whole)) | with_reducible ((with_reducible show wpAny _ _ (subscriptTail _ _ (Value.ref _) (Value.ref _)) _ _ _); k_here; (with_unfolding_all refine' slice2 ?kF ?kN ?kT ?_ ?k6 ?k7; (case kF => k_asm); (case kN => k_asm); (case kT => exact News.isTup (by k_asm) (by k_mem)); (case k6 => with_unfolding_all rfl); (case k7 => intro _; with_unfolding_all rfl)); intro h9 F9 N9) | with_reducible ((with_reducible show wpAny _ _ (compareOp CmpOp.NotIn (Value.int _ _) (Value.ref _)) _ _ _); k_here; k_dflt (refine' nin_b ?k1 ?k2 ?k3 ?_; (case k1 => exact News.isList (by k_asm) (by k_mem)); (case k2 => first | with_reducible assumption | assumption); (case k3 => first | with_reducible assumption | assumption); k_whole); (try simp only [Bool.not_true, Bool.not_false])) | with_reducible ((with_reducible show wpAny _ _ (compareOp CmpOp.NotEq (Value.ref _) (Value.ref _)) _ _ _); k_here; k_dflt (first | (refine' ne_pair ?k1 ?k2 ?k3 ?k4 ?k5 ?_; (case k1 => k_asm); (case k2 => k_mem); (case k3 => k_mem); (case k4 => first | assumption | apply_assumption); (case k5 => walk_at "mine units")) | (refine' ne_marks ?k1 ?k2 ?k3 ?k4 ?k5 ?k6 ?k7 ?_; (case k1 => k_asm); (case k2 => k_mem); (case k3 => k_mem); (case k4 => exact MarksAre.mono (by assumption) (by walk_at "mine sub")); (case k5 => exact MarksAre.mono (by assumption) (by walk_at "mine sub")); (case k6 => first | with_reducible assumption | assumption); (case k7 => walk_at "mine units")))) | with_reducible refine ite_pos (by decide) ?_ | with_reducible refine ite_neg (by decide) ?_ | walk_at "mine step"))
    rename Fr _ _ _ _ => F9
    rename News _ _ _ _ => N9
    exact fin (fr_kst (by (first | ((try dsimp only); (repeat (refine allc rfl ?_)); exact alln) | kst_all)) F9) N9
theorem CtQ.u0 {prog : Program} {w : World} {d9 : Nat} {f : Addr} {vs : List Value} {led : List (Addr × Obj)} {V : Value} (C : CtQ prog w d9 f vs led (fun v l => v = V ∧ l = led))
    {p : Program} {loose : List Str} {mean : ExcName → Option Value} {mg mb : Str → Option Value} {dp un : Nat} {gd : Option (List Code)} {cn : Str} {cs : Scope} {a : Addr} {ccd : Value} {cl : List (Str × Addr)} {outer : List Env} {A₀ : Around} {base h₀ : Heap} {L : Addr} {m : Str → Option Value} {s : Shared} {Q : Value → Shared → Prop} {E : Value → Shared → Prop}
    (B : Below A₀ base outer h₀) (F : Fr h₀ L s.heap m) (X : (KK w.params).In h₀) (N : News h₀ L s.heap led) (T : Top p loose mean mg mb h₀) (hk : cs.kind = .function) (hd : dp + d9 < recursionLimit) (hu : un + 8 * d9 < cLine)
    (ret : ∀ h' tk', Fr h₀ L h' m → News h₀ L h' led → Q V { s with heap := h', toks := tk' }) :
    wpAny (model prog w) (ktrTop dp un gd cn cs L a ccd cl outer) (call (.ref f) vs) Q E s :=
  CtQ.use C B F X N T hk hd hu fun v l h' tk' hp F' N' => by obtain ⟨rfl, rfl⟩ := hp; exact ret h' tk' F' N'
theorem CtQ.uv {prog : Program} {w : World} {d9 : Nat} {f : Addr} {vs : List Value} {led : List (Addr × Obj)} {V : Value} {R : List (Addr × Obj) → Prop} (C : CtQ prog w d9 f vs led (fun v l => v = V ∧ R l))
    {p : Program} {loose : List Str} {mean : ExcName → Option Value} {mg mb : Str → Option Value} {dp un : Nat} {gd : Option (List Code)} {cn : Str} {cs : Scope} {a : Addr} {ccd : Value} {cl : List (Str × Addr)} {outer : List Env} {A₀ : Around} {base h₀ : Heap} {L : Addr} {m : Str → Option Value} {s : Shared} {Q : Value → Shared → Prop} {E : Value → Shared → Prop}
    (B : Below A₀ base outer h₀) (F : Fr h₀ L s.heap m) (X : (KK w.params).In h₀) (N : News h₀ L s.heap led) (T : Top p loose mean mg mb h₀) (hk : cs.kind = .function) (hd : dp + d9 < recursionLimit) (hu : un + 8 * d9 < cLine)
    (ret : ∀ l h' tk', R l → Fr h₀ L h' m → News h₀ L h' l → Q V { s with heap := h', toks := tk' }) :
    wpAny (model prog w) (ktrTop dp un gd cn cs L a ccd cl outer) (call (.ref f) vs) Q E s :=
  CtQ.use C B F X N T hk hd hu fun v l h' tk' hp F' N' => by obtain ⟨rfl, hp⟩ := hp; exact ret l h' tk' hp F' N'
noncomputable def addM (ms : List (Int × Str)) (p : Int) (code : Str) : List (Int × Str) := if (ms.any fun m => m.1 == p) = false then ms ++ [(p, code)] else ms
/-- what never changes about the reader -/
structure RS where
  w : World
  R : RK
  rd : Addr
  rdd : Addr
  sc : Addr
  scd : Addr
  er : Addr
  erd : Addr
  ero : Addr
  erp : Addr
  wa : Addr
  k1 : Tok
  k2 : Tok
  k3 : Tok
  k4 : Tok
  t0 : Tok
  i1 : Tok
  i2 : Tok
  ks : List (Int × Int)
  ws : List Value
  wn : Nat
noncomputable abbrev RS.src (S : RS) : Str := sayF (Str.ofString "") S.ks
noncomputable abbrev RS.led (S : RS) (c : TS) (evs : List Value) (en : Nat) (po : Obj) : List (Addr × Obj) :=
  [c.inst, c.obj S.w (kdF S.ks) (qF S.ks), (S.scd, scD S.w S.k1 S.k2 S.k3 S.k4 S.src S.t0 (.ref S.er) (eF S.ks c.i) c.t (.ref S.wa)), (S.rdd, rdD S.w S.R S.sc S.er c.x), (S.ero, listOf evs.toArray en), (S.erp, po)]
structure RS.Ok (S : RS) (rest : List (Addr × Obj)) : Prop where
  h8 : S.ks.length ≤ 8
  hb : ∀ x ∈ S.ks, 0 ≤ x.1 ∧ x.1 < 9 ∧ 0 ≤ x.2 ∧ x.2 < 3
  g1 : (S.rd, instObj 468 S.rdd) ∈ rest
  h1 : (S.sc, instObj 186 S.scd) ∈ rest
  hw : (S.wa, tupO S.ws S.wn) ∈ rest
  hws : StrsAre S.ws kwords
  g5 : (S.er, instObj 510 S.erd) ∈ rest
  g6 : (S.erd, erD S.w S.i1 S.i2 S.ero S.erp) ∈ rest
  o1 : OwnOff rest [S.scd]
  o2 : OwnOff rest [S.rdd]
  o3 : OwnOff rest [S.ero]
  o4 : OwnOff rest [S.erp]
  n1 : @Ne Nat S.rdd S.scd
  n2 : @Ne Nat S.ero S.scd
  n3 : @Ne Nat S.erp S.scd
  n4 : @Ne Nat S.ero S.rdd
  n5 : @Ne Nat S.erp S.rdd
  n6 : @Ne Nat S.ero S.erp
  sys : (S.erp == sysModules) = false
structure RS.At (S : RS) (prog : Program) (rest ml : List (Addr × Obj)) (c : TS) (evs : List Value) (po : Obj) (ms : List (Int × Str)) : Prop where
  hi : c.i ≤ S.ks.length
  hV : VF S.ks c.i c.val
  off : c.Off rest
  x1 : @Ne Nat c.x S.scd
  x2 : @Ne Nat c.x S.rdd
  x3 : @Ne Nat c.x S.ero
  x4 : @Ne Nat c.x S.erp
  d1 : @Ne Nat c.d S.scd
  d2 : @Ne Nat c.d S.rdd
  d3 : @Ne Nat c.d S.ero
  d4 : @Ne Nat c.d S.erp
  m : MarksAre ml evs ms
  hl : ms.length ≤ 19
  dict : ∃ kvs D, po.IsDictOf (intKind prog S.w) kvs ∧ FlatPairs PyData.int kvs D ∧ D.length ≤ ms.length ∧ ∀ p, (PySem.Spec.lookup (PyData.int p) D).isSome = ms.any fun m => m.1 == p
/-- what a reader's method leaves behind -/
noncomputable def RS.Out (S : RS) (prog : Program) (rest ml : List (Addr × Obj)) (c : TS) (all : List (Addr × Obj)) (ms' : List (Int × Str)) (l : List (Addr × Obj)) (P : TS → List (Addr × Obj) → Prop) : Prop :=
  ∃ c' evs' en' po' more, l = S.led c' evs' en' po' ++ (more ++ rest) ∧ S.At prog (more ++ rest) (more ++ ml) c' evs' po' ms' ∧ P c' more ∧ (∀ p ∈ c'.inst :: c'.obj S.w (kdF S.ks) (qF S.ks) :: more, (p.1 = c.x ∨ p.1 = c.d) ∨ ∀ q ∈ all, @LT.lt Nat _ q.1 p.1)
section
variable {S : RS} {prog : Program} {rest ml : List (Addr × Obj)} {c : TS} {evs : List Value} {en : Nat} {po : Obj} {ms : List (Int × Str)}
theorem RS.Ok.toks (h : S.Ok rest) : Toks kwords S.src S.ks.length (kdF S.ks) (VF S.ks) (qF S.ks) (eF S.ks) := toks_of h.h8 h.hb
theorem RS.Ok.srcl (h : S.Ok rest) : S.src.length < 2 ^ 20 := by
  have h1 := sayF_len (Str.ofString "") S.ks
  rw [show (Str.ofString "").length = 0 by decide +kernel] at h1
  have := h.h8
  show (sayF _ _).length < _
  omega
theorem Off_cons {c : TS} {a : Addr × Obj} {l : List (Addr × Obj)} (h : c.Off l) (h1 : @Ne Nat a.1 c.x) (h2 : @Ne Nat a.1 c.d) : c.Off (a :: l) := ⟨fun p hp => by
  rcases List.mem_cons.mp hp with e | hp
  · rw [e]; exact h1
  · exact h.x p hp, fun p hp => by
  rcases List.mem_cons.mp hp with e | hp
  · rw [e]; exact h2
  · exact h.d p hp⟩
theorem c_step (K : S.Ok rest) (C : S.At prog rest ml c evs po ms) :
    CtQ prog S.w 6 395 [.ref S.rd] (S.led c evs en po ++ rest) (fun v l => v = .ref c.x ∧ S.Out prog rest ml c (S.led c evs en po ++ rest) ms l (fun c' more => c'.i = min (c.i + 1) S.ks.length ∧ more = [c.inst, c.obj S.w (kdF S.ks) (qF S.ks)])) := by
  have K0 := step_at (prog := prog) (w := S.w) (R := S.R) (sc := S.sc) (er := S.er) (wa := S.wa) (k1 := S.k1) (k2 := S.k2) (k3 := S.k3) (k4 := S.k4) (t0 := S.t0) (c := c) (rest := (S.ero, listOf evs.toArray en) :: (S.erp, po) :: rest) K.toks (.tail _ (.tail _ K.g1)) (.tail _ (.tail _ K.h1)) (.tail _ (.tail _ K.hw)) K.hws (off_cons K.n2 (off_cons K.n3 K.o1)) (off_cons K.n4 (off_cons K.n5 K.o2)) K.n1 K.srcl C.hi C.x1 C.d1 C.x2 C.d2
  refine CtQ.weak K0 ?_
  rintro v l ⟨rfl, c', hi', hV', rfl, o1, o2, o3, o4, o5, o6⟩
  refine ⟨S.led c' evs en po ++ ([c.inst, c.obj S.w (kdF S.ks) (qF S.ks)] ++ rest), ?_, rfl, c', evs, en, po, _, rfl, ?_, ⟨hi', rfl⟩, ?_⟩
  · dsimp only [RS.led, List.cons_append, List.nil_append]
    iterate 8 refine allc (by k_mem) ?_
    walk_at "mine sub"
  · have hrest : ∀ p ∈ rest, @LT.lt Nat _ p.1 c'.d := fun p hp => o1 p (.tail _ (.tail _ hp))
    have e1 := o1 _ (.head _)
    have e2 := o1 _ (.tail _ (.head _))
    refine ⟨by omega, hV', Off_cons (Off_cons ⟨fun p hp => ?_, fun p hp => ?_⟩ ?_ ?_) ?_ ?_, ?_, ?_, ?_, ?_, ?_, ?_, ?_, ?_, C.m.mono fun p hp => .tail _ (.tail _ hp), C.hl, C.dict⟩
    · have := hrest p hp; omega
    · have := hrest p hp; omega
    all_goals (try dsimp only)
    all_goals omega
  · intro p hp
    rcases List.mem_cons.mp hp with e | hp
    · right; intro q hq; rw [e]
      simp only [RS.led, List.cons_append, List.nil_append, List.mem_cons] at hq
      rcases hq with h | h | h | h | h | h | h
      all_goals first
        | (rw [h]; dsimp only; omega)
        | (rw [h]; have := o1 _ (.head _); dsimp only at this ⊢; omega)
        | (rw [h]; have := o1 _ (.tail _ (.head _)); dsimp only at this ⊢; omega)
        | (have := o1 q (.tail _ (.tail _ h)); dsimp only; omega)
    rcases List.mem_cons.mp hp with e | hp
    · right; intro q hq; rw [e]
      simp only [RS.led, List.cons_append, List.nil_append, List.mem_cons] at hq
      rcases hq with h | h | h | h | h | h | h
      all_goals first
        | (rw [h]; dsimp only; omega)
        | (rw [h]; have := o1 _ (.head _); dsimp only at this ⊢; omega)
        | (rw [h]; have := o1 _ (.tail _ (.head _)); dsimp only at this ⊢; omega)
        | (have := o1 q (.tail _ (.tail _ h)); dsimp only; omega)
    · left
      rcases List.mem_cons.mp hp with e | hp
      · exact .inl (by rw [e])
      · exact .inr (by rw [List.mem_singleton.mp hp])
theorem S_in (hp : p ∈ rest) : p ∈ S.led c evs en po ++ rest := List.mem_append_right _ hp
theorem any_app (ms : List (Int × Str)) (p z : Int) (code : Str) : ((ms ++ [(p, code)]).any fun m => m.1 == z) = ((ms.any fun m => m.1 == z) || (p == z)) := by simp
theorem c_mark {code : Str} {tc : Tok} (K : S.Ok rest) (C : S.At prog rest ml c evs po ms) (hl : ms.length ≤ 18) :
    CtQ prog S.w 1 493 [.ref S.er, .int (qF S.ks c.i) c.tp, .str code tc] (S.led c evs en po ++ rest) (fun v l => S.Out prog rest ml c (S.led c evs en po ++ rest) (addM ms (qF S.ks c.i) code) l (fun c' more => c' = c)) := by
  obtain ⟨kvs, D, hd, hf, hD, hp⟩ := C.dict
  cases hb : ms.any fun m => m.1 == qF S.ks c.i
  · have hlen : evs.length ≤ 100 := by rw [C.m.length]; omega
    have K0 := emark_no (prog := prog) (w := S.w) (rest := c.inst :: c.obj S.w (kdF S.ks) (qF S.ks) :: (S.scd, scD S.w S.k1 S.k2 S.k3 S.k4 S.src S.t0 (.ref S.er) (eF S.ks c.i) c.t (.ref S.wa)) :: (S.rdd, rdD S.w S.R S.sc S.er c.x) :: rest) (tp := c.tp) (tc := tc) (code := code) (n := en) (vs := evs)
      (.tail _ (.tail _ (.tail _ (.tail _ K.g5)))) (.tail _ (.tail _ (.tail _ (.tail _ K.g6)))) (off_cons C.x3 (off_cons C.d3 (off_cons (by have := K.n2; omega) (off_cons (by have := K.n4; omega) K.o3)))) (off_cons C.x4 (off_cons C.d4 (off_cons (by have := K.n3; omega) (off_cons (by have := K.n5; omega) K.o4)))) K.n6 hd hf K.sys (by omega) hlen (by rw [hp]; exact hb)
    refine CtQ.weak (CtQ.of_news ?_ K0) ?_
    · dsimp only [RS.led, List.cons_append, List.nil_append]
      iterate 6 refine allc (by k_mem) ?_
      walk_at "mine sub"
    · rintro v l ⟨rfl, a, po', n', rfl, hd', hf', o1, o2, o3⟩
      have e1 : @LT.lt Nat _ c.x a := o1 _ (.head _)
      have e2 : @LT.lt Nat _ c.d a := o1 _ (.tail _ (.head _))
      have e3 : @LT.lt Nat _ S.scd a := o1 _ (.tail _ (.tail _ (.head _)))
      have e4 : @LT.lt Nat _ S.rdd a := o1 _ (.tail _ (.tail _ (.tail _ (.head _))))
      have hrest : ∀ p ∈ rest, @LT.lt Nat _ p.1 a := fun p hp => o1 p (.tail _ (.tail _ (.tail _ (.tail _ hp))))
      have ea : addM ms (qF S.ks c.i) code = ms ++ [(qF S.ks c.i, code)] := by unfold addM; rw [hb, if_pos rfl]
      refine ⟨S.led c (evs ++ [Value.ref a]) (en + 1) po' ++ ([(a, tupO [.int (qF S.ks c.i) c.tp, .str code tc] n')] ++ rest), ?_, c, _, _, _, _, rfl, ?_, rfl, ?_⟩
      · dsimp only [RS.led, List.cons_append, List.nil_append]
        iterate 7 refine allc (by k_mem) ?_
        walk_at "mine sub"
      · rw [ea]
        refine ⟨C.hi, C.hV, Off_cons C.off ?_ ?_, C.x1, C.x2, C.x3, C.x4, C.d1, C.d2, C.d3, C.d4, (C.m.mono fun p hp => .tail _ hp).snoc (.head _), by rw [List.length_append, List.length_singleton]; omega, _, _, hd', hf', ?_, ?_⟩
        · dsimp only; omega
        · dsimp only; omega
        · rw [List.length_append, List.length_singleton]
          exact Nat.le_trans (putD_length_le _ _ _) (by omega)
        · intro z
          rw [any_app, ← hp z, lookup_putK keyEnc_int]
          by_cases e : z = qF S.ks c.i
          · subst e; simp
          · rw [if_neg e, show (qF S.ks c.i == z) = false from beq_eq_false_iff_ne.mpr fun h => e h.symm, Bool.or_false]
      · intro p hq
        rcases List.mem_cons.mp hq with h | hq
        · exact .inl (.inl (by rw [h]))
        rcases List.mem_cons.mp hq with h | hq
        · exact .inl (.inr (by rw [h]))
        · right; intro q hq'
          rw [List.mem_singleton.mp hq]
          simp only [RS.led, List.cons_append, List.nil_append, List.mem_cons] at hq'
          rcases hq' with h | h | h | h | h | h | h
          all_goals first
            | (rw [h]; dsimp only; omega)
            | (have := hrest q h; dsimp only; omega)
  · have K0 := emark_yes (prog := prog) (w := S.w) (led := S.led c evs en po ++ rest) (er := S.er) (tp := c.tp) (cv := .str code tc) (S_in K.g5) (S_in K.g6) (.tail _ (.tail _ (.tail _ (.tail _ (.tail _ (.head _)))))) hd hf K.sys (by rw [hp]; exact hb)
    refine CtQ.post K0 ?_
    rintro v l ⟨rfl, rfl⟩
    have ea : addM ms (qF S.ks c.i) code = ms := by unfold addM; rw [hb, if_neg (by decide)]
    rw [ea]
    refine ⟨c, evs, en, po, [], rfl, C, rfl, ?_⟩
    intro p hq
    rcases List.mem_cons.mp hq with h | hq
    · exact .inl (.inl (by rw [h]))
    · exact .inl (.inr (by rw [List.mem_singleton.mp hq]))
theorem c_rmark {code : Str} {tc : Tok} (K : S.Ok rest) (C : S.At prog rest ml c evs po ms) (hl : ms.length ≤ 18) :
    CtQ prog S.w 2 423 [.ref S.rd, .str code tc] (S.led c evs en po ++ rest) (fun v l => v = .none ∧ S.Out prog rest ml c (S.led c evs en po ++ rest) (addM ms (qF S.ks c.i) code) l (fun c' more => c' = c)) := by
  refine CtQ.post (rmark_ok (S_in K.g1) (.tail _ (.tail _ (.tail _ (.head _)))) (.head _) (.tail _ (.head _)) (S_in K.g5) (S_in K.g6) (c_mark K C hl)) ?_
  rintro v l ⟨rfl, v0, h⟩
  exact ⟨rfl, h⟩
theorem c_at {kind : Str} {tq : Tok} {b : Bool} (K : S.Ok rest) (hb : (kdF S.ks c.i == kind) = b) :
    CtQ prog S.w 1 402 [.ref S.rd, .str kind tq] (S.led c evs en po ++ rest) (fun v l => v = .bool b ∧ l = S.led c evs en po ++ rest) :=
  at_ok (S_in K.g1) (.tail _ (.tail _ (.tail _ (.head _)))) (.head _) (.tail _ (.head _)) hb
theorem c_skip1 {kind : Str} {tq : Tok} (K : S.Ok rest) (C : S.At prog rest ml c evs po ms) (hb : (kdF S.ks c.i == kind) = true) :
    CtQ prog S.w 7 409 [.ref S.rd, .str kind tq] (S.led c evs en po ++ rest) (fun v l => v = .bool true ∧ S.Out prog rest ml c (S.led c evs en po ++ rest) ms l (fun c' more => c'.i = min (c.i + 1) S.ks.length ∧ more = [c.inst, c.obj S.w (kdF S.ks) (qF S.ks)])) := by
  refine CtQ.post (skip_yes (S_in K.g1) (.tail _ (.tail _ (.tail _ (.head _)))) (.head _) (.tail _ (.head _)) hb (c_step K C)) ?_
  rintro v l ⟨rfl, v0, _, h⟩
  exact ⟨rfl, h⟩
theorem c_skip0 {kind : Str} {tq : Tok} (K : S.Ok rest) (hb : (kdF S.ks c.i == kind) = false) :
    CtQ prog S.w 7 409 [.ref S.rd, .str kind tq] (S.led c evs en po ++ rest) (fun v l => v = .bool false ∧ l = S.led c evs en po ++ rest) :=
  skip_no (S_in K.g1) (.tail _ (.tail _ (.tail _ (.head _)))) (.head _) (.tail _ (.head _)) hb
theorem c_expect1 {kind : Str} {tq : Tok} (K : S.Ok rest) (C : S.At prog rest ml c evs po ms) (hb : (kdF S.ks c.i == kind) = true) :
    CtQ prog S.w 8 416 [.ref S.rd, .str kind tq] (S.led c evs en po ++ rest) (fun v l => v = .bool true ∧ S.Out prog rest ml c (S.led c evs en po ++ rest) ms l (fun c' more => c'.i = min (c.i + 1) S.ks.length ∧ more = [c.inst, c.obj S.w (kdF S.ks) (qF S.ks)])) := by
  have K0 : CtQ prog S.w 7 409 [.ref S.rd, .str kind tq] (S.led c evs en po ++ rest) (fun v l => v = .bool true ∧ ∃ v0 : Value, S.Out prog rest ml c (S.led c evs en po ++ rest) ms l (fun c' more => c'.i = min (c.i + 1) S.ks.length ∧ more = [c.inst, c.obj S.w (kdF S.ks) (qF S.ks)])) := CtQ.post (c_skip1 K C hb) fun v l h => ⟨h.1, .none, h.2⟩
  refine CtQ.post (expect_yes (S_in K.g1) (.tail _ (.tail _ (.tail _ (.head _)))) K0) ?_
  rintro v l ⟨rfl, v0, h⟩
  exact ⟨rfl, h⟩
theorem c_expect0 {kind : Str} {tq : Tok} {b : Bool} (K : S.Ok rest) (C : S.At prog rest ml c evs po ms) (hl : ms.length ≤ 18) (hb : (kdF S.ks c.i == kind) = false) (hi : (kind == Str.ofString "ident") = b) (hk : kind.length ≤ 100) :
    CtQ prog S.w 8 416 [.ref S.rd, .str kind tq] (S.led c evs en po ++ rest) (fun v l => v = .bool false ∧ S.Out prog rest ml c (S.led c evs en po ++ rest) (addM ms (qF S.ks c.i) (Str.ofString "expected " ++ if b = true then Str.ofString "identifier" else kind)) l (fun c' more => c' = c)) := by
  refine CtQ.post (expect_no (S_in K.g1) (.tail _ (.tail _ (.tail _ (.head _)))) (.head _) (.tail _ (.head _)) hb hi hk (fun tc => c_rmark K C hl)) ?_
  rintro v l ⟨rfl, tc, v0, _, h⟩
  exact ⟨rfl, h⟩
theorem c_name1 (K : S.Ok rest) (C : S.At prog rest ml c evs po ms) (hb : (kdF S.ks c.i == Str.ofString "ident") = true) :
    CtQ prog S.w 8 430 [.ref S.rd] (S.led c evs en po ++ rest) (fun v l => v = .ref c.x ∧ S.Out prog rest ml c (S.led c evs en po ++ rest) ms l (fun c' more => c'.i = min (c.i + 1) S.ks.length ∧ more = [c.inst, c.obj S.w (kdF S.ks) (qF S.ks)])) :=
  name_yes (S_in K.g1) (.tail _ (.tail _ (.tail _ (.head _)))) (.head _) (.tail _ (.head _)) hb (c_step K C)
theorem c_name0 (K : S.Ok rest) (C : S.At prog rest ml c evs po ms) (hl : ms.length ≤ 18) (hb : (kdF S.ks c.i == Str.ofString "ident") = false) :
    CtQ prog S.w 8 430 [.ref S.rd] (S.led c evs en po ++ rest) (fun v l => v = .none ∧ S.Out prog rest ml c (S.led c evs en po ++ rest) (addM ms (qF S.ks c.i) (Str.ofString "expected identifier")) l (fun c' more => c' = c)) := by
  refine CtQ.post (name_no (S_in K.g1) (.tail _ (.tail _ (.tail _ (.head _)))) (.head _) (.tail _ (.head _)) hb (fun tc => c_rmark K C hl)) ?_
  rintro v l ⟨rfl, tc, v0, _, h⟩
  exact ⟨rfl, h⟩
theorem c_skipto {kl : Addr} {kvs : List Value} {kn' : Nat} {ka kb : Str} (K : S.Ok rest) (C : S.At prog rest ml c evs po ms) (hkl : (kl, listOf kvs.toArray kn') ∈ rest) (hkv : StrsAre kvs [ka, kb]) :
    CtQ prog S.w 7 465 [.ref S.rd, .ref kl] (S.led c evs en po ++ rest) (fun v l => v = .none ∧ ∃ c' : TS, c.i ≤ c'.i ∧ c'.i ≤ S.ks.length ∧ (∀ m, c.i ≤ m → m < c'.i → ([ka, kb].any fun x => x == kdF S.ks m) = false) ∧ (c'.i = S.ks.length ∨ ([ka, kb].any fun x => x == kdF S.ks c'.i) = true) ∧ S.At prog rest ml c' evs po ms ∧ l = S.led c' evs en po ++ rest) := by
  have hx : c.Off ((S.ero, listOf evs.toArray en) :: (S.erp, po) :: rest) := Off_cons (Off_cons C.off (by have := C.x4; dsimp only; omega) (by have := C.d4; dsimp only; omega)) (by have := C.x3; dsimp only; omega) (by have := C.d3; dsimp only; omega)
  have K0 := skipto_ok (prog := prog) (w := S.w) (R := S.R) (sc := S.sc) (er := S.er) (wa := S.wa) (k1 := S.k1) (k2 := S.k2) (k3 := S.k3) (k4 := S.k4) (t0 := S.t0) (c0 := c) (kl := kl) (rest := (S.ero, listOf evs.toArray en) :: (S.erp, po) :: rest) (tq2 := 0) K.toks (.tail _ (.tail _ K.g1)) (.tail _ (.tail _ K.h1)) (.tail _ (.tail _ K.hw)) K.hws (off_cons K.n2 (off_cons K.n3 K.o1)) (off_cons K.n4 (off_cons K.n5 K.o2)) K.n1 K.srcl (.tail _ (.tail _ hkl)) hkv C.hi C.hV hx C.x1 C.d1 C.x2 C.d2
  refine CtQ.post K0 ?_
  rintro v l ⟨rfl, c', a1, a2, a3, a4, a5, a6, a7, a8, a9, a10, rfl⟩
  have y1 := a6.x _ (.head _)
  have y2 := a6.d _ (.head _)
  have y3 := a6.x _ (.tail _ (.head _))
  have y4 := a6.d _ (.tail _ (.head _))
  dsimp only at y1 y2 y3 y4
  refine ⟨rfl, c', a1, a2, a3, a4, ⟨a2, a5, ⟨fun p hp => a6.x p (.tail _ (.tail _ hp)), fun p hp => a6.d p (.tail _ (.tail _ hp))⟩, a7, a9, fun e => y1 e.symm, fun e => y3 e.symm, a8, a10, fun e => y2 e.symm, fun e => y4 e.symm, C.m, C.hl, C.dict⟩, rfl⟩
end
noncomputable def chain : Stmt := (nth5 turn2 rfl).1
theorem Ok_cons {S : RS} {rest : List (Addr × Obj)} {p : Addr × Obj} (K : S.Ok rest) (h1 : @Ne Nat p.1 S.scd) (h2 : @Ne Nat p.1 S.rdd) (h3 : @Ne Nat p.1 S.ero) (h4 : @Ne Nat p.1 S.erp) : S.Ok (p :: rest) :=
  ⟨K.h8, K.hb, .tail _ K.g1, .tail _ K.h1, .tail _ K.hw, K.hws, .tail _ K.g5, .tail _ K.g6, off_cons h1 K.o1, off_cons h2 K.o2, off_cons h3 K.o3, off_cons h4 K.o4, K.n1, K.n2, K.n3, K.n4, K.n5, K.n6, K.sys⟩
theorem At_cons {S : RS} {prog : Program} {rest ml : List (Addr × Obj)} {p : Addr × Obj} {c : TS} {evs : List Value} {po : Obj} {ms : List (Int × Str)} (C : S.At prog rest ml c evs po ms) (h1 : @Ne Nat p.1 c.x) (h2 : @Ne Nat p.1 c.d) : S.At prog (p :: rest) ml c evs po ms :=
  ⟨C.hi, C.hV, Off_cons C.off h1 h2, C.x1, C.x2, C.x3, C.x4, C.d1, C.d2, C.d3, C.d4, C.m, C.hl, C.dict⟩
noncomputable abbrev fr1 (S : RS) (st kl rw mk : Addr) (a0 : Int) (ta : Tok) : List (Str × Value) :=
  [(Str.ofString "state", Value.ref st), (Str.ofString "kinds", Value.ref kl), (Str.ofString "rows", Value.ref rw), (Str.ofString "rd", Value.ref S.rd), (Str.ofString "errors", Value.ref S.er), (Str.ofString "marks", Value.ref mk), (Str.ofString "at", Value.int a0 ta)]
noncomputable def growM (ms : List (Int × Str)) (p : Int) (f : Str) : List (Int × Str) := if (f == Str.ofString "") = false then addM ms p f else ms
theorem growM_nil (ms : List (Int × Str)) (p : Int) : growM ms p (Str.ofString "") = ms := by unfold growM; rw [if_neg (by decide +kernel)]
theorem growM_c {f : Str} (h : (f == Str.ofString "") = false) (ms : List (Int × Str)) (p : Int) : growM ms p f = addM ms p f := by unfold growM; rw [if_pos h]
theorem exp_in {P : Str → Bool} (h : kindsL.all P = true) (hd : P (Str.ofString "") = true) (k : Int) : P (kn k) = true := getD_in (P := fun x => P x = true) (fun x hx => List.all_eq_true.mp h x hx) hd _
theorem exp_ok (k : Int) : PyData.strOk (Str.ofString "expected " ++ kn k) = true := exp_in (P := fun x => PyData.strOk (Str.ofString "expected " ++ x)) (by decide +kernel) (by decide +kernel) k
theorem exp_ne (k : Int) : ((Str.ofString "expected " ++ kn k) == Str.ofString "") = false := by
  have h := exp_in (P := fun x => !((Str.ofString "expected " ++ x) == Str.ofString "")) (by decide +kernel) (by decide +kernel) k
  cases e : ((Str.ofString "expected " ++ kn k) == Str.ofString "") with
  | false => rfl
  | true => rw [e] at h; cases h
theorem Out_id {S : RS} {prog : Program} {rest ml all : List (Addr × Obj)} {c : TS} {evs : List Value} {en : Nat} {po : Obj} {ms : List (Int × Str)} {P : TS → List (Addr × Obj) → Prop} (C : S.At prog rest ml c evs po ms) (hp : P c []) : S.Out prog rest ml c all ms (S.led c evs en po ++ rest) P :=
  ⟨c, evs, en, po, [], rfl, C, hp, fun p hq => by
    rcases List.mem_cons.mp hq with h | hq
    · exact .inl (.inl (by rw [h]))
    · exact .inl (.inr (by rw [List.mem_singleton.mp hq]))⟩
theorem Out_mono {S : RS} {prog : Program} {rest ml all l : List (Addr × Obj)} {c : TS} {ms ms' : List (Int × Str)} {P P' : TS → List (Addr × Obj) → Prop} (h : S.Out prog rest ml c all ms l P) (e : ms' = ms) (hp : ∀ c' more, P c' more → P' c' more) : S.Out prog rest ml c all ms' l P' := by
  subst e
  obtain ⟨c', evs', en', po', more, h1, h2, h3, h4⟩ := h
  exact ⟨c', evs', en', po', more, h1, h2, hp _ _ h3, h4⟩
section
variable {S : RS} {prog p9 : Program} {loose : List Str} {mean : ExcName → Option Value} {mg mb : Str → Option Value} {dp un : Nat} {gd : Option (List Code)} {a : Addr} {ccd : Value} {outer : List Env} {A₀ : Around} {base h₀ : Heap} {L : Addr} {s : Shared} {Q : Flow → Shared → Prop} {E : Value → Shared → Prop}
    {rest ml : List (Addr × Obj)} {c : TS} {evs : List Value} {en : Nat} {po : Obj} {ms : List (Int × Str)} {st kl rw mk : Addr} {kk : Int} {td tk1 th tsp tsg tf ta : Tok} {u0 : Str → Option Value}
theorem br0_ok
    (B : Below A₀ base outer h₀) (X : (KK S.w.params).In h₀) (T : Top p9 loose mean mg mb h₀) (hd : dp + 12 < recursionLimit) (hu : un + 8 * 12 < cLine)
    (K : S.Ok rest) (C : S.At prog rest ml c evs po ms) (hl : ms.length ≤ 18)
    (F : Fr h₀ L s.heap (kstB u0 (fr1 S st kl rw mk (c.i : Int) ta ++ [(Str.ofString "deed", Value.int 0 td), (Str.ofString "kind", Value.str (kn kk) tk1), (Str.ofString "here", Value.str (kdF S.ks c.i) th), (Str.ofString "spot_of", Value.int (qF S.ks c.i) tsp), (Str.ofString "sign", Value.str (sgF S.ks c.i) tsg), (Str.ofString "gone", Value.bool false), (Str.ofString "fault", Value.str (Str.ofString "") tf)])))
    (N : News h₀ L s.heap (S.led c evs en po ++ rest))
    (hE : PassesOwn (model prog S.w) (ktrTop dp un gd (Str.ofString "law") lawSc L a ccd [] outer) (envOf (Str.ofString "law") lawSc L a ccd) E)
    (hQ : ∀ (g : Bool) (f : Str) tf' (u : Str → Option Value) l h tk, f.length ≤ 30 → PyData.strOk f = true → S.Out prog rest ml c (S.led c evs en po ++ rest) (growM ms (qF S.ks c.i) f) l (fun c' _ => c'.i = if g = true then min (c.i + 1) S.ks.length else c.i) →
      Fr h₀ L h (kstB u (fr1 S st kl rw mk (c.i : Int) ta ++ [(Str.ofString "gone", Value.bool g), (Str.ofString "fault", Value.str f tf'), (Str.ofString "spot_of", Value.int (qF S.ks c.i) tsp)])) →
      News h₀ L h l → Q .next { s with heap := h, toks := tk }) :
    wpAny (model prog S.w) (ktrTop dp un gd (Str.ofString "law") lawSc L a ccd [] outer) (exec chain (envOf (Str.ofString "law") lawSc L a ccd)) Q E s := by
  ((have kf : (PySem.Challenge.rw_pq0763_01 = PySem.Challenge.rw_pq0763_01) ∧ (KK = KK) := by (k_fill; exact ⟨rfl, rfl⟩)); clear kf)
  have kmk := kstMark
  unfold lawSc chain nth5 lawBS lawGet at *
  dsimp only at hE ⊢
  dsimp only [kstB, fr1, List.cons_append, List.nil_append] at F
  have g1 := K.g1
  have hQ0 := hQ false (Str.ofString "")
  rw [growM_nil] at hQ0
  clear hQ
  cases hbb : (kdF S.ks c.i == kn kk)
  all_goals
    (repeat' (first | with_reducible ((with_reducible show wpAny _ _ (compareOp CmpOp.NotEq (Value.ref _) (Value.ref _)) _ _ _); k_here; k_dflt (first | (refine' ne_pair ?k1 ?k2 ?k3 ?k4 ?k5 ?_; (case k1 => k_asm); (case k2 => k_mem); (case k3 => k_mem); (case k4 => first | assumption | apply_assumption); (case k5 => walk_at "mine units")) | (refine' ne_marks ?k1 ?k2 ?k3 ?k4 ?k5 ?k6 ?k7 ?_; (case k1 => k_asm); (case k2 => k_mem); (case k3 => k_mem); (case k4 => exact MarksAre.mono (by assumption) (by walk_at "mine sub")); (case k5 => exact MarksAre.mono (by assumption) (by walk_at "mine sub")); (case k6 => first | with_reducible assumption | assumption); (case k7 => walk_at "mine units")))) | with_reducible refine ite_pos (by decide) ?_ | with_reducible refine ite_neg (by decide) ?_ | (k_unfold; (try dsimp only)) | (k_end; wrow_close) | walk1 | (dsimp only; walk1) | (leave1; try dsimp only)))
    rename Fr _ _ _ _ => F8
    rename News _ _ _ _ => N8
    refine' hQ0 _ _ _ _ _ ?q1 ?q2 (Out_id C ?q3) (fr_kst (by (first | ((try dsimp only); (repeat (refine allc rfl ?_)); exact alln) | kst_all)) F8) (kst_newsOf N8 fun _ h => h)
    case q1 => decide +kernel
    case q2 => decide +kernel
    case q3 => rfl
theorem br1_ok
    (B : Below A₀ base outer h₀) (X : (KK S.w.params).In h₀) (T : Top p9 loose mean mg mb h₀) (hd : dp + 12 < recursionLimit) (hu : un + 8 * 12 < cLine)
    (K : S.Ok rest) (C : S.At prog rest ml c evs po ms) (hl : ms.length ≤ 18)
    (F : Fr h₀ L s.heap (kstB u0 (fr1 S st kl rw mk (c.i : Int) ta ++ [(Str.ofString "deed", Value.int 1 td), (Str.ofString "kind", Value.str (kn kk) tk1), (Str.ofString "here", Value.str (kdF S.ks c.i) th), (Str.ofString "spot_of", Value.int (qF S.ks c.i) tsp), (Str.ofString "sign", Value.str (sgF S.ks c.i) tsg), (Str.ofString "gone", Value.bool false), (Str.ofString "fault", Value.str (Str.ofString "") tf)])))
    (N : News h₀ L s.heap (S.led c evs en po ++ rest))
    (hE : PassesOwn (model prog S.w) (ktrTop dp un gd (Str.ofString "law") lawSc L a ccd [] outer) (envOf (Str.ofString "law") lawSc L a ccd) E)
    (hQ : ∀ (g : Bool) (f : Str) tf' (u : Str → Option Value) l h tk, f.length ≤ 30 → PyData.strOk f = true → S.Out prog rest ml c (S.led c evs en po ++ rest) (growM ms (qF S.ks c.i) f) l (fun c' _ => c'.i = if g = true then min (c.i + 1) S.ks.length else c.i) →
      Fr h₀ L h (kstB u (fr1 S st kl rw mk (c.i : Int) ta ++ [(Str.ofString "gone", Value.bool g), (Str.ofString "fault", Value.str f tf'), (Str.ofString "spot_of", Value.int (qF S.ks c.i) tsp)])) →
      News h₀ L h l → Q .next { s with heap := h, toks := tk }) :
    wpAny (model prog S.w) (ktrTop dp un gd (Str.ofString "law") lawSc L a ccd [] outer) (exec chain (envOf (Str.ofString "law") lawSc L a ccd)) Q E s := by
  ((have kf : (PySem.Challenge.rw_pq0763_01 = PySem.Challenge.rw_pq0763_01) ∧ (KK = KK) := by (k_fill; exact ⟨rfl, rfl⟩)); clear kf)
  have kmk := kstMark
  unfold lawSc chain nth5 lawBS lawGet at *
  dsimp only at hE ⊢
  dsimp only [kstB, fr1, List.cons_append, List.nil_append] at F
  have g1 := K.g1
  cases hbb : (kdF S.ks c.i == kn kk)
  · have hQ0 := hQ false (Str.ofString "")
    rw [growM_nil] at hQ0
    clear hQ
    repeat ((fail_if_success (with_reducible show wpAny _ _ (call (Value.ref 409) _) _ _ _)); (first | with_reducible ((with_reducible show wpAny _ _ (compareOp CmpOp.NotEq (Value.ref _) (Value.ref _)) _ _ _); k_here; k_dflt (first | (refine' ne_pair ?k1 ?k2 ?k3 ?k4 ?k5 ?_; (case k1 => k_asm); (case k2 => k_mem); (case k3 => k_mem); (case k4 => first | assumption | apply_assumption); (case k5 => walk_at "mine units")) | (refine' ne_marks ?k1 ?k2 ?k3 ?k4 ?k5 ?k6 ?k7 ?_; (case k1 => k_asm); (case k2 => k_mem); (case k3 => k_mem); (case k4 => exact MarksAre.mono (by assumption) (by walk_at "mine sub")); (case k5 => exact MarksAre.mono (by assumption) (by walk_at "mine sub")); (case k6 => first | with_reducible assumption | assumption); (case k7 => walk_at "mine units")))) | with_reducible refine ite_pos (by decide) ?_ | with_reducible refine ite_neg (by decide) ?_ | walk_at "mine step"))
    refine' CtQ.u0 (c_skip0 K hbb) ?cB ?cF ?cX ?cN ?cT ?ck ?cd ?cu ?_
    case cB => k_asm
    case cF => k_asm
    case cX => k_asm
    case cT => k_asm
    case cN => first | k_asm | assumption
    case ck => first | exact rfl | assumption
    case cd => walk_at "mine room"
    case cu => walk_at "mine units"
    intro h9 tk9 F9 N9
    try dsimp only
    (repeat' (first | with_reducible ((with_reducible show wpAny _ _ (compareOp CmpOp.NotEq (Value.ref _) (Value.ref _)) _ _ _); k_here; k_dflt (first | (refine' ne_pair ?k1 ?k2 ?k3 ?k4 ?k5 ?_; (case k1 => k_asm); (case k2 => k_mem); (case k3 => k_mem); (case k4 => first | assumption | apply_assumption); (case k5 => walk_at "mine units")) | (refine' ne_marks ?k1 ?k2 ?k3 ?k4 ?k5 ?k6 ?k7 ?_; (case k1 => k_asm); (case k2 => k_mem); (case k3 => k_mem); (case k4 => exact MarksAre.mono (by assumption) (by walk_at "mine sub")); (case k5 => exact MarksAre.mono (by assumption) (by walk_at "mine sub")); (case k6 => first | with_reducible assumption | assumption); (case k7 => walk_at "mine units")))) | with_reducible refine ite_pos (by decide) ?_ | with_reducible refine ite_neg (by decide) ?_ | (k_unfold; (try dsimp only)) | (k_end; wrow_close) | walk1 | (dsimp only; walk1) | (leave1; try dsimp only)))
    rename Fr _ _ _ _ => F8
    rename News _ _ _ _ => N8
    refine' hQ0 _ _ _ _ _ ?q1 ?q2 (Out_id C rfl) (fr_kst (by (first | ((try dsimp only); (repeat (refine allc rfl ?_)); exact alln) | kst_all)) F8) (kst_newsOf N8 fun _ h => h)
    case q1 => decide +kernel
    case q2 => decide +kernel
  · have hQ0 := hQ true (Str.ofString "")
    rw [growM_nil] at hQ0
    clear hQ
    repeat ((fail_if_success (with_reducible show wpAny _ _ (call (Value.ref 409) _) _ _ _)); (first | with_reducible ((with_reducible show wpAny _ _ (compareOp CmpOp.NotEq (Value.ref _) (Value.ref _)) _ _ _); k_here; k_dflt (first | (refine' ne_pair ?k1 ?k2 ?k3 ?k4 ?k5 ?_; (case k1 => k_asm); (case k2 => k_mem); (case k3 => k_mem); (case k4 => first | assumption | apply_assumption); (case k5 => walk_at "mine units")) | (refine' ne_marks ?k1 ?k2 ?k3 ?k4 ?k5 ?k6 ?k7 ?_; (case k1 => k_asm); (case k2 => k_mem); (case k3 => k_mem); (case k4 => exact MarksAre.mono (by assumption) (by walk_at "mine sub")); (case k5 => exact MarksAre.mono (by assumption) (by walk_at "mine sub")); (case k6 => first | with_reducible assumption | assumption); (case k7 => walk_at "mine units")))) | with_reducible refine ite_pos (by decide) ?_ | with_reducible refine ite_neg (by decide) ?_ | walk_at "mine step"))
    refine' CtQ.uv (c_skip1 K C hbb) ?cB ?cF ?cX ?cN ?cT ?ck ?cd ?cu ?_
    case cB => k_asm
    case cF => k_asm
    case cX => k_asm
    case cT => k_asm
    case cN => first | k_asm | assumption
    case ck => first | exact rfl | assumption
    case cd => walk_at "mine room"
    case cu => walk_at "mine units"
    intro l9 h9 tk9 O9 F9 N9
    try dsimp only
    (repeat' (first | with_reducible ((with_reducible show wpAny _ _ (compareOp CmpOp.NotEq (Value.ref _) (Value.ref _)) _ _ _); k_here; k_dflt (first | (refine' ne_pair ?k1 ?k2 ?k3 ?k4 ?k5 ?_; (case k1 => k_asm); (case k2 => k_mem); (case k3 => k_mem); (case k4 => first | assumption | apply_assumption); (case k5 => walk_at "mine units")) | (refine' ne_marks ?k1 ?k2 ?k3 ?k4 ?k5 ?k6 ?k7 ?_; (case k1 => k_asm); (case k2 => k_mem); (case k3 => k_mem); (case k4 => exact MarksAre.mono (by assumption) (by walk_at "mine sub")); (case k5 => exact MarksAre.mono (by assumption) (by walk_at "mine sub")); (case k6 => first | with_reducible assumption | assumption); (case k7 => walk_at "mine units")))) | with_reducible refine ite_pos (by decide) ?_ | with_reducible refine ite_neg (by decide) ?_ | (k_unfold; (try dsimp only)) | (k_end; wrow_close) | walk1 | (dsimp only; walk1) | (leave1; try dsimp only)))
    rename Fr _ _ _ _ => F8
    rename News _ _ _ _ => N8
    refine' hQ0 _ _ _ _ _ ?q1 ?q2 (Out_mono O9 rfl fun c2 m2 h2 => h2.1) (fr_kst (by (first | ((try dsimp only); (repeat (refine allc rfl ?_)); exact alln) | kst_all)) F8) (kst_newsOf N8 fun _ h => h)
    case q1 => decide +kernel
    case q2 => decide +kernel
theorem br2_ok
    (B : Below A₀ base outer h₀) (X : (KK S.w.params).In h₀) (T : Top p9 loose mean mg mb h₀) (hd : dp + 12 < recursionLimit) (hu : un + 8 * 12 < cLine)
    (K : S.Ok rest) (C : S.At prog rest ml c evs po ms) (hl : ms.length ≤ 18)
    (F : Fr h₀ L s.heap (kstB u0 (fr1 S st kl rw mk (c.i : Int) ta ++ [(Str.ofString "deed", Value.int 2 td), (Str.ofString "kind", Value.str (kn kk) tk1), (Str.ofString "here", Value.str (kdF S.ks c.i) th), (Str.ofString "spot_of", Value.int (qF S.ks c.i) tsp), (Str.ofString "sign", Value.str (sgF S.ks c.i) tsg), (Str.ofString "gone", Value.bool false), (Str.ofString "fault", Value.str (Str.ofString "") tf)])))
    (N : News h₀ L s.heap (S.led c evs en po ++ rest))
    (hE : PassesOwn (model prog S.w) (ktrTop dp un gd (Str.ofString "law") lawSc L a ccd [] outer) (envOf (Str.ofString "law") lawSc L a ccd) E)
    (hQ : ∀ (g : Bool) (f : Str) tf' (u : Str → Option Value) l h tk, f.length ≤ 30 → PyData.strOk f = true → S.Out prog rest ml c (S.led c evs en po ++ rest) (growM ms (qF S.ks c.i) f) l (fun c' _ => c'.i = if g = true then min (c.i + 1) S.ks.length else c.i) →
      Fr h₀ L h (kstB u (fr1 S st kl rw mk (c.i : Int) ta ++ [(Str.ofString "gone", Value.bool g), (Str.ofString "fault", Value.str f tf'), (Str.ofString "spot_of", Value.int (qF S.ks c.i) tsp)])) →
      News h₀ L h l → Q .next { s with heap := h, toks := tk }) :
    wpAny (model prog S.w) (ktrTop dp un gd (Str.ofString "law") lawSc L a ccd [] outer) (exec chain (envOf (Str.ofString "law") lawSc L a ccd)) Q E s := by
  ((have kf : (PySem.Challenge.rw_pq0763_01 = PySem.Challenge.rw_pq0763_01) ∧ (KK = KK) := by (k_fill; exact ⟨rfl, rfl⟩)); clear kf)
  have kmk := kstMark
  unfold lawSc chain nth5 lawBS lawGet at *
  dsimp only at hE ⊢
  dsimp only [kstB, fr1, List.cons_append, List.nil_append] at F
  have g1 := K.g1
  have hkl := kn_len kk
  cases hbb : (kdF S.ks c.i == kn kk)
  · cases hbi : (kn kk == Str.ofString "ident")
    · have hQ0 := hQ false (Str.ofString "expected " ++ kn kk)
      clear hQ
      rw [growM_c (exp_ne kk)] at hQ0
      repeat ((fail_if_success (with_reducible show wpAny _ _ (call (Value.ref 416) _) _ _ _)); (first | with_reducible ((with_reducible show wpAny _ _ (compareOp CmpOp.NotEq (Value.ref _) (Value.ref _)) _ _ _); k_here; k_dflt (first | (refine' ne_pair ?k1 ?k2 ?k3 ?k4 ?k5 ?_; (case k1 => k_asm); (case k2 => k_mem); (case k3 => k_mem); (case k4 => first | assumption | apply_assumption); (case k5 => walk_at "mine units")) | (refine' ne_marks ?k1 ?k2 ?k3 ?k4 ?k5 ?k6 ?k7 ?_; (case k1 => k_asm); (case k2 => k_mem); (case k3 => k_mem); (case k4 => exact MarksAre.mono (by assumption) (by walk_at "mine sub")); (case k5 => exact MarksAre.mono (by assumption) (by walk_at "mine sub")); (case k6 => first | with_reducible assumption | assumption); (case k7 => walk_at "mine units")))) | with_reducible refine ite_pos (by decide) ?_ | with_reducible refine ite_neg (by decide) ?_ | walk_at "mine step"))
      refine' CtQ.uv (c_expect0 K C hl hbb hbi (by omega)) ?cB ?cF ?cX ?cN ?cT ?ck ?cd ?cu ?_
      case cB => k_asm
      case cF => k_asm
      case cX => k_asm
      case cT => k_asm
      case cN => first | k_asm | assumption
      case ck => first | exact rfl | assumption
      case cd => walk_at "mine room"
      case cu => walk_at "mine units"
      intro l9 h9 tk9 O9 F9 N9
      try dsimp only
      (repeat' (first | with_reducible ((with_reducible show wpAny _ _ (compareOp CmpOp.NotEq (Value.ref _) (Value.ref _)) _ _ _); k_here; k_dflt (first | (refine' ne_pair ?k1 ?k2 ?k3 ?k4 ?k5 ?_; (case k1 => k_asm); (case k2 => k_mem); (case k3 => k_mem); (case k4 => first | assumption | apply_assumption); (case k5 => walk_at "mine units")) | (refine' ne_marks ?k1 ?k2 ?k3 ?k4 ?k5 ?k6 ?k7 ?_; (case k1 => k_asm); (case k2 => k_mem); (case k3 => k_mem); (case k4 => exact MarksAre.mono (by assumption) (by walk_at "mine sub")); (case k5 => exact MarksAre.mono (by assumption) (by walk_at "mine sub")); (case k6 => first | with_reducible assumption | assumption); (case k7 => walk_at "mine units")))) | with_reducible refine ite_pos (by decide) ?_ | with_reducible refine ite_neg (by decide) ?_ | (k_unfold; (try dsimp only)) | (k_end; wrow_close) | walk1 | (dsimp only; walk1) | (leave1; try dsimp only)))
      rename Fr _ _ _ _ => F8
      rename News _ _ _ _ => N8
      refine' hQ0 _ _ _ _ _ ?q1 ?q2 (Out_mono O9 rfl fun c2 m2 h2 => by subst h2; rfl) (fr_kst (by (first | ((try dsimp only); (repeat (refine allc rfl ?_)); exact alln) | kst_all)) F8) (kst_newsOf N8 fun _ h => h)
      case q1 => (rw [Str.length_append, show (Str.ofString "expected ").length = 9 by decide +kernel]; omega)
      case q2 => exact exp_ok kk
    · have hQ0 := hQ false (Str.ofString "expected identifier")
      clear hQ
      rw [growM_c (by decide +kernel)] at hQ0
      repeat ((fail_if_success (with_reducible show wpAny _ _ (call (Value.ref 416) _) _ _ _)); (first | with_reducible ((with_reducible show wpAny _ _ (compareOp CmpOp.NotEq (Value.ref _) (Value.ref _)) _ _ _); k_here; k_dflt (first | (refine' ne_pair ?k1 ?k2 ?k3 ?k4 ?k5 ?_; (case k1 => k_asm); (case k2 => k_mem); (case k3 => k_mem); (case k4 => first | assumption | apply_assumption); (case k5 => walk_at "mine units")) | (refine' ne_marks ?k1 ?k2 ?k3 ?k4 ?k5 ?k6 ?k7 ?_; (case k1 => k_asm); (case k2 => k_mem); (case k3 => k_mem); (case k4 => exact MarksAre.mono (by assumption) (by walk_at "mine sub")); (case k5 => exact MarksAre.mono (by assumption) (by walk_at "mine sub")); (case k6 => first | with_reducible assumption | assumption); (case k7 => walk_at "mine units")))) | with_reducible refine ite_pos (by decide) ?_ | with_reducible refine ite_neg (by decide) ?_ | walk_at "mine step"))
      refine' CtQ.uv (c_expect0 K C hl hbb hbi (by omega)) ?cB ?cF ?cX ?cN ?cT ?ck ?cd ?cu ?_
      case cB => k_asm
      case cF => k_asm
      case cX => k_asm
      case cT => k_asm
      case cN => first | k_asm | assumption
      case ck => first | exact rfl | assumption
      case cd => walk_at "mine room"
      case cu => walk_at "mine units"
      intro l9 h9 tk9 O9 F9 N9
      try dsimp only
      (repeat' (first | with_reducible ((with_reducible show wpAny _ _ (compareOp CmpOp.NotEq (Value.ref _) (Value.ref _)) _ _ _); k_here; k_dflt (first | (refine' ne_pair ?k1 ?k2 ?k3 ?k4 ?k5 ?_; (case k1 => k_asm); (case k2 => k_mem); (case k3 => k_mem); (case k4 => first | assumption | apply_assumption); (case k5 => walk_at "mine units")) | (refine' ne_marks ?k1 ?k2 ?k3 ?k4 ?k5 ?k6 ?k7 ?_; (case k1 => k_asm); (case k2 => k_mem); (case k3 => k_mem); (case k4 => exact MarksAre.mono (by assumption) (by walk_at "mine sub")); (case k5 => exact MarksAre.mono (by assumption) (by walk_at "mine sub")); (case k6 => first | with_reducible assumption | assumption); (case k7 => walk_at "mine units")))) | with_reducible refine ite_pos (by decide) ?_ | with_reducible refine ite_neg (by decide) ?_ | (k_unfold; (try dsimp only)) | (k_end; wrow_close) | walk1 | (dsimp only; walk1) | (leave1; try dsimp only)))
      rename Fr _ _ _ _ => F8
      rename News _ _ _ _ => N8
      refine' hQ0 _ _ _ _ _ ?q1 ?q2 (Out_mono O9 rfl fun c2 m2 h2 => by subst h2; rfl) (fr_kst (by (first | ((try dsimp only); (repeat (refine allc rfl ?_)); exact alln) | kst_all)) F8) (kst_newsOf N8 fun _ h => h)
      case q1 => decide +kernel
      case q2 => decide +kernel
  · have hQ0 := hQ true (Str.ofString "")
    rw [growM_nil] at hQ0
    clear hQ
    repeat ((fail_if_success (with_reducible show wpAny _ _ (call (Value.ref 416) _) _ _ _)); (first | with_reducible ((with_reducible show wpAny _ _ (compareOp CmpOp.NotEq (Value.ref _) (Value.ref _)) _ _ _); k_here; k_dflt (first | (refine' ne_pair ?k1 ?k2 ?k3 ?k4 ?k5 ?_; (case k1 => k_asm); (case k2 => k_mem); (case k3 => k_mem); (case k4 => first | assumption | apply_assumption); (case k5 => walk_at "mine units")) | (refine' ne_marks ?k1 ?k2 ?k3 ?k4 ?k5 ?k6 ?k7 ?_; (case k1 => k_asm); (case k2 => k_mem); (case k3 => k_mem); (case k4 => exact MarksAre.mono (by assumption) (by walk_at "mine sub")); (case k5 => exact MarksAre.mono (by assumption) (by walk_at "mine sub")); (case k6 => first | with_reducible assumption | assumption); (case k7 => walk_at "mine units")))) | with_reducible refine ite_pos (by decide) ?_ | with_reducible refine ite_neg (by decide) ?_ | walk_at "mine step"))
    refine' CtQ.uv (c_expect1 K C hbb) ?cB ?cF ?cX ?cN ?cT ?ck ?cd ?cu ?_
    case cB => k_asm
    case cF => k_asm
    case cX => k_asm
    case cT => k_asm
    case cN => first | k_asm | assumption
    case ck => first | exact rfl | assumption
    case cd => walk_at "mine room"
    case cu => walk_at "mine units"
    intro l9 h9 tk9 O9 F9 N9
    try dsimp only
    (repeat' (first | with_reducible ((with_reducible show wpAny _ _ (compareOp CmpOp.NotEq (Value.ref _) (Value.ref _)) _ _ _); k_here; k_dflt (first | (refine' ne_pair ?k1 ?k2 ?k3 ?k4 ?k5 ?_; (case k1 => k_asm); (case k2 => k_mem); (case k3 => k_mem); (case k4 => first | assumption | apply_assumption); (case k5 => walk_at "mine units")) | (refine' ne_marks ?k1 ?k2 ?k3 ?k4 ?k5 ?k6 ?k7 ?_; (case k1 => k_asm); (case k2 => k_mem); (case k3 => k_mem); (case k4 => exact MarksAre.mono (by assumption) (by walk_at "mine sub")); (case k5 => exact MarksAre.mono (by assumption) (by walk_at "mine sub")); (case k6 => first | with_reducible assumption | assumption); (case k7 => walk_at "mine units")))) | with_reducible refine ite_pos (by decide) ?_ | with_reducible refine ite_neg (by decide) ?_ | (k_unfold; (try dsimp only)) | (k_end; wrow_close) | walk1 | (dsimp only; walk1) | (leave1; try dsimp only)))
    rename Fr _ _ _ _ => F8
    rename News _ _ _ _ => N8
    refine' hQ0 _ _ _ _ _ ?q1 ?q2 (Out_mono O9 rfl fun c2 m2 h2 => h2.1) (fr_kst (by (first | ((try dsimp only); (repeat (refine allc rfl ?_)); exact alln) | kst_all)) F8) (kst_newsOf N8 fun _ h => h)
    case q1 => decide +kernel
    case q2 => decide +kernel
theorem br3_ok
    (B : Below A₀ base outer h₀) (X : (KK S.w.params).In h₀) (T : Top p9 loose mean mg mb h₀) (hd : dp + 12 < recursionLimit) (hu : un + 8 * 12 < cLine)
    (K : S.Ok rest) (C : S.At prog rest ml c evs po ms) (hl : ms.length ≤ 18)
    (F : Fr h₀ L s.heap (kstB u0 (fr1 S st kl rw mk (c.i : Int) ta ++ [(Str.ofString "deed", Value.int 3 td), (Str.ofString "kind", Value.str (kn kk) tk1), (Str.ofString "here", Value.str (kdF S.ks c.i) th), (Str.ofString "spot_of", Value.int (qF S.ks c.i) tsp), (Str.ofString "sign", Value.str (sgF S.ks c.i) tsg), (Str.ofString "gone", Value.bool false), (Str.ofString "fault", Value.str (Str.ofString "") tf)])))
    (N : News h₀ L s.heap (S.led c evs en po ++ rest))
    (hE : PassesOwn (model prog S.w) (ktrTop dp un gd (Str.ofString "law") lawSc L a ccd [] outer) (envOf (Str.ofString "law") lawSc L a ccd) E)
    (hQ : ∀ (g : Bool) (f : Str) tf' (u : Str → Option Value) l h tk, f.length ≤ 30 → PyData.strOk f = true → S.Out prog rest ml c (S.led c evs en po ++ rest) (growM ms (qF S.ks c.i) f) l (fun c' _ => c'.i = if g = true then min (c.i + 1) S.ks.length else c.i) →
      Fr h₀ L h (kstB u (fr1 S st kl rw mk (c.i : Int) ta ++ [(Str.ofString "gone", Value.bool g), (Str.ofString "fault", Value.str f tf'), (Str.ofString "spot_of", Value.int (qF S.ks c.i) tsp)])) →
      News h₀ L h l → Q .next { s with heap := h, toks := tk }) :
    wpAny (model prog S.w) (ktrTop dp un gd (Str.ofString "law") lawSc L a ccd [] outer) (exec chain (envOf (Str.ofString "law") lawSc L a ccd)) Q E s := by
  ((have kf : (PySem.Challenge.rw_pq0763_01 = PySem.Challenge.rw_pq0763_01) ∧ (KK = KK) := by (k_fill; exact ⟨rfl, rfl⟩)); clear kf)
  have kmk := kstMark
  unfold lawSc chain nth5 lawBS lawGet at *
  dsimp only at hE ⊢
  dsimp only [kstB, fr1, List.cons_append, List.nil_append] at F
  have g1 := K.g1
  have hso := sgF_ok S.ks c.i
  cases hbb : (kdF S.ks c.i == Str.ofString "ident")
  · have hQ0 := hQ false (Str.ofString "expected identifier")
    rw [growM_c (by decide +kernel)] at hQ0
    clear hQ
    repeat ((fail_if_success (with_reducible show wpAny _ _ (call (Value.ref 430) _) _ _ _)); (first | with_reducible ((with_reducible show wpAny _ _ (compareOp CmpOp.NotEq (Value.ref _) (Value.ref _)) _ _ _); k_here; k_dflt (first | (refine' ne_pair ?k1 ?k2 ?k3 ?k4 ?k5 ?_; (case k1 => k_asm); (case k2 => k_mem); (case k3 => k_mem); (case k4 => first | assumption | apply_assumption); (case k5 => walk_at "mine units")) | (refine' ne_marks ?k1 ?k2 ?k3 ?k4 ?k5 ?k6 ?k7 ?_; (case k1 => k_asm); (case k2 => k_mem); (case k3 => k_mem); (case k4 => exact MarksAre.mono (by assumption) (by walk_at "mine sub")); (case k5 => exact MarksAre.mono (by assumption) (by walk_at "mine sub")); (case k6 => first | with_reducible assumption | assumption); (case k7 => walk_at "mine units")))) | with_reducible refine ite_pos (by decide) ?_ | with_reducible refine ite_neg (by decide) ?_ | walk_at "mine step"))
    refine' CtQ.uv (c_name0 K C hl hbb) ?cB ?cF ?cX ?cN ?cT ?ck ?cd ?cu ?_
    case cB => k_asm
    case cF => k_asm
    case cX => k_asm
    case cT => k_asm
    case cN => first | k_asm | assumption
    case ck => first | exact rfl | assumption
    case cd => walk_at "mine room"
    case cu => walk_at "mine units"
    intro l9 h9 tk9 O9 F9 N9
    try dsimp only
    (repeat' (first | with_reducible ((with_reducible show wpAny _ _ (compareOp CmpOp.NotEq (Value.ref _) (Value.ref _)) _ _ _); k_here; k_dflt (first | (refine' ne_pair ?k1 ?k2 ?k3 ?k4 ?k5 ?_; (case k1 => k_asm); (case k2 => k_mem); (case k3 => k_mem); (case k4 => first | assumption | apply_assumption); (case k5 => walk_at "mine units")) | (refine' ne_marks ?k1 ?k2 ?k3 ?k4 ?k5 ?k6 ?k7 ?_; (case k1 => k_asm); (case k2 => k_mem); (case k3 => k_mem); (case k4 => exact MarksAre.mono (by assumption) (by walk_at "mine sub")); (case k5 => exact MarksAre.mono (by assumption) (by walk_at "mine sub")); (case k6 => first | with_reducible assumption | assumption); (case k7 => walk_at "mine units")))) | with_reducible refine ite_pos (by decide) ?_ | with_reducible refine ite_neg (by decide) ?_ | (k_unfold; (try dsimp only)) | (k_end; wrow_close) | walk1 | (dsimp only; walk1) | (leave1; try dsimp only)))
    rename Fr _ _ _ _ => F8
    rename News _ _ _ _ => N8
    refine' hQ0 _ _ _ _ _ ?q1 ?q2 (Out_mono O9 rfl fun c2 m2 h2 => by subst h2; rfl) (fr_kst (by (first | ((try dsimp only); (repeat (refine allc rfl ?_)); exact alln) | kst_all)) F8) (kst_newsOf N8 fun _ h => h)
    case q1 => decide +kernel
    case q2 => decide +kernel
  · have hQ0 := hQ true (Str.ofString "")
    rw [growM_nil] at hQ0
    clear hQ
    obtain ⟨tv, hv⟩ := V_ident K.hb hbb C.hV
    repeat ((fail_if_success (with_reducible show wpAny _ _ (call (Value.ref 430) _) _ _ _)); (first | with_reducible ((with_reducible show wpAny _ _ (compareOp CmpOp.NotEq (Value.ref _) (Value.ref _)) _ _ _); k_here; k_dflt (first | (refine' ne_pair ?k1 ?k2 ?k3 ?k4 ?k5 ?_; (case k1 => k_asm); (case k2 => k_mem); (case k3 => k_mem); (case k4 => first | assumption | apply_assumption); (case k5 => walk_at "mine units")) | (refine' ne_marks ?k1 ?k2 ?k3 ?k4 ?k5 ?k6 ?k7 ?_; (case k1 => k_asm); (case k2 => k_mem); (case k3 => k_mem); (case k4 => exact MarksAre.mono (by assumption) (by walk_at "mine sub")); (case k5 => exact MarksAre.mono (by assumption) (by walk_at "mine sub")); (case k6 => first | with_reducible assumption | assumption); (case k7 => walk_at "mine units")))) | with_reducible refine ite_pos (by decide) ?_ | with_reducible refine ite_neg (by decide) ?_ | walk_at "mine step"))
    refine' CtQ.uv (c_name1 K C hbb) ?cB ?cF ?cX ?cN ?cT ?ck ?cd ?cu ?_
    case cB => k_asm
    case cF => k_asm
    case cX => k_asm
    case cT => k_asm
    case cN => first | k_asm | assumption
    case ck => first | exact rfl | assumption
    case cd => walk_at "mine room"
    case cu => walk_at "mine units"
    intro l9 h9 tk9 O9 F9 N9
    try dsimp only
    obtain ⟨c2, evs2, en2, po2, more2, rfl, A2, ⟨i2, rfl⟩, lt2⟩ := O9
    simp only [RS.led, TS.obj, TS.inst, hv, List.cons_append, List.nil_append] at N9
    (repeat' (first | with_reducible ((with_reducible show wpAny _ _ (compareOp CmpOp.NotEq (Value.ref _) (Value.ref _)) _ _ _); k_here; k_dflt (first | (refine' ne_pair ?k1 ?k2 ?k3 ?k4 ?k5 ?_; (case k1 => k_asm); (case k2 => k_mem); (case k3 => k_mem); (case k4 => first | assumption | apply_assumption); (case k5 => walk_at "mine units")) | (refine' ne_marks ?k1 ?k2 ?k3 ?k4 ?k5 ?k6 ?k7 ?_; (case k1 => k_asm); (case k2 => k_mem); (case k3 => k_mem); (case k4 => exact MarksAre.mono (by assumption) (by walk_at "mine sub")); (case k5 => exact MarksAre.mono (by assumption) (by walk_at "mine sub")); (case k6 => first | with_reducible assumption | assumption); (case k7 => walk_at "mine units")))) | with_reducible refine ite_pos (by decide) ?_ | with_reducible refine ite_neg (by decide) ?_ | (k_unfold; (try dsimp only)) | (k_end; wrow_close) | walk1 | (dsimp only; walk1) | (leave1; try dsimp only)))
    rename Fr _ _ _ _ => F8
    rename News _ _ _ _ => N8
    refine' hQ0 _ _ _ _ _ ?q1 ?q2 (⟨c2, evs2, en2, po2, _, rfl, A2, i2, lt2⟩) (fr_kst (by (first | ((try dsimp only); (repeat (refine allc rfl ?_)); exact alln) | kst_all)) F8) (kst_newsOf N8 (by simp only [RS.led, TS.obj, TS.inst, hv, List.cons_append, List.nil_append]; walk_at "mine sub"))
    case q1 => decide +kernel
    case q2 => decide +kernel
end
section
variable {S : RS} {prog p9 : Program} {loose : List Str} {mean : ExcName → Option Value} {mg mb : Str → Option Value} {dp un : Nat} {gd : Option (List Code)} {a : Addr} {ccd : Value} {outer : List Env} {A₀ : Around} {base h₀ : Heap} {L : Addr} {s : Shared} {Q : Flow → Shared → Prop} {E : Value → Shared → Prop}
    {rest ml : List (Addr × Obj)} {c : TS} {evs : List Value} {en : Nat} {po : Obj} {ms : List (Int × Str)} {st kl rw mk : Addr} {kk : Int} {td tk1 th tsp tsg tf ta : Tok} {u0 : Str → Option Value}
theorem br4_ok
    (B : Below A₀ base outer h₀) (X : (KK S.w.params).In h₀) (T : Top p9 loose mean mg mb h₀) (hd : dp + 12 < recursionLimit) (hu : un + 8 * 12 < cLine)
    (K : S.Ok rest) (C : S.At prog rest ml c evs po ms) (hl : ms.length ≤ 18)
    (F : Fr h₀ L s.heap (kstB u0 (fr1 S st kl rw mk (c.i : Int) ta ++ [(Str.ofString "deed", Value.int 4 td), (Str.ofString "kind", Value.str (kn kk) tk1), (Str.ofString "here", Value.str (kdF S.ks c.i) th), (Str.ofString "spot_of", Value.int (qF S.ks c.i) tsp), (Str.ofString "sign", Value.str (sgF S.ks c.i) tsg), (Str.ofString "gone", Value.bool false), (Str.ofString "fault", Value.str (Str.ofString "") tf)])))
    (N : News h₀ L s.heap (S.led c evs en po ++ rest))
    (hE : PassesOwn (model prog S.w) (ktrTop dp un gd (Str.ofString "law") lawSc L a ccd [] outer) (envOf (Str.ofString "law") lawSc L a ccd) E)
    (hQ : ∀ (g : Bool) (f : Str) tf' (u : Str → Option Value) l h tk, f.length ≤ 30 → PyData.strOk f = true → S.Out prog rest ml c (S.led c evs en po ++ rest) (growM ms (qF S.ks c.i) f) l (fun c' _ => c'.i = if g = true then min (c.i + 1) S.ks.length else c.i) →
      Fr h₀ L h (kstB u (fr1 S st kl rw mk (c.i : Int) ta ++ [(Str.ofString "gone", Value.bool g), (Str.ofString "fault", Value.str f tf'), (Str.ofString "spot_of", Value.int (qF S.ks c.i) tsp)])) →
      News h₀ L h l → Q .next { s with heap := h, toks := tk }) :
    wpAny (model prog S.w) (ktrTop dp un gd (Str.ofString "law") lawSc L a ccd [] outer) (exec chain (envOf (Str.ofString "law") lawSc L a ccd)) Q E s := by
  ((have kf : (PySem.Challenge.rw_pq0763_01 = PySem.Challenge.rw_pq0763_01) ∧ (KK = KK) := by (k_fill; exact ⟨rfl, rfl⟩)); clear kf)
  have kmk := kstMark
  unfold lawSc chain nth5 lawBS lawGet at *
  dsimp only at hE ⊢
  dsimp only [kstB, fr1, List.cons_append, List.nil_append] at F
  have g1 := K.g1
  have hok := kdF_ok S.ks c.i
  have hQ0 := hQ true (Str.ofString "")
  rw [growM_nil] at hQ0
  clear hQ
  cases hb1 : (kdF S.ks c.i == Str.ofString "int")
  · cases hb2 : (kdF S.ks c.i == Str.ofString "string")
    · repeat ((fail_if_success (with_reducible show wpAny _ _ (call (Value.ref 395) _) _ _ _)); (first | with_reducible ((with_reducible show wpAny _ _ (compareOp CmpOp.NotEq (Value.ref _) (Value.ref _)) _ _ _); k_here; k_dflt (first | (refine' ne_pair ?k1 ?k2 ?k3 ?k4 ?k5 ?_; (case k1 => k_asm); (case k2 => k_mem); (case k3 => k_mem); (case k4 => first | assumption | apply_assumption); (case k5 => walk_at "mine units")) | (refine' ne_marks ?k1 ?k2 ?k3 ?k4 ?k5 ?k6 ?k7 ?_; (case k1 => k_asm); (case k2 => k_mem); (case k3 => k_mem); (case k4 => exact MarksAre.mono (by assumption) (by walk_at "mine sub")); (case k5 => exact MarksAre.mono (by assumption) (by walk_at "mine sub")); (case k6 => first | with_reducible assumption | assumption); (case k7 => walk_at "mine units")))) | with_reducible refine ite_pos (by decide) ?_ | with_reducible refine ite_neg (by decide) ?_ | walk_at "mine step"))
      refine' CtQ.uv (c_step K C) ?cB ?cF ?cX ?cN ?cT ?ck ?cd ?cu ?_
      case cB => k_asm
      case cF => k_asm
      case cX => k_asm
      case cT => k_asm
      case cN => first | k_asm | assumption
      case ck => first | exact rfl | assumption
      case cd => walk_at "mine room"
      case cu => walk_at "mine units"
      intro l9 h9 tk9 O9 F9 N9
      try dsimp only
      obtain ⟨c2, evs2, en2, po2, more2, rfl, A2, ⟨i2, rfl⟩, lt2⟩ := O9
      simp only [RS.led, TS.obj, TS.inst, List.cons_append, List.nil_append] at N9
      (repeat' (first | with_reducible ((with_reducible show wpAny _ _ (compareOp CmpOp.NotEq (Value.ref _) (Value.ref _)) _ _ _); k_here; k_dflt (first | (refine' ne_pair ?k1 ?k2 ?k3 ?k4 ?k5 ?_; (case k1 => k_asm); (case k2 => k_mem); (case k3 => k_mem); (case k4 => first | assumption | apply_assumption); (case k5 => walk_at "mine units")) | (refine' ne_marks ?k1 ?k2 ?k3 ?k4 ?k5 ?k6 ?k7 ?_; (case k1 => k_asm); (case k2 => k_mem); (case k3 => k_mem); (case k4 => exact MarksAre.mono (by assumption) (by walk_at "mine sub")); (case k5 => exact MarksAre.mono (by assumption) (by walk_at "mine sub")); (case k6 => first | with_reducible assumption | assumption); (case k7 => walk_at "mine units")))) | with_reducible refine ite_pos (by decide) ?_ | with_reducible refine ite_neg (by decide) ?_ | (k_unfold; (try dsimp only)) | (k_end; wrow_close) | walk1 | (dsimp only; walk1) | (leave1; try dsimp only)))
      rename Fr _ _ _ _ => F8
      rename News _ _ _ _ => N8
      refine' hQ0 _ _ _ _ _ ?q1 ?q2 (⟨c2, evs2, en2, po2, _, rfl, A2, i2, lt2⟩) (fr_kst (by (first | ((try dsimp only); (repeat (refine allc rfl ?_)); exact alln) | kst_all)) F8) (kst_newsOf N8 (by simp only [RS.led, TS.obj, TS.inst, List.cons_append, List.nil_append]; walk_at "mine sub"))
      case q1 => decide +kernel
      case q2 => decide +kernel
    · obtain ⟨tv, hv⟩ := V_str K.hb hb2 C.hV
      repeat ((fail_if_success (with_reducible show wpAny _ _ (call (Value.ref 395) _) _ _ _)); (first | with_reducible ((with_reducible show wpAny _ _ (compareOp CmpOp.NotEq (Value.ref _) (Value.ref _)) _ _ _); k_here; k_dflt (first | (refine' ne_pair ?k1 ?k2 ?k3 ?k4 ?k5 ?_; (case k1 => k_asm); (case k2 => k_mem); (case k3 => k_mem); (case k4 => first | assumption | apply_assumption); (case k5 => walk_at "mine units")) | (refine' ne_marks ?k1 ?k2 ?k3 ?k4 ?k5 ?k6 ?k7 ?_; (case k1 => k_asm); (case k2 => k_mem); (case k3 => k_mem); (case k4 => exact MarksAre.mono (by assumption) (by walk_at "mine sub")); (case k5 => exact MarksAre.mono (by assumption) (by walk_at "mine sub")); (case k6 => first | with_reducible assumption | assumption); (case k7 => walk_at "mine units")))) | with_reducible refine ite_pos (by decide) ?_ | with_reducible refine ite_neg (by decide) ?_ | walk_at "mine step"))
      refine' CtQ.uv (c_step K C) ?cB ?cF ?cX ?cN ?cT ?ck ?cd ?cu ?_
      case cB => k_asm
      case cF => k_asm
      case cX => k_asm
      case cT => k_asm
      case cN => first | k_asm | assumption
      case ck => first | exact rfl | assumption
      case cd => walk_at "mine room"
      case cu => walk_at "mine units"
      intro l9 h9 tk9 O9 F9 N9
      try dsimp only
      obtain ⟨c2, evs2, en2, po2, more2, rfl, A2, ⟨i2, rfl⟩, lt2⟩ := O9
      simp only [RS.led, TS.obj, TS.inst, hv, List.cons_append, List.nil_append] at N9
      (repeat' (first | with_reducible ((with_reducible show wpAny _ _ (compareOp CmpOp.NotEq (Value.ref _) (Value.ref _)) _ _ _); k_here; k_dflt (first | (refine' ne_pair ?k1 ?k2 ?k3 ?k4 ?k5 ?_; (case k1 => k_asm); (case k2 => k_mem); (case k3 => k_mem); (case k4 => first | assumption | apply_assumption); (case k5 => walk_at "mine units")) | (refine' ne_marks ?k1 ?k2 ?k3 ?k4 ?k5 ?k6 ?k7 ?_; (case k1 => k_asm); (case k2 => k_mem); (case k3 => k_mem); (case k4 => exact MarksAre.mono (by assumption) (by walk_at "mine sub")); (case k5 => exact MarksAre.mono (by assumption) (by walk_at "mine sub")); (case k6 => first | with_reducible assumption | assumption); (case k7 => walk_at "mine units")))) | with_reducible refine ite_pos (by decide) ?_ | with_reducible refine ite_neg (by decide) ?_ | (k_unfold; (try dsimp only)) | (k_end; wrow_close) | walk1 | (dsimp only; walk1) | (leave1; try dsimp only)))
      rename Fr _ _ _ _ => F8
      rename News _ _ _ _ => N8
      refine' hQ0 _ _ _ _ _ ?q1 ?q2 (⟨c2, evs2, en2, po2, _, rfl, A2, i2, lt2⟩) (fr_kst (by (first | ((try dsimp only); (repeat (refine allc rfl ?_)); exact alln) | kst_all)) F8) (kst_newsOf N8 (by simp only [RS.led, TS.obj, TS.inst, hv, List.cons_append, List.nil_append]; walk_at "mine sub"))
      case q1 => decide +kernel
      case q2 => decide +kernel
  · have hb2 : (kdF S.ks c.i == Str.ofString "string") = false := by rw [eq_of_beq hb1]; decide +kernel
    obtain ⟨tv, hv⟩ := V_int K.hb hb1 C.hV
    repeat ((fail_if_success (with_reducible show wpAny _ _ (call (Value.ref 395) _) _ _ _)); (first | with_reducible ((with_reducible show wpAny _ _ (compareOp CmpOp.NotEq (Value.ref _) (Value.ref _)) _ _ _); k_here; k_dflt (first | (refine' ne_pair ?k1 ?k2 ?k3 ?k4 ?k5 ?_; (case k1 => k_asm); (case k2 => k_mem); (case k3 => k_mem); (case k4 => first | assumption | apply_assumption); (case k5 => walk_at "mine units")) | (refine' ne_marks ?k1 ?k2 ?k3 ?k4 ?k5 ?k6 ?k7 ?_; (case k1 => k_asm); (case k2 => k_mem); (case k3 => k_mem); (case k4 => exact MarksAre.mono (by assumption) (by walk_at "mine sub")); (case k5 => exact MarksAre.mono (by assumption) (by walk_at "mine sub")); (case k6 => first | with_reducible assumption | assumption); (case k7 => walk_at "mine units")))) | with_reducible refine ite_pos (by decide) ?_ | with_reducible refine ite_neg (by decide) ?_ | walk_at "mine step"))
    refine' CtQ.uv (c_step K C) ?cB ?cF ?cX ?cN ?cT ?ck ?cd ?cu ?_
    case cB => k_asm
    case cF => k_asm
    case cX => k_asm
    case cT => k_asm
    case cN => first | k_asm | assumption
    case ck => first | exact rfl | assumption
    case cd => walk_at "mine room"
    case cu => walk_at "mine units"
    intro l9 h9 tk9 O9 F9 N9
    try dsimp only
    obtain ⟨c2, evs2, en2, po2, more2, rfl, A2, ⟨i2, rfl⟩, lt2⟩ := O9
    simp only [RS.led, TS.obj, TS.inst, hv, List.cons_append, List.nil_append] at N9
    (repeat' (first | with_reducible ((with_reducible show wpAny _ _ (compareOp CmpOp.NotEq (Value.ref _) (Value.ref _)) _ _ _); k_here; k_dflt (first | (refine' ne_pair ?k1 ?k2 ?k3 ?k4 ?k5 ?_; (case k1 => k_asm); (case k2 => k_mem); (case k3 => k_mem); (case k4 => first | assumption | apply_assumption); (case k5 => walk_at "mine units")) | (refine' ne_marks ?k1 ?k2 ?k3 ?k4 ?k5 ?k6 ?k7 ?_; (case k1 => k_asm); (case k2 => k_mem); (case k3 => k_mem); (case k4 => exact MarksAre.mono (by assumption) (by walk_at "mine sub")); (case k5 => exact MarksAre.mono (by assumption) (by walk_at "mine sub")); (case k6 => first | with_reducible assumption | assumption); (case k7 => walk_at "mine units")))) | with_reducible refine ite_pos (by decide) ?_ | with_reducible refine ite_neg (by decide) ?_ | (k_unfold; (try dsimp only)) | (k_end; wrow_close) | walk1 | (dsimp only; walk1) | (leave1; try dsimp only)))
    rename Fr _ _ _ _ => F8
    rename News _ _ _ _ => N8
    refine' hQ0 _ _ _ _ _ ?q1 ?q2 (⟨c2, evs2, en2, po2, _, rfl, A2, i2, lt2⟩) (fr_kst (by (first | ((try dsimp only); (repeat (refine allc rfl ?_)); exact alln) | kst_all)) F8) (kst_newsOf N8 (by simp only [RS.led, TS.obj, TS.inst, hv, List.cons_append, List.nil_append]; walk_at "mine sub"))
    case q1 => decide +kernel
    case q2 => decide +kernel
end
section
variable {S : RS} {prog p9 : Program} {loose : List Str} {mean : ExcName → Option Value} {mg mb : Str → Option Value} {dp un : Nat} {gd : Option (List Code)} {a : Addr} {ccd : Value} {outer : List Env} {A₀ : Around} {base h₀ : Heap} {L : Addr} {s : Shared} {Q : Flow → Shared → Prop} {E : Value → Shared → Prop}
    {rest ml : List (Addr × Obj)} {c : TS} {evs : List Value} {en : Nat} {po : Obj} {ms : List (Int × Str)} {st kl rw mk : Addr} {kk : Int} {td tk1 th tsp tsg tf ta : Tok} {u0 : Str → Option Value}
theorem br5_ok {row : Addr} {rvs kvs nvs : List Value} {ns : List Int} {rn rn2 kn2 sn : Nat} {at' : Int} {tw : Tok}
    (B : Below A₀ base outer h₀) (X : (KK S.w.params).In h₀) (T : Top p9 loose mean mg mb h₀) (hd : dp + 12 < recursionLimit) (hu : un + 8 * 12 < cLine)
    (K : S.Ok rest) (C : S.At prog rest ml c evs po ms)
    (s1 : @Ne Nat st S.scd) (s2 : @Ne Nat st S.rdd) (s3 : @Ne Nat st S.ero) (s4 : @Ne Nat st S.erp) (s5 : @Ne Nat st c.x) (s6 : @Ne Nat st c.d) (hO : OwnOff rest [st])
    (r1 : (row, listOf nvs.toArray rn) ∈ rest) (hi : IntsAre nvs ns) (hnl : ns.length ≤ 40) (a0 : 0 ≤ at') (a1 : at' ≤ 90)
    (r2 : (kl, listOf kvs.toArray kn2) ∈ rest) (hkv : StrsAre kvs kindsL)
    (r3 : (rw, listOf rvs.toArray rn2) ∈ rest) (hr : RowsAre rest rvs (rowsF (Str.ofString "") S.ks ++ [(Str.ofString "eof", (S.src.length : Int), Str.ofString "")]))
    (F : Fr h₀ L s.heap (kstB u0 (fr1 S st kl rw mk (c.i : Int) ta ++ [(Str.ofString "deed", Value.int 5 td), (Str.ofString "kind", Value.str (kn kk) tk1), (Str.ofString "here", Value.str (kdF S.ks c.i) th), (Str.ofString "spot_of", Value.int (qF S.ks c.i) tsp), (Str.ofString "sign", Value.str (sgF S.ks c.i) tsg), (Str.ofString "gone", Value.bool false), (Str.ofString "fault", Value.str (Str.ofString "") tf)])))
    (N : News h₀ L s.heap ((st, listOf #[.ref row, .int at' tw] sn) :: (S.led c evs en po ++ rest)))
    (hE : PassesOwn (model prog S.w) (ktrTop dp un gd (Str.ofString "law") lawSc L a ccd [] outer) (envOf (Str.ofString "law") lawSc L a ccd) E)
    (hQ : ∀ (c' : TS) tw' (u : Str → Option Value) h tk ta', S.At prog rest ml c' evs po ms → @Ne Nat st c'.x → @Ne Nat st c'.d →
      Fr h₀ L h (kstB u (fr1 S st kl rw mk (c'.i : Int) ta' ++ [(Str.ofString "gone", Value.bool false), (Str.ofString "fault", Value.str (Str.ofString "") tf), (Str.ofString "spot_of", Value.int (qF S.ks c.i) tsp)])) →
      News h₀ L h ((st, listOf #[.ref row, .int (at' + 1) tw'] sn) :: (S.led c' evs en po ++ rest)) → Q .next { s with heap := h, toks := tk }) :
    wpAny (model prog S.w) (ktrTop dp un gd (Str.ofString "law") lawSc L a ccd [] outer) (exec chain (envOf (Str.ofString "law") lawSc L a ccd)) Q E s := by
  ((have kf : (PySem.Challenge.rw_pq0763_01 = PySem.Challenge.rw_pq0763_01) ∧ (KK = KK) := by (k_fill; exact ⟨rfl, rfl⟩)); clear kf)
  have kmk := kstMark
  unfold lawSc chain nth5 lawBS lawGet at *
  dsimp only at hE ⊢
  dsimp only [kstB, fr1, List.cons_append, List.nil_append] at F
  dsimp only [RS.led, List.cons_append, List.nil_append] at N
  have g1 := K.g1
  have hrl : rvs.length = S.ks.length + 1 := by rw [hr.length, List.length_append, rowsF_length, List.length_cons, List.length_nil]
  have hrl2 : rvs.length ≤ 100 := by have := K.h8; omega
  repeat ((fail_if_success (with_reducible show wpAny _ _ (call (Value.ref 465) _) _ _ _)); (first | with_reducible ((with_reducible show wpAny _ _ (subscriptTail _ _ (Value.ref _) (Value.int 0 _)) _ _ _); k_here; (with_unfolding_all refine' item_fst ?k1 ?_ ?k6; (case k1 => exact News.isTup (by k_asm) (by k_mem)); (case k6 => with_unfolding_all rfl); k_whole)) | with_reducible ((with_reducible show wpAny _ _ (subscriptTail _ _ (Value.ref _) (Value.int (Nat.cast _) _)) _ _ _); k_here; (with_unfolding_all refine' item_ref ?k1 ?k2 ?k3 ?_ ?k6; (case k1 => exact News.isList (by k_asm) (by k_mem)); (case k2 => first | with_reducible assumption | assumption); (case k3 => omega); (case k6 => with_unfolding_all rfl); k_whole)) | with_reducible ((with_reducible show wpAny _ _ (call (Value.builtin "len") [Value.ref _]) _ _ _); k_here; k_dflt (refine' kst_len ?k1 ?k2 ?k3 ?k4 ?_; (case k1 => k_asm); (case k2 => k_mem); (case k3 => first | with_reducible assumption | assumption); (case k4 => omega); k_whole)) | with_reducible ((with_reducible show wpAny _ _ (subscriptTail _ _ (Value.ref _) (Value.int _ _)) _ _ _); k_here; (with_unfolding_all refine' item_strs ?k1 ?k2 ?k3 ?k4 ?k5 ?_ ?k6; (case k1 => exact News.isList (by k_asm) (by k_mem)); (case k2 => first | assumption | (repeat constructor)); (case k3 => omega); (case k4 => walk_at "mine slen"); (case k5 => exact Nat.le_of_ble_eq_true rfl); (case k6 => with_unfolding_all rfl); k_whole); intro _) | with_reducible ((with_reducible show wpAny _ _ (compareOp CmpOp.NotIn (Value.str _ _) (Value.ref _)) _ _ _); k_here; k_dflt (refine' notin_lb ?k1 ?k2 ?k3 ?_; (case k2 => first | with_reducible assumption | assumption); (case k1 => exact News.isList (by k_asm) (by k_mem)); (case k3 => first | with_reducible assumption | assumption); k_whole); (try simp only [Bool.not_true, Bool.not_false])) | with_reducible refine ite_pos (by decide) ?_ | with_reducible refine ite_neg (by decide) ?_ | walk_at "mine step"))
  rename_i oo t91 t81 zh ztk k9 t92 h'1 kl2 h'2 F9 N9 l9
  obtain ⟨z1, z2, z3, z4, z5, z6, z7, z8⟩ := l9
  have y1 := ltN z1; have y2 := ltN z2; have y3 := ltN z3; have y4 := ltN z4; have y5 := ltN z5; have y6 := ltN z6; have y7 := ltN z7
  have K1 := Ok_cons (p := (st, listOf #[.ref row, .int (at' + 1) t81] sn)) K s1 s2 s3 s4
  have C1 := At_cons (p := (st, listOf #[.ref row, .int (at' + 1) t81] sn)) C s5 s6
  refine' CtQ.uv (c_skipto (kl := kl2) (kn' := 0) (kvs := [.str (kn kk) tk1, .str (kn oo) t92]) (ka := kn kk) (kb := kn oo) (Ok_cons (p := (kl2, listOf (List.toArray [.str (kn kk) tk1, .str (kn oo) t92]) 0)) K1 ?w1 ?w2 ?w3 ?w4) (At_cons (p := (kl2, listOf (List.toArray [.str (kn kk) tk1, .str (kn oo) t92]) 0)) C1 ?w5 ?w6) (List.Mem.head _) (StrsAre.cons _ _ (StrsAre.cons _ _ StrsAre.nil))) ?cB ?cF ?cX ?cN ?cT ?ck ?cd ?cu ?_
  case cB => k_asm
  case cF => k_asm
  case cX => k_asm
  case cT => k_asm
  case cN => exact kst_newsOf N9 (allc (.tail _ (.tail _ (.head _))) (allc (.tail _ (.tail _ (.tail _ (.head _)))) (allc (.tail _ (.tail _ (.tail _ (.tail _ (.head _))))) (allc (.tail _ (.tail _ (.tail _ (.tail _ (.tail _ (.head _)))))) (allc (.tail _ (.tail _ (.tail _ (.tail _ (.tail _ (.tail _ (.head _))))))) (allc (.tail _ (.tail _ (.tail _ (.tail _ (.tail _ (.tail _ (.tail _ (.head _)))))))) (allc (.head _) (allc (.tail _ (.head _)) (fun _ h => .tail _ (.tail _ (.tail _ (.tail _ (.tail _ (.tail _ (.tail _ (.tail _ h))))))))))))))))
  case ck => first | exact rfl | assumption
  case cd => walk_at "mine room"
  case cu => walk_at "mine units"
  all_goals try (dsimp only; omega)
  intro l9 h9 tk9 O9 F8 N8
  obtain ⟨c', i1, i2, i3, i4, A', rfl⟩ := O9
  have o1 := A'.off.x _ (.tail _ (.head _))
  have o2 := A'.off.d _ (.tail _ (.head _))
  dsimp only at o1 o2
  have A2 : S.At prog rest ml c' evs po ms := ⟨A'.hi, A'.hV, ⟨fun p hp => A'.off.x p (.tail _ (.tail _ hp)), fun p hp => A'.off.d p (.tail _ (.tail _ hp))⟩, A'.x1, A'.x2, A'.x3, A'.x4, A'.d1, A'.d2, A'.d3, A'.d4, C.m, C.hl, C.dict⟩
  clear A'
  dsimp only [RS.led, List.cons_append, List.nil_append] at N8
  (repeat ((fail_if_success (with_reducible show wpAny _ _ (exec (Stmt.While _ _ _ _) _) _ _ _)); (first | with_reducible ((with_reducible show wpAny _ _ (subscriptTail _ _ (Value.ref _) (Value.int 0 _)) _ _ _); k_here; (with_unfolding_all refine' item_fst ?k1 ?_ ?k6; (case k1 => exact News.isTup (by k_asm) (by k_mem)); (case k6 => with_unfolding_all rfl); k_whole)) | with_reducible ((with_reducible show wpAny _ _ (subscriptTail _ _ (Value.ref _) (Value.int (Nat.cast _) _)) _ _ _); k_here; (with_unfolding_all refine' item_ref ?k1 ?k2 ?k3 ?_ ?k6; (case k1 => exact News.isList (by k_asm) (by k_mem)); (case k2 => first | with_reducible assumption | assumption); (case k3 => omega); (case k6 => with_unfolding_all rfl); k_whole)) | with_reducible ((with_reducible show wpAny _ _ (call (Value.builtin "len") [Value.ref _]) _ _ _); k_here; k_dflt (refine' kst_len ?k1 ?k2 ?k3 ?k4 ?_; (case k1 => k_asm); (case k2 => k_mem); (case k3 => first | with_reducible assumption | assumption); (case k4 => omega); k_whole)) | with_reducible ((with_reducible show wpAny _ _ (subscriptTail _ _ (Value.ref _) (Value.int _ _)) _ _ _); k_here; (with_unfolding_all refine' item_strs ?k1 ?k2 ?k3 ?k4 ?k5 ?_ ?k6; (case k1 => exact News.isList (by k_asm) (by k_mem)); (case k2 => first | assumption | (repeat constructor)); (case k3 => omega); (case k4 => walk_at "mine slen"); (case k5 => exact Nat.le_of_ble_eq_true rfl); (case k6 => with_unfolding_all rfl); k_whole); intro _) | with_reducible ((with_reducible show wpAny _ _ (compareOp CmpOp.NotIn (Value.str _ _) (Value.ref _)) _ _ _); k_here; k_dflt (refine' notin_lb ?k1 ?k2 ?k3 ?_; (case k2 => first | with_reducible assumption | assumption); (case k1 => exact News.isList (by k_asm) (by k_mem)); (case k3 => first | with_reducible assumption | assumption); k_whole); (try simp only [Bool.not_true, Bool.not_false])) | with_reducible refine ite_pos (by decide) ?_ | with_reducible refine ite_neg (by decide) ?_ | walk_at "mine step")))
  rename Fr _ _ _ _ => F0
  rename News _ _ _ _ => N0
  refine' ksw_while (σ := Nat × Tok) (fun _ => _) (fun c => [(Str.ofString "at", Value.int (c.1 : Int) c.2)]) (fun _ => True) []
    (fun c2 => c.i ≤ c2.1 ∧ c2.1 ≤ c'.i) (fun c => S.ks.length - c.1) (c.i, ta) F0 N0 trivial ?kk ⟨Nat.le_refl _, i1⟩ ?turn hE
  case kk => (first | ((try dsimp only); (repeat (refine allc rfl ?_)); exact alln) | kst_all)
  case turn =>
    clear F0 N0
    rintro ⟨m, tm⟩ u h9 tk9 - ⟨b0, b1⟩ F1 N1
    dsimp only at b0 b1
    dsimp only [kstB] at F1
    try k_fold
    obtain ⟨ra, q1, q2, q3, qn, hv, hm9⟩ := hr.at (rows_at (ks := S.ks) (i := m) (by have := A2.hi; omega))
    dsimp only at hm9
    have hka : StrsAre [.str (kn kk) tk1, .str (kn oo) t92] [kn kk, kn oo] := StrsAre.cons _ _ (StrsAre.cons _ _ StrsAre.nil)
    have hn9 := A2.hi
    by_cases e : m = c'.i
    · have hstop : ∀ {s' : Shared} {u' : Str → Option Value} {h tk led}, s' = { s with heap := h, toks := tk } → Fr h₀ L h (kstB u' (fr1 S st kl rw mk (c'.i : Int) tm ++ [(Str.ofString "gone", Value.bool false), (Str.ofString "fault", Value.str (Str.ofString "") tf), (Str.ofString "spot_of", Value.int (qF S.ks c.i) tsp)])) → News h₀ L h led → (∀ p ∈ (st, listOf #[.ref row, .int (at' + 1) t81] sn) :: (S.led c' evs en po ++ rest), p ∈ led) → Q .next s' := by
        rintro s' u' h tk led rfl F' N' hs
        exact hQ c' t81 u' h tk tm A2 (fun e => o1 e) (fun e => o2 e) F' (kst_newsOf N' hs)
      clear hQ
      subst e
      rcases i4 with e | e
      · have hlt : decide (((c'.i : Nat) : Int) < ((rvs.length : Nat) : Int) - 1) = false := decide_eq_false (by omega)
        cases hb : [kn kk, kn oo].any fun x => x == kdF S.ks c'.i
        · (repeat' (first | with_reducible ((with_reducible show wpAny _ _ (subscriptTail _ _ (Value.ref _) (Value.int 0 _)) _ _ _); k_here; (with_unfolding_all refine' item_fst ?k1 ?_ ?k6; (case k1 => exact News.isTup (by k_asm) (by k_mem)); (case k6 => with_unfolding_all rfl); k_whole)) | with_reducible ((with_reducible show wpAny _ _ (subscriptTail _ _ (Value.ref _) (Value.int (Nat.cast _) _)) _ _ _); k_here; (with_unfolding_all refine' item_ref ?k1 ?k2 ?k3 ?_ ?k6; (case k1 => exact News.isList (by k_asm) (by k_mem)); (case k2 => first | with_reducible assumption | assumption); (case k3 => omega); (case k6 => with_unfolding_all rfl); k_whole)) | with_reducible ((with_reducible show wpAny _ _ (call (Value.builtin "len") [Value.ref _]) _ _ _); k_here; k_dflt (refine' kst_len ?k1 ?k2 ?k3 ?k4 ?_; (case k1 => k_asm); (case k2 => k_mem); (case k3 => first | with_reducible assumption | assumption); (case k4 => omega); k_whole)) | with_reducible ((with_reducible show wpAny _ _ (subscriptTail _ _ (Value.ref _) (Value.int _ _)) _ _ _); k_here; (with_unfolding_all refine' item_strs ?k1 ?k2 ?k3 ?k4 ?k5 ?_ ?k6; (case k1 => exact News.isList (by k_asm) (by k_mem)); (case k2 => first | assumption | (repeat constructor)); (case k3 => omega); (case k4 => walk_at "mine slen"); (case k5 => exact Nat.le_of_ble_eq_true rfl); (case k6 => with_unfolding_all rfl); k_whole); intro _) | with_reducible ((with_reducible show wpAny _ _ (compareOp CmpOp.NotIn (Value.str _ _) (Value.ref _)) _ _ _); k_here; k_dflt (refine' notin_lb ?k1 ?k2 ?k3 ?_; (case k2 => first | with_reducible assumption | assumption); (case k1 => exact News.isList (by k_asm) (by k_mem)); (case k3 => first | with_reducible assumption | assumption); k_whole); (try simp only [Bool.not_true, Bool.not_false])) | with_reducible refine ite_pos (by decide) ?_ | with_reducible refine ite_neg (by decide) ?_ | (k_unfold; (try dsimp only)) | (k_end; wrow_close) | walk1 | (dsimp only; walk1) | (leave1; try dsimp only)))
          rename Fr _ _ _ _ => F8
          rename News _ _ _ _ => N8
          refine hstop rfl (fr_kst (by (first | ((try dsimp only); (repeat (refine allc rfl ?_)); exact alln) | kst_all)) F8) N8 ?_
          simp only [RS.led, List.cons_append, List.nil_append]
          iterate 7 refine allc (by k_mem) (?_)
          walk_at "mine sub"
        · (repeat' (first | with_reducible ((with_reducible show wpAny _ _ (subscriptTail _ _ (Value.ref _) (Value.int 0 _)) _ _ _); k_here; (with_unfolding_all refine' item_fst ?k1 ?_ ?k6; (case k1 => exact News.isTup (by k_asm) (by k_mem)); (case k6 => with_unfolding_all rfl); k_whole)) | with_reducible ((with_reducible show wpAny _ _ (subscriptTail _ _ (Value.ref _) (Value.int (Nat.cast _) _)) _ _ _); k_here; (with_unfolding_all refine' item_ref ?k1 ?k2 ?k3 ?_ ?k6; (case k1 => exact News.isList (by k_asm) (by k_mem)); (case k2 => first | with_reducible assumption | assumption); (case k3 => omega); (case k6 => with_unfolding_all rfl); k_whole)) | with_reducible ((with_reducible show wpAny _ _ (call (Value.builtin "len") [Value.ref _]) _ _ _); k_here; k_dflt (refine' kst_len ?k1 ?k2 ?k3 ?k4 ?_; (case k1 => k_asm); (case k2 => k_mem); (case k3 => first | with_reducible assumption | assumption); (case k4 => omega); k_whole)) | with_reducible ((with_reducible show wpAny _ _ (subscriptTail _ _ (Value.ref _) (Value.int _ _)) _ _ _); k_here; (with_unfolding_all refine' item_strs ?k1 ?k2 ?k3 ?k4 ?k5 ?_ ?k6; (case k1 => exact News.isList (by k_asm) (by k_mem)); (case k2 => first | assumption | (repeat constructor)); (case k3 => omega); (case k4 => walk_at "mine slen"); (case k5 => exact Nat.le_of_ble_eq_true rfl); (case k6 => with_unfolding_all rfl); k_whole); intro _) | with_reducible ((with_reducible show wpAny _ _ (compareOp CmpOp.NotIn (Value.str _ _) (Value.ref _)) _ _ _); k_here; k_dflt (refine' notin_lb ?k1 ?k2 ?k3 ?_; (case k2 => first | with_reducible assumption | assumption); (case k1 => exact News.isList (by k_asm) (by k_mem)); (case k3 => first | with_reducible assumption | assumption); k_whole); (try simp only [Bool.not_true, Bool.not_false])) | with_reducible refine ite_pos (by decide) ?_ | with_reducible refine ite_neg (by decide) ?_ | (k_unfold; (try dsimp only)) | (k_end; wrow_close) | walk1 | (dsimp only; walk1) | (leave1; try dsimp only)))
          rename Fr _ _ _ _ => F8
          rename News _ _ _ _ => N8
          refine hstop rfl (fr_kst (by (first | ((try dsimp only); (repeat (refine allc rfl ?_)); exact alln) | kst_all)) F8) N8 ?_
          simp only [RS.led, List.cons_append, List.nil_append]
          iterate 7 refine allc (by k_mem) (?_)
          walk_at "mine sub"
      · (repeat' (first | with_reducible ((with_reducible show wpAny _ _ (subscriptTail _ _ (Value.ref _) (Value.int 0 _)) _ _ _); k_here; (with_unfolding_all refine' item_fst ?k1 ?_ ?k6; (case k1 => exact News.isTup (by k_asm) (by k_mem)); (case k6 => with_unfolding_all rfl); k_whole)) | with_reducible ((with_reducible show wpAny _ _ (subscriptTail _ _ (Value.ref _) (Value.int (Nat.cast _) _)) _ _ _); k_here; (with_unfolding_all refine' item_ref ?k1 ?k2 ?k3 ?_ ?k6; (case k1 => exact News.isList (by k_asm) (by k_mem)); (case k2 => first | with_reducible assumption | assumption); (case k3 => omega); (case k6 => with_unfolding_all rfl); k_whole)) | with_reducible ((with_reducible show wpAny _ _ (call (Value.builtin "len") [Value.ref _]) _ _ _); k_here; k_dflt (refine' kst_len ?k1 ?k2 ?k3 ?k4 ?_; (case k1 => k_asm); (case k2 => k_mem); (case k3 => first | with_reducible assumption | assumption); (case k4 => omega); k_whole)) | with_reducible ((with_reducible show wpAny _ _ (subscriptTail _ _ (Value.ref _) (Value.int _ _)) _ _ _); k_here; (with_unfolding_all refine' item_strs ?k1 ?k2 ?k3 ?k4 ?k5 ?_ ?k6; (case k1 => exact News.isList (by k_asm) (by k_mem)); (case k2 => first | assumption | (repeat constructor)); (case k3 => omega); (case k4 => walk_at "mine slen"); (case k5 => exact Nat.le_of_ble_eq_true rfl); (case k6 => with_unfolding_all rfl); k_whole); intro _) | with_reducible ((with_reducible show wpAny _ _ (compareOp CmpOp.NotIn (Value.str _ _) (Value.ref _)) _ _ _); k_here; k_dflt (refine' notin_lb ?k1 ?k2 ?k3 ?_; (case k2 => first | with_reducible assumption | assumption); (case k1 => exact News.isList (by k_asm) (by k_mem)); (case k3 => first | with_reducible assumption | assumption); k_whole); (try simp only [Bool.not_true, Bool.not_false])) | with_reducible refine ite_pos (by decide) ?_ | with_reducible refine ite_neg (by decide) ?_ | (k_unfold; (try dsimp only)) | (k_end; wrow_close) | walk1 | (dsimp only; walk1) | (leave1; try dsimp only)))
        rename Fr _ _ _ _ => F8
        rename News _ _ _ _ => N8
        refine hstop rfl (fr_kst (by (first | ((try dsimp only); (repeat (refine allc rfl ?_)); exact alln) | kst_all)) F8) N8 ?_
        simp only [RS.led, List.cons_append, List.nil_append]
        iterate 7 refine allc (by k_mem) (?_)
        walk_at "mine sub"
    · have hb := i3 m b0 (by omega)
      have hlt : decide (((m : Nat) : Int) < ((rvs.length : Nat) : Int) - 1) = true := decide_eq_true (by omega)
      (repeat' (first | with_reducible ((with_reducible show wpAny _ _ (subscriptTail _ _ (Value.ref _) (Value.int 0 _)) _ _ _); k_here; (with_unfolding_all refine' item_fst ?k1 ?_ ?k6; (case k1 => exact News.isTup (by k_asm) (by k_mem)); (case k6 => with_unfolding_all rfl); k_whole)) | with_reducible ((with_reducible show wpAny _ _ (subscriptTail _ _ (Value.ref _) (Value.int (Nat.cast _) _)) _ _ _); k_here; (with_unfolding_all refine' item_ref ?k1 ?k2 ?k3 ?_ ?k6; (case k1 => exact News.isList (by k_asm) (by k_mem)); (case k2 => first | with_reducible assumption | assumption); (case k3 => omega); (case k6 => with_unfolding_all rfl); k_whole)) | with_reducible ((with_reducible show wpAny _ _ (call (Value.builtin "len") [Value.ref _]) _ _ _); k_here; k_dflt (refine' kst_len ?k1 ?k2 ?k3 ?k4 ?_; (case k1 => k_asm); (case k2 => k_mem); (case k3 => first | with_reducible assumption | assumption); (case k4 => omega); k_whole)) | with_reducible ((with_reducible show wpAny _ _ (subscriptTail _ _ (Value.ref _) (Value.int _ _)) _ _ _); k_here; (with_unfolding_all refine' item_strs ?k1 ?k2 ?k3 ?k4 ?k5 ?_ ?k6; (case k1 => exact News.isList (by k_asm) (by k_mem)); (case k2 => first | assumption | (repeat constructor)); (case k3 => omega); (case k4 => walk_at "mine slen"); (case k5 => exact Nat.le_of_ble_eq_true rfl); (case k6 => with_unfolding_all rfl); k_whole); intro _) | with_reducible ((with_reducible show wpAny _ _ (compareOp CmpOp.NotIn (Value.str _ _) (Value.ref _)) _ _ _); k_here; k_dflt (refine' notin_lb ?k1 ?k2 ?k3 ?_; (case k2 => first | with_reducible assumption | assumption); (case k1 => exact News.isList (by k_asm) (by k_mem)); (case k3 => first | with_reducible assumption | assumption); k_whole); (try simp only [Bool.not_true, Bool.not_false])) | with_reducible refine ite_pos (by decide) ?_ | with_reducible refine ite_neg (by decide) ?_ | (k_unfold; (try dsimp only)) | (k_end; wrow_close) | walk1 | (dsimp only; walk1) | (leave1; try dsimp only)))
end
theorem perm1 {α : Type} {a b : α} {A R : List α} : ∀ z ∈ A ++ (a :: b :: R), z ∈ a :: (A ++ (b :: R)) := by
  intro z h; simp only [List.mem_append, List.mem_cons] at h ⊢
  rcases h with h | h | h | h <;> simp only [h, true_or, or_true]
theorem perm2 {α : Type} {a b : α} {A B R : List α} : ∀ z ∈ a :: (A ++ (b :: (B ++ R))), z ∈ A ++ (B ++ (a :: b :: R)) := by
  intro z h; simp only [List.mem_append, List.mem_cons] at h ⊢
  rcases h with h | h | h | h | h <;> simp only [h, true_or, or_true]
theorem perm3 {α : Type} {a b : α} {A R : List α} : ∀ z ∈ b :: a :: (A ++ R), z ∈ a :: (A ++ (b :: R)) := by
  intro z h; simp only [List.mem_append, List.mem_cons] at h ⊢
  rcases h with h | h | h | h <;> simp only [h, true_or, or_true]
theorem perm4 {α : Type} {a b : α} {A B C R : List α} : ∀ z ∈ a :: (A ++ (b :: (B ++ C ++ R))), z ∈ b :: (B ++ (a :: (A ++ (C ++ R)))) := by
  intro z h; simp only [List.mem_append, List.mem_cons] at h ⊢
  rcases h with h | h | h | (h | h) | h <;> simp only [h, true_or, or_true]
theorem perm5 {α : Type} {a b : α} {A B R : List α} : ∀ z ∈ a :: (A ++ (b :: (B ++ R))), z ∈ (a :: (A ++ (b :: B))) ++ R := by
  intro z h; simp only [List.cons_append, List.mem_append, List.mem_cons] at h ⊢
  rcases h with h | h | h | h | h <;> simp only [h, true_or, or_true]
theorem perm6 {α : Type} {a b : α} {A B C R : List α} : ∀ z ∈ a :: (A ++ (b :: (B ++ C))), z ∈ a :: (A ++ (b :: (B ++ (C ++ R)))) := by
  intro z h; simp only [List.mem_append, List.mem_cons] at h ⊢
  rcases h with h | h | h | h | h <;> simp only [h, true_or, or_true]
theorem off_of {r : List (Addr × Obj)} {b : Addr} (h : ∀ p ∈ r, @Ne Nat p.1 b) : OwnOff r [b] := fun p hp b' hb => by rw [List.mem_singleton.mp hb]; exact h p hp
/-- keeps a fact from omega -/
noncomputable def Hide (p : Prop) : Prop := p
theorem hide {p : Prop} (h : p) : Hide p := h
theorem At_drop2 {S : RS} {prog : Program} {f rest ml : List (Addr × Obj)} {p q : Addr × Obj} {c : TS} {evs : List Value} {po : Obj} {ms : List (Int × Str)} (C : S.At prog (f ++ p :: q :: rest) ml c evs po ms) : S.At prog (f ++ rest) ml c evs po ms :=
  have hs : ∀ z ∈ f ++ rest, z ∈ f ++ p :: q :: rest := fun z hp => by
    rcases List.mem_append.mp hp with h | h
    · exact List.mem_append_left _ h
    · exact List.mem_append_right _ (.tail _ (.tail _ h))
  ⟨C.hi, C.hV, ⟨fun p hp => C.off.x p (hs p hp), fun p hp => C.off.d p (hs p hp)⟩, C.x1, C.x2, C.x3, C.x4, C.d1, C.d2, C.d3, C.d4, C.m, C.hl, C.dict⟩
theorem growM_eq {ms : List (Int × Str)} {p : Int} {f : Str} : growM ms p f = if (f == Str.ofString "") = false ∧ (ms.any fun m => m.1 == p) = false then ms ++ [(p, f)] else ms := by
  unfold growM addM
  cases (f == Str.ofString "") <;> cases (ms.any fun m => m.1 == p) <;> simp
structure Away (S : RS) (st mk : Addr) (r : List (Addr × Obj)) (p : Addr × Obj) : Prop where
  a1 : @Ne Nat st p.1
  a2 : @Ne Nat mk p.1
  a3 : @Ne Nat S.scd p.1
  a4 : @Ne Nat S.rdd p.1
  a5 : @Ne Nat S.ero p.1
  a6 : @Ne Nat S.erp p.1
  a7 : ∀ q ∈ r, @Ne Nat q.1 p.1
theorem At_sub {S : RS} {prog : Program} {r r' ml : List (Addr × Obj)} {c : TS} {evs : List Value} {po : Obj} {ms : List (Int × Str)} (C : S.At prog r ml c evs po ms) (h : ∀ p ∈ r', p ∈ r) : S.At prog r' ml c evs po ms :=
  ⟨C.hi, C.hV, ⟨fun p hp => C.off.x p (h p hp), fun p hp => C.off.d p (h p hp)⟩, C.x1, C.x2, C.x3, C.x4, C.d1, C.d2, C.d3, C.d4, C.m, C.hl, C.dict⟩
theorem At_app {S : RS} {prog : Program} {r add ml : List (Addr × Obj)} {c : TS} {evs : List Value} {po : Obj} {ms : List (Int × Str)} (C : S.At prog r ml c evs po ms) (h : ∀ p ∈ add, @Ne Nat p.1 c.x ∧ @Ne Nat p.1 c.d) : S.At prog (add ++ r) (add ++ ml) c evs po ms :=
  ⟨C.hi, C.hV, ⟨fun p hp => (List.mem_append.mp hp).elim (fun hp => (h p hp).1) (C.off.x p), fun p hp => (List.mem_append.mp hp).elim (fun hp => (h p hp).2) (C.off.d p)⟩, C.x1, C.x2, C.x3, C.x4, C.d1, C.d2, C.d3, C.d4, C.m.mono fun p hp => List.mem_append_right _ hp, C.hl, C.dict⟩
theorem growM_len {ms : List (Int × Str)} {p : Int} {f : Str} : (growM ms p f).length ≤ ms.length + 1 := by
  rw [growM_eq]; split
  · simp
  · omega
theorem growM_ok {ms : List (Int × Str)} {p : Int} {f : Str} (h : ∀ m ∈ ms, PyData.strOk m.2 = true) (hf : PyData.strOk f = true) : ∀ m ∈ growM ms p f, PyData.strOk m.2 = true := by
  rw [growM_eq]; split
  · intro m hm
    rcases List.mem_append.mp hm with hm | hm
    · exact h m hm
    · rw [List.mem_singleton.mp hm]; exact hf
  · exact h
section
variable {S : RS} {prog p9 : Program} {loose : List Str} {mean : ExcName → Option Value} {mg mb : Str → Option Value} {dp un : Nat} {gd : Option (List Code)} {a : Addr} {ccd : Value} {outer : List Env} {A₀ : Around} {base h₀ : Heap} {L : Addr} {s : Shared} {Q : Flow → Shared → Prop} {E : Value → Shared → Prop}
    {RR ml : List (Addr × Obj)} {c : TS} {evs : List Value} {en : Nat} {po : Obj} {ms : List (Int × Str)} {st kl rw mk : Addr} {ta : Tok} {u0 : Str → Option Value}
theorem fin_ok {row : Addr} {rvs mvs : List Value} {rn rn2 kn2 sn mn : Nat} {d : Int} {tw : Tok} {more : List (Addr × Obj)} {ms2 : List (Int × Str)} {g : Bool} {f : Str} {tf tg tsp : Tok} {sp' : Int} {i0 : Nat}
    (B : Below A₀ base outer h₀) (X : (KK S.w.params).In h₀) (T : Top p9 loose mean mg mb h₀) (hd : dp + 14 < recursionLimit) (hu : un + 8 * 14 < cLine)
    (K : S.Ok RR) (hml : ∀ p ∈ ml, p ∈ RR) (C : S.At prog (more ++ RR) (more ++ ml) c evs po ms2)
    (t1 : @Ne Nat mk S.scd) (t2 : @Ne Nat mk S.rdd) (t3 : @Ne Nat mk S.ero) (t4 : @Ne Nat mk S.erp) (t5 : @Ne Nat mk c.x) (t6 : @Ne Nat mk c.d) (hO2 : OwnOff RR [mk]) (hO3 : OwnOff more [mk]) (hsm : @Ne Nat st mk)
    (r3 : (rw, listOf rvs.toArray rn2) ∈ RR) (hr : RowsAre RR rvs (rowsF (Str.ofString "") S.ks ++ [(Str.ofString "eof", (S.src.length : Int), Str.ofString "")]))
    (m1 : MarksAre ml mvs ms) (hl : ms2.length ≤ 20) (ho : ∀ m ∈ ms2, PyData.strOk m.2 = true) (hfl : f.length ≤ 30)
    (ha : i0 ≤ S.ks.length) (hj : c.i = if g = true then min (i0 + 1) S.ks.length else i0) (hm : ms2 = growM ms sp' f)
    (F : Fr h₀ L s.heap (kstB u0 (fr1 S st kl rw mk (i0 : Int) ta ++ [(Str.ofString "gone", Value.bool g), (Str.ofString "fault", Value.str f tf), (Str.ofString "spot_of", Value.int sp' tsp)])))
    (N : News h₀ L s.heap ((st, listOf #[.ref row, .int d tw] sn) :: (S.led c evs en po ++ ((mk, listOf mvs.toArray mn) :: (more ++ RR)))))
    (hE : PassesOwn (model prog S.w) (ktrTop dp un gd (Str.ofString "law") lawSc L a ccd [] outer) (envOf (Str.ofString "law") lawSc L a ccd) E)
    (hQ : ∀ mvs' mn' add ta' (u : Str → Option Value) h tk, MarksAre (add ++ ml) mvs' ms2 →
      (∀ p ∈ add, ∀ q ∈ (mk, listOf mvs.toArray mn) :: ((st, listOf #[.ref row, .int d tw] sn) :: (S.led c evs en po ++ (more ++ RR))), @LT.lt Nat _ q.1 p.1) →
      Fr h₀ L h (kstB u (fr1 S st kl rw mk (c.i : Int) ta')) →
      News h₀ L h ((st, listOf #[.ref row, .int d tw] sn) :: (S.led c evs en po ++ ((mk, listOf mvs'.toArray mn') :: (add ++ more ++ RR)))) → Q .next { s with heap := h, toks := tk }) :
    wpAny (model prog S.w) (ktrTop dp un gd (Str.ofString "law") lawSc L a ccd [] outer) (execs sfx (envOf (Str.ofString "law") lawSc L a ccd)) Q E s := by
  have hR : ∀ p ∈ RR, p ∈ (st, listOf #[.ref row, .int d tw] sn) :: (S.led c evs en po ++ (more ++ RR)) := fun p hp => .tail _ (List.mem_append_right _ (List.mem_append_right _ hp))
  refine sfx_ok (RR := (st, listOf #[.ref row, .int d tw] sn) :: (S.led c evs en po ++ (more ++ RR))) (ks := S.ks) (n := S.ks.length) (ms := ms) (ms' := ms2) (evs := evs) (j := c.i) (mn := mn) (tg := tf) B X T (by omega) (by omega) F (kst_newsOf N ?_) K.h8 K.hb rfl (hR _ r3) (hr.mono hR) (hR _ K.g1) (.tail _ (List.mem_append_left _ (.tail _ (.tail _ (.tail _ (.head _)))))) (.tail _ (List.mem_append_left _ (.head _))) (.tail _ (List.mem_append_left _ (.tail _ (.head _)))) (hR _ K.g5) (hR _ K.g6) (.tail _ (List.mem_append_left _ (.tail _ (.tail _ (.tail _ (.tail _ (.head _))))))) ?_ (fun p hp => hR p (hml p hp)) m1 (C.m.mono fun p hp => .tail _ (List.mem_append_right _ (by
    rcases List.mem_append.mp hp with h | h
    · exact List.mem_append_left _ h
    · exact List.mem_append_right _ (hml p h)))) ho hl hfl ha hj (by rw [hm, growM_eq]) hE ?_
  · exact perm3
  · refine off_cons (by omega) (off_app (off_cons (by omega) (off_cons (by omega) (off_cons (by omega) (off_cons (by omega) (off_cons (by omega) (off_cons (by omega) fun _ h => nomatch h)))))) (off_app hO3 hO2))
  · intro u mvs' mn' add ta' h tk hmm hg F' N'
    exact hQ mvs' mn' add ta' u h tk hmm hg F' (kst_newsOf N' perm4)
theorem brK_ok {K5 : Int} {rest : List (Addr × Obj)} {kk : Int} {td tk1 th tsp tsg tf : Tok} (hK : 0 ≤ K5) (hK5 : K5 < 5)
    (B : Below A₀ base outer h₀) (X : (KK S.w.params).In h₀) (T : Top p9 loose mean mg mb h₀) (hd : dp + 12 < recursionLimit) (hu : un + 8 * 12 < cLine)
    (K : S.Ok rest) (C : S.At prog rest ml c evs po ms) (hl : ms.length ≤ 18)
    (F : Fr h₀ L s.heap (kstB u0 (fr1 S st kl rw mk (c.i : Int) ta ++ [(Str.ofString "deed", Value.int K5 td), (Str.ofString "kind", Value.str (kn kk) tk1), (Str.ofString "here", Value.str (kdF S.ks c.i) th), (Str.ofString "spot_of", Value.int (qF S.ks c.i) tsp), (Str.ofString "sign", Value.str (sgF S.ks c.i) tsg), (Str.ofString "gone", Value.bool false), (Str.ofString "fault", Value.str (Str.ofString "") tf)])))
    (N : News h₀ L s.heap (S.led c evs en po ++ rest))
    (hE : PassesOwn (model prog S.w) (ktrTop dp un gd (Str.ofString "law") lawSc L a ccd [] outer) (envOf (Str.ofString "law") lawSc L a ccd) E)
    (hQ : ∀ (g : Bool) (f : Str) tf' (u : Str → Option Value) l h tk, f.length ≤ 30 → PyData.strOk f = true → S.Out prog rest ml c (S.led c evs en po ++ rest) (growM ms (qF S.ks c.i) f) l (fun c' _ => c'.i = if g = true then min (c.i + 1) S.ks.length else c.i) →
      Fr h₀ L h (kstB u (fr1 S st kl rw mk (c.i : Int) ta ++ [(Str.ofString "gone", Value.bool g), (Str.ofString "fault", Value.str f tf'), (Str.ofString "spot_of", Value.int (qF S.ks c.i) tsp)])) →
      News h₀ L h l → Q .next { s with heap := h, toks := tk }) :
    wpAny (model prog S.w) (ktrTop dp un gd (Str.ofString "law") lawSc L a ccd [] outer) (exec chain (envOf (Str.ofString "law") lawSc L a ccd)) Q E s := by
  obtain rfl | rfl | rfl | rfl | rfl : K5 = 0 ∨ K5 = 1 ∨ K5 = 2 ∨ K5 = 3 ∨ K5 = 4 := by omega
  · exact br0_ok B X T hd hu K C hl F N hE hQ
  · exact br1_ok B X T hd hu K C hl F N hE hQ
  · exact br2_ok B X T hd hu K C hl F N hE hQ
  · exact br3_ok B X T hd hu K C hl F N hE hQ
  · exact br4_ok B X T hd hu K C hl F N hE hQ
end
section
variable {S : RS} {prog p9 : Program} {loose : List Str} {mean : ExcName → Option Value} {mg mb : Str → Option Value} {dp un : Nat} {gd : Option (List Code)} {a : Addr} {ccd : Value} {outer : List Env} {A₀ : Around} {base h₀ : Heap} {L : Addr} {s : Shared} {Q : Flow → Shared → Prop} {E : Value → Shared → Prop}
    {RR ml : List (Addr × Obj)} {c : TS} {evs : List Value} {en : Nat} {po : Obj} {ms : List (Int × Str)} {st kl rw mk : Addr} {ta : Tok} {u0 : Str → Option Value}
theorem turn_ok {row : Addr} {rvs kvs nvs mvs : List Value} {ns : List Int} {rn rn2 kn2 sn mn : Nat} {at' : Int} {tw : Tok}
    (B : Below A₀ base outer h₀) (X : (KK S.w.params).In h₀) (T : Top p9 loose mean mg mb h₀) (hd : dp + 14 < recursionLimit) (hu : un + 8 * 14 < cLine)
    (K : S.Ok RR) (hml : ∀ p ∈ ml, p ∈ RR) (C : S.At prog RR ml c evs po ms)
    (s1 : @Ne Nat st S.scd) (s2 : @Ne Nat st S.rdd) (s3 : @Ne Nat st S.ero) (s4 : @Ne Nat st S.erp) (s5 : @Ne Nat st c.x) (s6 : @Ne Nat st c.d) (hO : OwnOff RR [st])
    (t1 : @Ne Nat mk S.scd) (t2 : @Ne Nat mk S.rdd) (t3 : @Ne Nat mk S.ero) (t4 : @Ne Nat mk S.erp) (t5 : @Ne Nat mk c.x) (t6 : @Ne Nat mk c.d) (hO2 : OwnOff RR [mk]) (hsm : @Ne Nat st mk)
    (r1 : (row, listOf nvs.toArray rn) ∈ RR) (hi : IntsAre nvs ns) (hnl : ns.length ≤ 40) (a0 : 0 ≤ at') (a1 : at' ≤ 80)
    (r2 : (kl, listOf kvs.toArray kn2) ∈ RR) (hkv : StrsAre kvs kindsL)
    (r3 : (rw, listOf rvs.toArray rn2) ∈ RR) (hr : RowsAre RR rvs (rowsF (Str.ofString "") S.ks ++ [(Str.ofString "eof", (S.src.length : Int), Str.ofString "")]))
    (m1 : MarksAre ml mvs ms) (hl : ms.length ≤ 18) (ho : ∀ m ∈ ms, PyData.strOk m.2 = true)
    (F : Fr h₀ L s.heap (kstB u0 (fr1 S st kl rw mk (c.i : Int) ta)))
    (N : News h₀ L s.heap ((st, listOf #[.ref row, .int at' tw] sn) :: (S.led c evs en po ++ ((mk, listOf mvs.toArray mn) :: RR))))
    (hE : PassesOwn (model prog S.w) (ktrTop dp un gd (Str.ofString "law") lawSc L a ccd [] outer) (envOf (Str.ofString "law") lawSc L a ccd) E)
    (hQ : ∀ (c' : TS) evs' en' po' ms' mvs' mn' tl d tw' ta' (u : Str → Option Value) h tk, S.At prog (tl ++ RR) (tl ++ ml) c' evs' po' ms' → MarksAre (tl ++ ml) mvs' ms' → ms'.length ≤ ms.length + 1 → (∀ m ∈ ms', PyData.strOk m.2 = true) →
      @Ne Nat st c'.x → @Ne Nat st c'.d → @Ne Nat mk c'.x → @Ne Nat mk c'.d → at' ≤ d → d ≤ at' + 3 →
      (∀ p ∈ tl, Away S st mk RR p) →
      Fr h₀ L h (kstB u (fr1 S st kl rw mk (c'.i : Int) ta')) →
      News h₀ L h ((st, listOf #[.ref row, .int d tw'] sn) :: (S.led c' evs' en' po' ++ ((mk, listOf mvs'.toArray mn') :: (tl ++ RR)))) → Q .next { s with heap := h, toks := tk }) :
    wpAny (model prog S.w) (ktrTop dp un gd (Str.ofString "law") lawSc L a ccd [] outer) (execs turn2 (envOf (Str.ofString "law") lawSc L a ccd)) Q E s := by
  ((have kf : (PySem.Challenge.rw_pq0763_01 = PySem.Challenge.rw_pq0763_01) ∧ (KK = KK) := by (k_fill; exact ⟨rfl, rfl⟩)); clear kf)
  have kmk := kstMark
  unfold lawSc turn2 forBody lawBS lawGet at *
  dsimp only at hE ⊢
  dsimp only [kstB, fr1, List.cons_append, List.nil_append] at F
  dsimp only [RS.led, List.cons_append, List.nil_append] at N
  have hrl : rvs.length = S.ks.length + 1 := by rw [hr.length, List.length_append, rowsF_length, List.length_cons, List.length_nil]
  have hrl2 : rvs.length ≤ 100 := by have := K.h8; omega
  obtain ⟨ra, q1, q2, q3, qn, hv, hm9⟩ := hr.at (rows_at (ks := S.ks) (i := c.i) C.hi)
  dsimp only at hm9
  have hs9 := hide (And.intro s1 (And.intro s2 (And.intro s3 (And.intro s4 (And.intro s5 s6)))))
  have ht9 := hide (And.intro t1 (And.intro t2 (And.intro t3 (And.intro t4 (And.intro t5 (And.intro t6 hsm))))))
  replace s1 := Ne.symm s1; replace s2 := Ne.symm s2; replace s3 := Ne.symm s3; replace s4 := Ne.symm s4; replace s5 := Ne.symm s5; replace s6 := Ne.symm s6; replace hsm := Ne.symm hsm
  clear t1 t2 t3 t4 t5 t6
  repeat ((fail_if_success (with_reducible show wpAny _ _ (exec (Stmt.If _ _ _ _) _) _ _ _)); (first | with_reducible ((with_reducible show wpAny _ _ (subscriptTail _ _ (Value.ref _) (Value.int 0 _)) _ _ _); k_here; (with_unfolding_all refine' item_fst ?k1 ?_ ?k6; (case k1 => exact News.isTup (by k_asm) (by k_mem)); (case k6 => with_unfolding_all rfl); k_whole)) | with_reducible ((with_reducible show wpAny _ _ (subscriptTail _ _ (Value.ref _) (Value.int (Nat.cast _) _)) _ _ _); k_here; (with_unfolding_all refine' item_ref ?k1 ?k2 ?k3 ?_ ?k6; (case k1 => exact News.isList (by k_asm) (by k_mem)); (case k2 => first | with_reducible assumption | assumption); (case k3 => omega); (case k6 => with_unfolding_all rfl); k_whole)) | with_reducible ((with_reducible show wpAny _ _ (subscriptTail _ _ (Value.ref _) (Value.int _ _)) _ _ _); k_here; (with_unfolding_all refine' item_strs ?k1 ?k2 ?k3 ?k4 ?k5 ?_ ?k6; (case k1 => exact News.isList (by k_asm) (by k_mem)); (case k2 => first | assumption | (repeat constructor)); (case k3 => omega); (case k4 => walk_at "mine slen"); (case k5 => exact Nat.le_of_ble_eq_true rfl); (case k6 => with_unfolding_all rfl); k_whole); intro _) | with_reducible refine ite_pos (by decide) ?_ | with_reducible refine ite_neg (by decide) ?_ | walk_at "mine step"))
  clear s1 s2 s3 s4 s5 s6 hsm
  obtain ⟨s1, s2, s3, s4, s5, s6⟩ := hs9
  obtain ⟨t1, t2, t3, t4, t5, t6, hsm⟩ := ht9
  rename_i kdd td z5 z1 z2 kd z7 z8 kk z12 tw8 z9 z10 kk9 tk9 z16 z17 z18 z19 z20 z21 z22 F8 N8
  obtain ⟨kd1, kd2⟩ := kd
  by_cases h5 : kdd < 5
  · refine brK_ok (K5 := kdd) (rest := (st, listOf #[.ref row, .int (at' + 1 + 1) tw8] sn) :: (mk, listOf mvs.toArray mn) :: RR) (ml := ml) (kk := kk) (ms := ms) (c := c) (evs := evs) (en := en) (po := po) (st := st) (kl := kl) (rw := rw) (mk := mk) (ta := ta) (tf := _) kd1 h5 B X T (by omega) (by omega) (Ok_cons (Ok_cons K t1 t2 t3 t4) s1 s2 s3 s4) (At_cons (At_cons C t5 t6) s5 s6) hl (fr_kst (by dsimp only [fr1, kn, List.cons_append, List.nil_append]; (first | ((try dsimp only); (repeat (refine allc rfl ?_)); exact alln) | kst_all)) F8) (kst_newsOf N8 ?_) hE ?_
    · exact perm1 (A := S.led c evs en po)
    · intro g f tf' u l h tk hfl hfo O9 F9 N9
      obtain ⟨c', evs', en', po', more, rfl, C', hi', lt'⟩ := O9
      have C2 := At_drop2 C'
      have x1 : @Ne Nat st c'.x := C'.off.x _ (List.mem_append_right _ (.head _))
      have x2 : @Ne Nat st c'.d := C'.off.d _ (List.mem_append_right _ (.head _))
      have x3 : @Ne Nat mk c'.x := C'.off.x _ (List.mem_append_right _ (.tail _ (.head _)))
      have x4 : @Ne Nat mk c'.d := C'.off.d _ (List.mem_append_right _ (.tail _ (.head _)))
      have hA : ∀ p ∈ more, Away S st mk RR p := by
        intro p hp
        rcases lt' p (.tail _ (.tail _ hp)) with (e | e) | e
        · exact ⟨by rw [e]; exact s5, by rw [e]; exact t5, by rw [e]; exact Ne.symm C.x1, by rw [e]; exact Ne.symm C.x2, by rw [e]; exact Ne.symm C.x3, by rw [e]; exact Ne.symm C.x4, fun q hq => by rw [e]; exact C.off.x q hq⟩
        · exact ⟨by rw [e]; exact s6, by rw [e]; exact t6, by rw [e]; exact Ne.symm C.d1, by rw [e]; exact Ne.symm C.d2, by rw [e]; exact Ne.symm C.d3, by rw [e]; exact Ne.symm C.d4, fun q hq => by rw [e]; exact C.off.d q hq⟩
        · exact ⟨Nat.ne_of_lt (e _ (List.mem_append_right _ (.head _))), Nat.ne_of_lt (e _ (List.mem_append_right _ (.tail _ (.head _)))), Nat.ne_of_lt (e _ (List.mem_append_left _ (.tail _ (.tail _ (.head _))))), Nat.ne_of_lt (e _ (List.mem_append_left _ (.tail _ (.tail _ (.tail _ (.head _)))))), Nat.ne_of_lt (e _ (List.mem_append_left _ (.tail _ (.tail _ (.tail _ (.tail _ (.head _))))))), Nat.ne_of_lt (e _ (List.mem_append_left _ (.tail _ (.tail _ (.tail _ (.tail _ (.tail _ (.head _)))))))), fun q hq => Nat.ne_of_lt (e q (List.mem_append_right _ (.tail _ (.tail _ hq))))⟩
      have hgl := growM_len (ms := ms) (p := qF S.ks c.i) (f := f)
      have hgl2 : (growM ms (qF S.ks c.i) f).length ≤ 20 := by omega
      dsimp only
      refine fin_ok (more := more) (RR := RR) (ml := ml) (ms2 := growM ms (qF S.ks c.i) f) (ms := ms) (mvs := mvs) (mn := mn) (g := g) (f := f) (sp' := qF S.ks c.i) (i0 := c.i) (c := c') (evs := evs') (en := en') (po := po') (d := at' + 1 + 1) (tw := tw8) (sn := sn) (row := row) (rvs := rvs) (rn2 := rn2) (rn := rn) (kn2 := kn2) (tg := tf') B X T hd hu K hml C2 t1 t2 t3 t4 x3 x4 hO2 (off_of fun p hp => Ne.symm (hA p hp).a2) hsm r3 hr m1 hgl2 (growM_ok ho hfo) hfl C.hi hi' rfl F9 (kst_newsOf N9 ?_) hE ?_
      · exact perm2
      · intro mvs' mn' add ta' u' h' tk' hmm hg F' N'
        refine hQ c' evs' en' po' _ mvs' mn' (add ++ more) _ _ ta' u' h' tk' ?_ ?_ hgl (growM_ok ho hfo) x1 x2 x3 x4 (by omega) (by omega) ?_ F' N'
        · rw [List.append_assoc, List.append_assoc]
          exact At_app C2 fun p hp => ⟨Ne.symm (Nat.ne_of_lt (hg p hp _ (.tail _ (.tail _ (List.mem_append_left _ (.head _)))))), Ne.symm (Nat.ne_of_lt (hg p hp _ (.tail _ (.tail _ (List.mem_append_left _ (.tail _ (.head _)))))))⟩
        · refine hmm.mono fun p hp => ?_
          rcases List.mem_append.mp hp with h | h
          · exact List.mem_append_left _ (List.mem_append_left _ h)
          · exact List.mem_append_right _ h
        · intro p hp
          rcases List.mem_append.mp hp with hp | hp
          · have e := hg p hp
            exact ⟨Nat.ne_of_lt (e _ (.tail _ (.head _))), Nat.ne_of_lt (e _ (.head _)), Nat.ne_of_lt (e _ (.tail _ (.tail _ (List.mem_append_left _ (.tail _ (.tail _ (.head _))))))), Nat.ne_of_lt (e _ (.tail _ (.tail _ (List.mem_append_left _ (.tail _ (.tail _ (.tail _ (.head _)))))))), Nat.ne_of_lt (e _ (.tail _ (.tail _ (List.mem_append_left _ (.tail _ (.tail _ (.tail _ (.tail _ (.head _))))))))), Nat.ne_of_lt (e _ (.tail _ (.tail _ (List.mem_append_left _ (.tail _ (.tail _ (.tail _ (.tail _ (.tail _ (.head _)))))))))), fun q hq => Nat.ne_of_lt (e q (.tail _ (.tail _ (List.mem_append_right _ (List.mem_append_right _ hq)))))⟩
          · exact hA p hp
  · have h6 : kdd = 5 := by omega
    subst h6
    refine br5_ok (rest := (mk, listOf mvs.toArray mn) :: RR) (ml := ml) (kk := kk) (row := row) (at' := at' + 1 + 1) (tw := tw8) (sn := sn) (ms := ms) (c := c) (evs := evs) (en := en) (po := po) (st := st) (kl := kl) (rw := rw) (mk := mk) (ta := ta) (tf := _) B X T (by omega) (by omega) (Ok_cons K t1 t2 t3 t4) (At_cons C t5 t6) s1 s2 s3 s4 s5 s6 (off_cons (Ne.symm hsm) hO) (.tail _ r1) hi hnl (by omega) (by omega) (.tail _ r2) hkv (.tail _ r3) (hr.mono fun _ h => .tail _ h) (fr_kst (by dsimp only [fr1, kn, List.cons_append, List.nil_append]; (first | ((try dsimp only); (repeat (refine allc rfl ?_)); exact alln) | kst_all)) F8) (kst_newsOf N8 ?_) hE ?_
    · exact fun _ h => h
    · intro c' tw' u h tk ta' C' x1 x2 F9 N9
      have C2 : S.At prog ([] ++ RR) ([] ++ ml) c' evs po ms := At_sub C' fun p hp => .tail _ hp
      have x3 : @Ne Nat mk c'.x := C'.off.x _ (.head _)
      have x4 : @Ne Nat mk c'.d := C'.off.d _ (.head _)
      dsimp only
      refine fin_ok (more := []) (RR := RR) (ml := ml) (ms2 := ms) (ms := ms) (mvs := mvs) (mn := mn) (g := false) (f := Str.ofString "") (sp' := qF S.ks c.i) (i0 := c'.i) (c := c') (evs := evs) (en := en) (po := po) (d := at' + 1 + 1 + 1) (tw := tw') (sn := sn) (row := row) (rvs := rvs) (rn2 := rn2) (rn := rn) (kn2 := kn2) (tg := tw') B X T hd hu K hml C2 t1 t2 t3 t4 x3 x4 hO2 (fun _ h => nomatch h) hsm r3 hr m1 (by omega) ho (by decide +kernel) C'.hi rfl (growM_nil _ _).symm F9 (kst_newsOf N9 ?_) hE ?_
      · exact fun _ h => h
      · intro mvs' mn' add ta'' u' h' tk' hmm hg F' N'
        refine hQ c' evs en po ms mvs' mn' add (at' + 1 + 1 + 1) tw' ta'' u' h' tk' ?_ hmm (Nat.le_succ _) ho x1 x2 x3 x4 (by omega) (by omega) ?_ F' (kst_newsOf N' ?_)
        · exact At_app C2 fun p hp => ⟨Ne.symm (Nat.ne_of_lt (hg p hp _ (.tail _ (.tail _ (List.mem_append_left _ (.head _)))))), Ne.symm (Nat.ne_of_lt (hg p hp _ (.tail _ (.tail _ (List.mem_append_left _ (.tail _ (.head _)))))))⟩
        · intro p hp
          have e := hg p hp
          exact ⟨Nat.ne_of_lt (e _ (.tail _ (.head _))), Nat.ne_of_lt (e _ (.head _)), Nat.ne_of_lt (e _ (.tail _ (.tail _ (List.mem_append_left _ (.tail _ (.tail _ (.head _))))))), Nat.ne_of_lt (e _ (.tail _ (.tail _ (List.mem_append_left _ (.tail _ (.tail _ (.tail _ (.head _)))))))), Nat.ne_of_lt (e _ (.tail _ (.tail _ (List.mem_append_left _ (.tail _ (.tail _ (.tail _ (.tail _ (.head _))))))))), Nat.ne_of_lt (e _ (.tail _ (.tail _ (List.mem_append_left _ (.tail _ (.tail _ (.tail _ (.tail _ (.tail _ (.head _)))))))))), fun q hq => Nat.ne_of_lt (e q (.tail _ (.tail _ (List.mem_append_right _ hq))))⟩
        · rw [List.append_nil]
          exact fun _ h => h
end
section
variable {prog : Program} {w : World} {A : Around} {E : Value → Shared → Prop} {s : Shared} {env : Env} {h₀ : Heap} {x : Str} {body : List Stmt} {Q : Flow → Shared → Prop}
noncomputable def Lp2 {σ : Type} (h₀ : Heap) (L : Addr) (s₁ : Shared) (front : σ → List (Addr × Obj)) (rest' : List (Addr × Obj)) (ps : σ → List (Str × Value)) (P : σ → Prop) (c : σ) (s₂ : Shared) : Prop :=
  ∃ (c' : σ) (h' : Heap) (tk : Nat) (m' : Str → Option Value) (news' : List (Addr × Obj)), s₂ = { s₁ with heap := h', toks := tk } ∧ Fr h₀ L h' m' ∧ News h₀ L h' news' ∧ (∀ p ∈ front c', p ∈ news') ∧ (∀ p ∈ rest', p ∈ news') ∧
    (∀ p ∈ front c', p.1 ∈ (front c).map (·.1) ∨ ∀ q ∈ rest', @Ne Nat q.1 p.1) ∧ (∀ p ∈ ps c', m' p.1 = some p.2) ∧ P c'
theorem lp_range2 {σ : Type} {r : Addr} {a₀ b₀ : Int} {t₀ u₀ v₀ : Tok} {n : Nat} {m₀ : Str → Option Value} (front : σ → List (Addr × Obj)) (rest : List (Addr × Obj)) (ps : σ → List (Str × Value)) (P : Nat → σ → Prop) (c₀ : σ)
    (hh : A.handled = none) (hr : IsRange s.heap r a₀ b₀ 1 t₀ u₀ v₀) (hsmall : Builtin.Range.small a₀ b₀ 1 = true) (hn : Builtin.Range.rangeSize a₀ b₀ 1 = (n : Int)) (F : Fr h₀ env.locals s.heap m₀) (N : News h₀ env.locals s.heap (front c₀ ++ rest)) (hk : ∀ p ∈ ps c₀, m₀ p.1 = some p.2) (hp : P 0 c₀) (hx : ∀ c, ∀ p ∈ ps c, p.1 ≠ x)
    (turn : ∀ (i : Nat) (c : σ) (u : Str → Option Value) h tk rest', i < n → P i c → (∀ p ∈ rest, p ∈ rest') → (∀ b, b ∈ (front c).map (·.1) → OwnOff rest [b] → OwnOff rest' [b]) →
      Fr h₀ env.locals h (kstB u (ps c)) → News h₀ env.locals h (front c ++ rest') →
      wpAny (model prog w) A (execs body env) (fun f s₂ => f = .next ∧ Lp2 h₀ env.locals { s with heap := h, toks := tk } front rest' ps (P (i + 1)) c s₂) E { s with heap := h, toks := tk })
    (done : ∀ (c : σ) (u : Str → Option Value) h tk, P n c → Fr h₀ env.locals h (kstB u (ps c)) → News h₀ env.locals h (front c ++ rest) → Q .next { s with heap := h, toks := tk }) :
    wpAny (model prog w) A (pyIter (.ref r)) (fun it s₂ => LoopAtV prog w A h₀ env x body Q E it s₂) E s := by
  refine wpAny_pyIter_range hr hsmall ?_
  have W := (Walks.range (prog := prog) (w := w) hh s.heap.objs.size a₀ 1 n).bound
  have hnI : ∀ p ∈ front c₀ ++ rest, p.1 ∉ [s.heap.objs.size] := fun p hp e => absurd (Heap.lt_size (N p hp).1) (List.mem_singleton.mp e ▸ Nat.lt_irrefl _)
  refine ⟨s.heap.objs.size, [s.heap.objs.size], [s.heap.objs.size], n, _, _, m₀, front c₀ ++ rest, fun i m nx => ∃ c, nx = front c ++ rest ∧ (∀ p ∈ ps c, m p.1 = some p.2) ∧ P i c, rfl, W, ?_, ?_, hnI, (by show IsRangeIter _ _ _ _ _; rw [hn]; simpa using Heap.get?_push_size _ rfl), F.push _, fun p hp => ⟨Heap.get?_push_of_some _ (N p hp).1, (N p hp).2⟩, ⟨c₀, rfl, hk, hp⟩, ?_, ?_⟩
  · intro hm
    exact absurd F.ns.lt ((List.mem_singleton.mp hm) ▸ Nat.lt_irrefl _)
  · intro b hb; rw [List.mem_singleton.mp hb]; exact next_is_new F
  · rintro i v m₁ nx s₁ own ⟨h, tk, rfl⟩ hin hP ⟨c, rfl, h1, hp'⟩ hoff hown _ hmem hst' F₁ N₁
    have hIown : ∃ oI, (s.heap.objs.size, oI) ∈ own := ⟨_, hmem _ (.head _) (next_is_new F) _ hst'⟩
    obtain ⟨oI, hIown⟩ := hIown
    have N₂ : News h₀ env.locals h (front c ++ (own ++ rest)) := kst_newsOf N₁ fun p hp => by
      rcases List.mem_append.mp hp with hp | hp
      · exact List.mem_append_right _ (List.mem_append_left _ hp)
      · rcases List.mem_append.mp hp with hp | hp
        · exact List.mem_append_left _ hp
        · exact List.mem_append_right _ (List.mem_append_right _ hp)
    have hsep : ∀ b, b ∈ (front c).map (·.1) → OwnOff rest [b] → OwnOff (own ++ rest) [b] := by
      intro b hb ho p hp b' hb'
      rw [List.mem_singleton.mp hb']
      rcases List.mem_append.mp hp with hp | hp
      · have e := List.mem_singleton.mp (hown p hp)
        obtain ⟨q, hq, rfl⟩ := List.mem_map.mp hb
        exact fun e' => hoff q (List.mem_append_left _ hq) (List.mem_singleton.mpr (e'.symm.trans e))
      · exact ho p hp b (.head _)
    have F₂ : Fr h₀ env.locals h (kstB (fun y => if y = x then some v else m₁ y) (ps c)) := fr_kst (fun p hp => by rw [if_neg (hx c p hp)]; exact h1 p hp) F₁
    refine wpAny_mono (turn i c _ h tk (own ++ rest) hin hp' (fun p hp => List.mem_append_right _ hp) hsep F₂ N₂) (fun f s₂ p => ?_) fun _ _ e => e
    obtain ⟨rfl, c', h', tk', m', news', rfl, F', N', a1, a2, a3, a4, a6⟩ := p
    refine .next ⟨rfl, h', tk', m', front c' ++ rest, rfl, F', fun p hp => N' p ?_, fun p hp hq => ?_, c', rfl, a4, a6⟩
    · rcases List.mem_append.mp hp with hp | hp
      · exact a2 p (List.mem_append_left _ hp)
      · rcases List.mem_append.mp hp with hp | hp
        · exact a1 p hp
        · exact a2 p (List.mem_append_right _ hp)
    · have e := List.mem_singleton.mp hq
      rcases List.mem_append.mp hp with hp | hp
      · rcases a3 p hp with h3 | h3
        · obtain ⟨q, hq', e'⟩ := List.mem_map.mp h3
          exact hoff q (List.mem_append_left _ hq') (List.mem_singleton.mpr (e'.trans e))
        · have := h3 _ (List.mem_append_left _ hIown)
          rw [e] at this
          exact this rfl
      · exact hoff p (List.mem_append_right _ hp) hq
  · rintro h' tk m' news' F' N' _ ⟨c, rfl, h1, hp'⟩
    exact done c m' h' tk hp' (fr_kst h1 F') N'
end
theorem Ok_ext {S : RS} {r r' : List (Addr × Obj)} (K : S.Ok r) (h : ∀ p ∈ r, p ∈ r') (o1 : OwnOff r' [S.scd]) (o2 : OwnOff r' [S.rdd]) (o3 : OwnOff r' [S.ero]) (o4 : OwnOff r' [S.erp]) : S.Ok r' :=
  ⟨K.h8, K.hb, h _ K.g1, h _ K.h1, h _ K.hw, K.hws, h _ K.g5, h _ K.g6, o1, o2, o3, o4, K.n1, K.n2, K.n3, K.n4, K.n5, K.n6, K.sys⟩
theorem At_off {S : RS} {prog : Program} {r r' ml : List (Addr × Obj)} {c : TS} {evs : List Value} {po : Obj} {ms : List (Int × Str)} (C : S.At prog r ml c evs po ms) (h1 : OwnOff r' [c.x]) (h2 : OwnOff r' [c.d]) : S.At prog r' ml c evs po ms :=
  ⟨C.hi, C.hV, ⟨fun p hp => h1 p hp _ (.head _), fun p hp => h2 p hp _ (.head _)⟩, C.x1, C.x2, C.x3, C.x4, C.d1, C.d2, C.d3, C.d4, C.m, C.hl, C.dict⟩
structure L2 where
  c : TS
  evs : List Value
  en : Nat
  po : Obj
  ms : List (Int × Str)
  mvs : List Value
  mn : Nat
  tl : List (Addr × Obj)
  d : Int
  tw : Tok
  ta : Tok
noncomputable abbrev L2.front (S : RS) (st mk row : Addr) (sn : Nat) (q : L2) : List (Addr × Obj) := (st, listOf #[.ref row, .int q.d q.tw] sn) :: (S.led q.c q.evs q.en q.po ++ ((mk, listOf q.mvs.toArray q.mn) :: q.tl))
structure L2.P (S : RS) (prog : Program) (st mk : Addr) (rest : List (Addr × Obj)) (a0 : Int) (i : Nat) (q : L2) : Prop where
  A : S.At prog (q.tl ++ rest) q.tl q.c q.evs q.po q.ms
  m : MarksAre q.tl q.mvs q.ms
  hl : q.ms.length ≤ i
  ho : ∀ m ∈ q.ms, PyData.strOk m.2 = true
  s5 : @Ne Nat st q.c.x
  s6 : @Ne Nat st q.c.d
  t5 : @Ne Nat mk q.c.x
  t6 : @Ne Nat mk q.c.d
  d0 : a0 ≤ q.d
  d1 : q.d ≤ a0 + 3 * (i : Int)
  tlA : ∀ p ∈ q.tl, Away S st mk [] p
section
variable {S : RS} {prog p9 : Program} {loose : List Str} {mean : ExcName → Option Value} {mg mb : Str → Option Value} {dp un : Nat} {gd : Option (List Code)} {a : Addr} {ccd : Value} {outer : List Env} {A₀ : Around} {base h₀ : Heap} {L : Addr} {s : Shared} {Q : Flow → Shared → Prop} {E : Value → Shared → Prop}
    {rest : List (Addr × Obj)} {c : TS} {evs : List Value} {en : Nat} {po : Obj} {st kl rw mk : Addr} {ta : Tok} {u0 : Str → Option Value}
theorem loop2_ok {row : Addr} {rvs kvs nvs : List Value} {ns : List Int} {rn rn2 kn2 sn mn : Nat} {at' : Int} {tw : Tok}
    (B : Below A₀ base outer h₀) (X : (KK S.w.params).In h₀) (T : Top p9 loose mean mg mb h₀) (hd : dp + 14 < recursionLimit) (hu : un + 8 * 14 < cLine)
    (K : S.Ok rest) (C : S.At prog rest [] c [] po [])
    (s1 : @Ne Nat st S.scd) (s2 : @Ne Nat st S.rdd) (s3 : @Ne Nat st S.ero) (s4 : @Ne Nat st S.erp) (s5 : @Ne Nat st c.x) (s6 : @Ne Nat st c.d) (hO : OwnOff rest [st])
    (t1 : @Ne Nat mk S.scd) (t2 : @Ne Nat mk S.rdd) (t3 : @Ne Nat mk S.ero) (t4 : @Ne Nat mk S.erp) (t5 : @Ne Nat mk c.x) (t6 : @Ne Nat mk c.d) (hO2 : OwnOff rest [mk]) (hsm : @Ne Nat st mk)
    (r1 : (row, listOf nvs.toArray rn) ∈ rest) (hi : IntsAre nvs ns) (hnl : ns.length ≤ 40) (a0 : 0 ≤ at') (a1 : at' ≤ 17)
    (r2 : (kl, listOf kvs.toArray kn2) ∈ rest) (hkv : StrsAre kvs kindsL)
    (r3 : (rw, listOf rvs.toArray rn2) ∈ rest) (hr : RowsAre rest rvs (rowsF (Str.ofString "") S.ks ++ [(Str.ofString "eof", (S.src.length : Int), Str.ofString "")]))
    (F : Fr h₀ L s.heap (kstB u0 (fr1 S st kl rw mk (c.i : Int) ta)))
    (N : News h₀ L s.heap ((st, listOf #[.ref row, .int at' tw] sn) :: (S.led c [] en po ++ ((mk, listOf (List.toArray []) mn) :: rest))))
    (hE : PassesOwn (model prog S.w) (ktrTop dp un gd (Str.ofString "law") lawSc L a ccd [] outer) (envOf (Str.ofString "law") lawSc L a ccd) E)
    (hQ : ∀ m h tk, Fr h₀ L h m → Q .next { s with heap := h, toks := tk }) :
    wpAny (model prog S.w) (ktrTop dp un gd (Str.ofString "law") lawSc L a ccd [] outer) (exec loop2 (envOf (Str.ofString "law") lawSc L a ccd)) Q E s := by
  ((have kf : (PySem.Challenge.rw_pq0763_01 = PySem.Challenge.rw_pq0763_01) ∧ (KK = KK) := by (k_fill; exact ⟨rfl, rfl⟩)); clear kf)
  have kmk := kstMark
  unfold lawSc loop2 tail1 nth5 lawBS lawGet at *
  dsimp only at hE ⊢
  dsimp only [kstB, fr1, List.cons_append, List.nil_append] at F
  dsimp only [RS.led, List.cons_append, List.nil_append] at N
  have hs9 := hide (And.intro s1 (And.intro s2 (And.intro s3 (And.intro s4 (And.intro s5 s6)))))
  have ht9 := hide (And.intro t1 (And.intro t2 (And.intro t3 (And.intro t4 (And.intro t5 (And.intro t6 hsm))))))
  replace s1 := Ne.symm s1; replace s2 := Ne.symm s2; replace s3 := Ne.symm s3; replace s4 := Ne.symm s4; replace s5 := Ne.symm s5; replace s6 := Ne.symm s6; replace hsm := Ne.symm hsm
  clear t1 t2 t3 t4 t5 t6
  refine' For_invVF F ?k1 ?k2 ?_ ?k3 hE
  case k1 => exact rfl
  case k2 => exact rfl
  case k3 => intro _; rfl
  (repeat ((fail_if_success (with_reducible show wpAny _ _ (pyIter _) _ _ _)); (first | with_reducible refine ite_pos (by decide) ?_ | with_reducible refine ite_neg (by decide) ?_ | walk_at "mine step")))
  rename Fr _ _ _ _ => F0
  rename News _ _ _ _ => N0
  rename IsRange _ _ _ _ _ _ _ _ => r0
  rename (0 : Int) ≤ _ ∧ _ < (10 : Int) => k9
  clear s1 s2 s3 s4 s5 s6 hsm
  obtain ⟨s1, s2, s3, s4, s5, s6⟩ := hs9
  obtain ⟨t1, t2, t3, t4, t5, t6, hsm⟩ := ht9
  refine lp_range2 (σ := L2) (L2.front S st mk row sn) rest (fun q => fr1 S st kl rw mk (q.c.i : Int) q.ta) (L2.P S prog st mk rest (at' + 1)) ⟨c, [], en, po, [], [], mn, [], at' + 1, _, ta⟩ (by rfl) r0 (small_one (by omega) (by omega) (by omega) (by omega)) (rangeSize_nat _ _) F0 N0 ?hk ?hp ?hx ?turn ?done
  case hk => dsimp only [fr1]; (first | ((try dsimp only); (repeat (refine allc rfl ?_)); exact alln) | kst_all)
  case hp => exact ⟨C, .nil, Nat.le_refl _, (fun _ h => nomatch h), s5, s6, t5, t6, Int.le_refl _, by dsimp only; omega, fun _ h => nomatch h⟩
  case hx =>
    intro q p hp
    simp only [fr1, List.mem_cons, List.not_mem_nil, or_false] at hp
    rcases hp with rfl | rfl | rfl | rfl | rfl | rfl | rfl <;> (dsimp only; decide)
  case done =>
    intro q u h tk _ F1 N1
    exact hQ _ h tk F1
  case turn =>
    intro i q u h tk rest' hi9 hP hsub hoff F1 N1
    have hi10 : i < 10 := by omega
    clear F0 N0 r0 hQ hi9 k9
    have w1 := hoff S.scd (.tail _ (.tail _ (.tail _ (.head _)))) K.o1
    have w2 := hoff S.rdd (.tail _ (.tail _ (.tail _ (.tail _ (.head _))))) K.o2
    have w3 := hoff S.ero (.tail _ (.tail _ (.tail _ (.tail _ (.tail _ (.head _)))))) K.o3
    have w4 := hoff S.erp (.tail _ (.tail _ (.tail _ (.tail _ (.tail _ (.tail _ (.head _))))))) K.o4
    have w5 := hoff st (.head _) hO
    have w6 := hoff mk (.tail _ (.tail _ (.tail _ (.tail _ (.tail _ (.tail _ (.tail _ (.head _)))))))) hO2
    have w7 := hoff q.c.x (.tail _ (.head _)) (off_of fun p hp => hP.A.off.x p (List.mem_append_right _ hp))
    have w8 := hoff q.c.d (.tail _ (.tail _ (.head _))) (off_of fun p hp => hP.A.off.d p (List.mem_append_right _ hp))
    have hR : ∀ p ∈ rest, p ∈ q.tl ++ rest' := fun p hp => List.mem_append_right _ (hsub p hp)
    refine turn_ok (RR := q.tl ++ rest') (ml := q.tl) (row := row) (rvs := rvs) (kvs := kvs) (nvs := nvs) (mvs := q.mvs) (ns := ns) (ms := q.ms) (evs := q.evs) (po := q.po) (c := q.c) (at' := q.d) (tw := q.tw) (sn := sn) (mn := q.mn) (en := q.en) (rn := rn) (rn2 := rn2) (kn2 := kn2) (st := st) (kl := kl) (rw := rw) (mk := mk) (ta := q.ta) B X T hd hu
      (Ok_ext K hR (off_app (off_of fun p hp => Ne.symm (hP.tlA p hp).a3) w1) (off_app (off_of fun p hp => Ne.symm (hP.tlA p hp).a4) w2) (off_app (off_of fun p hp => Ne.symm (hP.tlA p hp).a5) w3) (off_app (off_of fun p hp => Ne.symm (hP.tlA p hp).a6) w4))
      (fun p hp => List.mem_append_left _ hp) (At_off hP.A (off_app (off_of fun p hp => hP.A.off.x p (List.mem_append_left _ hp)) w7) (off_app (off_of fun p hp => hP.A.off.d p (List.mem_append_left _ hp)) w8))
      s1 s2 s3 s4 hP.s5 hP.s6 (off_app (off_of fun p hp => Ne.symm (hP.tlA p hp).a1) w5) t1 t2 t3 t4 hP.t5 hP.t6 (off_app (off_of fun p hp => Ne.symm (hP.tlA p hp).a2) w6) hsm
      (hR _ r1) hi hnl (by have := hP.d0; omega) (by have := hP.d1; omega) (hR _ r2) hkv (hR _ r3) (hr.mono hR) hP.m (by have := hP.hl; omega) hP.ho F1 (kst_newsOf N1 ?hn) hE ?hQ
    case hn => exact perm5
    case hQ =>
      intro c' evs' en' po' ms' mvs' mn' tl d tw' ta' u2 h2 tk2 A' M' hl' ho' e1 e2 e3 e4 d0' d1' hA F' N'
      have hPl := hP.hl; have hPd := hP.d0; have hPe := hP.d1
      refine ⟨rfl, ⟨c', evs', en', po', ms', mvs', mn', tl ++ q.tl, d, tw', ta'⟩, h2, tk2, _, _, rfl, F', N', ?g1, ?g2, ?g3, ?g4, ?g5⟩
      case g1 => exact perm6
      case g2 => exact fun p hp => .tail _ (List.mem_append_right _ (.tail _ (List.mem_append_right _ (List.mem_append_right _ hp))))
      case g3 =>
        have hx := A'.off.x; have hd2 := A'.off.d
        have hr' : ∀ p ∈ rest', p ∈ tl ++ (q.tl ++ rest') := fun p hp => List.mem_append_right _ (List.mem_append_right _ hp)
        have ht : ∀ p ∈ tl, ∀ z ∈ rest', @Ne Nat z.1 p.1 := fun p hp z hz => (hA p hp).a7 z (List.mem_append_right _ hz)
        have hq : ∀ p ∈ q.tl, p.1 ∈ (q.front S st mk row sn).map (·.1) := fun p hp => List.mem_map.mpr ⟨p, .tail _ (List.mem_append_right _ (.tail _ hp)), rfl⟩
        exact allc (.inl (.head _)) (appc (allc (.inr fun z hz => hx z (hr' z hz)) (allc (.inr fun z hz => hd2 z (hr' z hz)) (allc (.inl (.tail _ (.tail _ (.tail _ (.head _))))) (allc (.inl (.tail _ (.tail _ (.tail _ (.tail _ (.head _)))))) (allc (.inl (.tail _ (.tail _ (.tail _ (.tail _ (.tail _ (.head _))))))) (allc (.inl (.tail _ (.tail _ (.tail _ (.tail _ (.tail _ (.tail _ (.head _)))))))) fun _ h => nomatch h)))))) (allc (.inl (.tail _ (.tail _ (.tail _ (.tail _ (.tail _ (.tail _ (.tail _ (.head _))))))))) (appc (fun p hp => .inr (ht p hp)) fun p hp => .inl (hq p hp))))
      case g4 => dsimp only [fr1]; (first | ((try dsimp only); (repeat (refine allc rfl ?_)); exact alln) | kst_all)
      case g5 =>
        refine ⟨At_sub (r := tl ++ (q.tl ++ rest')) ?_ ?_, ?_, ?_, ho', e1, e2, e3, e4, ?_, ?_, ?_⟩
        · exact A'
        · intro p hp
          rw [List.append_assoc] at hp
          rcases List.mem_append.mp hp with hp | hp
          · exact List.mem_append_left _ hp
          · rcases List.mem_append.mp hp with hp | hp
            · exact List.mem_append_right _ (List.mem_append_left _ hp)
            · exact List.mem_append_right _ (List.mem_append_right _ (hsub p hp))
        · exact M'
        · dsimp only; omega
        · dsimp only; omega
        · dsimp only; omega
        · intro p hp
          rcases List.mem_append.mp hp with hp | hp
          · have z := hA p hp
            exact ⟨z.a1, z.a2, z.a3, z.a4, z.a5, z.a6, fun _ h => nomatch h⟩
          · exact hP.tlA p hp
end
noncomputable def Inc : List Nat → Prop
  | a :: b :: r => a < b ∧ Inc (b :: r)
  | _ => True
theorem Inc.head : ∀ {l : List Nat} {a : Nat} (j : Nat) {b : Nat}, Inc (a :: l) → l[j]? = some b → a < b
  | _ :: _, _, 0, _, h, hb => by cases hb; exact h.1
  | c :: l, a, j + 1, b, h, hb => Nat.lt_trans h.1 (Inc.head (l := l) (a := c) j h.2 hb)
  | [], _, _, _, _, hb => by cases hb
theorem Inc.lt : ∀ {l : List Nat} (i j : Nat) {a b : Nat}, Inc l → Nat.blt i j = true → l[i]? = some a → l[j]? = some b → a < b
  | _ :: _, 0, j + 1, _, _, h, _, ha, hb => by cases ha; exact h.head j hb
  | _ :: c :: l, i + 1, j + 1, _, _, h, hij, ha, hb => Inc.lt (l := c :: l) i j h.2 (by simpa [Nat.blt] using hij) ha hb
  | [_], i + 1, _, _, _, _, _, ha, _ => by cases ha
  | [], _, _, _, _, _, _, ha, _ => by cases ha
  | _ :: _, 0, 0, _, _, _, hij, _, _ => by cases hij
  | _ :: _ :: _, i + 1, 0, _, _, _, hij, _, _ => by cases hij
theorem Inc.ne {l : List Nat} (i j : Nat) {a b : Nat} (h : Inc l) (hij : Nat.blt i j = true) (ha : l[i]? = some a) (hb : l[j]? = some b) : @Ne Nat a b := Nat.ne_of_lt (h.lt i j hij ha hb)
theorem Inc.ne' {l : List Nat} (i j : Nat) {a b : Nat} (h : Inc l) (hij : Nat.blt j i = true) (ha : l[i]? = some a) (hb : l[j]? = some b) : @Ne Nat a b := Ne.symm (h.ne j i hij hb ha)
theorem on_off {l : List (Addr × Obj)} {b : Addr} (h : OwnOff l [b]) : ∀ p ∈ l, @Ne Nat p.1 b := fun p hp => h p hp _ (.head _)
section
variable {prog p9 : Program} {w : World} {loose : List Str} {mean : ExcName → Option Value} {mg mb : Str → Option Value} {dp un : Nat} {gd : Option (List Code)} {a : Addr} {ccd : Value} {outer : List Env} {A₀ : Around} {base h₀ : Heap} {L : Addr} {s : Shared} {Q : Flow → Shared → Prop} {E : Value → Shared → Prop}
    {rest : List (Addr × Obj)} {st kl rw wl : Addr} {ta tt : Tok} {u0 : Str → Option Value} {ks : List (Int × Int)}
theorem tail_ok {row : Addr} {rvs kvs nvs : List Value} {ns : List Int} {rn rn2 kn2 sn : Nat} {at' : Int}
    (B : Below A₀ base outer h₀) (X : (KK w.params).In h₀) (T : Top p9 loose mean mg mb h₀) (hd : dp + 14 < recursionLimit) (hu : un + 8 * 14 < cLine)
    (h8 : ks.length ≤ 8) (hb : ∀ x ∈ ks, 0 ≤ x.1 ∧ x.1 < 9 ∧ 0 ≤ x.2 ∧ x.2 < 3)
    (hO : OwnOff rest [st]) (hO2 : OwnOff rest [rw]) (hsr : @Ne Nat st rw)
    (r1 : (row, listOf nvs.toArray rn) ∈ rest) (hi : IntsAre nvs ns) (hnl : ns.length ≤ 40) (a0 : 0 ≤ at') (a1 : at' ≤ 17)
    (r2 : (kl, listOf kvs.toArray kn2) ∈ rest) (hkv : StrsAre kvs kindsL) (hr : RowsAre rest rvs (rowsF (Str.ofString "") ks))
    (F : Fr h₀ L s.heap (kstB u0 [(Str.ofString "state", Value.ref st), (Str.ofString "written", Value.ref wl), (Str.ofString "kinds", Value.ref kl), (Str.ofString "rows", Value.ref rw), (Str.ofString "said", Value.str (sayF (Str.ofString "") ks) tt)]))
    (N : News h₀ L s.heap ((st, listOf #[.ref row, .int at' ta] sn) :: (rw, listOf rvs.toArray rn2) :: rest))
    (hE : PassesOwn (model prog w) (ktrTop dp un gd (Str.ofString "law") lawSc L a ccd [] outer) (envOf (Str.ofString "law") lawSc L a ccd) E)
    (hQ : ∀ h tk m, Fr h₀ L h m → Q (.ret (.bool true)) { s with heap := h, toks := tk }) :
    wpAny (model prog w) (ktrTop dp un gd (Str.ofString "law") lawSc L a ccd [] outer) (execs tail1 (envOf (Str.ofString "law") lawSc L a ccd)) Q E s := by
  ((have kf : (PySem.Challenge.rw_pq0763_01 = PySem.Challenge.rw_pq0763_01) ∧ (KK = KK) := by (k_fill; exact ⟨rfl, rfl⟩)); clear kf)
  have kmk := kstMark
  unfold lawSc tail1 nth5 lawBS lawGet at *
  dsimp only at hE ⊢
  dsimp only [kstB] at F
  have TT := toks_of h8 hb
  have hlen := sayF_len (Str.ofString "") ks
  rw [show (Str.ofString "").length = 0 by decide +kernel] at hlen
  have hlen2 : (sayF (Str.ofString "") ks).length ≤ 200 := by omega
  clear hlen
  repeat ((fail_if_success (with_reducible show wpAny _ _ (call (Value.ref 510) _) _ _ _)); (first | with_reducible ((with_reducible show wpAny _ _ (call (Value.builtin "len") [Value.ref _]) _ _ _); k_here; k_dflt (refine' kst_len ?k1 ?k2 ?k3 ?k4 ?_; (case k1 => k_asm); (case k2 => k_mem); (case k3 => first | with_reducible assumption | assumption); (case k4 => omega); k_whole)) | with_reducible ((with_reducible show wpAny _ _ (call (Value.ref 264) _) _ _ _); k_here; k_dflt (refine' Ct.use types_ok ?cB ?cF ?cX ?cN ?cT ?ck ?cd ?cu ?_; (case cN => k_asm); walk_at "mine ct"; k_whole; intro v9 l9 h9 tk9 hP9 F9 N9; obtain ⟨x9, y9, K9, d9, e9, o9, o8⟩ := hP9; subst e9 d9; (have o5 := allLt_of o9); (try simp only [AllLt, and_true] at o5); (try k_sweep); (try dsimp only))) | with_reducible refine ite_pos (by decide) ?_ | with_reducible refine ite_neg (by decide) ?_ | walk_at "mine step"))
  refine' CtQ.uerr errors_ok ?cB ?cF ?cX ?cN ?cT ?ck ?cd ?cu ?_
  case cB => k_asm
  case cF => k_asm
  case cX => k_asm
  case cT => k_asm
  case cN => first | k_asm | assumption
  case ck => first | exact rfl | assumption
  case cd => walk_at "mine room"
  case cu => walk_at "mine units"
  intro er erd ero erp po i1 i2 en h9 tk9 hdd hff hsys hlt z1 z2 z3 F9 N9
  have z0 := allLt_of hlt
  simp only [AllLt, and_true] at z0
  repeat ((fail_if_success (with_reducible show wpAny _ _ (call (Value.ref 468) _) _ _ _)); (first | with_reducible ((with_reducible show wpAny _ _ (call (Value.builtin "len") [Value.ref _]) _ _ _); k_here; k_dflt (refine' kst_len ?k1 ?k2 ?k3 ?k4 ?_; (case k1 => k_asm); (case k2 => k_mem); (case k3 => first | with_reducible assumption | assumption); (case k4 => omega); k_whole)) | with_reducible ((with_reducible show wpAny _ _ (call (Value.ref 264) _) _ _ _); k_here; k_dflt (refine' Ct.use types_ok ?cB ?cF ?cX ?cN ?cT ?ck ?cd ?cu ?_; (case cN => k_asm); walk_at "mine ct"; k_whole; intro v9 l9 h9 tk9 hP9 F9 N9; obtain ⟨x9, y9, K9, d9, e9, o9, o8⟩ := hP9; subst e9 d9; (have o5 := allLt_of o9); (try simp only [AllLt, and_true] at o5); (try k_sweep); (try dsimp only))) | with_reducible refine ite_pos (by decide) ?_ | with_reducible refine ite_neg (by decide) ?_ | walk_at "mine step"))
  have hrl : rvs.length ≤ 8 := by rw [hr.length, rowsF_length]; exact h8
  refine' CtQ.urea (reader_ok (er := er) (List.Mem.head _) (List.Mem.tail _ (List.Mem.head _)) rfl ?hl17 (TT.q0 0 (Nat.zero_le _)) (TT.q1 0 (Nat.zero_le _)) (TT.e1 0 (Nat.zero_le _)) (.inl ?hq0) (TT.sign 0 (Nat.zero_le _)) (TT.tok 0 (Nat.zero_le _))) ?cB ?cF ?cX N9 ?cT ?ck ?cd ?cu ?_
  case hl17 => omega
  case hq0 => (unfold qF; rw [List.take_zero]; decide +kernel)
  case cB => k_asm
  case cF => k_asm
  case cX => k_asm
  case cT => k_asm
  case ck => first | exact rfl | assumption
  case cd => walk_at "mine room"
  case cu => walk_at "mine units"
  intro rd rdd sc scd wa x d R k1 k2 k3 k4 t j1 j2 j3 tkk val tp ws wn h10 tk10 hV hws y0 y1 y2 y3 y4 y5 y6 F10 N10
  have y7 := allLt_of y0
  simp only [AllLt, and_true] at y7
  clear o9
  repeat ((fail_if_success (with_reducible show wpAny _ _ (exec (Stmt.For _ _ _ _ _) _) _ _ _)); (first | with_reducible ((with_reducible show wpAny _ _ (call (Value.builtin "len") [Value.ref _]) _ _ _); k_here; k_dflt (refine' kst_len ?k1 ?k2 ?k3 ?k4 ?_; (case k1 => k_asm); (case k2 => k_mem); (case k3 => first | with_reducible assumption | assumption); (case k4 => omega); k_whole)) | with_reducible ((with_reducible show wpAny _ _ (call (Value.ref 264) _) _ _ _); k_here; k_dflt (refine' Ct.use types_ok ?cB ?cF ?cX ?cN ?cT ?ck ?cd ?cu ?_; (case cN => k_asm); walk_at "mine ct"; k_whole; intro v9 l9 h9 tk9 hP9 F9 N9; obtain ⟨x9, y9, K9, d9, e9, o9, o8⟩ := hP9; subst e9 d9; (have o5 := allLt_of o9); (try simp only [AllLt, and_true] at o5); (try k_sweep); (try dsimp only))) | with_reducible refine ite_pos (by decide) ?_ | with_reducible refine ite_neg (by decide) ?_ | walk_at "mine step"))
  rename Fr _ _ _ _ => F8
  rename News _ _ _ _ => N8
  rw [List.push_toArray] at N8
  rename_i D' h4' lD h3' tk3 h2' mk h1' lM h0'
  have hre : ∀ p ∈ rest, @LT.lt Nat _ p.1 erd := kst_ltOf z0.2.2
  have y8 : @LT.lt Nat _ x9 rdd ∧ @LT.lt Nat _ y9 rdd ∧ @LT.lt Nat _ erp rdd := ⟨y7.1, y7.2.1, y7.2.2.1⟩
  have hC : Inc [rw, erd, er, ero, erp, y9, x9, rdd, rd, scd, sc, wa, d, x, D', mk] := ⟨z0.2.1, z1, z2, z3, o5.1, o8, y8.1, y1, y2, y3, y4, y5, y6, lD.1, lM.1, trivial⟩
  have hS : Inc [st, erd, er, ero, erp, y9, x9, rdd, rd, scd, sc, wa, d, x, D', mk] := ⟨z0.1, hC.2⟩
  clear o5 y7 hlt
  have e0 : ∀ b : Addr, @LE.le Nat _ erd b → OwnOff rest [b] := fun b h => off_of_lt hre h
  refine' loop2_ok (S := ⟨w, R, rd, rdd, sc, scd, er, erd, ero, erp, wa, k1, k2, k3, k4, tt, i1, i2, ks, ws, wn⟩) (c := ⟨0, x, d, j1, j2, j3, tkk, val, tp, t⟩) (rest := (rw, listOf (rvs ++ [Value.ref D']).toArray (rn2 + 1)) :: (D', tupO [.str (Str.ofString "eof") _, .int ((sayF (Str.ofString "") ks).length : Int) _, .str (Str.ofString "") _] 0) :: (wa, tupO ws wn) :: (sc, instObj 186 scd) :: (rd, instObj 468 rdd) :: (er, instObj 510 erd) :: (erd, erD w i1 i2 ero erp) :: rest)
    (st := st) (kl := kl) (rw := rw) (mk := mk) (row := row) (rvs := rvs ++ [Value.ref D']) (kvs := kvs) (nvs := nvs) (ns := ns) (at' := at') (mn := 0) B X T hd hu ?K ?C ?s1 ?s2 ?s3 ?s4 ?s5 ?s6 ?hO ?t1 ?t2 ?t3 ?t4 ?t5 ?t6 ?hO2 ?hsm (memt (memt (memt (memt (memt (memt (memt (fun _ h => h))))))) _ r1) hi hnl a0 a1 (memt (memt (memt (memt (memt (memt (memt (fun _ h => h))))))) _ r2) hkv (.head _) ((hr.mono (memt (memt (memt (memt (memt (memt (memt (fun _ h => h))))))))).snoc (.tail _ (.head _))) (fr_kst (by dsimp only [fr1]; (first | ((try dsimp only); (repeat (refine allc rfl ?_)); exact alln) | kst_all)) F8) (kst_newsOf N8 ?hn) hE ?hQ
  case hn =>
    dsimp only [RS.led, TS.inst, TS.obj, List.cons_append, List.nil_append]
    iterate 15 refine allc (by k_mem) (?_)
    walk_at "mine sub"
  case K =>
    refine ⟨h8, hb, ?_, ?_, ?_, hws, ?_, ?_, ?_, ?_, ?_, ?_, ?_, ?_, ?_, ?_, ?_, ?_, hsys⟩
    · k_mem
    · k_mem
    · k_mem
    · k_mem
    · k_mem
    all_goals dsimp only
    · exact off_cons (hC.ne 0 9 rfl rfl rfl) (off_cons (hC.ne' 14 9 rfl rfl rfl) (off_cons (hC.ne' 11 9 rfl rfl rfl) (off_cons (hC.ne' 10 9 rfl rfl rfl) (off_cons (hC.ne 8 9 rfl rfl rfl) (off_cons (hC.ne 2 9 rfl rfl rfl) (off_cons (hC.ne 1 9 rfl rfl rfl) (e0 _ (Nat.le_of_lt (hC.lt 1 9 rfl rfl rfl)))))))))
    · exact off_cons (hC.ne 0 7 rfl rfl rfl) (off_cons (hC.ne' 14 7 rfl rfl rfl) (off_cons (hC.ne' 11 7 rfl rfl rfl) (off_cons (hC.ne' 10 7 rfl rfl rfl) (off_cons (hC.ne' 8 7 rfl rfl rfl) (off_cons (hC.ne 2 7 rfl rfl rfl) (off_cons (hC.ne 1 7 rfl rfl rfl) (e0 _ (Nat.le_of_lt (hC.lt 1 7 rfl rfl rfl)))))))))
    · exact off_cons (hC.ne 0 3 rfl rfl rfl) (off_cons (hC.ne' 14 3 rfl rfl rfl) (off_cons (hC.ne' 11 3 rfl rfl rfl) (off_cons (hC.ne' 10 3 rfl rfl rfl) (off_cons (hC.ne' 8 3 rfl rfl rfl) (off_cons (hC.ne 2 3 rfl rfl rfl) (off_cons (hC.ne 1 3 rfl rfl rfl) (e0 _ (Nat.le_of_lt (hC.lt 1 3 rfl rfl rfl)))))))))
    · exact off_cons (hC.ne 0 4 rfl rfl rfl) (off_cons (hC.ne' 14 4 rfl rfl rfl) (off_cons (hC.ne' 11 4 rfl rfl rfl) (off_cons (hC.ne' 10 4 rfl rfl rfl) (off_cons (hC.ne' 8 4 rfl rfl rfl) (off_cons (hC.ne 2 4 rfl rfl rfl) (off_cons (hC.ne 1 4 rfl rfl rfl) (e0 _ (Nat.le_of_lt (hC.lt 1 4 rfl rfl rfl)))))))))
    · exact (hC.ne 7 9 rfl rfl rfl)
    · exact (hC.ne 3 9 rfl rfl rfl)
    · exact (hC.ne 4 9 rfl rfl rfl)
    · exact (hC.ne 3 7 rfl rfl rfl)
    · exact (hC.ne 4 7 rfl rfl rfl)
    · exact (hC.ne 3 4 rfl rfl rfl)
  case C =>
    refine ⟨Nat.zero_le _, hV, ⟨?_, ?_⟩, ?_, ?_, ?_, ?_, ?_, ?_, ?_, ?_, .nil, Nat.zero_le _, ⟨[], [], hdd, hff, Nat.le_refl _, fun _ => rfl⟩⟩
    · show ∀ p ∈ (_ : List (Addr × Obj)), @Ne Nat p.1 x
      exact on_off (off_cons (hC.ne 0 13 rfl rfl rfl) (off_cons (hC.ne' 14 13 rfl rfl rfl) (off_cons (hC.ne 11 13 rfl rfl rfl) (off_cons (hC.ne 10 13 rfl rfl rfl) (off_cons (hC.ne 8 13 rfl rfl rfl) (off_cons (hC.ne 2 13 rfl rfl rfl) (off_cons (hC.ne 1 13 rfl rfl rfl) (e0 _ (Nat.le_of_lt (hC.lt 1 13 rfl rfl rfl))))))))))
    · show ∀ p ∈ (_ : List (Addr × Obj)), @Ne Nat p.1 d
      exact on_off (off_cons (hC.ne 0 12 rfl rfl rfl) (off_cons (hC.ne' 14 12 rfl rfl rfl) (off_cons (hC.ne 11 12 rfl rfl rfl) (off_cons (hC.ne 10 12 rfl rfl rfl) (off_cons (hC.ne 8 12 rfl rfl rfl) (off_cons (hC.ne 2 12 rfl rfl rfl) (off_cons (hC.ne 1 12 rfl rfl rfl) (e0 _ (Nat.le_of_lt (hC.lt 1 12 rfl rfl rfl))))))))))
    · exact (hC.ne' 13 9 rfl rfl rfl)
    · exact (hC.ne' 13 7 rfl rfl rfl)
    · exact (hC.ne' 13 3 rfl rfl rfl)
    · exact (hC.ne' 13 4 rfl rfl rfl)
    · exact (hC.ne' 12 9 rfl rfl rfl)
    · exact (hC.ne' 12 7 rfl rfl rfl)
    · exact (hC.ne' 12 3 rfl rfl rfl)
    · exact (hC.ne' 12 4 rfl rfl rfl)
  case hO => exact off_cons (Ne.symm hsr) (off_cons (hS.ne' 14 0 rfl rfl rfl) (off_cons (hS.ne' 11 0 rfl rfl rfl) (off_cons (hS.ne' 10 0 rfl rfl rfl) (off_cons (hS.ne' 8 0 rfl rfl rfl) (off_cons (hS.ne' 2 0 rfl rfl rfl) (off_cons (hS.ne' 1 0 rfl rfl rfl) (hO)))))))
  case hO2 => exact off_cons (hC.ne 0 15 rfl rfl rfl) (off_cons (hC.ne 14 15 rfl rfl rfl) (off_cons (hC.ne 11 15 rfl rfl rfl) (off_cons (hC.ne 10 15 rfl rfl rfl) (off_cons (hC.ne 8 15 rfl rfl rfl) (off_cons (hC.ne 2 15 rfl rfl rfl) (off_cons (hC.ne 1 15 rfl rfl rfl) (e0 _ (Nat.le_of_lt (hC.lt 1 15 rfl rfl rfl)))))))))
  case hQ =>
    intro m h tk F9
    dsimp only
    (repeat' (first | with_reducible ((with_reducible show wpAny _ _ (call (Value.builtin "len") [Value.ref _]) _ _ _); k_here; k_dflt (refine' kst_len ?k1 ?k2 ?k3 ?k4 ?_; (case k1 => k_asm); (case k2 => k_mem); (case k3 => first | with_reducible assumption | assumption); (case k4 => omega); k_whole)) | with_reducible ((with_reducible show wpAny _ _ (call (Value.ref 264) _) _ _ _); k_here; k_dflt (refine' Ct.use types_ok ?cB ?cF ?cX ?cN ?cT ?ck ?cd ?cu ?_; (case cN => k_asm); walk_at "mine ct"; k_whole; intro v9 l9 h9 tk9 hP9 F9 N9; obtain ⟨x9, y9, K9, d9, e9, o9, o8⟩ := hP9; subst e9 d9; (have o5 := allLt_of o9); (try simp only [AllLt, and_true] at o5); (try k_sweep); (try dsimp only))) | with_reducible refine ite_pos (by decide) ?_ | with_reducible refine ite_neg (by decide) ?_ | (k_unfold; (try dsimp only)) | (k_end; wrow_close) | walk1 | (dsimp only; walk1) | (leave1; try dsimp only)))
    exact hQ _ _ _ F9
  case s1 => exact hS.ne 0 9 rfl rfl rfl
  case s2 => exact hS.ne 0 7 rfl rfl rfl
  case s3 => exact hS.ne 0 3 rfl rfl rfl
  case s4 => exact hS.ne 0 4 rfl rfl rfl
  case s5 => exact hS.ne 0 13 rfl rfl rfl
  case s6 => exact hS.ne 0 12 rfl rfl rfl
  case t1 => exact (hC.ne' 15 9 rfl rfl rfl)
  case t2 => exact (hC.ne' 15 7 rfl rfl rfl)
  case t3 => exact (hC.ne' 15 3 rfl rfl rfl)
  case t4 => exact (hC.ne' 15 4 rfl rfl rfl)
  case t5 => exact (hC.ne' 15 13 rfl rfl rfl)
  case t6 => exact (hC.ne' 15 12 rfl rfl rfl)
  case hsm => exact hS.ne 0 15 rfl rfl rfl
end
theorem names1 : namesOk q1 (looseW q1 loose1) (namesW q1 loose1) = true := by
  rw [PySem.W.Fast.te17448422675489707002, PySem.W.Fast.te821141287760084731]
  decide +kernel
theorem imps1 : importsNone q1 = true := by
  rw [PySem.W.Fast.te2458874890965802552]
  decide +kernel
set_option maxHeartbeats 4000000 in
theorem fin_all : PySem.Challenge.rw_pq0763_01.Holds := by
  w_on
  refine holds_law said fun ok => ?_
  refine W.holds_open (q := q1) (loose := loose1) (Xt := fun s => xlAt q1 [] s && recOk (RowW.records PySem.Challenge.rw_pq0763_01.row.toRowW) s) (XP := XL q1 []) (Yf := Hook.obs HH) (Ya := Hook.val HH) (YP := Hook.says HH) (N := 7364) left_is (Hook.of HH) (Hook.keeps HH) (fun s e => xl_of s (Bool.and_eq_true_iff.mp e).1) XL.keeps (by rfl) (by rfl) (by rfl) (fun s e => recFacts_of (Bool.and_eq_true_iff.mp e).2) (by rfl) ok (by decide +kernel) ⟨rfl, rfl, rfl, rfl, rfl, by decide +kernel⟩ ?hw ?hc
  case hw => w_witness2
  unfold HH
  k_fill
  intro w s₀ s₁ mg mb G Y fa o pm cd doc dV kV ho hd hcd hD hmg hg args vals as hpre hlay hrd hwl hlo
  have KX := kIn_of Y
  have V := (Ground.X G).2
  have GL := glob_more (Ground.glob G names1 imps1) V
  have X := (Ground.X G).1
  refine Ground.open G ?_
  intro T B D TE TW
  try (refine guard_noD D (by decide +kernel) ?_; clear D)
  obtain ⟨_, _, M⟩ := bmod_of_top T
  have TA := at_of_top T
  try (obtain ⟨_, _, he, B0⟩ := based_of_top T rfl hmg ho hd; have he' : cd = _ := he; subst he'; clear he)
  clear hmg
  wrow_args hpre hlay hrd hwl hlo
  first | refine callC_kw (enter_call ?_) | refine enter_call ?_
  w_top on
  try refine codeAny_mono ?_ (fun _ _ g => GoodW.toG g)
  have K0 := below_caller (Top.heap T)
  w_call any ho hd hcd hD T F
  clear hd TA
  k_drop
  all_goals (try k_fold)
  have kmk := kstMark
  repeat ((fail_if_success (with_reducible show wpAny _ _ (exec (Stmt.For _ _ _ _ _) _) _ _ _)); (first | with_reducible refine ite_pos (by decide) ?_ | with_reducible refine ite_neg (by decide) ?_ | walk_at "mine step"))
  rename Fr _ _ _ _ => F8
  rename News _ _ _ _ => N8
  rename IntsAre _ (List.take 40 _) => hi8
  rename (List.take 40 _).length = _ => hl8
  refine' loop1_ok (rest := [(_, listOf _ _), (_, listOf _ _), (_, listOf _ _)]) (by assumption) (by assumption) (by assumption) ?hd ?hu (fr_kst (ps := [(Str.ofString "state", Value.ref _), (Str.ofString "written", Value.ref _), (Str.ofString "kinds", Value.ref _), (Str.ofString "rows", Value.ref _), (Str.ofString "said", Value.str (Str.ofString "") _)]) (by (first | ((try dsimp only); (repeat (refine allc rfl ?_)); exact alln) | kst_all)) F8) (kst_newsOf N8 (allc (.tail _ (.tail _ (.tail _ (.head _)))) (allc (.head _) (allc (.tail _ (.head _)) (allc (.tail _ (.tail _ (.head _))) (allc (.tail _ (.tail _ (.tail _ (.tail _ (.head _))))) (fun _ h => nomatch h))))))) (.tail _ (.tail _ (.head _))) hi8 ?hl (.head _) ?hkv (.tail _ (.head _)) ?hwv ?hO ?hO2 ?hne ?hE ?hQ
  case hl => omega
  case hkv => unfold kindsL; repeat constructor
  case hwv => unfold writL; repeat constructor
  case hO => exact off_cons (by omega) (off_cons (by omega) (off_cons (by omega) fun _ h => nomatch h))
  case hO2 => exact off_cons (by omega) (off_cons (by omega) (off_cons (by omega) fun _ h => nomatch h))
  case hne => omega
  case hd => walk_at "mine room"
  case hu => walk_at "mine units"
  case hE => passes_own
  case hQ =>
    rintro c u h tk c1 c2 c3 c4 c5 c6 c7 F9 N9
    dsimp only
    refine' tail_ok (by assumption) (by assumption) (by assumption) ?hd ?hu c1 c2 (off_app c6 ?o1) (off_app c7 ?o2) ?hne (List.mem_append_right _ (.tail _ (.tail _ (.head _)))) hi8 ?hl c3 c4 (List.mem_append_right _ (.head _)) ?hkv (c5.mono fun p hp => List.mem_append_left _ hp) F9 N9 ?hE ?hQ
    case hl => omega
    case hkv => unfold kindsL; repeat constructor
    case o1 => exact off_cons (by omega) (off_cons (by omega) (off_cons (by omega) fun _ h => nomatch h))
    case o2 => exact off_cons (by omega) (off_cons (by omega) (off_cons (by omega) fun _ h => nomatch h))
    case hne => omega
    case hd => walk_at "mine room"
    case hu => walk_at "mine units"
    case hE => passes_own
    case hQ =>
      intro h tk m F
      dsimp only
      k_end
      w_end
      (show GoodW _ _ _ _ _ (.ok (.ret (.bool _))) _)
      refine goodW_bool (by assumption) (by assumption) (raisesW_false ?_) ?_
      · wrow_none_raised
      · exact postW_of (by wrow_shape) (by wtm_val) (beq_self_eq_true _)
end Mine
theorem PySem.Challenge.cw_pq0763_01_holds : PySem.Challenge.rw_pq0763_01.Holds := by
  exact Mine.fin_all
