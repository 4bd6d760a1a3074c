import PyProof.Rows.All
import Wide.All
import OpenK.AllK
import Wide.FinOn
import PySem.Challenge.RW_sq0031_01
open PySem PySem.W PyProof.Rows PySem.Calls
set_option Elab.async false
set_option maxRecDepth 100000
set_option maxHeartbeats 0
namespace Mine
def pS (i : Nat) : Stmt := (PySem.Challenge.pw_sq0031_01.main.body[i]?).getD (.Return none ⟨0, 0, 0, 0⟩)
def pB : Stmt → List Stmt
  | .FunctionDef _ _ b _ _ _ _ _ _ _ => b
  | .ClassDef _ _ _ b _ _ _ _ _ _ _ => b
  | _ => []
def pM (i j : Nat) : Stmt := ((pB (pS i))[j]?).getD (.Return none ⟨0, 0, 0, 0⟩)
def pA : Stmt → Arguments
  | .FunctionDef _ a _ _ _ _ _ _ _ _ => a
  | _ => ⟨[], [], none, [], [], none, []⟩
def pSc : Stmt → Scope
  | .FunctionDef _ _ _ _ _ _ s _ _ _ => s
  | _ => ⟨.function, [], false, false, []⟩
abbrev pE : Program := (PySem.W.OpenRow.toRowW (PySem.W.OpenLaw.row PySem.Challenge.rw_sq0031_01)).1

noncomputable def hd.heap_39 (P : Params) : Frag :=
  (nat_lit 2, (Obj.mk Value.none none (Data.dict #[] 0) #[])) ::
  (nat_lit 3, (Obj.mk (Value.type "dict") none (Data.dict #[(DictEntry.mk (PyData.keyHash P (Str.ofString "__name__")) (Value.str (Str.ofString "__name__") 165) (Value.str (Str.ofString "law_sq0031_01") 608)), (DictEntry.mk (PyData.keyHash P (Str.ofString "__doc__")) (Value.str (Str.ofString "__doc__") 166) Value.none), (DictEntry.mk (PyData.keyHash P (Str.ofString "__package__")) (Value.str (Str.ofString "__package__") 167) Value.none), (DictEntry.mk (PyData.keyHash P (Str.ofString "__loader__")) (Value.str (Str.ofString "__loader__") 168) (Value.builtin "__main__.__loader__#opaque")), (DictEntry.mk (PyData.keyHash P (Str.ofString "__spec__")) (Value.str (Str.ofString "__spec__") 169) Value.none), (DictEntry.mk (PyData.keyHash P (Str.ofString "__annotations__")) (Value.str (Str.ofString "__annotations__") 170) (Value.ref 6)), (DictEntry.mk (PyData.keyHash P (Str.ofString "__builtins__")) (Value.str (Str.ofString "__builtins__") 171) (Value.ref 4)), (DictEntry.mk (PyData.keyHash P (Str.ofString "__file__")) (Value.str (Str.ofString "__file__") 173) (Value.str (Str.ofString "/claim/cut.py") 172)), (DictEntry.mk (PyData.keyHash P (Str.ofString "__cached__")) (Value.str (Str.ofString "__cached__") 174) Value.none), (DictEntry.mk (PyData.keyHash P (Str.ofString "_wall")) (Value.str (Str.ofString "_wall") 193) (Value.ref 21)), (DictEntry.mk (PyData.keyHash P (Str.ofString "PageError")) (Value.str (Str.ofString "PageError") 223) (Value.ref 39)), (DictEntry.mk (PyData.keyHash P (Str.ofString "BadArgument")) (Value.str (Str.ofString "BadArgument") 239) (Value.ref 52)), (DictEntry.mk (PyData.keyHash P (Str.ofString "Runaway")) (Value.str (Str.ofString "Runaway") 255) (Value.ref 64)), (DictEntry.mk (PyData.keyHash P (Str.ofString "OuterRefused")) (Value.str (Str.ofString "OuterRefused") 271) (Value.ref 76)), (DictEntry.mk (PyData.keyHash P (Str.ofString "BadUse")) (Value.str (Str.ofString "BadUse") 287) (Value.ref 88)), (DictEntry.mk (PyData.keyHash P (Str.ofString "is_whole")) (Value.str (Str.ofString "is_whole") 298) (Value.ref 97)), (DictEntry.mk (PyData.keyHash P (Str.ofString "ESCAPE")) (Value.str (Str.ofString "ESCAPE") 309) (Value.int 0 301)), (DictEntry.mk (PyData.keyHash P (Str.ofString "BEGIN")) (Value.str (Str.ofString "BEGIN") 310) (Value.int 1 302)), (DictEntry.mk (PyData.keyHash P (Str.ofString "END")) (Value.str (Str.ofString "END") 311) (Value.int 2 303)), (DictEntry.mk (PyData.keyHash P (Str.ofString "MATH")) (Value.str (Str.ofString "MATH") 312) (Value.int 3 304)), (DictEntry.mk (PyData.keyHash P (Str.ofString "TAB")) (Value.str (Str.ofString "TAB") 313) (Value.int 4 305)), (DictEntry.mk (PyData.keyHash P (Str.ofString "RETURN")) (Value.str (Str.ofString "RETURN") 314) (Value.int 5 306)), (DictEntry.mk (PyData.keyHash P (Str.ofString "PARAMETER")) (Value.str (Str.ofString "PARAMETER") 315) (Value.int 6 307)), (DictEntry.mk (PyData.keyHash P (Str.ofString "UP")) (Value.str (Str.ofString "UP") 316) (Value.int 7 308)), (DictEntry.mk (PyData.keyHash P (Str.ofString "DOWN")) (Value.str (Str.ofString "DOWN") 325) (Value.int 8 317)), (DictEntry.mk (PyData.keyHash P (Str.ofString "IGNORED")) (Value.str (Str.ofString "IGNORED") 326) (Value.int 9 318)), (DictEntry.mk (PyData.keyHash P (Str.ofString "SPACE")) (Value.str (Str.ofString "SPACE") 327) (Value.int 10 319)), (DictEntry.mk (PyData.keyHash P (Str.ofString "LETTER")) (Value.str (Str.ofString "LETTER") 328) (Value.int 11 320)), (DictEntry.mk (PyData.keyHash P (Str.ofString "OTHER")) (Value.str (Str.ofString "OTHER") 329) (Value.int 12 321)), (DictEntry.mk (PyData.keyHash P (Str.ofString "ACTIVE")) (Value.str (Str.ofString "ACTIVE") 330) (Value.int 13 322)), (DictEntry.mk (PyData.keyHash P (Str.ofString "COMMENT")) (Value.str (Str.ofString "COMMENT") 331) (Value.int 14 323)), (DictEntry.mk (PyData.keyHash P (Str.ofString "INVALID")) (Value.str (Str.ofString "INVALID") 332) (Value.int 15 324)), (DictEntry.mk (PyData.keyHash P (Str.ofString "CONTROL")) (Value.str (Str.ofString "CONTROL") 338) (Value.int 0 333)), (DictEntry.mk (PyData.keyHash P (Str.ofString "OUT")) (Value.str (Str.ofString "OUT") 339) (Value.int 5 334)), (DictEntry.mk (PyData.keyHash P (Str.ofString "MATCH")) (Value.str (Str.ofString "MATCH") 340) (Value.int 9 335)), (DictEntry.mk (PyData.keyHash P (Str.ofString "FROZEN")) (Value.str (Str.ofString "FROZEN") 341) (Value.int 14 336)), (DictEntry.mk (PyData.keyHash P (Str.ofString "NOT_EXPANDED")) (Value.str (Str.ofString "NOT_EXPANDED") 342) (Value.int 15 337)), (DictEntry.mk (PyData.keyHash P (Str.ofString "MOST_NAMES")) (Value.str (Str.ofString "MOST_NAMES") 346) (Value.int 1048576 345)), (DictEntry.mk (PyData.keyHash P (Str.ofString "LEAST_CODES")) (Value.str (Str.ofString "LEAST_CODES") 363) (Value.ref 110)), (DictEntry.mk (PyData.keyHash P (Str.ofString "GREATEST_CODES")) (Value.str (Str.ofString "GREATEST_CODES") 381) (Value.ref 111)), (DictEntry.mk (PyData.keyHash P (Str.ofString "is_token")) (Value.str (Str.ofString "is_token") 388) (Value.ref 118)), (DictEntry.mk (PyData.keyHash P (Str.ofString "check_tokens")) (Value.str (Str.ofString "check_tokens") 396) (Value.ref 125)), (DictEntry.mk (PyData.keyHash P (Str.ofString "TokenFeed")) (Value.str (Str.ofString "TokenFeed") 465) (Value.ref 179)), (DictEntry.mk (PyData.keyHash P (Str.ofString "MOST_PARAMETERS")) (Value.str (Str.ofString "MOST_PARAMETERS") 469) (Value.int 9 468)), (DictEntry.mk (PyData.keyHash P (Str.ofString "BLANK")) (Value.str (Str.ofString "BLANK") 471) (Value.ref 184)), (DictEntry.mk (PyData.keyHash P (Str.ofString "Macro")) (Value.str (Str.ofString "Macro") 518) (Value.ref 214)), (DictEntry.mk (PyData.keyHash P (Str.ofString "token_wanted")) (Value.str (Str.ofString "token_wanted") 526) (Value.ref 225)), (DictEntry.mk (PyData.keyHash P (Str.ofString "slid")) (Value.str (Str.ofString "slid") 537) (Value.ref 232)), (DictEntry.mk (PyData.keyHash P (Str.ofString "check_par")) (Value.str (Str.ofString "check_par") 546) (Value.ref 239)), (DictEntry.mk (PyData.keyHash P (Str.ofString "group_tokens")) (Value.str (Str.ofString "group_tokens") 559) (Value.ref 246)), (DictEntry.mk (PyData.keyHash P (Str.ofString "argument")) (Value.str (Str.ofString "argument") 575) (Value.ref 253)), (DictEntry.mk (PyData.keyHash P (Str.ofString "arguments")) (Value.str (Str.ofString "arguments") 587) (Value.ref 260)), (DictEntry.mk (PyData.keyHash P (Str.ofString "filled")) (Value.str (Str.ofString "filled") 597) (Value.ref 267)), (DictEntry.mk (PyData.keyHash P (Str.ofString "call")) (Value.str (Str.ofString "call") 607) (Value.ref 274)), (DictEntry.mk (PyData.keyHash P (Str.ofString "_law_par")) (Value.str (Str.ofString "_law_par") 612) (Value.ref 275)), (DictEntry.mk (PyData.keyHash P (Str.ofString "_law_pool")) (Value.str (Str.ofString "_law_pool") 621) (Value.ref 282)), (DictEntry.mk (PyData.keyHash P (Str.ofString "_law_take")) (Value.str (Str.ofString "_law_take") 631) (Value.ref 289)), (DictEntry.mk (PyData.keyHash P (Str.ofString "_law_trees")) (Value.str (Str.ofString "_law_trees") 637) (Value.ref 294)), (DictEntry.mk (PyData.keyHash P (Str.ofString "_law_tokens")) (Value.str (Str.ofString "_law_tokens") 649) (Value.ref 301)), (DictEntry.mk (PyData.keyHash P (Str.ofString "_law_worked_out")) (Value.str (Str.ofString "_law_worked_out") 655) (Value.ref 306)), (DictEntry.mk (PyData.keyHash P (Str.ofString "_law_replaced")) (Value.str (Str.ofString "_law_replaced") 670) (Value.ref 313)), (DictEntry.mk (PyData.keyHash P (Str.ofString "_law_program_right")) (Value.str (Str.ofString "_law_program_right") 676) (Value.ref 318)), (DictEntry.mk (PyData.keyHash P (Str.ofString "law")) (Value.str (Str.ofString "law") 686) (Value.ref 325))] 63) #[])) ::
  (nat_lit 15, (Obj.mk (Value.type "tuple") none (Data.seq #[] 0) #[])) ::
  (nat_lit 17, (Obj.mk (Value.type "tuple") none (Data.seq #[(Value.str (Str.ofString "k") 190)] 0) #[])) ::
  (nat_lit 18, (Obj.mk (Value.type "tuple") none (Data.seq #[] 0) #[])) ::
  (nat_lit 20, (Obj.mk (Value.type "code") none (Data.fields #[(Value.str (Str.ofString "_wall") 187), (Value.str (Str.ofString "_wall") 188), (Value.str (Str.ofString "/claim/cut.py") 189), (Value.int 1 0), (Value.int 1 0), (Value.int 0 0), (Value.int 0 0), (Value.int 3 0), (Value.ref 15), (Value.bool true), (Value.int 181 0), (Value.ref 16), Value.none, (Value.ref 17), (Value.ref 18), (Value.ref 19), (Value.int 191 0), (Value.int 1 0), (Value.str (Str.ofString "/claim/cut.py") 192)]) #[])) ::
  (nat_lit 21, (Obj.mk (Value.type "function") none (Data.func (FuncData.mk (Str.ofString "_wall") (Str.ofString "_wall") (pA (pS 0)) (FuncBody.stmts (pB (pS 0))) (pSc (pS 0)) 3 [] Value.none Value.none Value.none (Value.str (Str.ofString "__main__") 164) none (Value.ref 20) Value.none 0)) #[])) ::
  (nat_lit 22, (Obj.mk (Value.type "tuple") none (Data.seq #[(Value.type "ValueError")] 0) #[])) ::
  (nat_lit 29, (Obj.mk (Value.type "tuple") none (Data.seq #[(Value.str (Str.ofString "") 208)] 0) #[])) ::
  (nat_lit 30, (Obj.mk (Value.type "tuple") none (Data.seq #[] 0) #[])) ::
  (nat_lit 32, (Obj.mk (Value.type "tuple") none (Data.seq #[(Value.str (Str.ofString "self") 212), (Value.str (Str.ofString "reason") 213)] 0) #[])) ::
  (nat_lit 33, (Obj.mk (Value.type "tuple") none (Data.seq #[] 0) #[])) ::
  (nat_lit 35, (Obj.mk (Value.type "code") none (Data.fields #[(Value.str (Str.ofString "__init__") 209), (Value.str (Str.ofString "PageError.__init__") 210), (Value.str (Str.ofString "/claim/cut.py") 211), (Value.int 7 0), (Value.int 2 0), (Value.int 0 0), (Value.int 0 0), (Value.int 3 0), (Value.ref 30), (Value.bool true), (Value.int 181 0), (Value.ref 31), Value.none, (Value.ref 32), (Value.ref 33), (Value.ref 34), (Value.int 214 0), (Value.int 7 0), (Value.str (Str.ofString "/claim/cut.py") 215)]) #[])) ::
  (nat_lit 36, (Obj.mk (Value.type "function") none (Data.func (FuncData.mk (Str.ofString "__init__") (Str.ofString "PageError.__init__") (pA (pM 2 0)) (FuncBody.stmts (pB (pM 2 0))) (pSc (pM 2 0)) 3 [] (Value.ref 29) Value.none Value.none (Value.str (Str.ofString "gluepage.errors") 194) none (Value.ref 35) Value.none 0)) #[])) ::
  (nat_lit 37, (Obj.mk (Value.type "tuple") none (Data.seq #[(Value.str (Str.ofString "reason") 217)] 0) #[])) ::
  (nat_lit 38, (Obj.mk (Value.type "dict") none (Data.dict #[(DictEntry.mk (PyData.keyHash P (Str.ofString "__module__")) (Value.str (Str.ofString "__module__") 203) (Value.str (Str.ofString "gluepage.errors") 194)), (DictEntry.mk (PyData.keyHash P (Str.ofString "__firstlineno__")) (Value.str (Str.ofString "__firstlineno__") 207) (Value.int 5 206)), (DictEntry.mk (PyData.keyHash P (Str.ofString "__init__")) (Value.str (Str.ofString "__init__") 216) (Value.ref 36)), (DictEntry.mk (PyData.keyHash P (Str.ofString "__static_attributes__")) (Value.str (Str.ofString "__static_attributes__") 218) (Value.ref 37)), (DictEntry.mk (PyData.keyHash P (Str.ofString "__weakref__")) (Value.str (Str.ofString "__weakref__") 220) (Value.ref 40)), (DictEntry.mk (PyData.keyHash P (Str.ofString "__doc__")) (Value.str (Str.ofString "__doc__") 221) Value.none)] 3) #[])) ::
  (nat_lit 39, (Obj.mk (Value.type "type") none (Data.cls (ClassData.mk (Str.ofString "PageError") [(Value.type "ValueError")] [(Value.ref 39), (Value.type "ValueError"), (Value.type "Exception"), (Value.type "BaseException"), (Value.type "object")] 38 (Str.ofString "PageError") true [] [(Value.ref 52), (Value.ref 64), (Value.ref 76), (Value.ref 88)] false none false)) #[(some (Value.ref 22)), none, (some (Value.str (Str.ofString "PageError") 196)), (some (Value.str (Str.ofString "PageError") 204)), (some (Value.builtin "ValueError.__new__")), (some (Value.bool true))])) ::
  (nat_lit 40, (Obj.mk (Value.type "getset_descriptor") none (Data.fields #[(Value.str (Str.ofString "__weakref__") 219), (Value.ref 39), (Value.builtin "ExceptionGroup.__weakref__"), Value.none]) #[])) ::
  (nat_lit 43, (Obj.mk (Value.type "tuple") none (Data.seq #[(Value.ref 39)] 0) #[])) ::
  (nat_lit 50, (Obj.mk (Value.type "tuple") none (Data.seq #[] 0) #[])) ::
  (nat_lit 51, (Obj.mk (Value.type "dict") none (Data.dict #[(DictEntry.mk (PyData.keyHash P (Str.ofString "__module__")) (Value.str (Str.ofString "__module__") 231) (Value.str (Str.ofString "gluepage.errors") 194)), (DictEntry.mk (PyData.keyHash P (Str.ofString "__firstlineno__")) (Value.str (Str.ofString "__firstlineno__") 235) (Value.int 9 234)), (DictEntry.mk (PyData.keyHash P (Str.ofString "__static_attributes__")) (Value.str (Str.ofString "__static_attributes__") 236) (Value.ref 50)), (DictEntry.mk (PyData.keyHash P (Str.ofString "__doc__")) (Value.str (Str.ofString "__doc__") 237) Value.none)] 2) #[])) ::
  (nat_lit 52, (Obj.mk (Value.type "type") none (Data.cls (ClassData.mk (Str.ofString "BadArgument") [(Value.ref 39)] [(Value.ref 52), (Value.ref 39), (Value.type "ValueError"), (Value.type "Exception"), (Value.type "BaseException"), (Value.type "object")] 51 (Str.ofString "BadArgument") true [] [] false none false)) #[(some (Value.ref 43)), none, (some (Value.str (Str.ofString "BadArgument") 224)), (some (Value.str (Str.ofString "BadArgument") 232)), (some (Value.builtin "ValueError.__new__")), (some (Value.bool true))])) ::
  (nat_lit 55, (Obj.mk (Value.type "tuple") none (Data.seq #[(Value.ref 39)] 0) #[])) ::
  (nat_lit 62, (Obj.mk (Value.type "tuple") none (Data.seq #[] 0) #[])) ::
  (nat_lit 63, (Obj.mk (Value.type "dict") none (Data.dict #[(DictEntry.mk (PyData.keyHash P (Str.ofString "__module__")) (Value.str (Str.ofString "__module__") 247) (Value.str (Str.ofString "gluepage.errors") 194)), (DictEntry.mk (PyData.keyHash P (Str.ofString "__firstlineno__")) (Value.str (Str.ofString "__firstlineno__") 251) (Value.int 11 250)), (DictEntry.mk (PyData.keyHash P (Str.ofString "__static_attributes__")) (Value.str (Str.ofString "__static_attributes__") 252) (Value.ref 62)), (DictEntry.mk (PyData.keyHash P (Str.ofString "__doc__")) (Value.str (Str.ofString "__doc__") 253) Value.none)] 2) #[])) ::
  (nat_lit 64, (Obj.mk (Value.type "type") none (Data.cls (ClassData.mk (Str.ofString "Runaway") [(Value.ref 39)] [(Value.ref 64), (Value.ref 39), (Value.type "ValueError"), (Value.type "Exception"), (Value.type "BaseException"), (Value.type "object")] 63 (Str.ofString "Runaway") true [] [] false none false)) #[(some (Value.ref 55)), none, (some (Value.str (Str.ofString "Runaway") 240)), (some (Value.str (Str.ofString "Runaway") 248)), (some (Value.builtin "ValueError.__new__")), (some (Value.bool true))])) ::
  (nat_lit 67, (Obj.mk (Value.type "tuple") none (Data.seq #[(Value.ref 39)] 0) #[])) ::
  (nat_lit 74, (Obj.mk (Value.type "tuple") none (Data.seq #[] 0) #[])) ::
  (nat_lit 75, (Obj.mk (Value.type "dict") none (Data.dict #[(DictEntry.mk (PyData.keyHash P (Str.ofString "__module__")) (Value.str (Str.ofString "__module__") 263) (Value.str (Str.ofString "gluepage.errors") 194)), (DictEntry.mk (PyData.keyHash P (Str.ofString "__firstlineno__")) (Value.str (Str.ofString "__firstlineno__") 267) (Value.int 13 266)), (DictEntry.mk (PyData.keyHash P (Str.ofString "__static_attributes__")) (Value.str (Str.ofString "__static_attributes__") 268) (Value.ref 74)), (DictEntry.mk (PyData.keyHash P (Str.ofString "__doc__")) (Value.str (Str.ofString "__doc__") 269) Value.none)] 2) #[])) ::
  (nat_lit 76, (Obj.mk (Value.type "type") none (Data.cls (ClassData.mk (Str.ofString "OuterRefused") [(Value.ref 39)] [(Value.ref 76), (Value.ref 39), (Value.type "ValueError"), (Value.type "Exception"), (Value.type "BaseException"), (Value.type "object")] 75 (Str.ofString "OuterRefused") true [] [] false none false)) #[(some (Value.ref 67)), none, (some (Value.str (Str.ofString "OuterRefused") 256)), (some (Value.str (Str.ofString "OuterRefused") 264)), (some (Value.builtin "ValueError.__new__")), (some (Value.bool true))])) ::
  (nat_lit 79, (Obj.mk (Value.type "tuple") none (Data.seq #[(Value.ref 39)] 0) #[])) ::
  (nat_lit 86, (Obj.mk (Value.type "tuple") none (Data.seq #[] 0) #[])) ::
  (nat_lit 87, (Obj.mk (Value.type "dict") none (Data.dict #[(DictEntry.mk (PyData.keyHash P (Str.ofString "__module__")) (Value.str (Str.ofString "__module__") 279) (Value.str (Str.ofString "gluepage.errors") 194)), (DictEntry.mk (PyData.keyHash P (Str.ofString "__firstlineno__")) (Value.str (Str.ofString "__firstlineno__") 283) (Value.int 15 282)), (DictEntry.mk (PyData.keyHash P (Str.ofString "__static_attributes__")) (Value.str (Str.ofString "__static_attributes__") 284) (Value.ref 86)), (DictEntry.mk (PyData.keyHash P (Str.ofString "__doc__")) (Value.str (Str.ofString "__doc__") 285) Value.none)] 2) #[])) ::
  (nat_lit 88, (Obj.mk (Value.type "type") none (Data.cls (ClassData.mk (Str.ofString "BadUse") [(Value.ref 39)] [(Value.ref 88), (Value.ref 39), (Value.type "ValueError"), (Value.type "Exception"), (Value.type "BaseException"), (Value.type "object")] 87 (Str.ofString "BadUse") true [] [] false none false)) #[(some (Value.ref 79)), none, (some (Value.str (Str.ofString "BadUse") 272)), (some (Value.str (Str.ofString "BadUse") 280)), (some (Value.builtin "ValueError.__new__")), (some (Value.bool true))])) ::
  (nat_lit 91, (Obj.mk (Value.type "tuple") none (Data.seq #[] 0) #[])) ::
  (nat_lit 93, (Obj.mk (Value.type "tuple") none (Data.seq #[(Value.str (Str.ofString "value") 293), (Value.str (Str.ofString "low") 294), (Value.str (Str.ofString "high") 295)] 0) #[])) ::
  (nat_lit 94, (Obj.mk (Value.type "tuple") none (Data.seq #[] 0) #[])) ::
  (nat_lit 96, (Obj.mk (Value.type "code") none (Data.fields #[(Value.str (Str.ofString "is_whole") 290), (Value.str (Str.ofString "is_whole") 291), (Value.str (Str.ofString "/claim/cut.py") 292), (Value.int 18 0), (Value.int 3 0), (Value.int 0 0), (Value.int 0 0), (Value.int 3 0), (Value.ref 91), (Value.bool true), (Value.int 181 0), (Value.ref 92), Value.none, (Value.ref 93), (Value.ref 94), (Value.ref 95), (Value.int 296 0), (Value.int 18 0), (Value.str (Str.ofString "/claim/cut.py") 297)]) #[])) ::
  (nat_lit 97, (Obj.mk (Value.type "function") none (Data.func (FuncData.mk (Str.ofString "is_whole") (Str.ofString "is_whole") (pA (pS 8)) (FuncBody.stmts (pB (pS 8))) (pSc (pS 8)) 3 [] Value.none Value.none Value.none (Value.str (Str.ofString "gluepage.scaled") 288) none (Value.ref 96) Value.none 0)) #[])) ::
  (nat_lit 110, (Obj.mk (Value.type "tuple") none (Data.seq #[(Value.int 0 347), (Value.int 0 348), (Value.int 0 349), (Value.int 0 350), (Value.int 0 351), (Value.int 1 352), (Value.int 0 353), (Value.int 0 354), (Value.int 0 355), (Value.int 1 356), (Value.int 0 357), (Value.int 0 358), (Value.int 0 359), (Value.int 0 360), (Value.int 0 361), (Value.int 0 362)] 0) #[])) ::
  (nat_lit 111, (Obj.mk (Value.type "tuple") none (Data.seq #[(Value.int 1048575 365), (Value.int 255 366), (Value.int 255 367), (Value.int 255 368), (Value.int 255 369), (Value.int 9 370), (Value.int 255 371), (Value.int 255 372), (Value.int 255 373), (Value.int 9 374), (Value.int 255 375), (Value.int 255 376), (Value.int 255 377), (Value.int 255 378), (Value.int 255 379), (Value.int 0 380)] 0) #[])) ::
  (nat_lit 112, (Obj.mk (Value.type "tuple") none (Data.seq #[] 0) #[])) ::
  (nat_lit 114, (Obj.mk (Value.type "tuple") none (Data.seq #[(Value.str (Str.ofString "token") 385)] 0) #[])) ::
  (nat_lit 115, (Obj.mk (Value.type "tuple") none (Data.seq #[] 0) #[])) ::
  (nat_lit 117, (Obj.mk (Value.type "code") none (Data.fields #[(Value.str (Str.ofString "is_token") 382), (Value.str (Str.ofString "is_token") 383), (Value.str (Str.ofString "/claim/cut.py") 384), (Value.int 27 0), (Value.int 1 0), (Value.int 0 0), (Value.int 0 0), (Value.int 3 0), (Value.ref 112), (Value.bool true), (Value.int 181 0), (Value.ref 113), Value.none, (Value.ref 114), (Value.ref 115), (Value.ref 116), (Value.int 386 0), (Value.int 27 0), (Value.str (Str.ofString "/claim/cut.py") 387)]) #[])) ::
  (nat_lit 118, (Obj.mk (Value.type "function") none (Data.func (FuncData.mk (Str.ofString "is_token") (Str.ofString "is_token") (pA (pS 16)) (FuncBody.stmts (pB (pS 16))) (pSc (pS 16)) 3 [] Value.none Value.none Value.none (Value.str (Str.ofString "gluepage.tokens") 299) none (Value.ref 117) Value.none 0)) #[])) ::
  (nat_lit 119, (Obj.mk (Value.type "tuple") none (Data.seq #[] 0) #[])) ::
  (nat_lit 121, (Obj.mk (Value.type "tuple") none (Data.seq #[(Value.str (Str.ofString "tokens") 392), (Value.str (Str.ofString "token") 393)] 0) #[])) ::
  (nat_lit 122, (Obj.mk (Value.type "tuple") none (Data.seq #[] 0) #[])) ::
  (nat_lit 124, (Obj.mk (Value.type "code") none (Data.fields #[(Value.str (Str.ofString "check_tokens") 389), (Value.str (Str.ofString "check_tokens") 390), (Value.str (Str.ofString "/claim/cut.py") 391), (Value.int 31 0), (Value.int 1 0), (Value.int 0 0), (Value.int 0 0), (Value.int 3 0), (Value.ref 119), (Value.bool true), (Value.int 181 0), (Value.ref 120), Value.none, (Value.ref 121), (Value.ref 122), (Value.ref 123), (Value.int 394 0), (Value.int 31 0), (Value.str (Str.ofString "/claim/cut.py") 395)]) #[])) ::
  (nat_lit 125, (Obj.mk (Value.type "function") none (Data.func (FuncData.mk (Str.ofString "check_tokens") (Str.ofString "check_tokens") (pA (pS 17)) (FuncBody.stmts (pB (pS 17))) (pSc (pS 17)) 3 [] Value.none Value.none Value.none (Value.str (Str.ofString "gluepage.tokens") 299) none (Value.ref 124) Value.none 0)) #[])) ::
  (nat_lit 133, (Obj.mk (Value.type "tuple") none (Data.seq #[] 0) #[])) ::
  (nat_lit 134, (Obj.mk (Value.type "tuple") none (Data.seq #[(Value.ref 133)] 0) #[])) ::
  (nat_lit 135, (Obj.mk (Value.type "tuple") none (Data.seq #[] 0) #[])) ::
  (nat_lit 137, (Obj.mk (Value.type "tuple") none (Data.seq #[(Value.str (Str.ofString "self") 412), (Value.str (Str.ofString "tokens") 413), (Value.str (Str.ofString "outers") 414)] 0) #[])) ::
  (nat_lit 138, (Obj.mk (Value.type "tuple") none (Data.seq #[] 0) #[])) ::
  (nat_lit 140, (Obj.mk (Value.type "code") none (Data.fields #[(Value.str (Str.ofString "__init__") 409), (Value.str (Str.ofString "TokenFeed.__init__") 410), (Value.str (Str.ofString "/claim/cut.py") 411), (Value.int 37 0), (Value.int 3 0), (Value.int 0 0), (Value.int 0 0), (Value.int 3 0), (Value.ref 135), (Value.bool true), (Value.int 181 0), (Value.ref 136), Value.none, (Value.ref 137), (Value.ref 138), (Value.ref 139), (Value.int 415 0), (Value.int 37 0), (Value.str (Str.ofString "/claim/cut.py") 416)]) #[])) ::
  (nat_lit 141, (Obj.mk (Value.type "function") none (Data.func (FuncData.mk (Str.ofString "__init__") (Str.ofString "TokenFeed.__init__") (pA (pM 18 0)) (FuncBody.stmts (pB (pM 18 0))) (pSc (pM 18 0)) 3 [] (Value.ref 134) Value.none Value.none (Value.str (Str.ofString "gluepage.tokens") 299) none (Value.ref 140) Value.none 0)) #[])) ::
  (nat_lit 142, (Obj.mk (Value.type "tuple") none (Data.seq #[] 0) #[])) ::
  (nat_lit 144, (Obj.mk (Value.type "tuple") none (Data.seq #[(Value.str (Str.ofString "self") 421)] 0) #[])) ::
  (nat_lit 145, (Obj.mk (Value.type "tuple") none (Data.seq #[] 0) #[])) ::
  (nat_lit 147, (Obj.mk (Value.type "code") none (Data.fields #[(Value.str (Str.ofString "next") 418), (Value.str (Str.ofString "TokenFeed.next") 419), (Value.str (Str.ofString "/claim/cut.py") 420), (Value.int 42 0), (Value.int 1 0), (Value.int 0 0), (Value.int 0 0), (Value.int 3 0), (Value.ref 142), (Value.bool true), (Value.int 181 0), (Value.ref 143), Value.none, (Value.ref 144), (Value.ref 145), (Value.ref 146), (Value.int 422 0), (Value.int 42 0), (Value.str (Str.ofString "/claim/cut.py") 423)]) #[])) ::
  (nat_lit 148, (Obj.mk (Value.type "function") none (Data.func (FuncData.mk (Str.ofString "next") (Str.ofString "TokenFeed.next") (pA (pM 18 1)) (FuncBody.stmts (pB (pM 18 1))) (pSc (pM 18 1)) 3 [] Value.none Value.none Value.none (Value.str (Str.ofString "gluepage.tokens") 299) none (Value.ref 147) Value.none 0)) #[])) ::
  (nat_lit 149, (Obj.mk (Value.type "tuple") none (Data.seq #[] 0) #[])) ::
  (nat_lit 151, (Obj.mk (Value.type "tuple") none (Data.seq #[(Value.str (Str.ofString "self") 428), (Value.str (Str.ofString "token") 429)] 0) #[])) ::
  (nat_lit 152, (Obj.mk (Value.type "tuple") none (Data.seq #[] 0) #[])) ::
  (nat_lit 154, (Obj.mk (Value.type "code") none (Data.fields #[(Value.str (Str.ofString "back") 425), (Value.str (Str.ofString "TokenFeed.back") 426), (Value.str (Str.ofString "/claim/cut.py") 427), (Value.int 47 0), (Value.int 2 0), (Value.int 0 0), (Value.int 0 0), (Value.int 3 0), (Value.ref 149), (Value.bool true), (Value.int 181 0), (Value.ref 150), Value.none, (Value.ref 151), (Value.ref 152), (Value.ref 153), (Value.int 430 0), (Value.int 47 0), (Value.str (Str.ofString "/claim/cut.py") 431)]) #[])) ::
  (nat_lit 155, (Obj.mk (Value.type "function") none (Data.func (FuncData.mk (Str.ofString "back") (Str.ofString "TokenFeed.back") (pA (pM 18 2)) (FuncBody.stmts (pB (pM 18 2))) (pSc (pM 18 2)) 3 [] Value.none Value.none Value.none (Value.str (Str.ofString "gluepage.tokens") 299) none (Value.ref 154) Value.none 0)) #[])) ::
  (nat_lit 156, (Obj.mk (Value.type "tuple") none (Data.seq #[] 0) #[])) ::
  (nat_lit 158, (Obj.mk (Value.type "tuple") none (Data.seq #[(Value.str (Str.ofString "self") 436), (Value.str (Str.ofString "tokens") 437)] 0) #[])) ::
  (nat_lit 159, (Obj.mk (Value.type "tuple") none (Data.seq #[] 0) #[])) ::
  (nat_lit 161, (Obj.mk (Value.type "code") none (Data.fields #[(Value.str (Str.ofString "push") 433), (Value.str (Str.ofString "TokenFeed.push") 434), (Value.str (Str.ofString "/claim/cut.py") 435), (Value.int 52 0), (Value.int 2 0), (Value.int 0 0), (Value.int 0 0), (Value.int 3 0), (Value.ref 156), (Value.bool true), (Value.int 181 0), (Value.ref 157), Value.none, (Value.ref 158), (Value.ref 159), (Value.ref 160), (Value.int 438 0), (Value.int 52 0), (Value.str (Str.ofString "/claim/cut.py") 439)]) #[])) ::
  (nat_lit 162, (Obj.mk (Value.type "function") none (Data.func (FuncData.mk (Str.ofString "push") (Str.ofString "TokenFeed.push") (pA (pM 18 3)) (FuncBody.stmts (pB (pM 18 3))) (pSc (pM 18 3)) 3 [] Value.none Value.none Value.none (Value.str (Str.ofString "gluepage.tokens") 299) none (Value.ref 161) Value.none 0)) #[])) ::
  (nat_lit 163, (Obj.mk (Value.type "tuple") none (Data.seq #[] 0) #[])) ::
  (nat_lit 165, (Obj.mk (Value.type "tuple") none (Data.seq #[(Value.str (Str.ofString "self") 444)] 0) #[])) ::
  (nat_lit 166, (Obj.mk (Value.type "tuple") none (Data.seq #[] 0) #[])) ::
  (nat_lit 168, (Obj.mk (Value.type "code") none (Data.fields #[(Value.str (Str.ofString "left") 441), (Value.str (Str.ofString "TokenFeed.left") 442), (Value.str (Str.ofString "/claim/cut.py") 443), (Value.int 55 0), (Value.int 1 0), (Value.int 0 0), (Value.int 0 0), (Value.int 3 0), (Value.ref 163), (Value.bool true), (Value.int 181 0), (Value.ref 164), Value.none, (Value.ref 165), (Value.ref 166), (Value.ref 167), (Value.int 445 0), (Value.int 55 0), (Value.str (Str.ofString "/claim/cut.py") 446)]) #[])) ::
  (nat_lit 169, (Obj.mk (Value.type "function") none (Data.func (FuncData.mk (Str.ofString "left") (Str.ofString "TokenFeed.left") (pA (pM 18 4)) (FuncBody.stmts (pB (pM 18 4))) (pSc (pM 18 4)) 3 [] Value.none Value.none Value.none (Value.str (Str.ofString "gluepage.tokens") 299) none (Value.ref 168) Value.none 0)) #[])) ::
  (nat_lit 170, (Obj.mk (Value.type "tuple") none (Data.seq #[] 0) #[])) ::
  (nat_lit 172, (Obj.mk (Value.type "tuple") none (Data.seq #[(Value.str (Str.ofString "self") 451), (Value.str (Str.ofString "token") 452)] 0) #[])) ::
  (nat_lit 173, (Obj.mk (Value.type "tuple") none (Data.seq #[] 0) #[])) ::
  (nat_lit 175, (Obj.mk (Value.type "code") none (Data.fields #[(Value.str (Str.ofString "is_outer") 448), (Value.str (Str.ofString "TokenFeed.is_outer") 449), (Value.str (Str.ofString "/claim/cut.py") 450), (Value.int 58 0), (Value.int 2 0), (Value.int 0 0), (Value.int 0 0), (Value.int 3 0), (Value.ref 170), (Value.bool true), (Value.int 181 0), (Value.ref 171), Value.none, (Value.ref 172), (Value.ref 173), (Value.ref 174), (Value.int 453 0), (Value.int 58 0), (Value.str (Str.ofString "/claim/cut.py") 454)]) #[])) ::
  (nat_lit 176, (Obj.mk (Value.type "function") none (Data.func (FuncData.mk (Str.ofString "is_outer") (Str.ofString "TokenFeed.is_outer") (pA (pM 18 5)) (FuncBody.stmts (pB (pM 18 5))) (pSc (pM 18 5)) 3 [] Value.none Value.none Value.none (Value.str (Str.ofString "gluepage.tokens") 299) none (Value.ref 175) Value.none 0)) #[])) ::
  (nat_lit 177, (Obj.mk (Value.type "tuple") none (Data.seq #[(Value.str (Str.ofString "outers") 456), (Value.str (Str.ofString "rest") 457)] 0) #[])) ::
  (nat_lit 178, (Obj.mk (Value.type "dict") none (Data.dict #[(DictEntry.mk (PyData.keyHash P (Str.ofString "__module__")) (Value.str (Str.ofString "__module__") 404) (Value.str (Str.ofString "gluepage.tokens") 299)), (DictEntry.mk (PyData.keyHash P (Str.ofString "__firstlineno__")) (Value.str (Str.ofString "__firstlineno__") 408) (Value.int 35 407)), (DictEntry.mk (PyData.keyHash P (Str.ofString "__init__")) (Value.str (Str.ofString "__init__") 417) (Value.ref 141)), (DictEntry.mk (PyData.keyHash P (Str.ofString "next")) (Value.str (Str.ofString "next") 424) (Value.ref 148)), (DictEntry.mk (PyData.keyHash P (Str.ofString "back")) (Value.str (Str.ofString "back") 432) (Value.ref 155)), (DictEntry.mk (PyData.keyHash P (Str.ofString "push")) (Value.str (Str.ofString "push") 440) (Value.ref 162)), (DictEntry.mk (PyData.keyHash P (Str.ofString "left")) (Value.str (Str.ofString "left") 447) (Value.ref 169)), (DictEntry.mk (PyData.keyHash P (Str.ofString "is_outer")) (Value.str (Str.ofString "is_outer") 455) (Value.ref 176)), (DictEntry.mk (PyData.keyHash P (Str.ofString "__static_attributes__")) (Value.str (Str.ofString "__static_attributes__") 458) (Value.ref 177)), (DictEntry.mk (PyData.keyHash P (Str.ofString "__dict__")) (Value.str (Str.ofString "__dict__") 460) (Value.ref 180)), (DictEntry.mk (PyData.keyHash P (Str.ofString "__weakref__")) (Value.str (Str.ofString "__weakref__") 462) (Value.ref 181)), (DictEntry.mk (PyData.keyHash P (Str.ofString "__doc__")) (Value.str (Str.ofString "__doc__") 463) Value.none)] 4) #[])) ::
  (nat_lit 179, (Obj.mk (Value.type "type") none (Data.cls (ClassData.mk (Str.ofString "TokenFeed") [(Value.type "object")] [(Value.ref 179), (Value.type "object")] 178 (Str.ofString "TokenFeed") true [] [] false none false)) #[none, none, (some (Value.str (Str.ofString "TokenFeed") 397)), (some (Value.str (Str.ofString "TokenFeed") 405)), (some (Value.builtin "object.__new__")), (some (Value.bool true))])) ::
  (nat_lit 180, (Obj.mk (Value.type "getset_descriptor") none (Data.fields #[(Value.str (Str.ofString "__dict__") 459), (Value.ref 179), (Value.builtin "function.__dict__"), (Value.builtin "function.__dict__#set")]) #[])) ::
  (nat_lit 181, (Obj.mk (Value.type "getset_descriptor") none (Data.fields #[(Value.str (Str.ofString "__weakref__") 461), (Value.ref 179), (Value.builtin "ExceptionGroup.__weakref__"), Value.none]) #[])) ::
  (nat_lit 184, (Obj.mk (Value.type "tuple") none (Data.seq #[(Value.int 10 319), (Value.int 32 470)] 0) #[])) ::
  (nat_lit 192, (Obj.mk (Value.type "tuple") none (Data.seq #[(Value.bool false), (Value.bool false)] 0) #[])) ::
  (nat_lit 193, (Obj.mk (Value.type "tuple") none (Data.seq #[] 0) #[])) ::
  (nat_lit 196, (Obj.mk (Value.type "code") none (Data.fields #[(Value.str (Str.ofString "__init__") 484), (Value.str (Str.ofString "Macro.__init__") 485), (Value.str (Str.ofString "/claim/cut.py") 486), (Value.int 65 0), (Value.int 5 0), (Value.int 0 0), (Value.int 0 0), (Value.int 3 0), (Value.ref 193), (Value.bool true), (Value.int 181 0), (Value.ref 194), Value.none, Value.none, Value.none, (Value.ref 195), (Value.int 487 0), (Value.int 65 0), (Value.str (Str.ofString "/claim/cut.py") 488)]) #[])) ::
  (nat_lit 197, (Obj.mk (Value.type "function") none (Data.func (FuncData.mk (Str.ofString "__init__") (Str.ofString "Macro.__init__") (pA (pM 22 0)) (FuncBody.stmts (pB (pM 22 0))) (pSc (pM 22 0)) 3 [] (Value.ref 192) Value.none Value.none (Value.str (Str.ofString "gluepage.macros") 466) none (Value.ref 196) Value.none 0)) #[])) ::
  (nat_lit 198, (Obj.mk (Value.type "tuple") none (Data.seq #[] 0) #[])) ::
  (nat_lit 200, (Obj.mk (Value.type "tuple") none (Data.seq #[(Value.str (Str.ofString "self") 493)] 0) #[])) ::
  (nat_lit 201, (Obj.mk (Value.type "tuple") none (Data.seq #[] 0) #[])) ::
  (nat_lit 203, (Obj.mk (Value.type "code") none (Data.fields #[(Value.str (Str.ofString "has_brace") 490), (Value.str (Str.ofString "Macro.has_brace") 491), (Value.str (Str.ofString "/claim/cut.py") 492), (Value.int 83 0), (Value.int 1 0), (Value.int 0 0), (Value.int 0 0), (Value.int 3 0), (Value.ref 198), (Value.bool true), (Value.int 181 0), (Value.ref 199), Value.none, (Value.ref 200), (Value.ref 201), (Value.ref 202), (Value.int 494 0), (Value.int 83 0), (Value.str (Str.ofString "/claim/cut.py") 495)]) #[])) ::
  (nat_lit 204, (Obj.mk (Value.type "function") none (Data.func (FuncData.mk (Str.ofString "has_brace") (Str.ofString "Macro.has_brace") (pA (pM 22 1)) (FuncBody.stmts (pB (pM 22 1))) (pSc (pM 22 1)) 3 [] Value.none Value.none Value.none (Value.str (Str.ofString "gluepage.macros") 466) none (Value.ref 203) Value.none 0)) #[])) ::
  (nat_lit 205, (Obj.mk (Value.type "tuple") none (Data.seq #[] 0) #[])) ::
  (nat_lit 207, (Obj.mk (Value.type "tuple") none (Data.seq #[(Value.str (Str.ofString "self") 500), (Value.str (Str.ofString "other") 501)] 0) #[])) ::
  (nat_lit 208, (Obj.mk (Value.type "tuple") none (Data.seq #[] 0) #[])) ::
  (nat_lit 210, (Obj.mk (Value.type "code") none (Data.fields #[(Value.str (Str.ofString "same") 497), (Value.str (Str.ofString "Macro.same") 498), (Value.str (Str.ofString "/claim/cut.py") 499), (Value.int 86 0), (Value.int 2 0), (Value.int 0 0), (Value.int 0 0), (Value.int 3 0), (Value.ref 205), (Value.bool true), (Value.int 181 0), (Value.ref 206), Value.none, (Value.ref 207), (Value.ref 208), (Value.ref 209), (Value.int 502 0), (Value.int 86 0), (Value.str (Str.ofString "/claim/cut.py") 503)]) #[])) ::
  (nat_lit 211, (Obj.mk (Value.type "function") none (Data.func (FuncData.mk (Str.ofString "same") (Str.ofString "Macro.same") (pA (pM 22 2)) (FuncBody.stmts (pB (pM 22 2))) (pSc (pM 22 2)) 3 [] Value.none Value.none Value.none (Value.str (Str.ofString "gluepage.macros") 466) none (Value.ref 210) Value.none 0)) #[])) ::
  (nat_lit 212, (Obj.mk (Value.type "tuple") none (Data.seq #[(Value.str (Str.ofString "body") 505), (Value.str (Str.ofString "count") 506), (Value.str (Str.ofString "delimiters") 507), (Value.str (Str.ofString "is_long") 508), (Value.str (Str.ofString "is_outer") 509), (Value.str (Str.ofString "parameters") 510)] 0) #[])) ::
  (nat_lit 213, (Obj.mk (Value.type "dict") none (Data.dict #[(DictEntry.mk (PyData.keyHash P (Str.ofString "__module__")) (Value.str (Str.ofString "__module__") 479) (Value.str (Str.ofString "gluepage.macros") 466)), (DictEntry.mk (PyData.keyHash P (Str.ofString "__firstlineno__")) (Value.str (Str.ofString "__firstlineno__") 483) (Value.int 63 482)), (DictEntry.mk (PyData.keyHash P (Str.ofString "__init__")) (Value.str (Str.ofString "__init__") 489) (Value.ref 197)), (DictEntry.mk (PyData.keyHash P (Str.ofString "has_brace")) (Value.str (Str.ofString "has_brace") 496) (Value.ref 204)), (DictEntry.mk (PyData.keyHash P (Str.ofString "same")) (Value.str (Str.ofString "same") 504) (Value.ref 211)), (DictEntry.mk (PyData.keyHash P (Str.ofString "__static_attributes__")) (Value.str (Str.ofString "__static_attributes__") 511) (Value.ref 212)), (DictEntry.mk (PyData.keyHash P (Str.ofString "__dict__")) (Value.str (Str.ofString "__dict__") 513) (Value.ref 215)), (DictEntry.mk (PyData.keyHash P (Str.ofString "__weakref__")) (Value.str (Str.ofString "__weakref__") 515) (Value.ref 216)), (DictEntry.mk (PyData.keyHash P (Str.ofString "__doc__")) (Value.str (Str.ofString "__doc__") 516) Value.none)] 4) #[])) ::
  (nat_lit 214, (Obj.mk (Value.type "type") none (Data.cls (ClassData.mk (Str.ofString "Macro") [(Value.type "object")] [(Value.ref 214), (Value.type "object")] 213 (Str.ofString "Macro") true [] [] false none false)) #[none, none, (some (Value.str (Str.ofString "Macro") 472)), (some (Value.str (Str.ofString "Macro") 480)), (some (Value.builtin "object.__new__")), (some (Value.bool true))])) ::
  (nat_lit 215, (Obj.mk (Value.type "getset_descriptor") none (Data.fields #[(Value.str (Str.ofString "__dict__") 512), (Value.ref 214), (Value.builtin "function.__dict__"), (Value.builtin "function.__dict__#set")]) #[])) ::
  (nat_lit 216, (Obj.mk (Value.type "getset_descriptor") none (Data.fields #[(Value.str (Str.ofString "__weakref__") 514), (Value.ref 214), (Value.builtin "ExceptionGroup.__weakref__"), Value.none]) #[])) ::
  (nat_lit 219, (Obj.mk (Value.type "tuple") none (Data.seq #[] 0) #[])) ::
  (nat_lit 221, (Obj.mk (Value.type "tuple") none (Data.seq #[(Value.str (Str.ofString "feed") 522), (Value.str (Str.ofString "token") 523)] 0) #[])) ::
  (nat_lit 222, (Obj.mk (Value.type "tuple") none (Data.seq #[] 0) #[])) ::
  (nat_lit 224, (Obj.mk (Value.type "code") none (Data.fields #[(Value.str (Str.ofString "token_wanted") 519), (Value.str (Str.ofString "token_wanted") 520), (Value.str (Str.ofString "/claim/cut.py") 521), (Value.int 88 0), (Value.int 1 0), (Value.int 0 0), (Value.int 0 0), (Value.int 3 0), (Value.ref 219), (Value.bool true), (Value.int 181 0), (Value.ref 220), Value.none, (Value.ref 221), (Value.ref 222), (Value.ref 223), (Value.int 524 0), (Value.int 88 0), (Value.str (Str.ofString "/claim/cut.py") 525)]) #[])) ::
  (nat_lit 225, (Obj.mk (Value.type "function") none (Data.func (FuncData.mk (Str.ofString "token_wanted") (Str.ofString "token_wanted") (pA (pS 23)) (FuncBody.stmts (pB (pS 23))) (pSc (pS 23)) 3 [] Value.none Value.none Value.none (Value.str (Str.ofString "gluepage.macros") 466) none (Value.ref 224) Value.none 0)) #[])) ::
  (nat_lit 226, (Obj.mk (Value.type "tuple") none (Data.seq #[] 0) #[])) ::
  (nat_lit 228, (Obj.mk (Value.type "tuple") none (Data.seq #[(Value.str (Str.ofString "delimiter") 530), (Value.str (Str.ofString "matched") 531), (Value.str (Str.ofString "token") 532), (Value.str (Str.ofString "shift") 533), (Value.str (Str.ofString "rest") 534)] 0) #[])) ::
  (nat_lit 229, (Obj.mk (Value.type "tuple") none (Data.seq #[] 0) #[])) ::
  (nat_lit 231, (Obj.mk (Value.type "code") none (Data.fields #[(Value.str (Str.ofString "slid") 527), (Value.str (Str.ofString "slid") 528), (Value.str (Str.ofString "/claim/cut.py") 529), (Value.int 95 0), (Value.int 3 0), (Value.int 0 0), (Value.int 0 0), (Value.int 3 0), (Value.ref 226), (Value.bool true), (Value.int 181 0), (Value.ref 227), Value.none, (Value.ref 228), (Value.ref 229), (Value.ref 230), (Value.int 535 0), (Value.int 95 0), (Value.str (Str.ofString "/claim/cut.py") 536)]) #[])) ::
  (nat_lit 232, (Obj.mk (Value.type "function") none (Data.func (FuncData.mk (Str.ofString "slid") (Str.ofString "slid") (pA (pS 24)) (FuncBody.stmts (pB (pS 24))) (pSc (pS 24)) 3 [] Value.none Value.none Value.none (Value.str (Str.ofString "gluepage.macros") 466) none (Value.ref 231) Value.none 0)) #[])) ::
  (nat_lit 233, (Obj.mk (Value.type "tuple") none (Data.seq #[] 0) #[])) ::
  (nat_lit 235, (Obj.mk (Value.type "tuple") none (Data.seq #[(Value.str (Str.ofString "token") 541), (Value.str (Str.ofString "par") 542), (Value.str (Str.ofString "is_long") 543)] 0) #[])) ::
  (nat_lit 236, (Obj.mk (Value.type "tuple") none (Data.seq #[] 0) #[])) ::
  (nat_lit 238, (Obj.mk (Value.type "code") none (Data.fields #[(Value.str (Str.ofString "check_par") 538), (Value.str (Str.ofString "check_par") 539), (Value.str (Str.ofString "/claim/cut.py") 540), (Value.int 101 0), (Value.int 3 0), (Value.int 0 0), (Value.int 0 0), (Value.int 3 0), (Value.ref 233), (Value.bool true), (Value.int 181 0), (Value.ref 234), Value.none, (Value.ref 235), (Value.ref 236), (Value.ref 237), (Value.int 544 0), (Value.int 101 0), (Value.str (Str.ofString "/claim/cut.py") 545)]) #[])) ::
  (nat_lit 239, (Obj.mk (Value.type "function") none (Data.func (FuncData.mk (Str.ofString "check_par") (Str.ofString "check_par") (pA (pS 25)) (FuncBody.stmts (pB (pS 25))) (pSc (pS 25)) 3 [] Value.none Value.none Value.none (Value.str (Str.ofString "gluepage.macros") 466) none (Value.ref 238) Value.none 0)) #[])) ::
  (nat_lit 240, (Obj.mk (Value.type "tuple") none (Data.seq #[] 0) #[])) ::
  (nat_lit 242, (Obj.mk (Value.type "tuple") none (Data.seq #[(Value.str (Str.ofString "feed") 550), (Value.str (Str.ofString "first") 551), (Value.str (Str.ofString "par") 552), (Value.str (Str.ofString "is_long") 553), (Value.str (Str.ofString "found") 554), (Value.str (Str.ofString "depth") 555), (Value.str (Str.ofString "token") 556)] 0) #[])) ::
  (nat_lit 243, (Obj.mk (Value.type "tuple") none (Data.seq #[] 0) #[])) ::
  (nat_lit 245, (Obj.mk (Value.type "code") none (Data.fields #[(Value.str (Str.ofString "group_tokens") 547), (Value.str (Str.ofString "group_tokens") 548), (Value.str (Str.ofString "/claim/cut.py") 549), (Value.int 104 0), (Value.int 4 0), (Value.int 0 0), (Value.int 0 0), (Value.int 3 0), (Value.ref 240), (Value.bool true), (Value.int 181 0), (Value.ref 241), Value.none, (Value.ref 242), (Value.ref 243), (Value.ref 244), (Value.int 557 0), (Value.int 104 0), (Value.str (Str.ofString "/claim/cut.py") 558)]) #[])) ::
  (nat_lit 246, (Obj.mk (Value.type "function") none (Data.func (FuncData.mk (Str.ofString "group_tokens") (Str.ofString "group_tokens") (pA (pS 26)) (FuncBody.stmts (pB (pS 26))) (pSc (pS 26)) 3 [] Value.none Value.none Value.none (Value.str (Str.ofString "gluepage.macros") 466) none (Value.ref 245) Value.none 0)) #[])) ::
  (nat_lit 247, (Obj.mk (Value.type "tuple") none (Data.seq #[] 0) #[])) ::
  (nat_lit 249, (Obj.mk (Value.type "tuple") none (Data.seq #[(Value.str (Str.ofString "feed") 563), (Value.str (Str.ofString "delimiter") 564), (Value.str (Str.ofString "par") 565), (Value.str (Str.ofString "is_long") 566), (Value.str (Str.ofString "found") 567), (Value.str (Str.ofString "parts") 568), (Value.str (Str.ofString "matched") 569), (Value.str (Str.ofString "going") 570), (Value.str (Str.ofString "token") 571), (Value.str (Str.ofString "given") 572)] 0) #[])) ::
  (nat_lit 250, (Obj.mk (Value.type "tuple") none (Data.seq #[] 0) #[])) ::
  (nat_lit 252, (Obj.mk (Value.type "code") none (Data.fields #[(Value.str (Str.ofString "argument") 560), (Value.str (Str.ofString "argument") 561), (Value.str (Str.ofString "/claim/cut.py") 562), (Value.int 116 0), (Value.int 4 0), (Value.int 0 0), (Value.int 0 0), (Value.int 3 0), (Value.ref 247), (Value.bool true), (Value.int 181 0), (Value.ref 248), Value.none, (Value.ref 249), (Value.ref 250), (Value.ref 251), (Value.int 573 0), (Value.int 116 0), (Value.str (Str.ofString "/claim/cut.py") 574)]) #[])) ::
  (nat_lit 253, (Obj.mk (Value.type "function") none (Data.func (FuncData.mk (Str.ofString "argument") (Str.ofString "argument") (pA (pS 27)) (FuncBody.stmts (pB (pS 27))) (pSc (pS 27)) 3 [] Value.none Value.none Value.none (Value.str (Str.ofString "gluepage.macros") 466) none (Value.ref 252) Value.none 0)) #[])) ::
  (nat_lit 254, (Obj.mk (Value.type "tuple") none (Data.seq #[] 0) #[])) ::
  (nat_lit 256, (Obj.mk (Value.type "tuple") none (Data.seq #[(Value.str (Str.ofString "macro") 579), (Value.str (Str.ofString "feed") 580), (Value.str (Str.ofString "par") 581), (Value.str (Str.ofString "expected") 582), (Value.str (Str.ofString "found") 583), (Value.str (Str.ofString "delimiter") 584)] 0) #[])) ::
  (nat_lit 257, (Obj.mk (Value.type "tuple") none (Data.seq #[] 0) #[])) ::
  (nat_lit 259, (Obj.mk (Value.type "code") none (Data.fields #[(Value.str (Str.ofString "arguments") 576), (Value.str (Str.ofString "arguments") 577), (Value.str (Str.ofString "/claim/cut.py") 578), (Value.int 143 0), (Value.int 3 0), (Value.int 0 0), (Value.int 0 0), (Value.int 3 0), (Value.ref 254), (Value.bool true), (Value.int 181 0), (Value.ref 255), Value.none, (Value.ref 256), (Value.ref 257), (Value.ref 258), (Value.int 585 0), (Value.int 143 0), (Value.str (Str.ofString "/claim/cut.py") 586)]) #[])) ::
  (nat_lit 260, (Obj.mk (Value.type "function") none (Data.func (FuncData.mk (Str.ofString "arguments") (Str.ofString "arguments") (pA (pS 28)) (FuncBody.stmts (pB (pS 28))) (pSc (pS 28)) 3 [] Value.none Value.none Value.none (Value.str (Str.ofString "gluepage.macros") 466) none (Value.ref 259) Value.none 0)) #[])) ::
  (nat_lit 261, (Obj.mk (Value.type "tuple") none (Data.seq #[] 0) #[])) ::
  (nat_lit 263, (Obj.mk (Value.type "tuple") none (Data.seq #[(Value.str (Str.ofString "macro") 591), (Value.str (Str.ofString "given") 592), (Value.str (Str.ofString "found") 593), (Value.str (Str.ofString "token") 594)] 0) #[])) ::
  (nat_lit 264, (Obj.mk (Value.type "tuple") none (Data.seq #[] 0) #[])) ::
  (nat_lit 266, (Obj.mk (Value.type "code") none (Data.fields #[(Value.str (Str.ofString "filled") 588), (Value.str (Str.ofString "filled") 589), (Value.str (Str.ofString "/claim/cut.py") 590), (Value.int 153 0), (Value.int 2 0), (Value.int 0 0), (Value.int 0 0), (Value.int 3 0), (Value.ref 261), (Value.bool true), (Value.int 181 0), (Value.ref 262), Value.none, (Value.ref 263), (Value.ref 264), (Value.ref 265), (Value.int 595 0), (Value.int 153 0), (Value.str (Str.ofString "/claim/cut.py") 596)]) #[])) ::
  (nat_lit 267, (Obj.mk (Value.type "function") none (Data.func (FuncData.mk (Str.ofString "filled") (Str.ofString "filled") (pA (pS 29)) (FuncBody.stmts (pB (pS 29))) (pSc (pS 29)) 3 [] Value.none Value.none Value.none (Value.str (Str.ofString "gluepage.macros") 466) none (Value.ref 266) Value.none 0)) #[])) ::
  (nat_lit 268, (Obj.mk (Value.type "tuple") none (Data.seq #[] 0) #[])) ::
  (nat_lit 270, (Obj.mk (Value.type "tuple") none (Data.seq #[(Value.str (Str.ofString "macro") 601), (Value.str (Str.ofString "feed") 602), (Value.str (Str.ofString "par") 603), (Value.str (Str.ofString "given") 604)] 0) #[])) ::
  (nat_lit 271, (Obj.mk (Value.type "tuple") none (Data.seq #[] 0) #[])) ::
  (nat_lit 273, (Obj.mk (Value.type "code") none (Data.fields #[(Value.str (Str.ofString "call") 598), (Value.str (Str.ofString "call") 599), (Value.str (Str.ofString "/claim/cut.py") 600), (Value.int 163 0), (Value.int 3 0), (Value.int 0 0), (Value.int 0 0), (Value.int 3 0), (Value.ref 268), (Value.bool true), (Value.int 181 0), (Value.ref 269), Value.none, (Value.ref 270), (Value.ref 271), (Value.ref 272), (Value.int 605 0), (Value.int 163 0), (Value.str (Str.ofString "/claim/cut.py") 606)]) #[])) ::
  (nat_lit 274, (Obj.mk (Value.type "function") none (Data.func (FuncData.mk (Str.ofString "call") (Str.ofString "call") (pA (pS 30)) (FuncBody.stmts (pB (pS 30))) (pSc (pS 30)) 3 [] Value.none Value.none Value.none (Value.str (Str.ofString "gluepage.macros") 466) none (Value.ref 273) Value.none 0)) #[])) ::
  (nat_lit 275, (Obj.mk (Value.type "tuple") none (Data.seq #[(Value.int 0 610), (Value.int 40 611)] 0) #[])) ::
  (nat_lit 276, (Obj.mk (Value.type "tuple") none (Data.seq #[] 0) #[])) ::
  (nat_lit 278, (Obj.mk (Value.type "tuple") none (Data.seq #[(Value.str (Str.ofString "script") 616), (Value.str (Str.ofString "whole") 617), (Value.str (Str.ofString "cell") 618)] 0) #[])) ::
  (nat_lit 279, (Obj.mk (Value.type "tuple") none (Data.seq #[] 0) #[])) ::
  (nat_lit 281, (Obj.mk (Value.type "code") none (Data.fields #[(Value.str (Str.ofString "_law_pool") 613), (Value.str (Str.ofString "_law_pool") 614), (Value.str (Str.ofString "/claim/cut.py") 615), (Value.int 168 0), (Value.int 1 0), (Value.int 0 0), (Value.int 0 0), (Value.int 3 0), (Value.ref 276), (Value.bool true), (Value.int 181 0), (Value.ref 277), Value.none, (Value.ref 278), (Value.ref 279), (Value.ref 280), (Value.int 619 0), (Value.int 168 0), (Value.str (Str.ofString "/claim/cut.py") 620)]) #[])) ::
  (nat_lit 282, (Obj.mk (Value.type "function") none (Data.func (FuncData.mk (Str.ofString "_law_pool") (Str.ofString "_law_pool") (pA (pS 33)) (FuncBody.stmts (pB (pS 33))) (pSc (pS 33)) 3 [] Value.none Value.none Value.none (Value.str (Str.ofString "law_sq0031_01") 608) none (Value.ref 281) Value.none 0)) #[])) ::
  (nat_lit 283, (Obj.mk (Value.type "tuple") none (Data.seq #[] 0) #[])) ::
  (nat_lit 285, (Obj.mk (Value.type "tuple") none (Data.seq #[(Value.str (Str.ofString "source") 625), (Value.str (Str.ofString "many") 626), (Value.str (Str.ofString "digit") 627), (Value.str (Str.ofString "mixed") 628)] 0) #[])) ::
  (nat_lit 286, (Obj.mk (Value.type "tuple") none (Data.seq #[] 0) #[])) ::
  (nat_lit 288, (Obj.mk (Value.type "code") none (Data.fields #[(Value.str (Str.ofString "_law_take") 622), (Value.str (Str.ofString "_law_take") 623), (Value.str (Str.ofString "/claim/cut.py") 624), (Value.int 173 0), (Value.int 2 0), (Value.int 0 0), (Value.int 0 0), (Value.int 3 0), (Value.ref 283), (Value.bool true), (Value.int 181 0), (Value.ref 284), Value.none, (Value.ref 285), (Value.ref 286), (Value.ref 287), (Value.int 629 0), (Value.int 173 0), (Value.str (Str.ofString "/claim/cut.py") 630)]) #[])) ::
  (nat_lit 289, (Obj.mk (Value.type "function") none (Data.func (FuncData.mk (Str.ofString "_law_take") (Str.ofString "_law_take") (pA (pS 34)) (FuncBody.stmts (pB (pS 34))) (pSc (pS 34)) 3 [] Value.none Value.none Value.none (Value.str (Str.ofString "law_sq0031_01") 608) none (Value.ref 288) Value.none 0)) #[])) ::
  (nat_lit 290, (Obj.mk (Value.type "tuple") none (Data.seq #[] 0) #[])) ::
  (nat_lit 293, (Obj.mk (Value.type "code") none (Data.fields #[(Value.str (Str.ofString "_law_trees") 632), (Value.str (Str.ofString "_law_trees") 633), (Value.str (Str.ofString "/claim/cut.py") 634), (Value.int 181 0), (Value.int 5 0), (Value.int 0 0), (Value.int 0 0), (Value.int 3 0), (Value.ref 290), (Value.bool true), (Value.int 181 0), (Value.ref 291), Value.none, Value.none, Value.none, (Value.ref 292), (Value.int 635 0), (Value.int 181 0), (Value.str (Str.ofString "/claim/cut.py") 636)]) #[])) ::
  (nat_lit 294, (Obj.mk (Value.type "function") none (Data.func (FuncData.mk (Str.ofString "_law_trees") (Str.ofString "_law_trees") (pA (pS 35)) (FuncBody.stmts (pB (pS 35))) (pSc (pS 35)) 3 [] Value.none Value.none Value.none (Value.str (Str.ofString "law_sq0031_01") 608) none (Value.ref 293) Value.none 0)) #[])) ::
  (nat_lit 295, (Obj.mk (Value.type "tuple") none (Data.seq #[] 0) #[])) ::
  (nat_lit 297, (Obj.mk (Value.type "tuple") none (Data.seq #[(Value.str (Str.ofString "trees") 641), (Value.str (Str.ofString "found") 642), (Value.str (Str.ofString "sort") 643), (Value.str (Str.ofString "code") 644), (Value.str (Str.ofString "rows") 645), (Value.str (Str.ofString "row") 646)] 0) #[])) ::
  (nat_lit 298, (Obj.mk (Value.type "tuple") none (Data.seq #[] 0) #[])) ::
  (nat_lit 300, (Obj.mk (Value.type "code") none (Data.fields #[(Value.str (Str.ofString "_law_tokens") 638), (Value.str (Str.ofString "_law_tokens") 639), (Value.str (Str.ofString "/claim/cut.py") 640), (Value.int 193 0), (Value.int 1 0), (Value.int 0 0), (Value.int 0 0), (Value.int 3 0), (Value.ref 295), (Value.bool true), (Value.int 181 0), (Value.ref 296), Value.none, (Value.ref 297), (Value.ref 298), (Value.ref 299), (Value.int 647 0), (Value.int 193 0), (Value.str (Str.ofString "/claim/cut.py") 648)]) #[])) ::
  (nat_lit 301, (Obj.mk (Value.type "function") none (Data.func (FuncData.mk (Str.ofString "_law_tokens") (Str.ofString "_law_tokens") (pA (pS 36)) (FuncBody.stmts (pB (pS 36))) (pSc (pS 36)) 3 [] Value.none Value.none Value.none (Value.str (Str.ofString "law_sq0031_01") 608) none (Value.ref 300) Value.none 0)) #[])) ::
  (nat_lit 302, (Obj.mk (Value.type "tuple") none (Data.seq #[] 0) #[])) ::
  (nat_lit 305, (Obj.mk (Value.type "code") none (Data.fields #[(Value.str (Str.ofString "_law_worked_out") 650), (Value.str (Str.ofString "_law_worked_out") 651), (Value.str (Str.ofString "/claim/cut.py") 652), (Value.int 205 0), (Value.int 4 0), (Value.int 0 0), (Value.int 0 0), (Value.int 3 0), (Value.ref 302), (Value.bool true), (Value.int 181 0), (Value.ref 303), Value.none, Value.none, Value.none, (Value.ref 304), (Value.int 653 0), (Value.int 205 0), (Value.str (Str.ofString "/claim/cut.py") 654)]) #[])) ::
  (nat_lit 306, (Obj.mk (Value.type "function") none (Data.func (FuncData.mk (Str.ofString "_law_worked_out") (Str.ofString "_law_worked_out") (pA (pS 37)) (FuncBody.stmts (pB (pS 37))) (pSc (pS 37)) 3 [] Value.none Value.none Value.none (Value.str (Str.ofString "law_sq0031_01") 608) none (Value.ref 305) Value.none 0)) #[])) ::
  (nat_lit 307, (Obj.mk (Value.type "tuple") none (Data.seq #[] 0) #[])) ::
  (nat_lit 309, (Obj.mk (Value.type "tuple") none (Data.seq #[(Value.str (Str.ofString "macros") 659), (Value.str (Str.ofString "tokens") 660), (Value.str (Str.ofString "feed") 661), (Value.str (Str.ofString "found") 662), (Value.str (Str.ofString "spent") 663), (Value.str (Str.ofString "token") 664), (Value.str (Str.ofString "waiting") 665), (Value.str (Str.ofString "told") 666), (Value.str (Str.ofString "one") 667)] 0) #[])) ::
  (nat_lit 310, (Obj.mk (Value.type "tuple") none (Data.seq #[] 0) #[])) ::
  (nat_lit 312, (Obj.mk (Value.type "code") none (Data.fields #[(Value.str (Str.ofString "_law_replaced") 656), (Value.str (Str.ofString "_law_replaced") 657), (Value.str (Str.ofString "/claim/cut.py") 658), (Value.int 220 0), (Value.int 2 0), (Value.int 0 0), (Value.int 0 0), (Value.int 3 0), (Value.ref 307), (Value.bool true), (Value.int 181 0), (Value.ref 308), Value.none, (Value.ref 309), (Value.ref 310), (Value.ref 311), (Value.int 668 0), (Value.int 220 0), (Value.str (Str.ofString "/claim/cut.py") 669)]) #[])) ::
  (nat_lit 313, (Obj.mk (Value.type "function") none (Data.func (FuncData.mk (Str.ofString "_law_replaced") (Str.ofString "_law_replaced") (pA (pS 38)) (FuncBody.stmts (pB (pS 38))) (pSc (pS 38)) 3 [] Value.none Value.none Value.none (Value.str (Str.ofString "law_sq0031_01") 608) none (Value.ref 312) Value.none 0)) #[])) ::
  (nat_lit 314, (Obj.mk (Value.type "tuple") none (Data.seq #[] 0) #[])) ::
  (nat_lit 317, (Obj.mk (Value.type "code") none (Data.fields #[(Value.str (Str.ofString "_law_program_right") 671), (Value.str (Str.ofString "_law_program_right") 672), (Value.str (Str.ofString "/claim/cut.py") 673), (Value.int 236 0), (Value.int 2 0), (Value.int 0 0), (Value.int 0 0), (Value.int 3 0), (Value.ref 314), (Value.bool true), (Value.int 181 0), (Value.ref 315), Value.none, Value.none, Value.none, (Value.ref 316), (Value.int 674 0), (Value.int 236 0), (Value.str (Str.ofString "/claim/cut.py") 675)]) #[])) ::
  (nat_lit 318, (Obj.mk (Value.type "function") none (Data.func (FuncData.mk (Str.ofString "_law_program_right") (Str.ofString "_law_program_right") (pA (pS 39)) (FuncBody.stmts (pB (pS 39))) (pSc (pS 39)) 3 [] Value.none Value.none Value.none (Value.str (Str.ofString "law_sq0031_01") 608) none (Value.ref 317) Value.none 0)) #[])) ::
  (nat_lit 319, (Obj.mk (Value.type "tuple") none (Data.seq #[] 0) #[])) ::
  (nat_lit 321, (Obj.mk (Value.type "tuple") none (Data.seq #[(Value.str (Str.ofString "script") 680), (Value.str (Str.ofString "twice") 681), (Value.str (Str.ofString "text") 682), (Value.str (Str.ofString "source") 683)] 0) #[])) ::
  (nat_lit 322, (Obj.mk (Value.type "tuple") none (Data.seq #[] 0) #[])) ::
  (nat_lit 324, (Obj.mk (Value.type "code") none (Data.fields #[(Value.str (Str.ofString "law") 677), (Value.str (Str.ofString "law") 678), (Value.str (Str.ofString "/claim/cut.py") 679), (Value.int 254 0), (Value.int 1 0), (Value.int 0 0), (Value.int 0 0), (Value.int 3 0), (Value.ref 319), (Value.bool true), (Value.int 181 0), (Value.ref 320), Value.none, (Value.ref 321), (Value.ref 322), (Value.ref 323), (Value.int 684 0), (Value.int 254 0), (Value.str (Str.ofString "/claim/cut.py") 685)]) #[])) ::
  (nat_lit 325, (Obj.mk (Value.type "function") none (Data.func (FuncData.mk (Str.ofString "law") (Str.ofString "law") (pA (pS 40)) (FuncBody.stmts (pB (pS 40))) (pSc (pS 40)) 3 [] Value.none Value.none Value.none (Value.str (Str.ofString "law_sq0031_01") 608) none (Value.ref 324) Value.none 0)) #[])) :: []

noncomputable def o_43 (P : Params) : Obj := (Obj.mk (Value.type "tuple") none (Data.seq #[] 0) #[])
noncomputable def o_44 (P : Params) : Obj := (Obj.mk Value.none none (Data.fields #[]) #[])
noncomputable def o_45 (P : Params) : Obj := (Obj.mk (Value.type "code") none (Data.fields #[(Value.str (Str.ofString "<module>") 182), (Value.str (Str.ofString "<module>") 183), (Value.str (Str.ofString "/claim/cut.py") 184), (Value.int 1 0), (Value.int 0 0), (Value.int 0 0), (Value.int 0 0), (Value.int 0 0), (Value.ref 11), (Value.bool false), (Value.int 181 0), (Value.ref 12), Value.none, Value.none, Value.none, Value.none, (Value.int 185 0), (Value.int 1 0), (Value.str (Str.ofString "/claim/cut.py") 186)]) #[])
noncomputable def o_46 (P : Params) : Obj := (Obj.mk (Value.type "frame") none Data.plain #[(some (Value.ref 13)), (some (Value.ref 3)), (some (Value.ref 3)), none, (some (Value.str (Str.ofString "__main__") 164)), none, (some (Value.ref 0))])
noncomputable def o_47 (P : Params) : Obj := (Obj.mk (Value.type "dict") none (Data.dict #[(DictEntry.mk (PyData.keyHash P (Str.ofString "__name__")) (Value.str (Str.ofString "__name__") 165) (Value.str (Str.ofString "gluepage.errors") 194)), (DictEntry.mk (PyData.keyHash P (Str.ofString "__doc__")) (Value.str (Str.ofString "__doc__") 166) Value.none), (DictEntry.mk (PyData.keyHash P (Str.ofString "__package__")) (Value.str (Str.ofString "__package__") 167) Value.none), (DictEntry.mk (PyData.keyHash P (Str.ofString "__loader__")) (Value.str (Str.ofString "__loader__") 168) (Value.builtin "__main__.__loader__#opaque")), (DictEntry.mk (PyData.keyHash P (Str.ofString "__spec__")) (Value.str (Str.ofString "__spec__") 169) Value.none), (DictEntry.mk (PyData.keyHash P (Str.ofString "__annotations__")) (Value.str (Str.ofString "__annotations__") 170) (Value.ref 6)), (DictEntry.mk (PyData.keyHash P (Str.ofString "__builtins__")) (Value.str (Str.ofString "__builtins__") 171) (Value.ref 4)), (DictEntry.mk (PyData.keyHash P (Str.ofString "__file__")) (Value.str (Str.ofString "__file__") 173) (Value.str (Str.ofString "/claim/cut.py") 172)), (DictEntry.mk (PyData.keyHash P (Str.ofString "__cached__")) (Value.str (Str.ofString "__cached__") 174) Value.none), (DictEntry.mk (PyData.keyHash P (Str.ofString "_wall")) (Value.str (Str.ofString "_wall") 193) (Value.ref 21)), (DictEntry.mk (PyData.keyHash P (Str.ofString "PageError")) (Value.str (Str.ofString "PageError") 223) (Value.ref 39))] 11) #[])
noncomputable def o_48 (P : Params) : Obj := (Obj.mk Value.none none (Data.fields #[(Value.int 1 0), (Value.int 0 0), (Value.ref 20), (Value.int 5 0), (Value.int 0 0), (Value.ref 27)]) #[])
noncomputable def o_49 (P : Params) : Obj := (Obj.mk (Value.type "tuple") none (Data.seq #[] 0) #[])
noncomputable def o_50 (P : Params) : Obj := (Obj.mk Value.none none (Data.fields #[]) #[])
noncomputable def o_51 (P : Params) : Obj := (Obj.mk (Value.type "tuple") none (Data.seq #[(Value.str (Str.ofString "k") 190)] 0) #[])
noncomputable def o_52 (P : Params) : Obj := (Obj.mk (Value.type "tuple") none (Data.seq #[] 0) #[])
noncomputable def o_53 (P : Params) : Obj := (Obj.mk Value.none none (Data.func (FuncData.mk (Str.ofString "_wall") (Str.ofString "_wall") (pA (pS 0)) (FuncBody.stmts (pB (pS 0))) (pSc (pS 0)) 0 [] Value.none Value.none Value.none Value.none none Value.none Value.none 0)) #[])
noncomputable def o_54 (P : Params) : Obj := (Obj.mk (Value.type "code") none (Data.fields #[(Value.str (Str.ofString "_wall") 187), (Value.str (Str.ofString "_wall") 188), (Value.str (Str.ofString "/claim/cut.py") 189), (Value.int 1 0), (Value.int 1 0), (Value.int 0 0), (Value.int 0 0), (Value.int 3 0), (Value.ref 15), (Value.bool true), (Value.int 181 0), (Value.ref 16), Value.none, (Value.ref 17), (Value.ref 18), (Value.ref 19), (Value.int 191 0), (Value.int 1 0), (Value.str (Str.ofString "/claim/cut.py") 192)]) #[])
noncomputable def o_55 (P : Params) : Obj := (Obj.mk (Value.type "function") none (Data.func (FuncData.mk (Str.ofString "_wall") (Str.ofString "_wall") (pA (pS 0)) (FuncBody.stmts (pB (pS 0))) (pSc (pS 0)) 3 [] Value.none Value.none Value.none (Value.str (Str.ofString "__main__") 164) none (Value.ref 20) Value.none 0)) #[])
noncomputable def o_56 (P : Params) : Obj := (Obj.mk (Value.type "tuple") none (Data.seq #[(Value.type "ValueError")] 0) #[])
noncomputable def o_57 (P : Params) : Obj := (Obj.mk (Value.type "builtin_function_or_method") none (Data.fields #[(Value.builtin "type.__prepare__"), (Value.type "type")]) #[])
noncomputable def o_58 (P : Params) : Obj := (Obj.mk (Value.type "dict") none (Data.dict #[(DictEntry.mk (PyData.keyHash P (Str.ofString "__module__")) (Value.str (Str.ofString "__module__") 203) (Value.str (Str.ofString "gluepage.errors") 194)), (DictEntry.mk (PyData.keyHash P (Str.ofString "__qualname__")) (Value.str (Str.ofString "__qualname__") 205) (Value.str (Str.ofString "PageError") 204)), (DictEntry.mk (PyData.keyHash P (Str.ofString "__firstlineno__")) (Value.str (Str.ofString "__firstlineno__") 207) (Value.int 5 206)), (DictEntry.mk (PyData.keyHash P (Str.ofString "__init__")) (Value.str (Str.ofString "__init__") 216) (Value.ref 36)), (DictEntry.mk (PyData.keyHash P (Str.ofString "__static_attributes__")) (Value.str (Str.ofString "__static_attributes__") 218) (Value.ref 37))] 5) #[])
noncomputable def o_59 (P : Params) : Obj := (Obj.mk (Value.type "tuple") none (Data.seq #[] 0) #[])
noncomputable def o_60 (P : Params) : Obj := (Obj.mk Value.none none (Data.fields #[(Value.int 7 0), (Value.int 4 0), (Value.ref 35)]) #[])
noncomputable def o_61 (P : Params) : Obj := (Obj.mk (Value.type "code") none (Data.fields #[(Value.str (Str.ofString "PageError") 198), (Value.str (Str.ofString "PageError") 199), (Value.str (Str.ofString "/claim/cut.py") 200), (Value.int 5 0), (Value.int 0 0), (Value.int 0 0), (Value.int 0 0), (Value.int 0 0), (Value.ref 25), (Value.bool false), (Value.int 181 0), (Value.ref 26), Value.none, Value.none, Value.none, Value.none, (Value.int 201 0), (Value.int 5 0), (Value.str (Str.ofString "/claim/cut.py") 202)]) #[])
noncomputable def o_62 (P : Params) : Obj := (Obj.mk (Value.type "frame") none Data.plain #[(some (Value.ref 27)), (some (Value.ref 3)), (some (Value.ref 24)), none, (some (Value.str (Str.ofString "gluepage.errors") 194)), none, (some (Value.ref 0))])
noncomputable def o_63 (P : Params) : Obj := (Obj.mk (Value.type "tuple") none (Data.seq #[(Value.str (Str.ofString "") 208)] 0) #[])
noncomputable def o_64 (P : Params) : Obj := (Obj.mk (Value.type "tuple") none (Data.seq #[] 0) #[])
noncomputable def o_65 (P : Params) : Obj := (Obj.mk Value.none none (Data.fields #[]) #[])
noncomputable def o_66 (P : Params) : Obj := (Obj.mk (Value.type "tuple") none (Data.seq #[(Value.str (Str.ofString "self") 212), (Value.str (Str.ofString "reason") 213)] 0) #[])
noncomputable def o_67 (P : Params) : Obj := (Obj.mk (Value.type "tuple") none (Data.seq #[] 0) #[])
noncomputable def o_68 (P : Params) : Obj := (Obj.mk Value.none none (Data.func (FuncData.mk (Str.ofString "__init__") (Str.ofString "PageError.__init__") (pA (pM 2 0)) (FuncBody.stmts (pB (pM 2 0))) (pSc (pM 2 0)) 0 [] Value.none Value.none Value.none Value.none none Value.none Value.none 0)) #[])
noncomputable def o_69 (P : Params) : Obj := (Obj.mk (Value.type "code") none (Data.fields #[(Value.str (Str.ofString "__init__") 209), (Value.str (Str.ofString "PageError.__init__") 210), (Value.str (Str.ofString "/claim/cut.py") 211), (Value.int 7 0), (Value.int 2 0), (Value.int 0 0), (Value.int 0 0), (Value.int 3 0), (Value.ref 30), (Value.bool true), (Value.int 181 0), (Value.ref 31), Value.none, (Value.ref 32), (Value.ref 33), (Value.ref 34), (Value.int 214 0), (Value.int 7 0), (Value.str (Str.ofString "/claim/cut.py") 215)]) #[])
noncomputable def o_70 (P : Params) : Obj := (Obj.mk (Value.type "function") none (Data.func (FuncData.mk (Str.ofString "__init__") (Str.ofString "PageError.__init__") (pA (pM 2 0)) (FuncBody.stmts (pB (pM 2 0))) (pSc (pM 2 0)) 3 [] (Value.ref 29) Value.none Value.none (Value.str (Str.ofString "gluepage.errors") 194) none (Value.ref 35) Value.none 0)) #[])
noncomputable def o_71 (P : Params) : Obj := (Obj.mk (Value.type "tuple") none (Data.seq #[(Value.str (Str.ofString "reason") 217)] 0) #[])
noncomputable def o_72 (P : Params) : Obj := (Obj.mk (Value.type "dict") none (Data.dict #[(DictEntry.mk (PyData.keyHash P (Str.ofString "__module__")) (Value.str (Str.ofString "__module__") 203) (Value.str (Str.ofString "gluepage.errors") 194)), (DictEntry.mk (PyData.keyHash P (Str.ofString "__firstlineno__")) (Value.str (Str.ofString "__firstlineno__") 207) (Value.int 5 206)), (DictEntry.mk (PyData.keyHash P (Str.ofString "__init__")) (Value.str (Str.ofString "__init__") 216) (Value.ref 36)), (DictEntry.mk (PyData.keyHash P (Str.ofString "__static_attributes__")) (Value.str (Str.ofString "__static_attributes__") 218) (Value.ref 37)), (DictEntry.mk (PyData.keyHash P (Str.ofString "__weakref__")) (Value.str (Str.ofString "__weakref__") 220) (Value.ref 40)), (DictEntry.mk (PyData.keyHash P (Str.ofString "__doc__")) (Value.str (Str.ofString "__doc__") 221) Value.none)] 3) #[])
noncomputable def o_73 (P : Params) : Obj := (Obj.mk (Value.type "type") none (Data.cls (ClassData.mk (Str.ofString "PageError") [(Value.type "ValueError")] [(Value.ref 39), (Value.type "ValueError"), (Value.type "Exception"), (Value.type "BaseException"), (Value.type "object")] 38 (Str.ofString "PageError") true [] [] false none false)) #[(some (Value.ref 22)), none, (some (Value.str (Str.ofString "PageError") 196)), (some (Value.str (Str.ofString "PageError") 204)), (some (Value.builtin "ValueError.__new__")), (some (Value.bool true))])
noncomputable def o_74 (P : Params) : Obj := (Obj.mk (Value.type "getset_descriptor") none (Data.fields #[(Value.str (Str.ofString "__weakref__") 219), (Value.ref 39), (Value.builtin "ExceptionGroup.__weakref__"), Value.none]) #[])
noncomputable def o_75 (P : Params) : Obj := (Obj.mk (Value.type "super") none (Data.fields #[(Value.ref 39), (Value.ref 39), (Value.ref 39)]) #[])
noncomputable def o_76 (P : Params) : Obj := (Obj.mk (Value.type "builtin_function_or_method") none (Data.fields #[(Value.builtin "object.__init_subclass__"), (Value.ref 39)]) #[])
noncomputable def o_77 (P : Params) : Obj := (Obj.mk (Value.type "dict") none (Data.dict #[(DictEntry.mk (PyData.keyHash P (Str.ofString "__name__")) (Value.str (Str.ofString "__name__") 165) (Value.str (Str.ofString "gluepage.errors") 194)), (DictEntry.mk (PyData.keyHash P (Str.ofString "__doc__")) (Value.str (Str.ofString "__doc__") 166) Value.none), (DictEntry.mk (PyData.keyHash P (Str.ofString "__package__")) (Value.str (Str.ofString "__package__") 167) Value.none), (DictEntry.mk (PyData.keyHash P (Str.ofString "__loader__")) (Value.str (Str.ofString "__loader__") 168) (Value.builtin "__main__.__loader__#opaque")), (DictEntry.mk (PyData.keyHash P (Str.ofString "__spec__")) (Value.str (Str.ofString "__spec__") 169) Value.none), (DictEntry.mk (PyData.keyHash P (Str.ofString "__annotations__")) (Value.str (Str.ofString "__annotations__") 170) (Value.ref 6)), (DictEntry.mk (PyData.keyHash P (Str.ofString "__builtins__")) (Value.str (Str.ofString "__builtins__") 171) (Value.ref 4)), (DictEntry.mk (PyData.keyHash P (Str.ofString "__file__")) (Value.str (Str.ofString "__file__") 173) (Value.str (Str.ofString "/claim/cut.py") 172)), (DictEntry.mk (PyData.keyHash P (Str.ofString "__cached__")) (Value.str (Str.ofString "__cached__") 174) Value.none), (DictEntry.mk (PyData.keyHash P (Str.ofString "_wall")) (Value.str (Str.ofString "_wall") 193) (Value.ref 21)), (DictEntry.mk (PyData.keyHash P (Str.ofString "PageError")) (Value.str (Str.ofString "PageError") 223) (Value.ref 39)), (DictEntry.mk (PyData.keyHash P (Str.ofString "BadArgument")) (Value.str (Str.ofString "BadArgument") 239) (Value.ref 52))] 12) #[])
noncomputable def o_78 (P : Params) : Obj := (Obj.mk Value.none none (Data.fields #[(Value.int 1 0), (Value.int 0 0), (Value.ref 20), (Value.int 5 0), (Value.int 0 0), (Value.ref 27), (Value.int 9 0), (Value.int 0 0), (Value.ref 48)]) #[])
noncomputable def o_79 (P : Params) : Obj := (Obj.mk (Value.type "type") none (Data.cls (ClassData.mk (Str.ofString "PageError") [(Value.type "ValueError")] [(Value.ref 39), (Value.type "ValueError"), (Value.type "Exception"), (Value.type "BaseException"), (Value.type "object")] 38 (Str.ofString "PageError") true [] [(Value.ref 52)] false none false)) #[(some (Value.ref 22)), none, (some (Value.str (Str.ofString "PageError") 196)), (some (Value.str (Str.ofString "PageError") 204)), (some (Value.builtin "ValueError.__new__")), (some (Value.bool true))])
noncomputable def o_80 (P : Params) : Obj := (Obj.mk (Value.type "tuple") none (Data.seq #[(Value.ref 39)] 0) #[])
noncomputable def o_81 (P : Params) : Obj := (Obj.mk (Value.type "builtin_function_or_method") none (Data.fields #[(Value.builtin "type.__prepare__"), (Value.type "type")]) #[])
noncomputable def o_82 (P : Params) : Obj := (Obj.mk (Value.type "dict") none (Data.dict #[(DictEntry.mk (PyData.keyHash P (Str.ofString "__module__")) (Value.str (Str.ofString "__module__") 231) (Value.str (Str.ofString "gluepage.errors") 194)), (DictEntry.mk (PyData.keyHash P (Str.ofString "__qualname__")) (Value.str (Str.ofString "__qualname__") 233) (Value.str (Str.ofString "BadArgument") 232)), (DictEntry.mk (PyData.keyHash P (Str.ofString "__firstlineno__")) (Value.str (Str.ofString "__firstlineno__") 235) (Value.int 9 234)), (DictEntry.mk (PyData.keyHash P (Str.ofString "__static_attributes__")) (Value.str (Str.ofString "__static_attributes__") 236) (Value.ref 50))] 4) #[])
noncomputable def o_83 (P : Params) : Obj := (Obj.mk (Value.type "tuple") none (Data.seq #[] 0) #[])
noncomputable def o_84 (P : Params) : Obj := (Obj.mk Value.none none (Data.fields #[]) #[])
noncomputable def o_85 (P : Params) : Obj := (Obj.mk (Value.type "code") none (Data.fields #[(Value.str (Str.ofString "BadArgument") 226), (Value.str (Str.ofString "BadArgument") 227), (Value.str (Str.ofString "/claim/cut.py") 228), (Value.int 9 0), (Value.int 0 0), (Value.int 0 0), (Value.int 0 0), (Value.int 0 0), (Value.ref 46), (Value.bool false), (Value.int 181 0), (Value.ref 47), Value.none, Value.none, Value.none, Value.none, (Value.int 229 0), (Value.int 9 0), (Value.str (Str.ofString "/claim/cut.py") 230)]) #[])
noncomputable def o_86 (P : Params) : Obj := (Obj.mk (Value.type "frame") none Data.plain #[(some (Value.ref 48)), (some (Value.ref 3)), (some (Value.ref 45)), none, (some (Value.str (Str.ofString "gluepage.errors") 194)), none, (some (Value.ref 0))])
noncomputable def o_87 (P : Params) : Obj := (Obj.mk (Value.type "tuple") none (Data.seq #[] 0) #[])
noncomputable def o_88 (P : Params) : Obj := (Obj.mk (Value.type "dict") none (Data.dict #[(DictEntry.mk (PyData.keyHash P (Str.ofString "__module__")) (Value.str (Str.ofString "__module__") 231) (Value.str (Str.ofString "gluepage.errors") 194)), (DictEntry.mk (PyData.keyHash P (Str.ofString "__firstlineno__")) (Value.str (Str.ofString "__firstlineno__") 235) (Value.int 9 234)), (DictEntry.mk (PyData.keyHash P (Str.ofString "__static_attributes__")) (Value.str (Str.ofString "__static_attributes__") 236) (Value.ref 50)), (DictEntry.mk (PyData.keyHash P (Str.ofString "__doc__")) (Value.str (Str.ofString "__doc__") 237) Value.none)] 2) #[])
noncomputable def o_89 (P : Params) : Obj := (Obj.mk (Value.type "type") none (Data.cls (ClassData.mk (Str.ofString "BadArgument") [(Value.ref 39)] [(Value.ref 52), (Value.ref 39), (Value.type "ValueError"), (Value.type "Exception"), (Value.type "BaseException"), (Value.type "object")] 51 (Str.ofString "BadArgument") true [] [] false none false)) #[(some (Value.ref 43)), none, (some (Value.str (Str.ofString "BadArgument") 224)), (some (Value.str (Str.ofString "BadArgument") 232)), (some (Value.builtin "ValueError.__new__")), (some (Value.bool true))])
noncomputable def o_90 (P : Params) : Obj := (Obj.mk (Value.type "super") none (Data.fields #[(Value.ref 52), (Value.ref 52), (Value.ref 52)]) #[])
noncomputable def o_91 (P : Params) : Obj := (Obj.mk (Value.type "builtin_function_or_method") none (Data.fields #[(Value.builtin "object.__init_subclass__"), (Value.ref 52)]) #[])
noncomputable def o_92 (P : Params) : Obj := (Obj.mk (Value.type "dict") none (Data.dict #[(DictEntry.mk (PyData.keyHash P (Str.ofString "__name__")) (Value.str (Str.ofString "__name__") 165) (Value.str (Str.ofString "gluepage.errors") 194)), (DictEntry.mk (PyData.keyHash P (Str.ofString "__doc__")) (Value.str (Str.ofString "__doc__") 166) Value.none), (DictEntry.mk (PyData.keyHash P (Str.ofString "__package__")) (Value.str (Str.ofString "__package__") 167) Value.none), (DictEntry.mk (PyData.keyHash P (Str.ofString "__loader__")) (Value.str (Str.ofString "__loader__") 168) (Value.builtin "__main__.__loader__#opaque")), (DictEntry.mk (PyData.keyHash P (Str.ofString "__spec__")) (Value.str (Str.ofString "__spec__") 169) Value.none), (DictEntry.mk (PyData.keyHash P (Str.ofString "__annotations__")) (Value.str (Str.ofString "__annotations__") 170) (Value.ref 6)), (DictEntry.mk (PyData.keyHash P (Str.ofString "__builtins__")) (Value.str (Str.ofString "__builtins__") 171) (Value.ref 4)), (DictEntry.mk (PyData.keyHash P (Str.ofString "__file__")) (Value.str (Str.ofString "__file__") 173) (Value.str (Str.ofString "/claim/cut.py") 172)), (DictEntry.mk (PyData.keyHash P (Str.ofString "__cached__")) (Value.str (Str.ofString "__cached__") 174) Value.none), (DictEntry.mk (PyData.keyHash P (Str.ofString "_wall")) (Value.str (Str.ofString "_wall") 193) (Value.ref 21)), (DictEntry.mk (PyData.keyHash P (Str.ofString "PageError")) (Value.str (Str.ofString "PageError") 223) (Value.ref 39)), (DictEntry.mk (PyData.keyHash P (Str.ofString "BadArgument")) (Value.str (Str.ofString "BadArgument") 239) (Value.ref 52)), (DictEntry.mk (PyData.keyHash P (Str.ofString "Runaway")) (Value.str (Str.ofString "Runaway") 255) (Value.ref 64))] 13) #[])
noncomputable def o_93 (P : Params) : Obj := (Obj.mk Value.none none (Data.fields #[(Value.int 1 0), (Value.int 0 0), (Value.ref 20), (Value.int 5 0), (Value.int 0 0), (Value.ref 27), (Value.int 9 0), (Value.int 0 0), (Value.ref 48), (Value.int 11 0), (Value.int 0 0), (Value.ref 60)]) #[])
noncomputable def o_94 (P : Params) : Obj := (Obj.mk (Value.type "type") none (Data.cls (ClassData.mk (Str.ofString "PageError") [(Value.type "ValueError")] [(Value.ref 39), (Value.type "ValueError"), (Value.type "Exception"), (Value.type "BaseException"), (Value.type "object")] 38 (Str.ofString "PageError") true [] [(Value.ref 52), (Value.ref 64)] false none false)) #[(some (Value.ref 22)), none, (some (Value.str (Str.ofString "PageError") 196)), (some (Value.str (Str.ofString "PageError") 204)), (some (Value.builtin "ValueError.__new__")), (some (Value.bool true))])
noncomputable def o_95 (P : Params) : Obj := (Obj.mk (Value.type "tuple") none (Data.seq #[(Value.ref 39)] 0) #[])
noncomputable def o_96 (P : Params) : Obj := (Obj.mk (Value.type "builtin_function_or_method") none (Data.fields #[(Value.builtin "type.__prepare__"), (Value.type "type")]) #[])
noncomputable def o_97 (P : Params) : Obj := (Obj.mk (Value.type "dict") none (Data.dict #[(DictEntry.mk (PyData.keyHash P (Str.ofString "__module__")) (Value.str (Str.ofString "__module__") 247) (Value.str (Str.ofString "gluepage.errors") 194)), (DictEntry.mk (PyData.keyHash P (Str.ofString "__qualname__")) (Value.str (Str.ofString "__qualname__") 249) (Value.str (Str.ofString "Runaway") 248)), (DictEntry.mk (PyData.keyHash P (Str.ofString "__firstlineno__")) (Value.str (Str.ofString "__firstlineno__") 251) (Value.int 11 250)), (DictEntry.mk (PyData.keyHash P (Str.ofString "__static_attributes__")) (Value.str (Str.ofString "__static_attributes__") 252) (Value.ref 62))] 4) #[])
noncomputable def o_98 (P : Params) : Obj := (Obj.mk (Value.type "tuple") none (Data.seq #[] 0) #[])
noncomputable def o_99 (P : Params) : Obj := (Obj.mk Value.none none (Data.fields #[]) #[])
noncomputable def o_100 (P : Params) : Obj := (Obj.mk (Value.type "code") none (Data.fields #[(Value.str (Str.ofString "Runaway") 242), (Value.str (Str.ofString "Runaway") 243), (Value.str (Str.ofString "/claim/cut.py") 244), (Value.int 11 0), (Value.int 0 0), (Value.int 0 0), (Value.int 0 0), (Value.int 0 0), (Value.ref 58), (Value.bool false), (Value.int 181 0), (Value.ref 59), Value.none, Value.none, Value.none, Value.none, (Value.int 245 0), (Value.int 11 0), (Value.str (Str.ofString "/claim/cut.py") 246)]) #[])
noncomputable def o_101 (P : Params) : Obj := (Obj.mk (Value.type "frame") none Data.plain #[(some (Value.ref 60)), (some (Value.ref 3)), (some (Value.ref 57)), none, (some (Value.str (Str.ofString "gluepage.errors") 194)), none, (some (Value.ref 0))])
noncomputable def o_102 (P : Params) : Obj := (Obj.mk (Value.type "tuple") none (Data.seq #[] 0) #[])
noncomputable def o_103 (P : Params) : Obj := (Obj.mk (Value.type "dict") none (Data.dict #[(DictEntry.mk (PyData.keyHash P (Str.ofString "__module__")) (Value.str (Str.ofString "__module__") 247) (Value.str (Str.ofString "gluepage.errors") 194)), (DictEntry.mk (PyData.keyHash P (Str.ofString "__firstlineno__")) (Value.str (Str.ofString "__firstlineno__") 251) (Value.int 11 250)), (DictEntry.mk (PyData.keyHash P (Str.ofString "__static_attributes__")) (Value.str (Str.ofString "__static_attributes__") 252) (Value.ref 62)), (DictEntry.mk (PyData.keyHash P (Str.ofString "__doc__")) (Value.str (Str.ofString "__doc__") 253) Value.none)] 2) #[])
noncomputable def o_104 (P : Params) : Obj := (Obj.mk (Value.type "type") none (Data.cls (ClassData.mk (Str.ofString "Runaway") [(Value.ref 39)] [(Value.ref 64), (Value.ref 39), (Value.type "ValueError"), (Value.type "Exception"), (Value.type "BaseException"), (Value.type "object")] 63 (Str.ofString "Runaway") true [] [] false none false)) #[(some (Value.ref 55)), none, (some (Value.str (Str.ofString "Runaway") 240)), (some (Value.str (Str.ofString "Runaway") 248)), (some (Value.builtin "ValueError.__new__")), (some (Value.bool true))])
noncomputable def o_105 (P : Params) : Obj := (Obj.mk (Value.type "super") none (Data.fields #[(Value.ref 64), (Value.ref 64), (Value.ref 64)]) #[])
noncomputable def o_106 (P : Params) : Obj := (Obj.mk (Value.type "builtin_function_or_method") none (Data.fields #[(Value.builtin "object.__init_subclass__"), (Value.ref 64)]) #[])
noncomputable def o_107 (P : Params) : Obj := (Obj.mk (Value.type "dict") none (Data.dict #[(DictEntry.mk (PyData.keyHash P (Str.ofString "__name__")) (Value.str (Str.ofString "__name__") 165) (Value.str (Str.ofString "gluepage.errors") 194)), (DictEntry.mk (PyData.keyHash P (Str.ofString "__doc__")) (Value.str (Str.ofString "__doc__") 166) Value.none), (DictEntry.mk (PyData.keyHash P (Str.ofString "__package__")) (Value.str (Str.ofString "__package__") 167) Value.none), (DictEntry.mk (PyData.keyHash P (Str.ofString "__loader__")) (Value.str (Str.ofString "__loader__") 168) (Value.builtin "__main__.__loader__#opaque")), (DictEntry.mk (PyData.keyHash P (Str.ofString "__spec__")) (Value.str (Str.ofString "__spec__") 169) Value.none), (DictEntry.mk (PyData.keyHash P (Str.ofString "__annotations__")) (Value.str (Str.ofString "__annotations__") 170) (Value.ref 6)), (DictEntry.mk (PyData.keyHash P (Str.ofString "__builtins__")) (Value.str (Str.ofString "__builtins__") 171) (Value.ref 4)), (DictEntry.mk (PyData.keyHash P (Str.ofString "__file__")) (Value.str (Str.ofString "__file__") 173) (Value.str (Str.ofString "/claim/cut.py") 172)), (DictEntry.mk (PyData.keyHash P (Str.ofString "__cached__")) (Value.str (Str.ofString "__cached__") 174) Value.none), (DictEntry.mk (PyData.keyHash P (Str.ofString "_wall")) (Value.str (Str.ofString "_wall") 193) (Value.ref 21)), (DictEntry.mk (PyData.keyHash P (Str.ofString "PageError")) (Value.str (Str.ofString "PageError") 223) (Value.ref 39)), (DictEntry.mk (PyData.keyHash P (Str.ofString "BadArgument")) (Value.str (Str.ofString "BadArgument") 239) (Value.ref 52)), (DictEntry.mk (PyData.keyHash P (Str.ofString "Runaway")) (Value.str (Str.ofString "Runaway") 255) (Value.ref 64)), (DictEntry.mk (PyData.keyHash P (Str.ofString "OuterRefused")) (Value.str (Str.ofString "OuterRefused") 271) (Value.ref 76))] 14) #[])
noncomputable def o_108 (P : Params) : Obj := (Obj.mk Value.none none (Data.fields #[(Value.int 1 0), (Value.int 0 0), (Value.ref 20), (Value.int 5 0), (Value.int 0 0), (Value.ref 27), (Value.int 9 0), (Value.int 0 0), (Value.ref 48), (Value.int 11 0), (Value.int 0 0), (Value.ref 60), (Value.int 13 0), (Value.int 0 0), (Value.ref 72)]) #[])
noncomputable def o_109 (P : Params) : Obj := (Obj.mk (Value.type "type") none (Data.cls (ClassData.mk (Str.ofString "PageError") [(Value.type "ValueError")] [(Value.ref 39), (Value.type "ValueError"), (Value.type "Exception"), (Value.type "BaseException"), (Value.type "object")] 38 (Str.ofString "PageError") true [] [(Value.ref 52), (Value.ref 64), (Value.ref 76)] false none false)) #[(some (Value.ref 22)), none, (some (Value.str (Str.ofString "PageError") 196)), (some (Value.str (Str.ofString "PageError") 204)), (some (Value.builtin "ValueError.__new__")), (some (Value.bool true))])
noncomputable def o_110 (P : Params) : Obj := (Obj.mk (Value.type "tuple") none (Data.seq #[(Value.ref 39)] 0) #[])
noncomputable def o_111 (P : Params) : Obj := (Obj.mk (Value.type "builtin_function_or_method") none (Data.fields #[(Value.builtin "type.__prepare__"), (Value.type "type")]) #[])
noncomputable def o_112 (P : Params) : Obj := (Obj.mk (Value.type "dict") none (Data.dict #[(DictEntry.mk (PyData.keyHash P (Str.ofString "__module__")) (Value.str (Str.ofString "__module__") 263) (Value.str (Str.ofString "gluepage.errors") 194)), (DictEntry.mk (PyData.keyHash P (Str.ofString "__qualname__")) (Value.str (Str.ofString "__qualname__") 265) (Value.str (Str.ofString "OuterRefused") 264)), (DictEntry.mk (PyData.keyHash P (Str.ofString "__firstlineno__")) (Value.str (Str.ofString "__firstlineno__") 267) (Value.int 13 266)), (DictEntry.mk (PyData.keyHash P (Str.ofString "__static_attributes__")) (Value.str (Str.ofString "__static_attributes__") 268) (Value.ref 74))] 4) #[])
noncomputable def o_113 (P : Params) : Obj := (Obj.mk (Value.type "tuple") none (Data.seq #[] 0) #[])
noncomputable def o_114 (P : Params) : Obj := (Obj.mk Value.none none (Data.fields #[]) #[])
noncomputable def o_115 (P : Params) : Obj := (Obj.mk (Value.type "code") none (Data.fields #[(Value.str (Str.ofString "OuterRefused") 258), (Value.str (Str.ofString "OuterRefused") 259), (Value.str (Str.ofString "/claim/cut.py") 260), (Value.int 13 0), (Value.int 0 0), (Value.int 0 0), (Value.int 0 0), (Value.int 0 0), (Value.ref 70), (Value.bool false), (Value.int 181 0), (Value.ref 71), Value.none, Value.none, Value.none, Value.none, (Value.int 261 0), (Value.int 13 0), (Value.str (Str.ofString "/claim/cut.py") 262)]) #[])
noncomputable def o_116 (P : Params) : Obj := (Obj.mk (Value.type "frame") none Data.plain #[(some (Value.ref 72)), (some (Value.ref 3)), (some (Value.ref 69)), none, (some (Value.str (Str.ofString "gluepage.errors") 194)), none, (some (Value.ref 0))])
noncomputable def o_117 (P : Params) : Obj := (Obj.mk (Value.type "tuple") none (Data.seq #[] 0) #[])
noncomputable def o_118 (P : Params) : Obj := (Obj.mk (Value.type "dict") none (Data.dict #[(DictEntry.mk (PyData.keyHash P (Str.ofString "__module__")) (Value.str (Str.ofString "__module__") 263) (Value.str (Str.ofString "gluepage.errors") 194)), (DictEntry.mk (PyData.keyHash P (Str.ofString "__firstlineno__")) (Value.str (Str.ofString "__firstlineno__") 267) (Value.int 13 266)), (DictEntry.mk (PyData.keyHash P (Str.ofString "__static_attributes__")) (Value.str (Str.ofString "__static_attributes__") 268) (Value.ref 74)), (DictEntry.mk (PyData.keyHash P (Str.ofString "__doc__")) (Value.str (Str.ofString "__doc__") 269) Value.none)] 2) #[])
noncomputable def o_119 (P : Params) : Obj := (Obj.mk (Value.type "type") none (Data.cls (ClassData.mk (Str.ofString "OuterRefused") [(Value.ref 39)] [(Value.ref 76), (Value.ref 39), (Value.type "ValueError"), (Value.type "Exception"), (Value.type "BaseException"), (Value.type "object")] 75 (Str.ofString "OuterRefused") true [] [] false none false)) #[(some (Value.ref 67)), none, (some (Value.str (Str.ofString "OuterRefused") 256)), (some (Value.str (Str.ofString "OuterRefused") 264)), (some (Value.builtin "ValueError.__new__")), (some (Value.bool true))])
noncomputable def o_120 (P : Params) : Obj := (Obj.mk (Value.type "super") none (Data.fields #[(Value.ref 76), (Value.ref 76), (Value.ref 76)]) #[])
noncomputable def o_121 (P : Params) : Obj := (Obj.mk (Value.type "builtin_function_or_method") none (Data.fields #[(Value.builtin "object.__init_subclass__"), (Value.ref 76)]) #[])
noncomputable def o_122 (P : Params) : Obj := (Obj.mk (Value.type "dict") none (Data.dict #[(DictEntry.mk (PyData.keyHash P (Str.ofString "__name__")) (Value.str (Str.ofString "__name__") 165) (Value.str (Str.ofString "gluepage.tokens") 299)), (DictEntry.mk (PyData.keyHash P (Str.ofString "__doc__")) (Value.str (Str.ofString "__doc__") 166) Value.none), (DictEntry.mk (PyData.keyHash P (Str.ofString "__package__")) (Value.str (Str.ofString "__package__") 167) Value.none), (DictEntry.mk (PyData.keyHash P (Str.ofString "__loader__")) (Value.str (Str.ofString "__loader__") 168) (Value.builtin "__main__.__loader__#opaque")), (DictEntry.mk (PyData.keyHash P (Str.ofString "__spec__")) (Value.str (Str.ofString "__spec__") 169) Value.none), (DictEntry.mk (PyData.keyHash P (Str.ofString "__annotations__")) (Value.str (Str.ofString "__annotations__") 170) (Value.ref 6)), (DictEntry.mk (PyData.keyHash P (Str.ofString "__builtins__")) (Value.str (Str.ofString "__builtins__") 171) (Value.ref 4)), (DictEntry.mk (PyData.keyHash P (Str.ofString "__file__")) (Value.str (Str.ofString "__file__") 173) (Value.str (Str.ofString "/claim/cut.py") 172)), (DictEntry.mk (PyData.keyHash P (Str.ofString "__cached__")) (Value.str (Str.ofString "__cached__") 174) Value.none), (DictEntry.mk (PyData.keyHash P (Str.ofString "_wall")) (Value.str (Str.ofString "_wall") 193) (Value.ref 21)), (DictEntry.mk (PyData.keyHash P (Str.ofString "PageError")) (Value.str (Str.ofString "PageError") 223) (Value.ref 39)), (DictEntry.mk (PyData.keyHash P (Str.ofString "BadArgument")) (Value.str (Str.ofString "BadArgument") 239) (Value.ref 52)), (DictEntry.mk (PyData.keyHash P (Str.ofString "Runaway")) (Value.str (Str.ofString "Runaway") 255) (Value.ref 64)), (DictEntry.mk (PyData.keyHash P (Str.ofString "OuterRefused")) (Value.str (Str.ofString "OuterRefused") 271) (Value.ref 76)), (DictEntry.mk (PyData.keyHash P (Str.ofString "BadUse")) (Value.str (Str.ofString "BadUse") 287) (Value.ref 88)), (DictEntry.mk (PyData.keyHash P (Str.ofString "is_whole")) (Value.str (Str.ofString "is_whole") 298) (Value.ref 97))] 16) #[])
noncomputable def o_123 (P : Params) : Obj := (Obj.mk Value.none none (Data.fields #[(Value.int 1 0), (Value.int 0 0), (Value.ref 20), (Value.int 5 0), (Value.int 0 0), (Value.ref 27), (Value.int 9 0), (Value.int 0 0), (Value.ref 48), (Value.int 11 0), (Value.int 0 0), (Value.ref 60), (Value.int 13 0), (Value.int 0 0), (Value.ref 72), (Value.int 15 0), (Value.int 0 0), (Value.ref 84), (Value.int 18 0), (Value.int 0 0), (Value.ref 96)]) #[])
noncomputable def o_124 (P : Params) : Obj := (Obj.mk (Value.type "type") none (Data.cls (ClassData.mk (Str.ofString "PageError") [(Value.type "ValueError")] [(Value.ref 39), (Value.type "ValueError"), (Value.type "Exception"), (Value.type "BaseException"), (Value.type "object")] 38 (Str.ofString "PageError") true [] [(Value.ref 52), (Value.ref 64), (Value.ref 76), (Value.ref 88)] false none false)) #[(some (Value.ref 22)), none, (some (Value.str (Str.ofString "PageError") 196)), (some (Value.str (Str.ofString "PageError") 204)), (some (Value.builtin "ValueError.__new__")), (some (Value.bool true))])
noncomputable def o_125 (P : Params) : Obj := (Obj.mk (Value.type "tuple") none (Data.seq #[(Value.ref 39)] 0) #[])
noncomputable def o_126 (P : Params) : Obj := (Obj.mk (Value.type "builtin_function_or_method") none (Data.fields #[(Value.builtin "type.__prepare__"), (Value.type "type")]) #[])
noncomputable def o_127 (P : Params) : Obj := (Obj.mk (Value.type "dict") none (Data.dict #[(DictEntry.mk (PyData.keyHash P (Str.ofString "__module__")) (Value.str (Str.ofString "__module__") 279) (Value.str (Str.ofString "gluepage.errors") 194)), (DictEntry.mk (PyData.keyHash P (Str.ofString "__qualname__")) (Value.str (Str.ofString "__qualname__") 281) (Value.str (Str.ofString "BadUse") 280)), (DictEntry.mk (PyData.keyHash P (Str.ofString "__firstlineno__")) (Value.str (Str.ofString "__firstlineno__") 283) (Value.int 15 282)), (DictEntry.mk (PyData.keyHash P (Str.ofString "__static_attributes__")) (Value.str (Str.ofString "__static_attributes__") 284) (Value.ref 86))] 4) #[])
noncomputable def o_128 (P : Params) : Obj := (Obj.mk (Value.type "tuple") none (Data.seq #[] 0) #[])
noncomputable def o_129 (P : Params) : Obj := (Obj.mk Value.none none (Data.fields #[]) #[])
noncomputable def o_130 (P : Params) : Obj := (Obj.mk (Value.type "code") none (Data.fields #[(Value.str (Str.ofString "BadUse") 274), (Value.str (Str.ofString "BadUse") 275), (Value.str (Str.ofString "/claim/cut.py") 276), (Value.int 15 0), (Value.int 0 0), (Value.int 0 0), (Value.int 0 0), (Value.int 0 0), (Value.ref 82), (Value.bool false), (Value.int 181 0), (Value.ref 83), Value.none, Value.none, Value.none, Value.none, (Value.int 277 0), (Value.int 15 0), (Value.str (Str.ofString "/claim/cut.py") 278)]) #[])
noncomputable def o_131 (P : Params) : Obj := (Obj.mk (Value.type "frame") none Data.plain #[(some (Value.ref 84)), (some (Value.ref 3)), (some (Value.ref 81)), none, (some (Value.str (Str.ofString "gluepage.errors") 194)), none, (some (Value.ref 0))])
noncomputable def o_132 (P : Params) : Obj := (Obj.mk (Value.type "tuple") none (Data.seq #[] 0) #[])
noncomputable def o_133 (P : Params) : Obj := (Obj.mk (Value.type "dict") none (Data.dict #[(DictEntry.mk (PyData.keyHash P (Str.ofString "__module__")) (Value.str (Str.ofString "__module__") 279) (Value.str (Str.ofString "gluepage.errors") 194)), (DictEntry.mk (PyData.keyHash P (Str.ofString "__firstlineno__")) (Value.str (Str.ofString "__firstlineno__") 283) (Value.int 15 282)), (DictEntry.mk (PyData.keyHash P (Str.ofString "__static_attributes__")) (Value.str (Str.ofString "__static_attributes__") 284) (Value.ref 86)), (DictEntry.mk (PyData.keyHash P (Str.ofString "__doc__")) (Value.str (Str.ofString "__doc__") 285) Value.none)] 2) #[])
noncomputable def o_134 (P : Params) : Obj := (Obj.mk (Value.type "type") none (Data.cls (ClassData.mk (Str.ofString "BadUse") [(Value.ref 39)] [(Value.ref 88), (Value.ref 39), (Value.type "ValueError"), (Value.type "Exception"), (Value.type "BaseException"), (Value.type "object")] 87 (Str.ofString "BadUse") true [] [] false none false)) #[(some (Value.ref 79)), none, (some (Value.str (Str.ofString "BadUse") 272)), (some (Value.str (Str.ofString "BadUse") 280)), (some (Value.builtin "ValueError.__new__")), (some (Value.bool true))])
noncomputable def o_135 (P : Params) : Obj := (Obj.mk (Value.type "super") none (Data.fields #[(Value.ref 88), (Value.ref 88), (Value.ref 88)]) #[])
noncomputable def o_136 (P : Params) : Obj := (Obj.mk (Value.type "builtin_function_or_method") none (Data.fields #[(Value.builtin "object.__init_subclass__"), (Value.ref 88)]) #[])
noncomputable def o_137 (P : Params) : Obj := (Obj.mk (Value.type "tuple") none (Data.seq #[] 0) #[])
noncomputable def o_138 (P : Params) : Obj := (Obj.mk Value.none none (Data.fields #[]) #[])
noncomputable def o_139 (P : Params) : Obj := (Obj.mk (Value.type "tuple") none (Data.seq #[(Value.str (Str.ofString "value") 293), (Value.str (Str.ofString "low") 294), (Value.str (Str.ofString "high") 295)] 0) #[])
noncomputable def o_140 (P : Params) : Obj := (Obj.mk (Value.type "tuple") none (Data.seq #[] 0) #[])
noncomputable def o_141 (P : Params) : Obj := (Obj.mk Value.none none (Data.func (FuncData.mk (Str.ofString "is_whole") (Str.ofString "is_whole") (pA (pS 8)) (FuncBody.stmts (pB (pS 8))) (pSc (pS 8)) 0 [] Value.none Value.none Value.none Value.none none Value.none Value.none 0)) #[])
noncomputable def o_142 (P : Params) : Obj := (Obj.mk (Value.type "code") none (Data.fields #[(Value.str (Str.ofString "is_whole") 290), (Value.str (Str.ofString "is_whole") 291), (Value.str (Str.ofString "/claim/cut.py") 292), (Value.int 18 0), (Value.int 3 0), (Value.int 0 0), (Value.int 0 0), (Value.int 3 0), (Value.ref 91), (Value.bool true), (Value.int 181 0), (Value.ref 92), Value.none, (Value.ref 93), (Value.ref 94), (Value.ref 95), (Value.int 296 0), (Value.int 18 0), (Value.str (Str.ofString "/claim/cut.py") 297)]) #[])
noncomputable def o_143 (P : Params) : Obj := (Obj.mk (Value.type "function") none (Data.func (FuncData.mk (Str.ofString "is_whole") (Str.ofString "is_whole") (pA (pS 8)) (FuncBody.stmts (pB (pS 8))) (pSc (pS 8)) 3 [] Value.none Value.none Value.none (Value.str (Str.ofString "gluepage.scaled") 288) none (Value.ref 96) Value.none 0)) #[])
noncomputable def o_144 (P : Params) : Obj := (Obj.mk (Value.type "dict") none (Data.dict #[(DictEntry.mk (PyData.keyHash P (Str.ofString "__name__")) (Value.str (Str.ofString "__name__") 165) (Value.str (Str.ofString "gluepage.tokens") 299)), (DictEntry.mk (PyData.keyHash P (Str.ofString "__doc__")) (Value.str (Str.ofString "__doc__") 166) Value.none), (DictEntry.mk (PyData.keyHash P (Str.ofString "__package__")) (Value.str (Str.ofString "__package__") 167) Value.none), (DictEntry.mk (PyData.keyHash P (Str.ofString "__loader__")) (Value.str (Str.ofString "__loader__") 168) (Value.builtin "__main__.__loader__#opaque")), (DictEntry.mk (PyData.keyHash P (Str.ofString "__spec__")) (Value.str (Str.ofString "__spec__") 169) Value.none), (DictEntry.mk (PyData.keyHash P (Str.ofString "__annotations__")) (Value.str (Str.ofString "__annotations__") 170) (Value.ref 6)), (DictEntry.mk (PyData.keyHash P (Str.ofString "__builtins__")) (Value.str (Str.ofString "__builtins__") 171) (Value.ref 4)), (DictEntry.mk (PyData.keyHash P (Str.ofString "__file__")) (Value.str (Str.ofString "__file__") 173) (Value.str (Str.ofString "/claim/cut.py") 172)), (DictEntry.mk (PyData.keyHash P (Str.ofString "__cached__")) (Value.str (Str.ofString "__cached__") 174) Value.none), (DictEntry.mk (PyData.keyHash P (Str.ofString "_wall")) (Value.str (Str.ofString "_wall") 193) (Value.ref 21)), (DictEntry.mk (PyData.keyHash P (Str.ofString "PageError")) (Value.str (Str.ofString "PageError") 223) (Value.ref 39)), (DictEntry.mk (PyData.keyHash P (Str.ofString "BadArgument")) (Value.str (Str.ofString "BadArgument") 239) (Value.ref 52)), (DictEntry.mk (PyData.keyHash P (Str.ofString "Runaway")) (Value.str (Str.ofString "Runaway") 255) (Value.ref 64)), (DictEntry.mk (PyData.keyHash P (Str.ofString "OuterRefused")) (Value.str (Str.ofString "OuterRefused") 271) (Value.ref 76)), (DictEntry.mk (PyData.keyHash P (Str.ofString "BadUse")) (Value.str (Str.ofString "BadUse") 287) (Value.ref 88)), (DictEntry.mk (PyData.keyHash P (Str.ofString "is_whole")) (Value.str (Str.ofString "is_whole") 298) (Value.ref 97)), (DictEntry.mk (PyData.keyHash P (Str.ofString "ESCAPE")) (Value.str (Str.ofString "ESCAPE") 309) (Value.int 0 301)), (DictEntry.mk (PyData.keyHash P (Str.ofString "BEGIN")) (Value.str (Str.ofString "BEGIN") 310) (Value.int 1 302)), (DictEntry.mk (PyData.keyHash P (Str.ofString "END")) (Value.str (Str.ofString "END") 311) (Value.int 2 303)), (DictEntry.mk (PyData.keyHash P (Str.ofString "MATH")) (Value.str (Str.ofString "MATH") 312) (Value.int 3 304)), (DictEntry.mk (PyData.keyHash P (Str.ofString "TAB")) (Value.str (Str.ofString "TAB") 313) (Value.int 4 305)), (DictEntry.mk (PyData.keyHash P (Str.ofString "RETURN")) (Value.str (Str.ofString "RETURN") 314) (Value.int 5 306)), (DictEntry.mk (PyData.keyHash P (Str.ofString "PARAMETER")) (Value.str (Str.ofString "PARAMETER") 315) (Value.int 6 307)), (DictEntry.mk (PyData.keyHash P (Str.ofString "UP")) (Value.str (Str.ofString "UP") 316) (Value.int 7 308)), (DictEntry.mk (PyData.keyHash P (Str.ofString "DOWN")) (Value.str (Str.ofString "DOWN") 325) (Value.int 8 317)), (DictEntry.mk (PyData.keyHash P (Str.ofString "IGNORED")) (Value.str (Str.ofString "IGNORED") 326) (Value.int 9 318)), (DictEntry.mk (PyData.keyHash P (Str.ofString "SPACE")) (Value.str (Str.ofString "SPACE") 327) (Value.int 10 319)), (DictEntry.mk (PyData.keyHash P (Str.ofString "LETTER")) (Value.str (Str.ofString "LETTER") 328) (Value.int 11 320)), (DictEntry.mk (PyData.keyHash P (Str.ofString "OTHER")) (Value.str (Str.ofString "OTHER") 329) (Value.int 12 321)), (DictEntry.mk (PyData.keyHash P (Str.ofString "ACTIVE")) (Value.str (Str.ofString "ACTIVE") 330) (Value.int 13 322)), (DictEntry.mk (PyData.keyHash P (Str.ofString "COMMENT")) (Value.str (Str.ofString "COMMENT") 331) (Value.int 14 323)), (DictEntry.mk (PyData.keyHash P (Str.ofString "INVALID")) (Value.str (Str.ofString "INVALID") 332) (Value.int 15 324))] 32) #[])
noncomputable def o_145 (P : Params) : Obj := (Obj.mk (Value.type "tuple") none (Data.seq #[(Value.int 0 301), (Value.int 1 302), (Value.int 2 303), (Value.int 3 304), (Value.int 4 305), (Value.int 5 306), (Value.int 6 307), (Value.int 7 308)] 0) #[])
noncomputable def o_146 (P : Params) : Obj := (Obj.mk (Value.type "tuple_iterator") none (Data.fields #[Value.none, (Value.int 8 0)]) #[])
noncomputable def o_147 (P : Params) : Obj := (Obj.mk (Value.type "tuple") none (Data.seq #[] 0) #[])
noncomputable def o_148 (P : Params) : Obj := (Obj.mk (Value.type "StopIteration") none (Data.fields #[(Value.ref 100), Value.none, Value.none, Value.none, (Value.bool false), Value.none]) #[])
noncomputable def o_149 (P : Params) : Obj := (Obj.mk (Value.type "tuple") none (Data.seq #[(Value.int 8 317), (Value.int 9 318), (Value.int 10 319), (Value.int 11 320), (Value.int 12 321), (Value.int 13 322), (Value.int 14 323), (Value.int 15 324)] 0) #[])
noncomputable def o_150 (P : Params) : Obj := (Obj.mk (Value.type "tuple_iterator") none (Data.fields #[Value.none, (Value.int 8 0)]) #[])
noncomputable def o_151 (P : Params) : Obj := (Obj.mk (Value.type "tuple") none (Data.seq #[] 0) #[])
noncomputable def o_152 (P : Params) : Obj := (Obj.mk (Value.type "StopIteration") none (Data.fields #[(Value.ref 104), Value.none, Value.none, Value.none, (Value.bool false), Value.none]) #[])
noncomputable def o_153 (P : Params) : Obj := (Obj.mk (Value.type "dict") none (Data.dict #[(DictEntry.mk (PyData.keyHash P (Str.ofString "__name__")) (Value.str (Str.ofString "__name__") 165) (Value.str (Str.ofString "gluepage.tokens") 299)), (DictEntry.mk (PyData.keyHash P (Str.ofString "__doc__")) (Value.str (Str.ofString "__doc__") 166) Value.none), (DictEntry.mk (PyData.keyHash P (Str.ofString "__package__")) (Value.str (Str.ofString "__package__") 167) Value.none), (DictEntry.mk (PyData.keyHash P (Str.ofString "__loader__")) (Value.str (Str.ofString "__loader__") 168) (Value.builtin "__main__.__loader__#opaque")), (DictEntry.mk (PyData.keyHash P (Str.ofString "__spec__")) (Value.str (Str.ofString "__spec__") 169) Value.none), (DictEntry.mk (PyData.keyHash P (Str.ofString "__annotations__")) (Value.str (Str.ofString "__annotations__") 170) (Value.ref 6)), (DictEntry.mk (PyData.keyHash P (Str.ofString "__builtins__")) (Value.str (Str.ofString "__builtins__") 171) (Value.ref 4)), (DictEntry.mk (PyData.keyHash P (Str.ofString "__file__")) (Value.str (Str.ofString "__file__") 173) (Value.str (Str.ofString "/claim/cut.py") 172)), (DictEntry.mk (PyData.keyHash P (Str.ofString "__cached__")) (Value.str (Str.ofString "__cached__") 174) Value.none), (DictEntry.mk (PyData.keyHash P (Str.ofString "_wall")) (Value.str (Str.ofString "_wall") 193) (Value.ref 21)), (DictEntry.mk (PyData.keyHash P (Str.ofString "PageError")) (Value.str (Str.ofString "PageError") 223) (Value.ref 39)), (DictEntry.mk (PyData.keyHash P (Str.ofString "BadArgument")) (Value.str (Str.ofString "BadArgument") 239) (Value.ref 52)), (DictEntry.mk (PyData.keyHash P (Str.ofString "Runaway")) (Value.str (Str.ofString "Runaway") 255) (Value.ref 64)), (DictEntry.mk (PyData.keyHash P (Str.ofString "OuterRefused")) (Value.str (Str.ofString "OuterRefused") 271) (Value.ref 76)), (DictEntry.mk (PyData.keyHash P (Str.ofString "BadUse")) (Value.str (Str.ofString "BadUse") 287) (Value.ref 88)), (DictEntry.mk (PyData.keyHash P (Str.ofString "is_whole")) (Value.str (Str.ofString "is_whole") 298) (Value.ref 97)), (DictEntry.mk (PyData.keyHash P (Str.ofString "ESCAPE")) (Value.str (Str.ofString "ESCAPE") 309) (Value.int 0 301)), (DictEntry.mk (PyData.keyHash P (Str.ofString "BEGIN")) (Value.str (Str.ofString "BEGIN") 310) (Value.int 1 302)), (DictEntry.mk (PyData.keyHash P (Str.ofString "END")) (Value.str (Str.ofString "END") 311) (Value.int 2 303)), (DictEntry.mk (PyData.keyHash P (Str.ofString "MATH")) (Value.str (Str.ofString "MATH") 312) (Value.int 3 304)), (DictEntry.mk (PyData.keyHash P (Str.ofString "TAB")) (Value.str (Str.ofString "TAB") 313) (Value.int 4 305)), (DictEntry.mk (PyData.keyHash P (Str.ofString "RETURN")) (Value.str (Str.ofString "RETURN") 314) (Value.int 5 306)), (DictEntry.mk (PyData.keyHash P (Str.ofString "PARAMETER")) (Value.str (Str.ofString "PARAMETER") 315) (Value.int 6 307)), (DictEntry.mk (PyData.keyHash P (Str.ofString "UP")) (Value.str (Str.ofString "UP") 316) (Value.int 7 308)), (DictEntry.mk (PyData.keyHash P (Str.ofString "DOWN")) (Value.str (Str.ofString "DOWN") 325) (Value.int 8 317)), (DictEntry.mk (PyData.keyHash P (Str.ofString "IGNORED")) (Value.str (Str.ofString "IGNORED") 326) (Value.int 9 318)), (DictEntry.mk (PyData.keyHash P (Str.ofString "SPACE")) (Value.str (Str.ofString "SPACE") 327) (Value.int 10 319)), (DictEntry.mk (PyData.keyHash P (Str.ofString "LETTER")) (Value.str (Str.ofString "LETTER") 328) (Value.int 11 320)), (DictEntry.mk (PyData.keyHash P (Str.ofString "OTHER")) (Value.str (Str.ofString "OTHER") 329) (Value.int 12 321)), (DictEntry.mk (PyData.keyHash P (Str.ofString "ACTIVE")) (Value.str (Str.ofString "ACTIVE") 330) (Value.int 13 322)), (DictEntry.mk (PyData.keyHash P (Str.ofString "COMMENT")) (Value.str (Str.ofString "COMMENT") 331) (Value.int 14 323)), (DictEntry.mk (PyData.keyHash P (Str.ofString "INVALID")) (Value.str (Str.ofString "INVALID") 332) (Value.int 15 324)), (DictEntry.mk (PyData.keyHash P (Str.ofString "CONTROL")) (Value.str (Str.ofString "CONTROL") 338) (Value.int 0 333)), (DictEntry.mk (PyData.keyHash P (Str.ofString "OUT")) (Value.str (Str.ofString "OUT") 339) (Value.int 5 334)), (DictEntry.mk (PyData.keyHash P (Str.ofString "MATCH")) (Value.str (Str.ofString "MATCH") 340) (Value.int 9 335)), (DictEntry.mk (PyData.keyHash P (Str.ofString "FROZEN")) (Value.str (Str.ofString "FROZEN") 341) (Value.int 14 336)), (DictEntry.mk (PyData.keyHash P (Str.ofString "NOT_EXPANDED")) (Value.str (Str.ofString "NOT_EXPANDED") 342) (Value.int 15 337)), (DictEntry.mk (PyData.keyHash P (Str.ofString "MOST_NAMES")) (Value.str (Str.ofString "MOST_NAMES") 346) (Value.int 1048576 345)), (DictEntry.mk (PyData.keyHash P (Str.ofString "LEAST_CODES")) (Value.str (Str.ofString "LEAST_CODES") 363) (Value.ref 110)), (DictEntry.mk (PyData.keyHash P (Str.ofString "GREATEST_CODES")) (Value.str (Str.ofString "GREATEST_CODES") 381) (Value.ref 111)), (DictEntry.mk (PyData.keyHash P (Str.ofString "is_token")) (Value.str (Str.ofString "is_token") 388) (Value.ref 118)), (DictEntry.mk (PyData.keyHash P (Str.ofString "check_tokens")) (Value.str (Str.ofString "check_tokens") 396) (Value.ref 125))] 42) #[])
noncomputable def o_154 (P : Params) : Obj := (Obj.mk Value.none none (Data.fields #[(Value.int 1 0), (Value.int 0 0), (Value.ref 20), (Value.int 5 0), (Value.int 0 0), (Value.ref 27), (Value.int 9 0), (Value.int 0 0), (Value.ref 48), (Value.int 11 0), (Value.int 0 0), (Value.ref 60), (Value.int 13 0), (Value.int 0 0), (Value.ref 72), (Value.int 15 0), (Value.int 0 0), (Value.ref 84), (Value.int 18 0), (Value.int 0 0), (Value.ref 96), (Value.int 27 0), (Value.int 0 0), (Value.ref 117), (Value.int 31 0), (Value.int 0 0), (Value.ref 124)]) #[])
noncomputable def o_155 (P : Params) : Obj := (Obj.mk (Value.type "tuple") none (Data.seq #[(Value.int 0 333), (Value.int 5 334), (Value.int 9 335), (Value.int 14 336), (Value.int 15 337)] 0) #[])
noncomputable def o_156 (P : Params) : Obj := (Obj.mk (Value.type "tuple_iterator") none (Data.fields #[Value.none, (Value.int 5 0)]) #[])
noncomputable def o_157 (P : Params) : Obj := (Obj.mk (Value.type "tuple") none (Data.seq #[] 0) #[])
noncomputable def o_158 (P : Params) : Obj := (Obj.mk (Value.type "StopIteration") none (Data.fields #[(Value.ref 108), Value.none, Value.none, Value.none, (Value.bool false), Value.none]) #[])
noncomputable def o_159 (P : Params) : Obj := (Obj.mk (Value.type "tuple") none (Data.seq #[(Value.int 0 347), (Value.int 0 348), (Value.int 0 349), (Value.int 0 350), (Value.int 0 351), (Value.int 1 352), (Value.int 0 353), (Value.int 0 354), (Value.int 0 355), (Value.int 1 356), (Value.int 0 357), (Value.int 0 358), (Value.int 0 359), (Value.int 0 360), (Value.int 0 361), (Value.int 0 362)] 0) #[])
noncomputable def o_160 (P : Params) : Obj := (Obj.mk (Value.type "tuple") none (Data.seq #[(Value.int 1048575 365), (Value.int 255 366), (Value.int 255 367), (Value.int 255 368), (Value.int 255 369), (Value.int 9 370), (Value.int 255 371), (Value.int 255 372), (Value.int 255 373), (Value.int 9 374), (Value.int 255 375), (Value.int 255 376), (Value.int 255 377), (Value.int 255 378), (Value.int 255 379), (Value.int 0 380)] 0) #[])
noncomputable def o_161 (P : Params) : Obj := (Obj.mk (Value.type "tuple") none (Data.seq #[] 0) #[])
noncomputable def o_162 (P : Params) : Obj := (Obj.mk Value.none none (Data.fields #[]) #[])
noncomputable def o_163 (P : Params) : Obj := (Obj.mk (Value.type "tuple") none (Data.seq #[(Value.str (Str.ofString "token") 385)] 0) #[])
noncomputable def o_164 (P : Params) : Obj := (Obj.mk (Value.type "tuple") none (Data.seq #[] 0) #[])
noncomputable def o_165 (P : Params) : Obj := (Obj.mk Value.none none (Data.func (FuncData.mk (Str.ofString "is_token") (Str.ofString "is_token") (pA (pS 16)) (FuncBody.stmts (pB (pS 16))) (pSc (pS 16)) 0 [] Value.none Value.none Value.none Value.none none Value.none Value.none 0)) #[])
noncomputable def o_166 (P : Params) : Obj := (Obj.mk (Value.type "code") none (Data.fields #[(Value.str (Str.ofString "is_token") 382), (Value.str (Str.ofString "is_token") 383), (Value.str (Str.ofString "/claim/cut.py") 384), (Value.int 27 0), (Value.int 1 0), (Value.int 0 0), (Value.int 0 0), (Value.int 3 0), (Value.ref 112), (Value.bool true), (Value.int 181 0), (Value.ref 113), Value.none, (Value.ref 114), (Value.ref 115), (Value.ref 116), (Value.int 386 0), (Value.int 27 0), (Value.str (Str.ofString "/claim/cut.py") 387)]) #[])
noncomputable def o_167 (P : Params) : Obj := (Obj.mk (Value.type "function") none (Data.func (FuncData.mk (Str.ofString "is_token") (Str.ofString "is_token") (pA (pS 16)) (FuncBody.stmts (pB (pS 16))) (pSc (pS 16)) 3 [] Value.none Value.none Value.none (Value.str (Str.ofString "gluepage.tokens") 299) none (Value.ref 117) Value.none 0)) #[])
noncomputable def o_168 (P : Params) : Obj := (Obj.mk (Value.type "tuple") none (Data.seq #[] 0) #[])
noncomputable def o_169 (P : Params) : Obj := (Obj.mk Value.none none (Data.fields #[]) #[])
noncomputable def o_170 (P : Params) : Obj := (Obj.mk (Value.type "tuple") none (Data.seq #[(Value.str (Str.ofString "tokens") 392), (Value.str (Str.ofString "token") 393)] 0) #[])
noncomputable def o_171 (P : Params) : Obj := (Obj.mk (Value.type "tuple") none (Data.seq #[] 0) #[])
noncomputable def o_172 (P : Params) : Obj := (Obj.mk Value.none none (Data.func (FuncData.mk (Str.ofString "check_tokens") (Str.ofString "check_tokens") (pA (pS 17)) (FuncBody.stmts (pB (pS 17))) (pSc (pS 17)) 0 [] Value.none Value.none Value.none Value.none none Value.none Value.none 0)) #[])
noncomputable def o_173 (P : Params) : Obj := (Obj.mk (Value.type "code") none (Data.fields #[(Value.str (Str.ofString "check_tokens") 389), (Value.str (Str.ofString "check_tokens") 390), (Value.str (Str.ofString "/claim/cut.py") 391), (Value.int 31 0), (Value.int 1 0), (Value.int 0 0), (Value.int 0 0), (Value.int 3 0), (Value.ref 119), (Value.bool true), (Value.int 181 0), (Value.ref 120), Value.none, (Value.ref 121), (Value.ref 122), (Value.ref 123), (Value.int 394 0), (Value.int 31 0), (Value.str (Str.ofString "/claim/cut.py") 395)]) #[])
noncomputable def o_174 (P : Params) : Obj := (Obj.mk (Value.type "function") none (Data.func (FuncData.mk (Str.ofString "check_tokens") (Str.ofString "check_tokens") (pA (pS 17)) (FuncBody.stmts (pB (pS 17))) (pSc (pS 17)) 3 [] Value.none Value.none Value.none (Value.str (Str.ofString "gluepage.tokens") 299) none (Value.ref 124) Value.none 0)) #[])
noncomputable def o_175 (P : Params) : Obj := (Obj.mk (Value.type "dict") none (Data.dict #[(DictEntry.mk (PyData.keyHash P (Str.ofString "__name__")) (Value.str (Str.ofString "__name__") 165) (Value.str (Str.ofString "gluepage.macros") 466)), (DictEntry.mk (PyData.keyHash P (Str.ofString "__doc__")) (Value.str (Str.ofString "__doc__") 166) Value.none), (DictEntry.mk (PyData.keyHash P (Str.ofString "__package__")) (Value.str (Str.ofString "__package__") 167) Value.none), (DictEntry.mk (PyData.keyHash P (Str.ofString "__loader__")) (Value.str (Str.ofString "__loader__") 168) (Value.builtin "__main__.__loader__#opaque")), (DictEntry.mk (PyData.keyHash P (Str.ofString "__spec__")) (Value.str (Str.ofString "__spec__") 169) Value.none), (DictEntry.mk (PyData.keyHash P (Str.ofString "__annotations__")) (Value.str (Str.ofString "__annotations__") 170) (Value.ref 6)), (DictEntry.mk (PyData.keyHash P (Str.ofString "__builtins__")) (Value.str (Str.ofString "__builtins__") 171) (Value.ref 4)), (DictEntry.mk (PyData.keyHash P (Str.ofString "__file__")) (Value.str (Str.ofString "__file__") 173) (Value.str (Str.ofString "/claim/cut.py") 172)), (DictEntry.mk (PyData.keyHash P (Str.ofString "__cached__")) (Value.str (Str.ofString "__cached__") 174) Value.none), (DictEntry.mk (PyData.keyHash P (Str.ofString "_wall")) (Value.str (Str.ofString "_wall") 193) (Value.ref 21)), (DictEntry.mk (PyData.keyHash P (Str.ofString "PageError")) (Value.str (Str.ofString "PageError") 223) (Value.ref 39)), (DictEntry.mk (PyData.keyHash P (Str.ofString "BadArgument")) (Value.str (Str.ofString "BadArgument") 239) (Value.ref 52)), (DictEntry.mk (PyData.keyHash P (Str.ofString "Runaway")) (Value.str (Str.ofString "Runaway") 255) (Value.ref 64)), (DictEntry.mk (PyData.keyHash P (Str.ofString "OuterRefused")) (Value.str (Str.ofString "OuterRefused") 271) (Value.ref 76)), (DictEntry.mk (PyData.keyHash P (Str.ofString "BadUse")) (Value.str (Str.ofString "BadUse") 287) (Value.ref 88)), (DictEntry.mk (PyData.keyHash P (Str.ofString "is_whole")) (Value.str (Str.ofString "is_whole") 298) (Value.ref 97)), (DictEntry.mk (PyData.keyHash P (Str.ofString "ESCAPE")) (Value.str (Str.ofString "ESCAPE") 309) (Value.int 0 301)), (DictEntry.mk (PyData.keyHash P (Str.ofString "BEGIN")) (Value.str (Str.ofString "BEGIN") 310) (Value.int 1 302)), (DictEntry.mk (PyData.keyHash P (Str.ofString "END")) (Value.str (Str.ofString "END") 311) (Value.int 2 303)), (DictEntry.mk (PyData.keyHash P (Str.ofString "MATH")) (Value.str (Str.ofString "MATH") 312) (Value.int 3 304)), (DictEntry.mk (PyData.keyHash P (Str.ofString "TAB")) (Value.str (Str.ofString "TAB") 313) (Value.int 4 305)), (DictEntry.mk (PyData.keyHash P (Str.ofString "RETURN")) (Value.str (Str.ofString "RETURN") 314) (Value.int 5 306)), (DictEntry.mk (PyData.keyHash P (Str.ofString "PARAMETER")) (Value.str (Str.ofString "PARAMETER") 315) (Value.int 6 307)), (DictEntry.mk (PyData.keyHash P (Str.ofString "UP")) (Value.str (Str.ofString "UP") 316) (Value.int 7 308)), (DictEntry.mk (PyData.keyHash P (Str.ofString "DOWN")) (Value.str (Str.ofString "DOWN") 325) (Value.int 8 317)), (DictEntry.mk (PyData.keyHash P (Str.ofString "IGNORED")) (Value.str (Str.ofString "IGNORED") 326) (Value.int 9 318)), (DictEntry.mk (PyData.keyHash P (Str.ofString "SPACE")) (Value.str (Str.ofString "SPACE") 327) (Value.int 10 319)), (DictEntry.mk (PyData.keyHash P (Str.ofString "LETTER")) (Value.str (Str.ofString "LETTER") 328) (Value.int 11 320)), (DictEntry.mk (PyData.keyHash P (Str.ofString "OTHER")) (Value.str (Str.ofString "OTHER") 329) (Value.int 12 321)), (DictEntry.mk (PyData.keyHash P (Str.ofString "ACTIVE")) (Value.str (Str.ofString "ACTIVE") 330) (Value.int 13 322)), (DictEntry.mk (PyData.keyHash P (Str.ofString "COMMENT")) (Value.str (Str.ofString "COMMENT") 331) (Value.int 14 323)), (DictEntry.mk (PyData.keyHash P (Str.ofString "INVALID")) (Value.str (Str.ofString "INVALID") 332) (Value.int 15 324)), (DictEntry.mk (PyData.keyHash P (Str.ofString "CONTROL")) (Value.str (Str.ofString "CONTROL") 338) (Value.int 0 333)), (DictEntry.mk (PyData.keyHash P (Str.ofString "OUT")) (Value.str (Str.ofString "OUT") 339) (Value.int 5 334)), (DictEntry.mk (PyData.keyHash P (Str.ofString "MATCH")) (Value.str (Str.ofString "MATCH") 340) (Value.int 9 335)), (DictEntry.mk (PyData.keyHash P (Str.ofString "FROZEN")) (Value.str (Str.ofString "FROZEN") 341) (Value.int 14 336)), (DictEntry.mk (PyData.keyHash P (Str.ofString "NOT_EXPANDED")) (Value.str (Str.ofString "NOT_EXPANDED") 342) (Value.int 15 337)), (DictEntry.mk (PyData.keyHash P (Str.ofString "MOST_NAMES")) (Value.str (Str.ofString "MOST_NAMES") 346) (Value.int 1048576 345)), (DictEntry.mk (PyData.keyHash P (Str.ofString "LEAST_CODES")) (Value.str (Str.ofString "LEAST_CODES") 363) (Value.ref 110)), (DictEntry.mk (PyData.keyHash P (Str.ofString "GREATEST_CODES")) (Value.str (Str.ofString "GREATEST_CODES") 381) (Value.ref 111)), (DictEntry.mk (PyData.keyHash P (Str.ofString "is_token")) (Value.str (Str.ofString "is_token") 388) (Value.ref 118)), (DictEntry.mk (PyData.keyHash P (Str.ofString "check_tokens")) (Value.str (Str.ofString "check_tokens") 396) (Value.ref 125)), (DictEntry.mk (PyData.keyHash P (Str.ofString "TokenFeed")) (Value.str (Str.ofString "TokenFeed") 465) (Value.ref 179))] 43) #[])
noncomputable def o_176 (P : Params) : Obj := (Obj.mk Value.none none (Data.fields #[(Value.int 1 0), (Value.int 0 0), (Value.ref 20), (Value.int 5 0), (Value.int 0 0), (Value.ref 27), (Value.int 9 0), (Value.int 0 0), (Value.ref 48), (Value.int 11 0), (Value.int 0 0), (Value.ref 60), (Value.int 13 0), (Value.int 0 0), (Value.ref 72), (Value.int 15 0), (Value.int 0 0), (Value.ref 84), (Value.int 18 0), (Value.int 0 0), (Value.ref 96), (Value.int 27 0), (Value.int 0 0), (Value.ref 117), (Value.int 31 0), (Value.int 0 0), (Value.ref 124), (Value.int 35 0), (Value.int 0 0), (Value.ref 131)]) #[])
noncomputable def o_177 (P : Params) : Obj := (Obj.mk (Value.type "tuple") none (Data.seq #[] 0) #[])
noncomputable def o_178 (P : Params) : Obj := (Obj.mk (Value.type "builtin_function_or_method") none (Data.fields #[(Value.builtin "type.__prepare__"), (Value.type "type")]) #[])
noncomputable def o_179 (P : Params) : Obj := (Obj.mk (Value.type "dict") none (Data.dict #[(DictEntry.mk (PyData.keyHash P (Str.ofString "__module__")) (Value.str (Str.ofString "__module__") 404) (Value.str (Str.ofString "gluepage.tokens") 299)), (DictEntry.mk (PyData.keyHash P (Str.ofString "__qualname__")) (Value.str (Str.ofString "__qualname__") 406) (Value.str (Str.ofString "TokenFeed") 405)), (DictEntry.mk (PyData.keyHash P (Str.ofString "__firstlineno__")) (Value.str (Str.ofString "__firstlineno__") 408) (Value.int 35 407)), (DictEntry.mk (PyData.keyHash P (Str.ofString "__init__")) (Value.str (Str.ofString "__init__") 417) (Value.ref 141)), (DictEntry.mk (PyData.keyHash P (Str.ofString "next")) (Value.str (Str.ofString "next") 424) (Value.ref 148)), (DictEntry.mk (PyData.keyHash P (Str.ofString "back")) (Value.str (Str.ofString "back") 432) (Value.ref 155)), (DictEntry.mk (PyData.keyHash P (Str.ofString "push")) (Value.str (Str.ofString "push") 440) (Value.ref 162)), (DictEntry.mk (PyData.keyHash P (Str.ofString "left")) (Value.str (Str.ofString "left") 447) (Value.ref 169)), (DictEntry.mk (PyData.keyHash P (Str.ofString "is_outer")) (Value.str (Str.ofString "is_outer") 455) (Value.ref 176)), (DictEntry.mk (PyData.keyHash P (Str.ofString "__static_attributes__")) (Value.str (Str.ofString "__static_attributes__") 458) (Value.ref 177))] 10) #[])
noncomputable def o_180 (P : Params) : Obj := (Obj.mk (Value.type "tuple") none (Data.seq #[] 0) #[])
noncomputable def o_181 (P : Params) : Obj := (Obj.mk Value.none none (Data.fields #[(Value.int 37 0), (Value.int 4 0), (Value.ref 140), (Value.int 42 0), (Value.int 4 0), (Value.ref 147), (Value.int 47 0), (Value.int 4 0), (Value.ref 154), (Value.int 52 0), (Value.int 4 0), (Value.ref 161), (Value.int 55 0), (Value.int 4 0), (Value.ref 168), (Value.int 58 0), (Value.int 4 0), (Value.ref 175)]) #[])
noncomputable def o_182 (P : Params) : Obj := (Obj.mk (Value.type "code") none (Data.fields #[(Value.str (Str.ofString "TokenFeed") 399), (Value.str (Str.ofString "TokenFeed") 400), (Value.str (Str.ofString "/claim/cut.py") 401), (Value.int 35 0), (Value.int 0 0), (Value.int 0 0), (Value.int 0 0), (Value.int 0 0), (Value.ref 129), (Value.bool false), (Value.int 181 0), (Value.ref 130), Value.none, Value.none, Value.none, Value.none, (Value.int 402 0), (Value.int 35 0), (Value.str (Str.ofString "/claim/cut.py") 403)]) #[])
noncomputable def o_183 (P : Params) : Obj := (Obj.mk (Value.type "frame") none Data.plain #[(some (Value.ref 131)), (some (Value.ref 3)), (some (Value.ref 128)), none, (some (Value.str (Str.ofString "gluepage.tokens") 299)), none, (some (Value.ref 0))])
noncomputable def o_184 (P : Params) : Obj := (Obj.mk (Value.type "tuple") none (Data.seq #[] 0) #[])
noncomputable def o_185 (P : Params) : Obj := (Obj.mk (Value.type "tuple") none (Data.seq #[(Value.ref 133)] 0) #[])
noncomputable def o_186 (P : Params) : Obj := (Obj.mk (Value.type "tuple") none (Data.seq #[] 0) #[])
noncomputable def o_187 (P : Params) : Obj := (Obj.mk Value.none none (Data.fields #[]) #[])
noncomputable def o_188 (P : Params) : Obj := (Obj.mk (Value.type "tuple") none (Data.seq #[(Value.str (Str.ofString "self") 412), (Value.str (Str.ofString "tokens") 413), (Value.str (Str.ofString "outers") 414)] 0) #[])
noncomputable def o_189 (P : Params) : Obj := (Obj.mk (Value.type "tuple") none (Data.seq #[] 0) #[])
noncomputable def o_190 (P : Params) : Obj := (Obj.mk Value.none none (Data.func (FuncData.mk (Str.ofString "__init__") (Str.ofString "TokenFeed.__init__") (pA (pM 18 0)) (FuncBody.stmts (pB (pM 18 0))) (pSc (pM 18 0)) 0 [] Value.none Value.none Value.none Value.none none Value.none Value.none 0)) #[])
noncomputable def o_191 (P : Params) : Obj := (Obj.mk (Value.type "code") none (Data.fields #[(Value.str (Str.ofString "__init__") 409), (Value.str (Str.ofString "TokenFeed.__init__") 410), (Value.str (Str.ofString "/claim/cut.py") 411), (Value.int 37 0), (Value.int 3 0), (Value.int 0 0), (Value.int 0 0), (Value.int 3 0), (Value.ref 135), (Value.bool true), (Value.int 181 0), (Value.ref 136), Value.none, (Value.ref 137), (Value.ref 138), (Value.ref 139), (Value.int 415 0), (Value.int 37 0), (Value.str (Str.ofString "/claim/cut.py") 416)]) #[])
noncomputable def o_192 (P : Params) : Obj := (Obj.mk (Value.type "function") none (Data.func (FuncData.mk (Str.ofString "__init__") (Str.ofString "TokenFeed.__init__") (pA (pM 18 0)) (FuncBody.stmts (pB (pM 18 0))) (pSc (pM 18 0)) 3 [] (Value.ref 134) Value.none Value.none (Value.str (Str.ofString "gluepage.tokens") 299) none (Value.ref 140) Value.none 0)) #[])
noncomputable def o_193 (P : Params) : Obj := (Obj.mk (Value.type "tuple") none (Data.seq #[] 0) #[])
noncomputable def o_194 (P : Params) : Obj := (Obj.mk Value.none none (Data.fields #[]) #[])
noncomputable def o_195 (P : Params) : Obj := (Obj.mk (Value.type "tuple") none (Data.seq #[(Value.str (Str.ofString "self") 421)] 0) #[])
noncomputable def o_196 (P : Params) : Obj := (Obj.mk (Value.type "tuple") none (Data.seq #[] 0) #[])
noncomputable def o_197 (P : Params) : Obj := (Obj.mk Value.none none (Data.func (FuncData.mk (Str.ofString "next") (Str.ofString "TokenFeed.next") (pA (pM 18 1)) (FuncBody.stmts (pB (pM 18 1))) (pSc (pM 18 1)) 0 [] Value.none Value.none Value.none Value.none none Value.none Value.none 0)) #[])
noncomputable def o_198 (P : Params) : Obj := (Obj.mk (Value.type "code") none (Data.fields #[(Value.str (Str.ofString "next") 418), (Value.str (Str.ofString "TokenFeed.next") 419), (Value.str (Str.ofString "/claim/cut.py") 420), (Value.int 42 0), (Value.int 1 0), (Value.int 0 0), (Value.int 0 0), (Value.int 3 0), (Value.ref 142), (Value.bool true), (Value.int 181 0), (Value.ref 143), Value.none, (Value.ref 144), (Value.ref 145), (Value.ref 146), (Value.int 422 0), (Value.int 42 0), (Value.str (Str.ofString "/claim/cut.py") 423)]) #[])
noncomputable def o_199 (P : Params) : Obj := (Obj.mk (Value.type "function") none (Data.func (FuncData.mk (Str.ofString "next") (Str.ofString "TokenFeed.next") (pA (pM 18 1)) (FuncBody.stmts (pB (pM 18 1))) (pSc (pM 18 1)) 3 [] Value.none Value.none Value.none (Value.str (Str.ofString "gluepage.tokens") 299) none (Value.ref 147) Value.none 0)) #[])
noncomputable def o_200 (P : Params) : Obj := (Obj.mk (Value.type "tuple") none (Data.seq #[] 0) #[])
noncomputable def o_201 (P : Params) : Obj := (Obj.mk Value.none none (Data.fields #[]) #[])
noncomputable def o_202 (P : Params) : Obj := (Obj.mk (Value.type "tuple") none (Data.seq #[(Value.str (Str.ofString "self") 428), (Value.str (Str.ofString "token") 429)] 0) #[])
noncomputable def o_203 (P : Params) : Obj := (Obj.mk (Value.type "tuple") none (Data.seq #[] 0) #[])
noncomputable def o_204 (P : Params) : Obj := (Obj.mk Value.none none (Data.func (FuncData.mk (Str.ofString "back") (Str.ofString "TokenFeed.back") (pA (pM 18 2)) (FuncBody.stmts (pB (pM 18 2))) (pSc (pM 18 2)) 0 [] Value.none Value.none Value.none Value.none none Value.none Value.none 0)) #[])
noncomputable def o_205 (P : Params) : Obj := (Obj.mk (Value.type "code") none (Data.fields #[(Value.str (Str.ofString "back") 425), (Value.str (Str.ofString "TokenFeed.back") 426), (Value.str (Str.ofString "/claim/cut.py") 427), (Value.int 47 0), (Value.int 2 0), (Value.int 0 0), (Value.int 0 0), (Value.int 3 0), (Value.ref 149), (Value.bool true), (Value.int 181 0), (Value.ref 150), Value.none, (Value.ref 151), (Value.ref 152), (Value.ref 153), (Value.int 430 0), (Value.int 47 0), (Value.str (Str.ofString "/claim/cut.py") 431)]) #[])
noncomputable def o_206 (P : Params) : Obj := (Obj.mk (Value.type "function") none (Data.func (FuncData.mk (Str.ofString "back") (Str.ofString "TokenFeed.back") (pA (pM 18 2)) (FuncBody.stmts (pB (pM 18 2))) (pSc (pM 18 2)) 3 [] Value.none Value.none Value.none (Value.str (Str.ofString "gluepage.tokens") 299) none (Value.ref 154) Value.none 0)) #[])
noncomputable def o_207 (P : Params) : Obj := (Obj.mk (Value.type "tuple") none (Data.seq #[] 0) #[])
noncomputable def o_208 (P : Params) : Obj := (Obj.mk Value.none none (Data.fields #[]) #[])
noncomputable def o_209 (P : Params) : Obj := (Obj.mk (Value.type "tuple") none (Data.seq #[(Value.str (Str.ofString "self") 436), (Value.str (Str.ofString "tokens") 437)] 0) #[])
noncomputable def o_210 (P : Params) : Obj := (Obj.mk (Value.type "tuple") none (Data.seq #[] 0) #[])
noncomputable def o_211 (P : Params) : Obj := (Obj.mk Value.none none (Data.func (FuncData.mk (Str.ofString "push") (Str.ofString "TokenFeed.push") (pA (pM 18 3)) (FuncBody.stmts (pB (pM 18 3))) (pSc (pM 18 3)) 0 [] Value.none Value.none Value.none Value.none none Value.none Value.none 0)) #[])
noncomputable def o_212 (P : Params) : Obj := (Obj.mk (Value.type "code") none (Data.fields #[(Value.str (Str.ofString "push") 433), (Value.str (Str.ofString "TokenFeed.push") 434), (Value.str (Str.ofString "/claim/cut.py") 435), (Value.int 52 0), (Value.int 2 0), (Value.int 0 0), (Value.int 0 0), (Value.int 3 0), (Value.ref 156), (Value.bool true), (Value.int 181 0), (Value.ref 157), Value.none, (Value.ref 158), (Value.ref 159), (Value.ref 160), (Value.int 438 0), (Value.int 52 0), (Value.str (Str.ofString "/claim/cut.py") 439)]) #[])
noncomputable def o_213 (P : Params) : Obj := (Obj.mk (Value.type "function") none (Data.func (FuncData.mk (Str.ofString "push") (Str.ofString "TokenFeed.push") (pA (pM 18 3)) (FuncBody.stmts (pB (pM 18 3))) (pSc (pM 18 3)) 3 [] Value.none Value.none Value.none (Value.str (Str.ofString "gluepage.tokens") 299) none (Value.ref 161) Value.none 0)) #[])
noncomputable def o_214 (P : Params) : Obj := (Obj.mk (Value.type "tuple") none (Data.seq #[] 0) #[])
noncomputable def o_215 (P : Params) : Obj := (Obj.mk Value.none none (Data.fields #[]) #[])
noncomputable def o_216 (P : Params) : Obj := (Obj.mk (Value.type "tuple") none (Data.seq #[(Value.str (Str.ofString "self") 444)] 0) #[])
noncomputable def o_217 (P : Params) : Obj := (Obj.mk (Value.type "tuple") none (Data.seq #[] 0) #[])
noncomputable def o_218 (P : Params) : Obj := (Obj.mk Value.none none (Data.func (FuncData.mk (Str.ofString "left") (Str.ofString "TokenFeed.left") (pA (pM 18 4)) (FuncBody.stmts (pB (pM 18 4))) (pSc (pM 18 4)) 0 [] Value.none Value.none Value.none Value.none none Value.none Value.none 0)) #[])
noncomputable def o_219 (P : Params) : Obj := (Obj.mk (Value.type "code") none (Data.fields #[(Value.str (Str.ofString "left") 441), (Value.str (Str.ofString "TokenFeed.left") 442), (Value.str (Str.ofString "/claim/cut.py") 443), (Value.int 55 0), (Value.int 1 0), (Value.int 0 0), (Value.int 0 0), (Value.int 3 0), (Value.ref 163), (Value.bool true), (Value.int 181 0), (Value.ref 164), Value.none, (Value.ref 165), (Value.ref 166), (Value.ref 167), (Value.int 445 0), (Value.int 55 0), (Value.str (Str.ofString "/claim/cut.py") 446)]) #[])
noncomputable def o_220 (P : Params) : Obj := (Obj.mk (Value.type "function") none (Data.func (FuncData.mk (Str.ofString "left") (Str.ofString "TokenFeed.left") (pA (pM 18 4)) (FuncBody.stmts (pB (pM 18 4))) (pSc (pM 18 4)) 3 [] Value.none Value.none Value.none (Value.str (Str.ofString "gluepage.tokens") 299) none (Value.ref 168) Value.none 0)) #[])
noncomputable def o_221 (P : Params) : Obj := (Obj.mk (Value.type "tuple") none (Data.seq #[] 0) #[])
noncomputable def o_222 (P : Params) : Obj := (Obj.mk Value.none none (Data.fields #[]) #[])
noncomputable def o_223 (P : Params) : Obj := (Obj.mk (Value.type "tuple") none (Data.seq #[(Value.str (Str.ofString "self") 451), (Value.str (Str.ofString "token") 452)] 0) #[])
noncomputable def o_224 (P : Params) : Obj := (Obj.mk (Value.type "tuple") none (Data.seq #[] 0) #[])
noncomputable def o_225 (P : Params) : Obj := (Obj.mk Value.none none (Data.func (FuncData.mk (Str.ofString "is_outer") (Str.ofString "TokenFeed.is_outer") (pA (pM 18 5)) (FuncBody.stmts (pB (pM 18 5))) (pSc (pM 18 5)) 0 [] Value.none Value.none Value.none Value.none none Value.none Value.none 0)) #[])
noncomputable def o_226 (P : Params) : Obj := (Obj.mk (Value.type "code") none (Data.fields #[(Value.str (Str.ofString "is_outer") 448), (Value.str (Str.ofString "TokenFeed.is_outer") 449), (Value.str (Str.ofString "/claim/cut.py") 450), (Value.int 58 0), (Value.int 2 0), (Value.int 0 0), (Value.int 0 0), (Value.int 3 0), (Value.ref 170), (Value.bool true), (Value.int 181 0), (Value.ref 171), Value.none, (Value.ref 172), (Value.ref 173), (Value.ref 174), (Value.int 453 0), (Value.int 58 0), (Value.str (Str.ofString "/claim/cut.py") 454)]) #[])
noncomputable def o_227 (P : Params) : Obj := (Obj.mk (Value.type "function") none (Data.func (FuncData.mk (Str.ofString "is_outer") (Str.ofString "TokenFeed.is_outer") (pA (pM 18 5)) (FuncBody.stmts (pB (pM 18 5))) (pSc (pM 18 5)) 3 [] Value.none Value.none Value.none (Value.str (Str.ofString "gluepage.tokens") 299) none (Value.ref 175) Value.none 0)) #[])
noncomputable def o_228 (P : Params) : Obj := (Obj.mk (Value.type "tuple") none (Data.seq #[(Value.str (Str.ofString "outers") 456), (Value.str (Str.ofString "rest") 457)] 0) #[])
noncomputable def o_229 (P : Params) : Obj := (Obj.mk (Value.type "dict") none (Data.dict #[(DictEntry.mk (PyData.keyHash P (Str.ofString "__module__")) (Value.str (Str.ofString "__module__") 404) (Value.str (Str.ofString "gluepage.tokens") 299)), (DictEntry.mk (PyData.keyHash P (Str.ofString "__firstlineno__")) (Value.str (Str.ofString "__firstlineno__") 408) (Value.int 35 407)), (DictEntry.mk (PyData.keyHash P (Str.ofString "__init__")) (Value.str (Str.ofString "__init__") 417) (Value.ref 141)), (DictEntry.mk (PyData.keyHash P (Str.ofString "next")) (Value.str (Str.ofString "next") 424) (Value.ref 148)), (DictEntry.mk (PyData.keyHash P (Str.ofString "back")) (Value.str (Str.ofString "back") 432) (Value.ref 155)), (DictEntry.mk (PyData.keyHash P (Str.ofString "push")) (Value.str (Str.ofString "push") 440) (Value.ref 162)), (DictEntry.mk (PyData.keyHash P (Str.ofString "left")) (Value.str (Str.ofString "left") 447) (Value.ref 169)), (DictEntry.mk (PyData.keyHash P (Str.ofString "is_outer")) (Value.str (Str.ofString "is_outer") 455) (Value.ref 176)), (DictEntry.mk (PyData.keyHash P (Str.ofString "__static_attributes__")) (Value.str (Str.ofString "__static_attributes__") 458) (Value.ref 177)), (DictEntry.mk (PyData.keyHash P (Str.ofString "__dict__")) (Value.str (Str.ofString "__dict__") 460) (Value.ref 180)), (DictEntry.mk (PyData.keyHash P (Str.ofString "__weakref__")) (Value.str (Str.ofString "__weakref__") 462) (Value.ref 181)), (DictEntry.mk (PyData.keyHash P (Str.ofString "__doc__")) (Value.str (Str.ofString "__doc__") 463) Value.none)] 4) #[])
noncomputable def o_230 (P : Params) : Obj := (Obj.mk (Value.type "type") none (Data.cls (ClassData.mk (Str.ofString "TokenFeed") [(Value.type "object")] [(Value.ref 179), (Value.type "object")] 178 (Str.ofString "TokenFeed") true [] [] false none false)) #[none, none, (some (Value.str (Str.ofString "TokenFeed") 397)), (some (Value.str (Str.ofString "TokenFeed") 405)), (some (Value.builtin "object.__new__")), (some (Value.bool true))])
noncomputable def o_231 (P : Params) : Obj := (Obj.mk (Value.type "getset_descriptor") none (Data.fields #[(Value.str (Str.ofString "__dict__") 459), (Value.ref 179), (Value.builtin "function.__dict__"), (Value.builtin "function.__dict__#set")]) #[])
noncomputable def o_232 (P : Params) : Obj := (Obj.mk (Value.type "getset_descriptor") none (Data.fields #[(Value.str (Str.ofString "__weakref__") 461), (Value.ref 179), (Value.builtin "ExceptionGroup.__weakref__"), Value.none]) #[])
noncomputable def o_233 (P : Params) : Obj := (Obj.mk (Value.type "super") none (Data.fields #[(Value.ref 179), (Value.ref 179), (Value.ref 179)]) #[])
noncomputable def o_234 (P : Params) : Obj := (Obj.mk (Value.type "builtin_function_or_method") none (Data.fields #[(Value.builtin "object.__init_subclass__"), (Value.ref 179)]) #[])
noncomputable def o_235 (P : Params) : Obj := (Obj.mk (Value.type "dict") none (Data.dict #[(DictEntry.mk (PyData.keyHash P (Str.ofString "__name__")) (Value.str (Str.ofString "__name__") 165) (Value.str (Str.ofString "gluepage.macros") 466)), (DictEntry.mk (PyData.keyHash P (Str.ofString "__doc__")) (Value.str (Str.ofString "__doc__") 166) Value.none), (DictEntry.mk (PyData.keyHash P (Str.ofString "__package__")) (Value.str (Str.ofString "__package__") 167) Value.none), (DictEntry.mk (PyData.keyHash P (Str.ofString "__loader__")) (Value.str (Str.ofString "__loader__") 168) (Value.builtin "__main__.__loader__#opaque")), (DictEntry.mk (PyData.keyHash P (Str.ofString "__spec__")) (Value.str (Str.ofString "__spec__") 169) Value.none), (DictEntry.mk (PyData.keyHash P (Str.ofString "__annotations__")) (Value.str (Str.ofString "__annotations__") 170) (Value.ref 6)), (DictEntry.mk (PyData.keyHash P (Str.ofString "__builtins__")) (Value.str (Str.ofString "__builtins__") 171) (Value.ref 4)), (DictEntry.mk (PyData.keyHash P (Str.ofString "__file__")) (Value.str (Str.ofString "__file__") 173) (Value.str (Str.ofString "/claim/cut.py") 172)), (DictEntry.mk (PyData.keyHash P (Str.ofString "__cached__")) (Value.str (Str.ofString "__cached__") 174) Value.none), (DictEntry.mk (PyData.keyHash P (Str.ofString "_wall")) (Value.str (Str.ofString "_wall") 193) (Value.ref 21)), (DictEntry.mk (PyData.keyHash P (Str.ofString "PageError")) (Value.str (Str.ofString "PageError") 223) (Value.ref 39)), (DictEntry.mk (PyData.keyHash P (Str.ofString "BadArgument")) (Value.str (Str.ofString "BadArgument") 239) (Value.ref 52)), (DictEntry.mk (PyData.keyHash P (Str.ofString "Runaway")) (Value.str (Str.ofString "Runaway") 255) (Value.ref 64)), (DictEntry.mk (PyData.keyHash P (Str.ofString "OuterRefused")) (Value.str (Str.ofString "OuterRefused") 271) (Value.ref 76)), (DictEntry.mk (PyData.keyHash P (Str.ofString "BadUse")) (Value.str (Str.ofString "BadUse") 287) (Value.ref 88)), (DictEntry.mk (PyData.keyHash P (Str.ofString "is_whole")) (Value.str (Str.ofString "is_whole") 298) (Value.ref 97)), (DictEntry.mk (PyData.keyHash P (Str.ofString "ESCAPE")) (Value.str (Str.ofString "ESCAPE") 309) (Value.int 0 301)), (DictEntry.mk (PyData.keyHash P (Str.ofString "BEGIN")) (Value.str (Str.ofString "BEGIN") 310) (Value.int 1 302)), (DictEntry.mk (PyData.keyHash P (Str.ofString "END")) (Value.str (Str.ofString "END") 311) (Value.int 2 303)), (DictEntry.mk (PyData.keyHash P (Str.ofString "MATH")) (Value.str (Str.ofString "MATH") 312) (Value.int 3 304)), (DictEntry.mk (PyData.keyHash P (Str.ofString "TAB")) (Value.str (Str.ofString "TAB") 313) (Value.int 4 305)), (DictEntry.mk (PyData.keyHash P (Str.ofString "RETURN")) (Value.str (Str.ofString "RETURN") 314) (Value.int 5 306)), (DictEntry.mk (PyData.keyHash P (Str.ofString "PARAMETER")) (Value.str (Str.ofString "PARAMETER") 315) (Value.int 6 307)), (DictEntry.mk (PyData.keyHash P (Str.ofString "UP")) (Value.str (Str.ofString "UP") 316) (Value.int 7 308)), (DictEntry.mk (PyData.keyHash P (Str.ofString "DOWN")) (Value.str (Str.ofString "DOWN") 325) (Value.int 8 317)), (DictEntry.mk (PyData.keyHash P (Str.ofString "IGNORED")) (Value.str (Str.ofString "IGNORED") 326) (Value.int 9 318)), (DictEntry.mk (PyData.keyHash P (Str.ofString "SPACE")) (Value.str (Str.ofString "SPACE") 327) (Value.int 10 319)), (DictEntry.mk (PyData.keyHash P (Str.ofString "LETTER")) (Value.str (Str.ofString "LETTER") 328) (Value.int 11 320)), (DictEntry.mk (PyData.keyHash P (Str.ofString "OTHER")) (Value.str (Str.ofString "OTHER") 329) (Value.int 12 321)), (DictEntry.mk (PyData.keyHash P (Str.ofString "ACTIVE")) (Value.str (Str.ofString "ACTIVE") 330) (Value.int 13 322)), (DictEntry.mk (PyData.keyHash P (Str.ofString "COMMENT")) (Value.str (Str.ofString "COMMENT") 331) (Value.int 14 323)), (DictEntry.mk (PyData.keyHash P (Str.ofString "INVALID")) (Value.str (Str.ofString "INVALID") 332) (Value.int 15 324)), (DictEntry.mk (PyData.keyHash P (Str.ofString "CONTROL")) (Value.str (Str.ofString "CONTROL") 338) (Value.int 0 333)), (DictEntry.mk (PyData.keyHash P (Str.ofString "OUT")) (Value.str (Str.ofString "OUT") 339) (Value.int 5 334)), (DictEntry.mk (PyData.keyHash P (Str.ofString "MATCH")) (Value.str (Str.ofString "MATCH") 340) (Value.int 9 335)), (DictEntry.mk (PyData.keyHash P (Str.ofString "FROZEN")) (Value.str (Str.ofString "FROZEN") 341) (Value.int 14 336)), (DictEntry.mk (PyData.keyHash P (Str.ofString "NOT_EXPANDED")) (Value.str (Str.ofString "NOT_EXPANDED") 342) (Value.int 15 337)), (DictEntry.mk (PyData.keyHash P (Str.ofString "MOST_NAMES")) (Value.str (Str.ofString "MOST_NAMES") 346) (Value.int 1048576 345)), (DictEntry.mk (PyData.keyHash P (Str.ofString "LEAST_CODES")) (Value.str (Str.ofString "LEAST_CODES") 363) (Value.ref 110)), (DictEntry.mk (PyData.keyHash P (Str.ofString "GREATEST_CODES")) (Value.str (Str.ofString "GREATEST_CODES") 381) (Value.ref 111)), (DictEntry.mk (PyData.keyHash P (Str.ofString "is_token")) (Value.str (Str.ofString "is_token") 388) (Value.ref 118)), (DictEntry.mk (PyData.keyHash P (Str.ofString "check_tokens")) (Value.str (Str.ofString "check_tokens") 396) (Value.ref 125)), (DictEntry.mk (PyData.keyHash P (Str.ofString "TokenFeed")) (Value.str (Str.ofString "TokenFeed") 465) (Value.ref 179)), (DictEntry.mk (PyData.keyHash P (Str.ofString "MOST_PARAMETERS")) (Value.str (Str.ofString "MOST_PARAMETERS") 469) (Value.int 9 468)), (DictEntry.mk (PyData.keyHash P (Str.ofString "BLANK")) (Value.str (Str.ofString "BLANK") 471) (Value.ref 184)), (DictEntry.mk (PyData.keyHash P (Str.ofString "Macro")) (Value.str (Str.ofString "Macro") 518) (Value.ref 214)), (DictEntry.mk (PyData.keyHash P (Str.ofString "token_wanted")) (Value.str (Str.ofString "token_wanted") 526) (Value.ref 225)), (DictEntry.mk (PyData.keyHash P (Str.ofString "slid")) (Value.str (Str.ofString "slid") 537) (Value.ref 232))] 48) #[])
noncomputable def o_236 (P : Params) : Obj := (Obj.mk Value.none none (Data.fields #[(Value.int 1 0), (Value.int 0 0), (Value.ref 20), (Value.int 5 0), (Value.int 0 0), (Value.ref 27), (Value.int 9 0), (Value.int 0 0), (Value.ref 48), (Value.int 11 0), (Value.int 0 0), (Value.ref 60), (Value.int 13 0), (Value.int 0 0), (Value.ref 72), (Value.int 15 0), (Value.int 0 0), (Value.ref 84), (Value.int 18 0), (Value.int 0 0), (Value.ref 96), (Value.int 27 0), (Value.int 0 0), (Value.ref 117), (Value.int 31 0), (Value.int 0 0), (Value.ref 124), (Value.int 35 0), (Value.int 0 0), (Value.ref 131), (Value.int 63 0), (Value.int 0 0), (Value.ref 190), (Value.int 88 0), (Value.int 0 0), (Value.ref 224), (Value.int 95 0), (Value.int 0 0), (Value.ref 231)]) #[])
noncomputable def o_237 (P : Params) : Obj := (Obj.mk (Value.type "tuple") none (Data.seq #[(Value.int 10 319), (Value.int 32 470)] 0) #[])
noncomputable def o_238 (P : Params) : Obj := (Obj.mk (Value.type "tuple") none (Data.seq #[] 0) #[])
noncomputable def o_239 (P : Params) : Obj := (Obj.mk (Value.type "builtin_function_or_method") none (Data.fields #[(Value.builtin "type.__prepare__"), (Value.type "type")]) #[])
noncomputable def o_240 (P : Params) : Obj := (Obj.mk (Value.type "dict") none (Data.dict #[(DictEntry.mk (PyData.keyHash P (Str.ofString "__module__")) (Value.str (Str.ofString "__module__") 479) (Value.str (Str.ofString "gluepage.macros") 466)), (DictEntry.mk (PyData.keyHash P (Str.ofString "__qualname__")) (Value.str (Str.ofString "__qualname__") 481) (Value.str (Str.ofString "Macro") 480)), (DictEntry.mk (PyData.keyHash P (Str.ofString "__firstlineno__")) (Value.str (Str.ofString "__firstlineno__") 483) (Value.int 63 482)), (DictEntry.mk (PyData.keyHash P (Str.ofString "__init__")) (Value.str (Str.ofString "__init__") 489) (Value.ref 197)), (DictEntry.mk (PyData.keyHash P (Str.ofString "has_brace")) (Value.str (Str.ofString "has_brace") 496) (Value.ref 204)), (DictEntry.mk (PyData.keyHash P (Str.ofString "same")) (Value.str (Str.ofString "same") 504) (Value.ref 211)), (DictEntry.mk (PyData.keyHash P (Str.ofString "__static_attributes__")) (Value.str (Str.ofString "__static_attributes__") 511) (Value.ref 212))] 7) #[])
noncomputable def o_241 (P : Params) : Obj := (Obj.mk (Value.type "tuple") none (Data.seq #[] 0) #[])
noncomputable def o_242 (P : Params) : Obj := (Obj.mk Value.none none (Data.fields #[(Value.int 65 0), (Value.int 4 0), (Value.ref 196), (Value.int 83 0), (Value.int 4 0), (Value.ref 203), (Value.int 86 0), (Value.int 4 0), (Value.ref 210)]) #[])
noncomputable def o_243 (P : Params) : Obj := (Obj.mk (Value.type "code") none (Data.fields #[(Value.str (Str.ofString "Macro") 474), (Value.str (Str.ofString "Macro") 475), (Value.str (Str.ofString "/claim/cut.py") 476), (Value.int 63 0), (Value.int 0 0), (Value.int 0 0), (Value.int 0 0), (Value.int 0 0), (Value.ref 188), (Value.bool false), (Value.int 181 0), (Value.ref 189), Value.none, Value.none, Value.none, Value.none, (Value.int 477 0), (Value.int 63 0), (Value.str (Str.ofString "/claim/cut.py") 478)]) #[])
noncomputable def o_244 (P : Params) : Obj := (Obj.mk (Value.type "frame") none Data.plain #[(some (Value.ref 190)), (some (Value.ref 3)), (some (Value.ref 187)), none, (some (Value.str (Str.ofString "gluepage.macros") 466)), none, (some (Value.ref 0))])
noncomputable def o_245 (P : Params) : Obj := (Obj.mk (Value.type "tuple") none (Data.seq #[(Value.bool false), (Value.bool false)] 0) #[])
noncomputable def o_246 (P : Params) : Obj := (Obj.mk (Value.type "tuple") none (Data.seq #[] 0) #[])
noncomputable def o_247 (P : Params) : Obj := (Obj.mk Value.none none (Data.fields #[]) #[])
noncomputable def o_248 (P : Params) : Obj := (Obj.mk Value.none none (Data.func (FuncData.mk (Str.ofString "__init__") (Str.ofString "Macro.__init__") (pA (pM 22 0)) (FuncBody.stmts (pB (pM 22 0))) (pSc (pM 22 0)) 0 [] Value.none Value.none Value.none Value.none none Value.none Value.none 0)) #[])
noncomputable def o_249 (P : Params) : Obj := (Obj.mk (Value.type "code") none (Data.fields #[(Value.str (Str.ofString "__init__") 484), (Value.str (Str.ofString "Macro.__init__") 485), (Value.str (Str.ofString "/claim/cut.py") 486), (Value.int 65 0), (Value.int 5 0), (Value.int 0 0), (Value.int 0 0), (Value.int 3 0), (Value.ref 193), (Value.bool true), (Value.int 181 0), (Value.ref 194), Value.none, Value.none, Value.none, (Value.ref 195), (Value.int 487 0), (Value.int 65 0), (Value.str (Str.ofString "/claim/cut.py") 488)]) #[])
noncomputable def o_250 (P : Params) : Obj := (Obj.mk (Value.type "function") none (Data.func (FuncData.mk (Str.ofString "__init__") (Str.ofString "Macro.__init__") (pA (pM 22 0)) (FuncBody.stmts (pB (pM 22 0))) (pSc (pM 22 0)) 3 [] (Value.ref 192) Value.none Value.none (Value.str (Str.ofString "gluepage.macros") 466) none (Value.ref 196) Value.none 0)) #[])
noncomputable def o_251 (P : Params) : Obj := (Obj.mk (Value.type "tuple") none (Data.seq #[] 0) #[])
noncomputable def o_252 (P : Params) : Obj := (Obj.mk Value.none none (Data.fields #[]) #[])
noncomputable def o_253 (P : Params) : Obj := (Obj.mk (Value.type "tuple") none (Data.seq #[(Value.str (Str.ofString "self") 493)] 0) #[])
noncomputable def o_254 (P : Params) : Obj := (Obj.mk (Value.type "tuple") none (Data.seq #[] 0) #[])
noncomputable def o_255 (P : Params) : Obj := (Obj.mk Value.none none (Data.func (FuncData.mk (Str.ofString "has_brace") (Str.ofString "Macro.has_brace") (pA (pM 22 1)) (FuncBody.stmts (pB (pM 22 1))) (pSc (pM 22 1)) 0 [] Value.none Value.none Value.none Value.none none Value.none Value.none 0)) #[])
noncomputable def o_256 (P : Params) : Obj := (Obj.mk (Value.type "code") none (Data.fields #[(Value.str (Str.ofString "has_brace") 490), (Value.str (Str.ofString "Macro.has_brace") 491), (Value.str (Str.ofString "/claim/cut.py") 492), (Value.int 83 0), (Value.int 1 0), (Value.int 0 0), (Value.int 0 0), (Value.int 3 0), (Value.ref 198), (Value.bool true), (Value.int 181 0), (Value.ref 199), Value.none, (Value.ref 200), (Value.ref 201), (Value.ref 202), (Value.int 494 0), (Value.int 83 0), (Value.str (Str.ofString "/claim/cut.py") 495)]) #[])
noncomputable def o_257 (P : Params) : Obj := (Obj.mk (Value.type "function") none (Data.func (FuncData.mk (Str.ofString "has_brace") (Str.ofString "Macro.has_brace") (pA (pM 22 1)) (FuncBody.stmts (pB (pM 22 1))) (pSc (pM 22 1)) 3 [] Value.none Value.none Value.none (Value.str (Str.ofString "gluepage.macros") 466) none (Value.ref 203) Value.none 0)) #[])
noncomputable def o_258 (P : Params) : Obj := (Obj.mk (Value.type "tuple") none (Data.seq #[] 0) #[])
noncomputable def o_259 (P : Params) : Obj := (Obj.mk Value.none none (Data.fields #[]) #[])
noncomputable def o_260 (P : Params) : Obj := (Obj.mk (Value.type "tuple") none (Data.seq #[(Value.str (Str.ofString "self") 500), (Value.str (Str.ofString "other") 501)] 0) #[])
noncomputable def o_261 (P : Params) : Obj := (Obj.mk (Value.type "tuple") none (Data.seq #[] 0) #[])
noncomputable def o_262 (P : Params) : Obj := (Obj.mk Value.none none (Data.func (FuncData.mk (Str.ofString "same") (Str.ofString "Macro.same") (pA (pM 22 2)) (FuncBody.stmts (pB (pM 22 2))) (pSc (pM 22 2)) 0 [] Value.none Value.none Value.none Value.none none Value.none Value.none 0)) #[])
noncomputable def o_263 (P : Params) : Obj := (Obj.mk (Value.type "code") none (Data.fields #[(Value.str (Str.ofString "same") 497), (Value.str (Str.ofString "Macro.same") 498), (Value.str (Str.ofString "/claim/cut.py") 499), (Value.int 86 0), (Value.int 2 0), (Value.int 0 0), (Value.int 0 0), (Value.int 3 0), (Value.ref 205), (Value.bool true), (Value.int 181 0), (Value.ref 206), Value.none, (Value.ref 207), (Value.ref 208), (Value.ref 209), (Value.int 502 0), (Value.int 86 0), (Value.str (Str.ofString "/claim/cut.py") 503)]) #[])
noncomputable def o_264 (P : Params) : Obj := (Obj.mk (Value.type "function") none (Data.func (FuncData.mk (Str.ofString "same") (Str.ofString "Macro.same") (pA (pM 22 2)) (FuncBody.stmts (pB (pM 22 2))) (pSc (pM 22 2)) 3 [] Value.none Value.none Value.none (Value.str (Str.ofString "gluepage.macros") 466) none (Value.ref 210) Value.none 0)) #[])
noncomputable def o_265 (P : Params) : Obj := (Obj.mk (Value.type "tuple") none (Data.seq #[(Value.str (Str.ofString "body") 505), (Value.str (Str.ofString "count") 506), (Value.str (Str.ofString "delimiters") 507), (Value.str (Str.ofString "is_long") 508), (Value.str (Str.ofString "is_outer") 509), (Value.str (Str.ofString "parameters") 510)] 0) #[])
noncomputable def o_266 (P : Params) : Obj := (Obj.mk (Value.type "dict") none (Data.dict #[(DictEntry.mk (PyData.keyHash P (Str.ofString "__module__")) (Value.str (Str.ofString "__module__") 479) (Value.str (Str.ofString "gluepage.macros") 466)), (DictEntry.mk (PyData.keyHash P (Str.ofString "__firstlineno__")) (Value.str (Str.ofString "__firstlineno__") 483) (Value.int 63 482)), (DictEntry.mk (PyData.keyHash P (Str.ofString "__init__")) (Value.str (Str.ofString "__init__") 489) (Value.ref 197)), (DictEntry.mk (PyData.keyHash P (Str.ofString "has_brace")) (Value.str (Str.ofString "has_brace") 496) (Value.ref 204)), (DictEntry.mk (PyData.keyHash P (Str.ofString "same")) (Value.str (Str.ofString "same") 504) (Value.ref 211)), (DictEntry.mk (PyData.keyHash P (Str.ofString "__static_attributes__")) (Value.str (Str.ofString "__static_attributes__") 511) (Value.ref 212)), (DictEntry.mk (PyData.keyHash P (Str.ofString "__dict__")) (Value.str (Str.ofString "__dict__") 513) (Value.ref 215)), (DictEntry.mk (PyData.keyHash P (Str.ofString "__weakref__")) (Value.str (Str.ofString "__weakref__") 515) (Value.ref 216)), (DictEntry.mk (PyData.keyHash P (Str.ofString "__doc__")) (Value.str (Str.ofString "__doc__") 516) Value.none)] 4) #[])
noncomputable def o_267 (P : Params) : Obj := (Obj.mk (Value.type "type") none (Data.cls (ClassData.mk (Str.ofString "Macro") [(Value.type "object")] [(Value.ref 214), (Value.type "object")] 213 (Str.ofString "Macro") true [] [] false none false)) #[none, none, (some (Value.str (Str.ofString "Macro") 472)), (some (Value.str (Str.ofString "Macro") 480)), (some (Value.builtin "object.__new__")), (some (Value.bool true))])
noncomputable def o_268 (P : Params) : Obj := (Obj.mk (Value.type "getset_descriptor") none (Data.fields #[(Value.str (Str.ofString "__dict__") 512), (Value.ref 214), (Value.builtin "function.__dict__"), (Value.builtin "function.__dict__#set")]) #[])
noncomputable def o_269 (P : Params) : Obj := (Obj.mk (Value.type "getset_descriptor") none (Data.fields #[(Value.str (Str.ofString "__weakref__") 514), (Value.ref 214), (Value.builtin "ExceptionGroup.__weakref__"), Value.none]) #[])
noncomputable def o_270 (P : Params) : Obj := (Obj.mk (Value.type "super") none (Data.fields #[(Value.ref 214), (Value.ref 214), (Value.ref 214)]) #[])
noncomputable def o_271 (P : Params) : Obj := (Obj.mk (Value.type "builtin_function_or_method") none (Data.fields #[(Value.builtin "object.__init_subclass__"), (Value.ref 214)]) #[])
noncomputable def o_272 (P : Params) : Obj := (Obj.mk (Value.type "tuple") none (Data.seq #[] 0) #[])
noncomputable def o_273 (P : Params) : Obj := (Obj.mk Value.none none (Data.fields #[]) #[])
noncomputable def o_274 (P : Params) : Obj := (Obj.mk (Value.type "tuple") none (Data.seq #[(Value.str (Str.ofString "feed") 522), (Value.str (Str.ofString "token") 523)] 0) #[])
noncomputable def o_275 (P : Params) : Obj := (Obj.mk (Value.type "tuple") none (Data.seq #[] 0) #[])
noncomputable def o_276 (P : Params) : Obj := (Obj.mk Value.none none (Data.func (FuncData.mk (Str.ofString "token_wanted") (Str.ofString "token_wanted") (pA (pS 23)) (FuncBody.stmts (pB (pS 23))) (pSc (pS 23)) 0 [] Value.none Value.none Value.none Value.none none Value.none Value.none 0)) #[])
noncomputable def o_277 (P : Params) : Obj := (Obj.mk (Value.type "code") none (Data.fields #[(Value.str (Str.ofString "token_wanted") 519), (Value.str (Str.ofString "token_wanted") 520), (Value.str (Str.ofString "/claim/cut.py") 521), (Value.int 88 0), (Value.int 1 0), (Value.int 0 0), (Value.int 0 0), (Value.int 3 0), (Value.ref 219), (Value.bool true), (Value.int 181 0), (Value.ref 220), Value.none, (Value.ref 221), (Value.ref 222), (Value.ref 223), (Value.int 524 0), (Value.int 88 0), (Value.str (Str.ofString "/claim/cut.py") 525)]) #[])
noncomputable def o_278 (P : Params) : Obj := (Obj.mk (Value.type "function") none (Data.func (FuncData.mk (Str.ofString "token_wanted") (Str.ofString "token_wanted") (pA (pS 23)) (FuncBody.stmts (pB (pS 23))) (pSc (pS 23)) 3 [] Value.none Value.none Value.none (Value.str (Str.ofString "gluepage.macros") 466) none (Value.ref 224) Value.none 0)) #[])
noncomputable def o_279 (P : Params) : Obj := (Obj.mk (Value.type "tuple") none (Data.seq #[] 0) #[])
noncomputable def o_280 (P : Params) : Obj := (Obj.mk Value.none none (Data.fields #[]) #[])
noncomputable def o_281 (P : Params) : Obj := (Obj.mk (Value.type "tuple") none (Data.seq #[(Value.str (Str.ofString "delimiter") 530), (Value.str (Str.ofString "matched") 531), (Value.str (Str.ofString "token") 532), (Value.str (Str.ofString "shift") 533), (Value.str (Str.ofString "rest") 534)] 0) #[])
noncomputable def o_282 (P : Params) : Obj := (Obj.mk (Value.type "tuple") none (Data.seq #[] 0) #[])
noncomputable def o_283 (P : Params) : Obj := (Obj.mk Value.none none (Data.func (FuncData.mk (Str.ofString "slid") (Str.ofString "slid") (pA (pS 24)) (FuncBody.stmts (pB (pS 24))) (pSc (pS 24)) 0 [] Value.none Value.none Value.none Value.none none Value.none Value.none 0)) #[])
noncomputable def o_284 (P : Params) : Obj := (Obj.mk (Value.type "code") none (Data.fields #[(Value.str (Str.ofString "slid") 527), (Value.str (Str.ofString "slid") 528), (Value.str (Str.ofString "/claim/cut.py") 529), (Value.int 95 0), (Value.int 3 0), (Value.int 0 0), (Value.int 0 0), (Value.int 3 0), (Value.ref 226), (Value.bool true), (Value.int 181 0), (Value.ref 227), Value.none, (Value.ref 228), (Value.ref 229), (Value.ref 230), (Value.int 535 0), (Value.int 95 0), (Value.str (Str.ofString "/claim/cut.py") 536)]) #[])
noncomputable def o_285 (P : Params) : Obj := (Obj.mk (Value.type "function") none (Data.func (FuncData.mk (Str.ofString "slid") (Str.ofString "slid") (pA (pS 24)) (FuncBody.stmts (pB (pS 24))) (pSc (pS 24)) 3 [] Value.none Value.none Value.none (Value.str (Str.ofString "gluepage.macros") 466) none (Value.ref 231) Value.none 0)) #[])
noncomputable def o_286 (P : Params) : Obj := (Obj.mk (Value.type "dict") none (Data.dict #[(DictEntry.mk (PyData.keyHash P (Str.ofString "__name__")) (Value.str (Str.ofString "__name__") 165) (Value.str (Str.ofString "law_sq0031_01") 608)), (DictEntry.mk (PyData.keyHash P (Str.ofString "__doc__")) (Value.str (Str.ofString "__doc__") 166) Value.none), (DictEntry.mk (PyData.keyHash P (Str.ofString "__package__")) (Value.str (Str.ofString "__package__") 167) Value.none), (DictEntry.mk (PyData.keyHash P (Str.ofString "__loader__")) (Value.str (Str.ofString "__loader__") 168) (Value.builtin "__main__.__loader__#opaque")), (DictEntry.mk (PyData.keyHash P (Str.ofString "__spec__")) (Value.str (Str.ofString "__spec__") 169) Value.none), (DictEntry.mk (PyData.keyHash P (Str.ofString "__annotations__")) (Value.str (Str.ofString "__annotations__") 170) (Value.ref 6)), (DictEntry.mk (PyData.keyHash P (Str.ofString "__builtins__")) (Value.str (Str.ofString "__builtins__") 171) (Value.ref 4)), (DictEntry.mk (PyData.keyHash P (Str.ofString "__file__")) (Value.str (Str.ofString "__file__") 173) (Value.str (Str.ofString "/claim/cut.py") 172)), (DictEntry.mk (PyData.keyHash P (Str.ofString "__cached__")) (Value.str (Str.ofString "__cached__") 174) Value.none), (DictEntry.mk (PyData.keyHash P (Str.ofString "_wall")) (Value.str (Str.ofString "_wall") 193) (Value.ref 21)), (DictEntry.mk (PyData.keyHash P (Str.ofString "PageError")) (Value.str (Str.ofString "PageError") 223) (Value.ref 39)), (DictEntry.mk (PyData.keyHash P (Str.ofString "BadArgument")) (Value.str (Str.ofString "BadArgument") 239) (Value.ref 52)), (DictEntry.mk (PyData.keyHash P (Str.ofString "Runaway")) (Value.str (Str.ofString "Runaway") 255) (Value.ref 64)), (DictEntry.mk (PyData.keyHash P (Str.ofString "OuterRefused")) (Value.str (Str.ofString "OuterRefused") 271) (Value.ref 76)), (DictEntry.mk (PyData.keyHash P (Str.ofString "BadUse")) (Value.str (Str.ofString "BadUse") 287) (Value.ref 88)), (DictEntry.mk (PyData.keyHash P (Str.ofString "is_whole")) (Value.str (Str.ofString "is_whole") 298) (Value.ref 97)), (DictEntry.mk (PyData.keyHash P (Str.ofString "ESCAPE")) (Value.str (Str.ofString "ESCAPE") 309) (Value.int 0 301)), (DictEntry.mk (PyData.keyHash P (Str.ofString "BEGIN")) (Value.str (Str.ofString "BEGIN") 310) (Value.int 1 302)), (DictEntry.mk (PyData.keyHash P (Str.ofString "END")) (Value.str (Str.ofString "END") 311) (Value.int 2 303)), (DictEntry.mk (PyData.keyHash P (Str.ofString "MATH")) (Value.str (Str.ofString "MATH") 312) (Value.int 3 304)), (DictEntry.mk (PyData.keyHash P (Str.ofString "TAB")) (Value.str (Str.ofString "TAB") 313) (Value.int 4 305)), (DictEntry.mk (PyData.keyHash P (Str.ofString "RETURN")) (Value.str (Str.ofString "RETURN") 314) (Value.int 5 306)), (DictEntry.mk (PyData.keyHash P (Str.ofString "PARAMETER")) (Value.str (Str.ofString "PARAMETER") 315) (Value.int 6 307)), (DictEntry.mk (PyData.keyHash P (Str.ofString "UP")) (Value.str (Str.ofString "UP") 316) (Value.int 7 308)), (DictEntry.mk (PyData.keyHash P (Str.ofString "DOWN")) (Value.str (Str.ofString "DOWN") 325) (Value.int 8 317)), (DictEntry.mk (PyData.keyHash P (Str.ofString "IGNORED")) (Value.str (Str.ofString "IGNORED") 326) (Value.int 9 318)), (DictEntry.mk (PyData.keyHash P (Str.ofString "SPACE")) (Value.str (Str.ofString "SPACE") 327) (Value.int 10 319)), (DictEntry.mk (PyData.keyHash P (Str.ofString "LETTER")) (Value.str (Str.ofString "LETTER") 328) (Value.int 11 320)), (DictEntry.mk (PyData.keyHash P (Str.ofString "OTHER")) (Value.str (Str.ofString "OTHER") 329) (Value.int 12 321)), (DictEntry.mk (PyData.keyHash P (Str.ofString "ACTIVE")) (Value.str (Str.ofString "ACTIVE") 330) (Value.int 13 322)), (DictEntry.mk (PyData.keyHash P (Str.ofString "COMMENT")) (Value.str (Str.ofString "COMMENT") 331) (Value.int 14 323)), (DictEntry.mk (PyData.keyHash P (Str.ofString "INVALID")) (Value.str (Str.ofString "INVALID") 332) (Value.int 15 324)), (DictEntry.mk (PyData.keyHash P (Str.ofString "CONTROL")) (Value.str (Str.ofString "CONTROL") 338) (Value.int 0 333)), (DictEntry.mk (PyData.keyHash P (Str.ofString "OUT")) (Value.str (Str.ofString "OUT") 339) (Value.int 5 334)), (DictEntry.mk (PyData.keyHash P (Str.ofString "MATCH")) (Value.str (Str.ofString "MATCH") 340) (Value.int 9 335)), (DictEntry.mk (PyData.keyHash P (Str.ofString "FROZEN")) (Value.str (Str.ofString "FROZEN") 341) (Value.int 14 336)), (DictEntry.mk (PyData.keyHash P (Str.ofString "NOT_EXPANDED")) (Value.str (Str.ofString "NOT_EXPANDED") 342) (Value.int 15 337)), (DictEntry.mk (PyData.keyHash P (Str.ofString "MOST_NAMES")) (Value.str (Str.ofString "MOST_NAMES") 346) (Value.int 1048576 345)), (DictEntry.mk (PyData.keyHash P (Str.ofString "LEAST_CODES")) (Value.str (Str.ofString "LEAST_CODES") 363) (Value.ref 110)), (DictEntry.mk (PyData.keyHash P (Str.ofString "GREATEST_CODES")) (Value.str (Str.ofString "GREATEST_CODES") 381) (Value.ref 111)), (DictEntry.mk (PyData.keyHash P (Str.ofString "is_token")) (Value.str (Str.ofString "is_token") 388) (Value.ref 118)), (DictEntry.mk (PyData.keyHash P (Str.ofString "check_tokens")) (Value.str (Str.ofString "check_tokens") 396) (Value.ref 125)), (DictEntry.mk (PyData.keyHash P (Str.ofString "TokenFeed")) (Value.str (Str.ofString "TokenFeed") 465) (Value.ref 179)), (DictEntry.mk (PyData.keyHash P (Str.ofString "MOST_PARAMETERS")) (Value.str (Str.ofString "MOST_PARAMETERS") 469) (Value.int 9 468)), (DictEntry.mk (PyData.keyHash P (Str.ofString "BLANK")) (Value.str (Str.ofString "BLANK") 471) (Value.ref 184)), (DictEntry.mk (PyData.keyHash P (Str.ofString "Macro")) (Value.str (Str.ofString "Macro") 518) (Value.ref 214)), (DictEntry.mk (PyData.keyHash P (Str.ofString "token_wanted")) (Value.str (Str.ofString "token_wanted") 526) (Value.ref 225)), (DictEntry.mk (PyData.keyHash P (Str.ofString "slid")) (Value.str (Str.ofString "slid") 537) (Value.ref 232)), (DictEntry.mk (PyData.keyHash P (Str.ofString "check_par")) (Value.str (Str.ofString "check_par") 546) (Value.ref 239)), (DictEntry.mk (PyData.keyHash P (Str.ofString "group_tokens")) (Value.str (Str.ofString "group_tokens") 559) (Value.ref 246)), (DictEntry.mk (PyData.keyHash P (Str.ofString "argument")) (Value.str (Str.ofString "argument") 575) (Value.ref 253)), (DictEntry.mk (PyData.keyHash P (Str.ofString "arguments")) (Value.str (Str.ofString "arguments") 587) (Value.ref 260)), (DictEntry.mk (PyData.keyHash P (Str.ofString "filled")) (Value.str (Str.ofString "filled") 597) (Value.ref 267)), (DictEntry.mk (PyData.keyHash P (Str.ofString "call")) (Value.str (Str.ofString "call") 607) (Value.ref 274)), (DictEntry.mk (PyData.keyHash P (Str.ofString "_law_par")) (Value.str (Str.ofString "_law_par") 612) (Value.ref 275)), (DictEntry.mk (PyData.keyHash P (Str.ofString "_law_pool")) (Value.str (Str.ofString "_law_pool") 621) (Value.ref 282)), (DictEntry.mk (PyData.keyHash P (Str.ofString "_law_take")) (Value.str (Str.ofString "_law_take") 631) (Value.ref 289)), (DictEntry.mk (PyData.keyHash P (Str.ofString "_law_trees")) (Value.str (Str.ofString "_law_trees") 637) (Value.ref 294)), (DictEntry.mk (PyData.keyHash P (Str.ofString "_law_tokens")) (Value.str (Str.ofString "_law_tokens") 649) (Value.ref 301)), (DictEntry.mk (PyData.keyHash P (Str.ofString "_law_worked_out")) (Value.str (Str.ofString "_law_worked_out") 655) (Value.ref 306))] 60) #[])
noncomputable def o_287 (P : Params) : Obj := (Obj.mk Value.none none (Data.fields #[(Value.int 1 0), (Value.int 0 0), (Value.ref 20), (Value.int 5 0), (Value.int 0 0), (Value.ref 27), (Value.int 9 0), (Value.int 0 0), (Value.ref 48), (Value.int 11 0), (Value.int 0 0), (Value.ref 60), (Value.int 13 0), (Value.int 0 0), (Value.ref 72), (Value.int 15 0), (Value.int 0 0), (Value.ref 84), (Value.int 18 0), (Value.int 0 0), (Value.ref 96), (Value.int 27 0), (Value.int 0 0), (Value.ref 117), (Value.int 31 0), (Value.int 0 0), (Value.ref 124), (Value.int 35 0), (Value.int 0 0), (Value.ref 131), (Value.int 63 0), (Value.int 0 0), (Value.ref 190), (Value.int 88 0), (Value.int 0 0), (Value.ref 224), (Value.int 95 0), (Value.int 0 0), (Value.ref 231), (Value.int 101 0), (Value.int 0 0), (Value.ref 238), (Value.int 104 0), (Value.int 0 0), (Value.ref 245), (Value.int 116 0), (Value.int 0 0), (Value.ref 252), (Value.int 143 0), (Value.int 0 0), (Value.ref 259), (Value.int 153 0), (Value.int 0 0), (Value.ref 266), (Value.int 163 0), (Value.int 0 0), (Value.ref 273), (Value.int 168 0), (Value.int 0 0), (Value.ref 281), (Value.int 173 0), (Value.int 0 0), (Value.ref 288), (Value.int 181 0), (Value.int 0 0), (Value.ref 293), (Value.int 193 0), (Value.int 0 0), (Value.ref 300), (Value.int 205 0), (Value.int 0 0), (Value.ref 305)]) #[])
noncomputable def o_288 (P : Params) : Obj := (Obj.mk (Value.type "tuple") none (Data.seq #[] 0) #[])
noncomputable def o_289 (P : Params) : Obj := (Obj.mk Value.none none (Data.fields #[]) #[])
noncomputable def o_290 (P : Params) : Obj := (Obj.mk (Value.type "tuple") none (Data.seq #[(Value.str (Str.ofString "token") 541), (Value.str (Str.ofString "par") 542), (Value.str (Str.ofString "is_long") 543)] 0) #[])
noncomputable def o_291 (P : Params) : Obj := (Obj.mk (Value.type "tuple") none (Data.seq #[] 0) #[])
noncomputable def o_292 (P : Params) : Obj := (Obj.mk Value.none none (Data.func (FuncData.mk (Str.ofString "check_par") (Str.ofString "check_par") (pA (pS 25)) (FuncBody.stmts (pB (pS 25))) (pSc (pS 25)) 0 [] Value.none Value.none Value.none Value.none none Value.none Value.none 0)) #[])
noncomputable def o_293 (P : Params) : Obj := (Obj.mk (Value.type "code") none (Data.fields #[(Value.str (Str.ofString "check_par") 538), (Value.str (Str.ofString "check_par") 539), (Value.str (Str.ofString "/claim/cut.py") 540), (Value.int 101 0), (Value.int 3 0), (Value.int 0 0), (Value.int 0 0), (Value.int 3 0), (Value.ref 233), (Value.bool true), (Value.int 181 0), (Value.ref 234), Value.none, (Value.ref 235), (Value.ref 236), (Value.ref 237), (Value.int 544 0), (Value.int 101 0), (Value.str (Str.ofString "/claim/cut.py") 545)]) #[])
noncomputable def o_294 (P : Params) : Obj := (Obj.mk (Value.type "function") none (Data.func (FuncData.mk (Str.ofString "check_par") (Str.ofString "check_par") (pA (pS 25)) (FuncBody.stmts (pB (pS 25))) (pSc (pS 25)) 3 [] Value.none Value.none Value.none (Value.str (Str.ofString "gluepage.macros") 466) none (Value.ref 238) Value.none 0)) #[])
noncomputable def o_295 (P : Params) : Obj := (Obj.mk (Value.type "tuple") none (Data.seq #[] 0) #[])
noncomputable def o_296 (P : Params) : Obj := (Obj.mk Value.none none (Data.fields #[]) #[])
noncomputable def o_297 (P : Params) : Obj := (Obj.mk (Value.type "tuple") none (Data.seq #[(Value.str (Str.ofString "feed") 550), (Value.str (Str.ofString "first") 551), (Value.str (Str.ofString "par") 552), (Value.str (Str.ofString "is_long") 553), (Value.str (Str.ofString "found") 554), (Value.str (Str.ofString "depth") 555), (Value.str (Str.ofString "token") 556)] 0) #[])
noncomputable def o_298 (P : Params) : Obj := (Obj.mk (Value.type "tuple") none (Data.seq #[] 0) #[])
noncomputable def o_299 (P : Params) : Obj := (Obj.mk Value.none none (Data.func (FuncData.mk (Str.ofString "group_tokens") (Str.ofString "group_tokens") (pA (pS 26)) (FuncBody.stmts (pB (pS 26))) (pSc (pS 26)) 0 [] Value.none Value.none Value.none Value.none none Value.none Value.none 0)) #[])
noncomputable def o_300 (P : Params) : Obj := (Obj.mk (Value.type "code") none (Data.fields #[(Value.str (Str.ofString "group_tokens") 547), (Value.str (Str.ofString "group_tokens") 548), (Value.str (Str.ofString "/claim/cut.py") 549), (Value.int 104 0), (Value.int 4 0), (Value.int 0 0), (Value.int 0 0), (Value.int 3 0), (Value.ref 240), (Value.bool true), (Value.int 181 0), (Value.ref 241), Value.none, (Value.ref 242), (Value.ref 243), (Value.ref 244), (Value.int 557 0), (Value.int 104 0), (Value.str (Str.ofString "/claim/cut.py") 558)]) #[])
noncomputable def o_301 (P : Params) : Obj := (Obj.mk (Value.type "function") none (Data.func (FuncData.mk (Str.ofString "group_tokens") (Str.ofString "group_tokens") (pA (pS 26)) (FuncBody.stmts (pB (pS 26))) (pSc (pS 26)) 3 [] Value.none Value.none Value.none (Value.str (Str.ofString "gluepage.macros") 466) none (Value.ref 245) Value.none 0)) #[])
noncomputable def o_302 (P : Params) : Obj := (Obj.mk (Value.type "tuple") none (Data.seq #[] 0) #[])
noncomputable def o_303 (P : Params) : Obj := (Obj.mk Value.none none (Data.fields #[]) #[])
noncomputable def o_304 (P : Params) : Obj := (Obj.mk (Value.type "tuple") none (Data.seq #[(Value.str (Str.ofString "feed") 563), (Value.str (Str.ofString "delimiter") 564), (Value.str (Str.ofString "par") 565), (Value.str (Str.ofString "is_long") 566), (Value.str (Str.ofString "found") 567), (Value.str (Str.ofString "parts") 568), (Value.str (Str.ofString "matched") 569), (Value.str (Str.ofString "going") 570), (Value.str (Str.ofString "token") 571), (Value.str (Str.ofString "given") 572)] 0) #[])
noncomputable def o_305 (P : Params) : Obj := (Obj.mk (Value.type "tuple") none (Data.seq #[] 0) #[])
noncomputable def o_306 (P : Params) : Obj := (Obj.mk Value.none none (Data.func (FuncData.mk (Str.ofString "argument") (Str.ofString "argument") (pA (pS 27)) (FuncBody.stmts (pB (pS 27))) (pSc (pS 27)) 0 [] Value.none Value.none Value.none Value.none none Value.none Value.none 0)) #[])
noncomputable def o_307 (P : Params) : Obj := (Obj.mk (Value.type "code") none (Data.fields #[(Value.str (Str.ofString "argument") 560), (Value.str (Str.ofString "argument") 561), (Value.str (Str.ofString "/claim/cut.py") 562), (Value.int 116 0), (Value.int 4 0), (Value.int 0 0), (Value.int 0 0), (Value.int 3 0), (Value.ref 247), (Value.bool true), (Value.int 181 0), (Value.ref 248), Value.none, (Value.ref 249), (Value.ref 250), (Value.ref 251), (Value.int 573 0), (Value.int 116 0), (Value.str (Str.ofString "/claim/cut.py") 574)]) #[])
noncomputable def o_308 (P : Params) : Obj := (Obj.mk (Value.type "function") none (Data.func (FuncData.mk (Str.ofString "argument") (Str.ofString "argument") (pA (pS 27)) (FuncBody.stmts (pB (pS 27))) (pSc (pS 27)) 3 [] Value.none Value.none Value.none (Value.str (Str.ofString "gluepage.macros") 466) none (Value.ref 252) Value.none 0)) #[])
noncomputable def o_309 (P : Params) : Obj := (Obj.mk (Value.type "tuple") none (Data.seq #[] 0) #[])
noncomputable def o_310 (P : Params) : Obj := (Obj.mk Value.none none (Data.fields #[]) #[])
noncomputable def o_311 (P : Params) : Obj := (Obj.mk (Value.type "tuple") none (Data.seq #[(Value.str (Str.ofString "macro") 579), (Value.str (Str.ofString "feed") 580), (Value.str (Str.ofString "par") 581), (Value.str (Str.ofString "expected") 582), (Value.str (Str.ofString "found") 583), (Value.str (Str.ofString "delimiter") 584)] 0) #[])
noncomputable def o_312 (P : Params) : Obj := (Obj.mk (Value.type "tuple") none (Data.seq #[] 0) #[])
noncomputable def o_313 (P : Params) : Obj := (Obj.mk Value.none none (Data.func (FuncData.mk (Str.ofString "arguments") (Str.ofString "arguments") (pA (pS 28)) (FuncBody.stmts (pB (pS 28))) (pSc (pS 28)) 0 [] Value.none Value.none Value.none Value.none none Value.none Value.none 0)) #[])
noncomputable def o_314 (P : Params) : Obj := (Obj.mk (Value.type "code") none (Data.fields #[(Value.str (Str.ofString "arguments") 576), (Value.str (Str.ofString "arguments") 577), (Value.str (Str.ofString "/claim/cut.py") 578), (Value.int 143 0), (Value.int 3 0), (Value.int 0 0), (Value.int 0 0), (Value.int 3 0), (Value.ref 254), (Value.bool true), (Value.int 181 0), (Value.ref 255), Value.none, (Value.ref 256), (Value.ref 257), (Value.ref 258), (Value.int 585 0), (Value.int 143 0), (Value.str (Str.ofString "/claim/cut.py") 586)]) #[])
noncomputable def o_315 (P : Params) : Obj := (Obj.mk (Value.type "function") none (Data.func (FuncData.mk (Str.ofString "arguments") (Str.ofString "arguments") (pA (pS 28)) (FuncBody.stmts (pB (pS 28))) (pSc (pS 28)) 3 [] Value.none Value.none Value.none (Value.str (Str.ofString "gluepage.macros") 466) none (Value.ref 259) Value.none 0)) #[])
noncomputable def o_316 (P : Params) : Obj := (Obj.mk (Value.type "tuple") none (Data.seq #[] 0) #[])
noncomputable def o_317 (P : Params) : Obj := (Obj.mk Value.none none (Data.fields #[]) #[])
noncomputable def o_318 (P : Params) : Obj := (Obj.mk (Value.type "tuple") none (Data.seq #[(Value.str (Str.ofString "macro") 591), (Value.str (Str.ofString "given") 592), (Value.str (Str.ofString "found") 593), (Value.str (Str.ofString "token") 594)] 0) #[])
noncomputable def o_319 (P : Params) : Obj := (Obj.mk (Value.type "tuple") none (Data.seq #[] 0) #[])
noncomputable def o_320 (P : Params) : Obj := (Obj.mk Value.none none (Data.func (FuncData.mk (Str.ofString "filled") (Str.ofString "filled") (pA (pS 29)) (FuncBody.stmts (pB (pS 29))) (pSc (pS 29)) 0 [] Value.none Value.none Value.none Value.none none Value.none Value.none 0)) #[])
noncomputable def o_321 (P : Params) : Obj := (Obj.mk (Value.type "code") none (Data.fields #[(Value.str (Str.ofString "filled") 588), (Value.str (Str.ofString "filled") 589), (Value.str (Str.ofString "/claim/cut.py") 590), (Value.int 153 0), (Value.int 2 0), (Value.int 0 0), (Value.int 0 0), (Value.int 3 0), (Value.ref 261), (Value.bool true), (Value.int 181 0), (Value.ref 262), Value.none, (Value.ref 263), (Value.ref 264), (Value.ref 265), (Value.int 595 0), (Value.int 153 0), (Value.str (Str.ofString "/claim/cut.py") 596)]) #[])
noncomputable def o_322 (P : Params) : Obj := (Obj.mk (Value.type "function") none (Data.func (FuncData.mk (Str.ofString "filled") (Str.ofString "filled") (pA (pS 29)) (FuncBody.stmts (pB (pS 29))) (pSc (pS 29)) 3 [] Value.none Value.none Value.none (Value.str (Str.ofString "gluepage.macros") 466) none (Value.ref 266) Value.none 0)) #[])
noncomputable def o_323 (P : Params) : Obj := (Obj.mk (Value.type "tuple") none (Data.seq #[] 0) #[])
noncomputable def o_324 (P : Params) : Obj := (Obj.mk Value.none none (Data.fields #[]) #[])
noncomputable def o_325 (P : Params) : Obj := (Obj.mk (Value.type "tuple") none (Data.seq #[(Value.str (Str.ofString "macro") 601), (Value.str (Str.ofString "feed") 602), (Value.str (Str.ofString "par") 603), (Value.str (Str.ofString "given") 604)] 0) #[])
noncomputable def o_326 (P : Params) : Obj := (Obj.mk (Value.type "tuple") none (Data.seq #[] 0) #[])
noncomputable def o_327 (P : Params) : Obj := (Obj.mk Value.none none (Data.func (FuncData.mk (Str.ofString "call") (Str.ofString "call") (pA (pS 30)) (FuncBody.stmts (pB (pS 30))) (pSc (pS 30)) 0 [] Value.none Value.none Value.none Value.none none Value.none Value.none 0)) #[])
noncomputable def o_328 (P : Params) : Obj := (Obj.mk (Value.type "code") none (Data.fields #[(Value.str (Str.ofString "call") 598), (Value.str (Str.ofString "call") 599), (Value.str (Str.ofString "/claim/cut.py") 600), (Value.int 163 0), (Value.int 3 0), (Value.int 0 0), (Value.int 0 0), (Value.int 3 0), (Value.ref 268), (Value.bool true), (Value.int 181 0), (Value.ref 269), Value.none, (Value.ref 270), (Value.ref 271), (Value.ref 272), (Value.int 605 0), (Value.int 163 0), (Value.str (Str.ofString "/claim/cut.py") 606)]) #[])
noncomputable def o_329 (P : Params) : Obj := (Obj.mk (Value.type "function") none (Data.func (FuncData.mk (Str.ofString "call") (Str.ofString "call") (pA (pS 30)) (FuncBody.stmts (pB (pS 30))) (pSc (pS 30)) 3 [] Value.none Value.none Value.none (Value.str (Str.ofString "gluepage.macros") 466) none (Value.ref 273) Value.none 0)) #[])
noncomputable def o_330 (P : Params) : Obj := (Obj.mk (Value.type "tuple") none (Data.seq #[(Value.int 0 610), (Value.int 40 611)] 0) #[])
noncomputable def o_331 (P : Params) : Obj := (Obj.mk (Value.type "tuple") none (Data.seq #[] 0) #[])
noncomputable def o_332 (P : Params) : Obj := (Obj.mk Value.none none (Data.fields #[]) #[])
noncomputable def o_333 (P : Params) : Obj := (Obj.mk (Value.type "tuple") none (Data.seq #[(Value.str (Str.ofString "script") 616), (Value.str (Str.ofString "whole") 617), (Value.str (Str.ofString "cell") 618)] 0) #[])
noncomputable def o_334 (P : Params) : Obj := (Obj.mk (Value.type "tuple") none (Data.seq #[] 0) #[])
noncomputable def o_335 (P : Params) : Obj := (Obj.mk Value.none none (Data.func (FuncData.mk (Str.ofString "_law_pool") (Str.ofString "_law_pool") (pA (pS 33)) (FuncBody.stmts (pB (pS 33))) (pSc (pS 33)) 0 [] Value.none Value.none Value.none Value.none none Value.none Value.none 0)) #[])
noncomputable def o_336 (P : Params) : Obj := (Obj.mk (Value.type "code") none (Data.fields #[(Value.str (Str.ofString "_law_pool") 613), (Value.str (Str.ofString "_law_pool") 614), (Value.str (Str.ofString "/claim/cut.py") 615), (Value.int 168 0), (Value.int 1 0), (Value.int 0 0), (Value.int 0 0), (Value.int 3 0), (Value.ref 276), (Value.bool true), (Value.int 181 0), (Value.ref 277), Value.none, (Value.ref 278), (Value.ref 279), (Value.ref 280), (Value.int 619 0), (Value.int 168 0), (Value.str (Str.ofString "/claim/cut.py") 620)]) #[])
noncomputable def o_337 (P : Params) : Obj := (Obj.mk (Value.type "function") none (Data.func (FuncData.mk (Str.ofString "_law_pool") (Str.ofString "_law_pool") (pA (pS 33)) (FuncBody.stmts (pB (pS 33))) (pSc (pS 33)) 3 [] Value.none Value.none Value.none (Value.str (Str.ofString "law_sq0031_01") 608) none (Value.ref 281) Value.none 0)) #[])
noncomputable def o_338 (P : Params) : Obj := (Obj.mk (Value.type "tuple") none (Data.seq #[] 0) #[])
noncomputable def o_339 (P : Params) : Obj := (Obj.mk Value.none none (Data.fields #[]) #[])
noncomputable def o_340 (P : Params) : Obj := (Obj.mk (Value.type "tuple") none (Data.seq #[(Value.str (Str.ofString "source") 625), (Value.str (Str.ofString "many") 626), (Value.str (Str.ofString "digit") 627), (Value.str (Str.ofString "mixed") 628)] 0) #[])
noncomputable def o_341 (P : Params) : Obj := (Obj.mk (Value.type "tuple") none (Data.seq #[] 0) #[])
noncomputable def o_342 (P : Params) : Obj := (Obj.mk Value.none none (Data.func (FuncData.mk (Str.ofString "_law_take") (Str.ofString "_law_take") (pA (pS 34)) (FuncBody.stmts (pB (pS 34))) (pSc (pS 34)) 0 [] Value.none Value.none Value.none Value.none none Value.none Value.none 0)) #[])
noncomputable def o_343 (P : Params) : Obj := (Obj.mk (Value.type "code") none (Data.fields #[(Value.str (Str.ofString "_law_take") 622), (Value.str (Str.ofString "_law_take") 623), (Value.str (Str.ofString "/claim/cut.py") 624), (Value.int 173 0), (Value.int 2 0), (Value.int 0 0), (Value.int 0 0), (Value.int 3 0), (Value.ref 283), (Value.bool true), (Value.int 181 0), (Value.ref 284), Value.none, (Value.ref 285), (Value.ref 286), (Value.ref 287), (Value.int 629 0), (Value.int 173 0), (Value.str (Str.ofString "/claim/cut.py") 630)]) #[])
noncomputable def o_344 (P : Params) : Obj := (Obj.mk (Value.type "function") none (Data.func (FuncData.mk (Str.ofString "_law_take") (Str.ofString "_law_take") (pA (pS 34)) (FuncBody.stmts (pB (pS 34))) (pSc (pS 34)) 3 [] Value.none Value.none Value.none (Value.str (Str.ofString "law_sq0031_01") 608) none (Value.ref 288) Value.none 0)) #[])
noncomputable def o_345 (P : Params) : Obj := (Obj.mk (Value.type "tuple") none (Data.seq #[] 0) #[])
noncomputable def o_346 (P : Params) : Obj := (Obj.mk Value.none none (Data.fields #[]) #[])
noncomputable def o_347 (P : Params) : Obj := (Obj.mk Value.none none (Data.func (FuncData.mk (Str.ofString "_law_trees") (Str.ofString "_law_trees") (pA (pS 35)) (FuncBody.stmts (pB (pS 35))) (pSc (pS 35)) 0 [] Value.none Value.none Value.none Value.none none Value.none Value.none 0)) #[])
noncomputable def o_348 (P : Params) : Obj := (Obj.mk (Value.type "code") none (Data.fields #[(Value.str (Str.ofString "_law_trees") 632), (Value.str (Str.ofString "_law_trees") 633), (Value.str (Str.ofString "/claim/cut.py") 634), (Value.int 181 0), (Value.int 5 0), (Value.int 0 0), (Value.int 0 0), (Value.int 3 0), (Value.ref 290), (Value.bool true), (Value.int 181 0), (Value.ref 291), Value.none, Value.none, Value.none, (Value.ref 292), (Value.int 635 0), (Value.int 181 0), (Value.str (Str.ofString "/claim/cut.py") 636)]) #[])
noncomputable def o_349 (P : Params) : Obj := (Obj.mk (Value.type "function") none (Data.func (FuncData.mk (Str.ofString "_law_trees") (Str.ofString "_law_trees") (pA (pS 35)) (FuncBody.stmts (pB (pS 35))) (pSc (pS 35)) 3 [] Value.none Value.none Value.none (Value.str (Str.ofString "law_sq0031_01") 608) none (Value.ref 293) Value.none 0)) #[])
noncomputable def o_350 (P : Params) : Obj := (Obj.mk (Value.type "tuple") none (Data.seq #[] 0) #[])
noncomputable def o_351 (P : Params) : Obj := (Obj.mk Value.none none (Data.fields #[]) #[])
noncomputable def o_352 (P : Params) : Obj := (Obj.mk (Value.type "tuple") none (Data.seq #[(Value.str (Str.ofString "trees") 641), (Value.str (Str.ofString "found") 642), (Value.str (Str.ofString "sort") 643), (Value.str (Str.ofString "code") 644), (Value.str (Str.ofString "rows") 645), (Value.str (Str.ofString "row") 646)] 0) #[])
noncomputable def o_353 (P : Params) : Obj := (Obj.mk (Value.type "tuple") none (Data.seq #[] 0) #[])
noncomputable def o_354 (P : Params) : Obj := (Obj.mk Value.none none (Data.func (FuncData.mk (Str.ofString "_law_tokens") (Str.ofString "_law_tokens") (pA (pS 36)) (FuncBody.stmts (pB (pS 36))) (pSc (pS 36)) 0 [] Value.none Value.none Value.none Value.none none Value.none Value.none 0)) #[])
noncomputable def o_355 (P : Params) : Obj := (Obj.mk (Value.type "code") none (Data.fields #[(Value.str (Str.ofString "_law_tokens") 638), (Value.str (Str.ofString "_law_tokens") 639), (Value.str (Str.ofString "/claim/cut.py") 640), (Value.int 193 0), (Value.int 1 0), (Value.int 0 0), (Value.int 0 0), (Value.int 3 0), (Value.ref 295), (Value.bool true), (Value.int 181 0), (Value.ref 296), Value.none, (Value.ref 297), (Value.ref 298), (Value.ref 299), (Value.int 647 0), (Value.int 193 0), (Value.str (Str.ofString "/claim/cut.py") 648)]) #[])
noncomputable def o_356 (P : Params) : Obj := (Obj.mk (Value.type "function") none (Data.func (FuncData.mk (Str.ofString "_law_tokens") (Str.ofString "_law_tokens") (pA (pS 36)) (FuncBody.stmts (pB (pS 36))) (pSc (pS 36)) 3 [] Value.none Value.none Value.none (Value.str (Str.ofString "law_sq0031_01") 608) none (Value.ref 300) Value.none 0)) #[])
noncomputable def o_357 (P : Params) : Obj := (Obj.mk (Value.type "tuple") none (Data.seq #[] 0) #[])
noncomputable def o_358 (P : Params) : Obj := (Obj.mk Value.none none (Data.fields #[]) #[])
noncomputable def o_359 (P : Params) : Obj := (Obj.mk Value.none none (Data.func (FuncData.mk (Str.ofString "_law_worked_out") (Str.ofString "_law_worked_out") (pA (pS 37)) (FuncBody.stmts (pB (pS 37))) (pSc (pS 37)) 0 [] Value.none Value.none Value.none Value.none none Value.none Value.none 0)) #[])
noncomputable def o_360 (P : Params) : Obj := (Obj.mk (Value.type "code") none (Data.fields #[(Value.str (Str.ofString "_law_worked_out") 650), (Value.str (Str.ofString "_law_worked_out") 651), (Value.str (Str.ofString "/claim/cut.py") 652), (Value.int 205 0), (Value.int 4 0), (Value.int 0 0), (Value.int 0 0), (Value.int 3 0), (Value.ref 302), (Value.bool true), (Value.int 181 0), (Value.ref 303), Value.none, Value.none, Value.none, (Value.ref 304), (Value.int 653 0), (Value.int 205 0), (Value.str (Str.ofString "/claim/cut.py") 654)]) #[])
noncomputable def o_361 (P : Params) : Obj := (Obj.mk (Value.type "function") none (Data.func (FuncData.mk (Str.ofString "_law_worked_out") (Str.ofString "_law_worked_out") (pA (pS 37)) (FuncBody.stmts (pB (pS 37))) (pSc (pS 37)) 3 [] Value.none Value.none Value.none (Value.str (Str.ofString "law_sq0031_01") 608) none (Value.ref 305) Value.none 0)) #[])
noncomputable def o_362 (P : Params) : Obj := (Obj.mk (Value.type "dict") none (Data.dict #[(DictEntry.mk (PyData.keyHash P (Str.ofString "__name__")) (Value.str (Str.ofString "__name__") 165) (Value.str (Str.ofString "law_sq0031_01") 608)), (DictEntry.mk (PyData.keyHash P (Str.ofString "__doc__")) (Value.str (Str.ofString "__doc__") 166) Value.none), (DictEntry.mk (PyData.keyHash P (Str.ofString "__package__")) (Value.str (Str.ofString "__package__") 167) Value.none), (DictEntry.mk (PyData.keyHash P (Str.ofString "__loader__")) (Value.str (Str.ofString "__loader__") 168) (Value.builtin "__main__.__loader__#opaque")), (DictEntry.mk (PyData.keyHash P (Str.ofString "__spec__")) (Value.str (Str.ofString "__spec__") 169) Value.none), (DictEntry.mk (PyData.keyHash P (Str.ofString "__annotations__")) (Value.str (Str.ofString "__annotations__") 170) (Value.ref 6)), (DictEntry.mk (PyData.keyHash P (Str.ofString "__builtins__")) (Value.str (Str.ofString "__builtins__") 171) (Value.ref 4)), (DictEntry.mk (PyData.keyHash P (Str.ofString "__file__")) (Value.str (Str.ofString "__file__") 173) (Value.str (Str.ofString "/claim/cut.py") 172)), (DictEntry.mk (PyData.keyHash P (Str.ofString "__cached__")) (Value.str (Str.ofString "__cached__") 174) Value.none), (DictEntry.mk (PyData.keyHash P (Str.ofString "_wall")) (Value.str (Str.ofString "_wall") 193) (Value.ref 21)), (DictEntry.mk (PyData.keyHash P (Str.ofString "PageError")) (Value.str (Str.ofString "PageError") 223) (Value.ref 39)), (DictEntry.mk (PyData.keyHash P (Str.ofString "BadArgument")) (Value.str (Str.ofString "BadArgument") 239) (Value.ref 52)), (DictEntry.mk (PyData.keyHash P (Str.ofString "Runaway")) (Value.str (Str.ofString "Runaway") 255) (Value.ref 64)), (DictEntry.mk (PyData.keyHash P (Str.ofString "OuterRefused")) (Value.str (Str.ofString "OuterRefused") 271) (Value.ref 76)), (DictEntry.mk (PyData.keyHash P (Str.ofString "BadUse")) (Value.str (Str.ofString "BadUse") 287) (Value.ref 88)), (DictEntry.mk (PyData.keyHash P (Str.ofString "is_whole")) (Value.str (Str.ofString "is_whole") 298) (Value.ref 97)), (DictEntry.mk (PyData.keyHash P (Str.ofString "ESCAPE")) (Value.str (Str.ofString "ESCAPE") 309) (Value.int 0 301)), (DictEntry.mk (PyData.keyHash P (Str.ofString "BEGIN")) (Value.str (Str.ofString "BEGIN") 310) (Value.int 1 302)), (DictEntry.mk (PyData.keyHash P (Str.ofString "END")) (Value.str (Str.ofString "END") 311) (Value.int 2 303)), (DictEntry.mk (PyData.keyHash P (Str.ofString "MATH")) (Value.str (Str.ofString "MATH") 312) (Value.int 3 304)), (DictEntry.mk (PyData.keyHash P (Str.ofString "TAB")) (Value.str (Str.ofString "TAB") 313) (Value.int 4 305)), (DictEntry.mk (PyData.keyHash P (Str.ofString "RETURN")) (Value.str (Str.ofString "RETURN") 314) (Value.int 5 306)), (DictEntry.mk (PyData.keyHash P (Str.ofString "PARAMETER")) (Value.str (Str.ofString "PARAMETER") 315) (Value.int 6 307)), (DictEntry.mk (PyData.keyHash P (Str.ofString "UP")) (Value.str (Str.ofString "UP") 316) (Value.int 7 308)), (DictEntry.mk (PyData.keyHash P (Str.ofString "DOWN")) (Value.str (Str.ofString "DOWN") 325) (Value.int 8 317)), (DictEntry.mk (PyData.keyHash P (Str.ofString "IGNORED")) (Value.str (Str.ofString "IGNORED") 326) (Value.int 9 318)), (DictEntry.mk (PyData.keyHash P (Str.ofString "SPACE")) (Value.str (Str.ofString "SPACE") 327) (Value.int 10 319)), (DictEntry.mk (PyData.keyHash P (Str.ofString "LETTER")) (Value.str (Str.ofString "LETTER") 328) (Value.int 11 320)), (DictEntry.mk (PyData.keyHash P (Str.ofString "OTHER")) (Value.str (Str.ofString "OTHER") 329) (Value.int 12 321)), (DictEntry.mk (PyData.keyHash P (Str.ofString "ACTIVE")) (Value.str (Str.ofString "ACTIVE") 330) (Value.int 13 322)), (DictEntry.mk (PyData.keyHash P (Str.ofString "COMMENT")) (Value.str (Str.ofString "COMMENT") 331) (Value.int 14 323)), (DictEntry.mk (PyData.keyHash P (Str.ofString "INVALID")) (Value.str (Str.ofString "INVALID") 332) (Value.int 15 324)), (DictEntry.mk (PyData.keyHash P (Str.ofString "CONTROL")) (Value.str (Str.ofString "CONTROL") 338) (Value.int 0 333)), (DictEntry.mk (PyData.keyHash P (Str.ofString "OUT")) (Value.str (Str.ofString "OUT") 339) (Value.int 5 334)), (DictEntry.mk (PyData.keyHash P (Str.ofString "MATCH")) (Value.str (Str.ofString "MATCH") 340) (Value.int 9 335)), (DictEntry.mk (PyData.keyHash P (Str.ofString "FROZEN")) (Value.str (Str.ofString "FROZEN") 341) (Value.int 14 336)), (DictEntry.mk (PyData.keyHash P (Str.ofString "NOT_EXPANDED")) (Value.str (Str.ofString "NOT_EXPANDED") 342) (Value.int 15 337)), (DictEntry.mk (PyData.keyHash P (Str.ofString "MOST_NAMES")) (Value.str (Str.ofString "MOST_NAMES") 346) (Value.int 1048576 345)), (DictEntry.mk (PyData.keyHash P (Str.ofString "LEAST_CODES")) (Value.str (Str.ofString "LEAST_CODES") 363) (Value.ref 110)), (DictEntry.mk (PyData.keyHash P (Str.ofString "GREATEST_CODES")) (Value.str (Str.ofString "GREATEST_CODES") 381) (Value.ref 111)), (DictEntry.mk (PyData.keyHash P (Str.ofString "is_token")) (Value.str (Str.ofString "is_token") 388) (Value.ref 118)), (DictEntry.mk (PyData.keyHash P (Str.ofString "check_tokens")) (Value.str (Str.ofString "check_tokens") 396) (Value.ref 125)), (DictEntry.mk (PyData.keyHash P (Str.ofString "TokenFeed")) (Value.str (Str.ofString "TokenFeed") 465) (Value.ref 179)), (DictEntry.mk (PyData.keyHash P (Str.ofString "MOST_PARAMETERS")) (Value.str (Str.ofString "MOST_PARAMETERS") 469) (Value.int 9 468)), (DictEntry.mk (PyData.keyHash P (Str.ofString "BLANK")) (Value.str (Str.ofString "BLANK") 471) (Value.ref 184)), (DictEntry.mk (PyData.keyHash P (Str.ofString "Macro")) (Value.str (Str.ofString "Macro") 518) (Value.ref 214)), (DictEntry.mk (PyData.keyHash P (Str.ofString "token_wanted")) (Value.str (Str.ofString "token_wanted") 526) (Value.ref 225)), (DictEntry.mk (PyData.keyHash P (Str.ofString "slid")) (Value.str (Str.ofString "slid") 537) (Value.ref 232)), (DictEntry.mk (PyData.keyHash P (Str.ofString "check_par")) (Value.str (Str.ofString "check_par") 546) (Value.ref 239)), (DictEntry.mk (PyData.keyHash P (Str.ofString "group_tokens")) (Value.str (Str.ofString "group_tokens") 559) (Value.ref 246)), (DictEntry.mk (PyData.keyHash P (Str.ofString "argument")) (Value.str (Str.ofString "argument") 575) (Value.ref 253)), (DictEntry.mk (PyData.keyHash P (Str.ofString "arguments")) (Value.str (Str.ofString "arguments") 587) (Value.ref 260)), (DictEntry.mk (PyData.keyHash P (Str.ofString "filled")) (Value.str (Str.ofString "filled") 597) (Value.ref 267)), (DictEntry.mk (PyData.keyHash P (Str.ofString "call")) (Value.str (Str.ofString "call") 607) (Value.ref 274)), (DictEntry.mk (PyData.keyHash P (Str.ofString "_law_par")) (Value.str (Str.ofString "_law_par") 612) (Value.ref 275)), (DictEntry.mk (PyData.keyHash P (Str.ofString "_law_pool")) (Value.str (Str.ofString "_law_pool") 621) (Value.ref 282)), (DictEntry.mk (PyData.keyHash P (Str.ofString "_law_take")) (Value.str (Str.ofString "_law_take") 631) (Value.ref 289)), (DictEntry.mk (PyData.keyHash P (Str.ofString "_law_trees")) (Value.str (Str.ofString "_law_trees") 637) (Value.ref 294)), (DictEntry.mk (PyData.keyHash P (Str.ofString "_law_tokens")) (Value.str (Str.ofString "_law_tokens") 649) (Value.ref 301)), (DictEntry.mk (PyData.keyHash P (Str.ofString "_law_worked_out")) (Value.str (Str.ofString "_law_worked_out") 655) (Value.ref 306)), (DictEntry.mk (PyData.keyHash P (Str.ofString "_law_replaced")) (Value.str (Str.ofString "_law_replaced") 670) (Value.ref 313)), (DictEntry.mk (PyData.keyHash P (Str.ofString "_law_program_right")) (Value.str (Str.ofString "_law_program_right") 676) (Value.ref 318)), (DictEntry.mk (PyData.keyHash P (Str.ofString "law")) (Value.str (Str.ofString "law") 686) (Value.ref 325))] 63) #[])
noncomputable def o_363 (P : Params) : Obj := (Obj.mk Value.none none (Data.fields #[(Value.int 1 0), (Value.int 0 0), (Value.ref 20), (Value.int 5 0), (Value.int 0 0), (Value.ref 27), (Value.int 9 0), (Value.int 0 0), (Value.ref 48), (Value.int 11 0), (Value.int 0 0), (Value.ref 60), (Value.int 13 0), (Value.int 0 0), (Value.ref 72), (Value.int 15 0), (Value.int 0 0), (Value.ref 84), (Value.int 18 0), (Value.int 0 0), (Value.ref 96), (Value.int 27 0), (Value.int 0 0), (Value.ref 117), (Value.int 31 0), (Value.int 0 0), (Value.ref 124), (Value.int 35 0), (Value.int 0 0), (Value.ref 131), (Value.int 63 0), (Value.int 0 0), (Value.ref 190), (Value.int 88 0), (Value.int 0 0), (Value.ref 224), (Value.int 95 0), (Value.int 0 0), (Value.ref 231), (Value.int 101 0), (Value.int 0 0), (Value.ref 238), (Value.int 104 0), (Value.int 0 0), (Value.ref 245), (Value.int 116 0), (Value.int 0 0), (Value.ref 252), (Value.int 143 0), (Value.int 0 0), (Value.ref 259), (Value.int 153 0), (Value.int 0 0), (Value.ref 266), (Value.int 163 0), (Value.int 0 0), (Value.ref 273), (Value.int 168 0), (Value.int 0 0), (Value.ref 281), (Value.int 173 0), (Value.int 0 0), (Value.ref 288), (Value.int 181 0), (Value.int 0 0), (Value.ref 293), (Value.int 193 0), (Value.int 0 0), (Value.ref 300), (Value.int 205 0), (Value.int 0 0), (Value.ref 305), (Value.int 220 0), (Value.int 0 0), (Value.ref 312), (Value.int 236 0), (Value.int 0 0), (Value.ref 317), (Value.int 254 0), (Value.int 0 0), (Value.ref 324)]) #[])
noncomputable def o_364 (P : Params) : Obj := (Obj.mk (Value.type "tuple") none (Data.seq #[] 0) #[])
noncomputable def o_365 (P : Params) : Obj := (Obj.mk Value.none none (Data.fields #[]) #[])
noncomputable def o_366 (P : Params) : Obj := (Obj.mk (Value.type "tuple") none (Data.seq #[(Value.str (Str.ofString "macros") 659), (Value.str (Str.ofString "tokens") 660), (Value.str (Str.ofString "feed") 661), (Value.str (Str.ofString "found") 662), (Value.str (Str.ofString "spent") 663), (Value.str (Str.ofString "token") 664), (Value.str (Str.ofString "waiting") 665), (Value.str (Str.ofString "told") 666), (Value.str (Str.ofString "one") 667)] 0) #[])
noncomputable def o_367 (P : Params) : Obj := (Obj.mk (Value.type "tuple") none (Data.seq #[] 0) #[])
noncomputable def o_368 (P : Params) : Obj := (Obj.mk Value.none none (Data.func (FuncData.mk (Str.ofString "_law_replaced") (Str.ofString "_law_replaced") (pA (pS 38)) (FuncBody.stmts (pB (pS 38))) (pSc (pS 38)) 0 [] Value.none Value.none Value.none Value.none none Value.none Value.none 0)) #[])
noncomputable def o_369 (P : Params) : Obj := (Obj.mk (Value.type "code") none (Data.fields #[(Value.str (Str.ofString "_law_replaced") 656), (Value.str (Str.ofString "_law_replaced") 657), (Value.str (Str.ofString "/claim/cut.py") 658), (Value.int 220 0), (Value.int 2 0), (Value.int 0 0), (Value.int 0 0), (Value.int 3 0), (Value.ref 307), (Value.bool true), (Value.int 181 0), (Value.ref 308), Value.none, (Value.ref 309), (Value.ref 310), (Value.ref 311), (Value.int 668 0), (Value.int 220 0), (Value.str (Str.ofString "/claim/cut.py") 669)]) #[])
noncomputable def o_370 (P : Params) : Obj := (Obj.mk (Value.type "function") none (Data.func (FuncData.mk (Str.ofString "_law_replaced") (Str.ofString "_law_replaced") (pA (pS 38)) (FuncBody.stmts (pB (pS 38))) (pSc (pS 38)) 3 [] Value.none Value.none Value.none (Value.str (Str.ofString "law_sq0031_01") 608) none (Value.ref 312) Value.none 0)) #[])
noncomputable def o_371 (P : Params) : Obj := (Obj.mk (Value.type "tuple") none (Data.seq #[] 0) #[])
noncomputable def o_372 (P : Params) : Obj := (Obj.mk Value.none none (Data.fields #[]) #[])
noncomputable def o_373 (P : Params) : Obj := (Obj.mk Value.none none (Data.func (FuncData.mk (Str.ofString "_law_program_right") (Str.ofString "_law_program_right") (pA (pS 39)) (FuncBody.stmts (pB (pS 39))) (pSc (pS 39)) 0 [] Value.none Value.none Value.none Value.none none Value.none Value.none 0)) #[])
noncomputable def o_374 (P : Params) : Obj := (Obj.mk (Value.type "code") none (Data.fields #[(Value.str (Str.ofString "_law_program_right") 671), (Value.str (Str.ofString "_law_program_right") 672), (Value.str (Str.ofString "/claim/cut.py") 673), (Value.int 236 0), (Value.int 2 0), (Value.int 0 0), (Value.int 0 0), (Value.int 3 0), (Value.ref 314), (Value.bool true), (Value.int 181 0), (Value.ref 315), Value.none, Value.none, Value.none, (Value.ref 316), (Value.int 674 0), (Value.int 236 0), (Value.str (Str.ofString "/claim/cut.py") 675)]) #[])
noncomputable def o_375 (P : Params) : Obj := (Obj.mk (Value.type "function") none (Data.func (FuncData.mk (Str.ofString "_law_program_right") (Str.ofString "_law_program_right") (pA (pS 39)) (FuncBody.stmts (pB (pS 39))) (pSc (pS 39)) 3 [] Value.none Value.none Value.none (Value.str (Str.ofString "law_sq0031_01") 608) none (Value.ref 317) Value.none 0)) #[])
noncomputable def o_376 (P : Params) : Obj := (Obj.mk (Value.type "tuple") none (Data.seq #[] 0) #[])
noncomputable def o_377 (P : Params) : Obj := (Obj.mk Value.none none (Data.fields #[]) #[])
noncomputable def o_378 (P : Params) : Obj := (Obj.mk (Value.type "tuple") none (Data.seq #[(Value.str (Str.ofString "script") 680), (Value.str (Str.ofString "twice") 681), (Value.str (Str.ofString "text") 682), (Value.str (Str.ofString "source") 683)] 0) #[])
noncomputable def o_379 (P : Params) : Obj := (Obj.mk (Value.type "tuple") none (Data.seq #[] 0) #[])
noncomputable def o_380 (P : Params) : Obj := (Obj.mk Value.none none (Data.func (FuncData.mk (Str.ofString "law") (Str.ofString "law") (pA (pS 40)) (FuncBody.stmts (pB (pS 40))) (pSc (pS 40)) 0 [] Value.none Value.none Value.none Value.none none Value.none Value.none 0)) #[])
noncomputable def o_381 (P : Params) : Obj := (Obj.mk (Value.type "code") none (Data.fields #[(Value.str (Str.ofString "law") 677), (Value.str (Str.ofString "law") 678), (Value.str (Str.ofString "/claim/cut.py") 679), (Value.int 254 0), (Value.int 1 0), (Value.int 0 0), (Value.int 0 0), (Value.int 3 0), (Value.ref 319), (Value.bool true), (Value.int 181 0), (Value.ref 320), Value.none, (Value.ref 321), (Value.ref 322), (Value.ref 323), (Value.int 684 0), (Value.int 254 0), (Value.str (Str.ofString "/claim/cut.py") 685)]) #[])
noncomputable def o_382 (P : Params) : Obj := (Obj.mk (Value.type "function") none (Data.func (FuncData.mk (Str.ofString "law") (Str.ofString "law") (pA (pS 40)) (FuncBody.stmts (pB (pS 40))) (pSc (pS 40)) 3 [] Value.none Value.none Value.none (Value.str (Str.ofString "law_sq0031_01") 608) none (Value.ref 324) Value.none 0)) #[])
noncomputable def heap_46 (P : Params) : Heap := (Heap.mk (Array.mk [(boot_o_0 P), (boot_o_1 P), (boot_o_2 P), (boot_o_3 P), (boot_o_4 P), (boot_o_5 P), (boot_o_6 P), (boot_o_7 P), (boot_o_8 P), (boot_o_9 P), (boot_o_10 P), (o_43 P), (o_44 P), (o_45 P), (o_46 P)]) (Life.mk [] [] [] 0 [] [] false #[] [] 0 false false false 0 [2000, 10, 10] false 0 true [] [] 0 false))
noncomputable def tree_46 (P : Params) : BT := (BT.node (boot_o_0 P) (BT.node (boot_o_1 P) (BT.node (boot_o_3 P) (BT.node (boot_o_7 P) BT.nil BT.nil) (BT.node (o_43 P) BT.nil BT.nil)) (BT.node (boot_o_5 P) (BT.node (boot_o_9 P) BT.nil BT.nil) (BT.node (o_45 P) BT.nil BT.nil))) (BT.node (boot_o_2 P) (BT.node (boot_o_4 P) (BT.node (boot_o_8 P) BT.nil BT.nil) (BT.node (o_44 P) BT.nil BT.nil)) (BT.node (boot_o_6 P) (BT.node (boot_o_10 P) BT.nil BT.nil) (BT.node (o_46 P) BT.nil BT.nil))))
noncomputable def tree_76 (P : Params) : BT := (BT.node (boot_o_0 P) (BT.node (boot_o_1 P) (BT.node (o_47 P) (BT.node (boot_o_7 P) (BT.node (o_49 P) (BT.node (o_65 P) BT.nil BT.nil) BT.nil) (BT.node (o_57 P) (BT.node (o_73 P) BT.nil BT.nil) BT.nil)) (BT.node (o_43 P) (BT.node (o_53 P) (BT.node (o_69 P) BT.nil BT.nil) BT.nil) (BT.node (o_61 P) BT.nil BT.nil))) (BT.node (boot_o_5 P) (BT.node (boot_o_9 P) (BT.node (o_51 P) (BT.node (o_67 P) BT.nil BT.nil) BT.nil) (BT.node (o_59 P) (BT.node (o_75 P) BT.nil BT.nil) BT.nil)) (BT.node (o_45 P) (BT.node (o_55 P) (BT.node (o_71 P) BT.nil BT.nil) BT.nil) (BT.node (o_63 P) BT.nil BT.nil)))) (BT.node (boot_o_2 P) (BT.node (boot_o_4 P) (BT.node (boot_o_8 P) (BT.node (o_50 P) (BT.node (o_66 P) BT.nil BT.nil) BT.nil) (BT.node (o_58 P) (BT.node (o_74 P) BT.nil BT.nil) BT.nil)) (BT.node (o_48 P) (BT.node (o_54 P) (BT.node (o_70 P) BT.nil BT.nil) BT.nil) (BT.node (o_62 P) BT.nil BT.nil))) (BT.node (boot_o_6 P) (BT.node (boot_o_10 P) (BT.node (o_52 P) (BT.node (o_68 P) BT.nil BT.nil) BT.nil) (BT.node (o_60 P) (BT.node (o_76 P) BT.nil BT.nil) BT.nil)) (BT.node (o_46 P) (BT.node (o_56 P) (BT.node (o_72 P) BT.nil BT.nil) BT.nil) (BT.node (o_64 P) BT.nil BT.nil)))))
noncomputable def tree_91 (P : Params) : BT := (BT.node (boot_o_0 P) (BT.node (boot_o_1 P) (BT.node (o_77 P) (BT.node (boot_o_7 P) (BT.node (o_49 P) (BT.node (o_65 P) BT.nil BT.nil) (BT.node (o_84 P) BT.nil BT.nil)) (BT.node (o_57 P) (BT.node (o_79 P) BT.nil BT.nil) BT.nil)) (BT.node (o_43 P) (BT.node (o_53 P) (BT.node (o_69 P) BT.nil BT.nil) (BT.node (o_88 P) BT.nil BT.nil)) (BT.node (o_61 P) (BT.node (o_80 P) BT.nil BT.nil) BT.nil))) (BT.node (boot_o_5 P) (BT.node (boot_o_9 P) (BT.node (o_51 P) (BT.node (o_67 P) BT.nil BT.nil) (BT.node (o_86 P) BT.nil BT.nil)) (BT.node (o_59 P) (BT.node (o_75 P) BT.nil BT.nil) BT.nil)) (BT.node (o_45 P) (BT.node (o_55 P) (BT.node (o_71 P) BT.nil BT.nil) (BT.node (o_90 P) BT.nil BT.nil)) (BT.node (o_63 P) (BT.node (o_82 P) BT.nil BT.nil) BT.nil)))) (BT.node (boot_o_2 P) (BT.node (boot_o_4 P) (BT.node (boot_o_8 P) (BT.node (o_50 P) (BT.node (o_66 P) BT.nil BT.nil) (BT.node (o_85 P) BT.nil BT.nil)) (BT.node (o_58 P) (BT.node (o_74 P) BT.nil BT.nil) BT.nil)) (BT.node (o_78 P) (BT.node (o_54 P) (BT.node (o_70 P) BT.nil BT.nil) (BT.node (o_89 P) BT.nil BT.nil)) (BT.node (o_62 P) (BT.node (o_81 P) BT.nil BT.nil) BT.nil))) (BT.node (boot_o_6 P) (BT.node (boot_o_10 P) (BT.node (o_52 P) (BT.node (o_68 P) BT.nil BT.nil) (BT.node (o_87 P) BT.nil BT.nil)) (BT.node (o_60 P) (BT.node (o_76 P) BT.nil BT.nil) BT.nil)) (BT.node (o_46 P) (BT.node (o_56 P) (BT.node (o_72 P) BT.nil BT.nil) (BT.node (o_91 P) BT.nil BT.nil)) (BT.node (o_64 P) (BT.node (o_83 P) BT.nil BT.nil) BT.nil)))))
noncomputable def tree_106 (P : Params) : BT := (BT.node (boot_o_0 P) (BT.node (boot_o_1 P) (BT.node (o_92 P) (BT.node (boot_o_7 P) (BT.node (o_49 P) (BT.node (o_65 P) (BT.node (o_103 P) BT.nil BT.nil) BT.nil) (BT.node (o_84 P) BT.nil BT.nil)) (BT.node (o_57 P) (BT.node (o_94 P) BT.nil BT.nil) (BT.node (o_95 P) BT.nil BT.nil))) (BT.node (o_43 P) (BT.node (o_53 P) (BT.node (o_69 P) BT.nil BT.nil) (BT.node (o_88 P) BT.nil BT.nil)) (BT.node (o_61 P) (BT.node (o_80 P) BT.nil BT.nil) (BT.node (o_99 P) BT.nil BT.nil)))) (BT.node (boot_o_5 P) (BT.node (boot_o_9 P) (BT.node (o_51 P) (BT.node (o_67 P) (BT.node (o_105 P) BT.nil BT.nil) BT.nil) (BT.node (o_86 P) BT.nil BT.nil)) (BT.node (o_59 P) (BT.node (o_75 P) BT.nil BT.nil) (BT.node (o_97 P) BT.nil BT.nil))) (BT.node (o_45 P) (BT.node (o_55 P) (BT.node (o_71 P) BT.nil BT.nil) (BT.node (o_90 P) BT.nil BT.nil)) (BT.node (o_63 P) (BT.node (o_82 P) BT.nil BT.nil) (BT.node (o_101 P) BT.nil BT.nil))))) (BT.node (boot_o_2 P) (BT.node (boot_o_4 P) (BT.node (boot_o_8 P) (BT.node (o_50 P) (BT.node (o_66 P) (BT.node (o_104 P) BT.nil BT.nil) BT.nil) (BT.node (o_85 P) BT.nil BT.nil)) (BT.node (o_58 P) (BT.node (o_74 P) BT.nil BT.nil) (BT.node (o_96 P) BT.nil BT.nil))) (BT.node (o_93 P) (BT.node (o_54 P) (BT.node (o_70 P) BT.nil BT.nil) (BT.node (o_89 P) BT.nil BT.nil)) (BT.node (o_62 P) (BT.node (o_81 P) BT.nil BT.nil) (BT.node (o_100 P) BT.nil BT.nil)))) (BT.node (boot_o_6 P) (BT.node (boot_o_10 P) (BT.node (o_52 P) (BT.node (o_68 P) (BT.node (o_106 P) BT.nil BT.nil) BT.nil) (BT.node (o_87 P) BT.nil BT.nil)) (BT.node (o_60 P) (BT.node (o_76 P) BT.nil BT.nil) (BT.node (o_98 P) BT.nil BT.nil))) (BT.node (o_46 P) (BT.node (o_56 P) (BT.node (o_72 P) BT.nil BT.nil) (BT.node (o_91 P) BT.nil BT.nil)) (BT.node (o_64 P) (BT.node (o_83 P) BT.nil BT.nil) (BT.node (o_102 P) BT.nil BT.nil))))))
noncomputable def tree_121 (P : Params) : BT := (BT.node (boot_o_0 P) (BT.node (boot_o_1 P) (BT.node (o_107 P) (BT.node (boot_o_7 P) (BT.node (o_49 P) (BT.node (o_65 P) (BT.node (o_103 P) BT.nil BT.nil) BT.nil) (BT.node (o_84 P) BT.nil BT.nil)) (BT.node (o_57 P) (BT.node (o_109 P) (BT.node (o_114 P) BT.nil BT.nil) BT.nil) (BT.node (o_95 P) BT.nil BT.nil))) (BT.node (o_43 P) (BT.node (o_53 P) (BT.node (o_69 P) (BT.node (o_110 P) BT.nil BT.nil) BT.nil) (BT.node (o_88 P) BT.nil BT.nil)) (BT.node (o_61 P) (BT.node (o_80 P) (BT.node (o_118 P) BT.nil BT.nil) BT.nil) (BT.node (o_99 P) BT.nil BT.nil)))) (BT.node (boot_o_5 P) (BT.node (boot_o_9 P) (BT.node (o_51 P) (BT.node (o_67 P) (BT.node (o_105 P) BT.nil BT.nil) BT.nil) (BT.node (o_86 P) BT.nil BT.nil)) (BT.node (o_59 P) (BT.node (o_75 P) (BT.node (o_116 P) BT.nil BT.nil) BT.nil) (BT.node (o_97 P) BT.nil BT.nil))) (BT.node (o_45 P) (BT.node (o_55 P) (BT.node (o_71 P) (BT.node (o_112 P) BT.nil BT.nil) BT.nil) (BT.node (o_90 P) BT.nil BT.nil)) (BT.node (o_63 P) (BT.node (o_82 P) (BT.node (o_120 P) BT.nil BT.nil) BT.nil) (BT.node (o_101 P) BT.nil BT.nil))))) (BT.node (boot_o_2 P) (BT.node (boot_o_4 P) (BT.node (boot_o_8 P) (BT.node (o_50 P) (BT.node (o_66 P) (BT.node (o_104 P) BT.nil BT.nil) BT.nil) (BT.node (o_85 P) BT.nil BT.nil)) (BT.node (o_58 P) (BT.node (o_74 P) (BT.node (o_115 P) BT.nil BT.nil) BT.nil) (BT.node (o_96 P) BT.nil BT.nil))) (BT.node (o_108 P) (BT.node (o_54 P) (BT.node (o_70 P) (BT.node (o_111 P) BT.nil BT.nil) BT.nil) (BT.node (o_89 P) BT.nil BT.nil)) (BT.node (o_62 P) (BT.node (o_81 P) (BT.node (o_119 P) BT.nil BT.nil) BT.nil) (BT.node (o_100 P) BT.nil BT.nil)))) (BT.node (boot_o_6 P) (BT.node (boot_o_10 P) (BT.node (o_52 P) (BT.node (o_68 P) (BT.node (o_106 P) BT.nil BT.nil) BT.nil) (BT.node (o_87 P) BT.nil BT.nil)) (BT.node (o_60 P) (BT.node (o_76 P) (BT.node (o_117 P) BT.nil BT.nil) BT.nil) (BT.node (o_98 P) BT.nil BT.nil))) (BT.node (o_46 P) (BT.node (o_56 P) (BT.node (o_72 P) (BT.node (o_113 P) BT.nil BT.nil) BT.nil) (BT.node (o_91 P) BT.nil BT.nil)) (BT.node (o_64 P) (BT.node (o_83 P) (BT.node (o_121 P) BT.nil BT.nil) BT.nil) (BT.node (o_102 P) BT.nil BT.nil))))))
noncomputable def tree_143 (P : Params) : BT := (BT.node (boot_o_0 P) (BT.node (boot_o_1 P) (BT.node (o_122 P) (BT.node (boot_o_7 P) (BT.node (o_49 P) (BT.node (o_65 P) (BT.node (o_103 P) BT.nil BT.nil) (BT.node (o_141 P) BT.nil BT.nil)) (BT.node (o_84 P) (BT.node (o_125 P) BT.nil BT.nil) BT.nil)) (BT.node (o_57 P) (BT.node (o_124 P) (BT.node (o_114 P) BT.nil BT.nil) BT.nil) (BT.node (o_95 P) (BT.node (o_133 P) BT.nil BT.nil) BT.nil))) (BT.node (o_43 P) (BT.node (o_53 P) (BT.node (o_69 P) (BT.node (o_110 P) BT.nil BT.nil) BT.nil) (BT.node (o_88 P) (BT.node (o_129 P) BT.nil BT.nil) BT.nil)) (BT.node (o_61 P) (BT.node (o_80 P) (BT.node (o_118 P) BT.nil BT.nil) BT.nil) (BT.node (o_99 P) (BT.node (o_137 P) BT.nil BT.nil) BT.nil)))) (BT.node (boot_o_5 P) (BT.node (boot_o_9 P) (BT.node (o_51 P) (BT.node (o_67 P) (BT.node (o_105 P) BT.nil BT.nil) (BT.node (o_143 P) BT.nil BT.nil)) (BT.node (o_86 P) (BT.node (o_127 P) BT.nil BT.nil) BT.nil)) (BT.node (o_59 P) (BT.node (o_75 P) (BT.node (o_116 P) BT.nil BT.nil) BT.nil) (BT.node (o_97 P) (BT.node (o_135 P) BT.nil BT.nil) BT.nil))) (BT.node (o_45 P) (BT.node (o_55 P) (BT.node (o_71 P) (BT.node (o_112 P) BT.nil BT.nil) BT.nil) (BT.node (o_90 P) (BT.node (o_131 P) BT.nil BT.nil) BT.nil)) (BT.node (o_63 P) (BT.node (o_82 P) (BT.node (o_120 P) BT.nil BT.nil) BT.nil) (BT.node (o_101 P) (BT.node (o_139 P) BT.nil BT.nil) BT.nil))))) (BT.node (boot_o_2 P) (BT.node (boot_o_4 P) (BT.node (boot_o_8 P) (BT.node (o_50 P) (BT.node (o_66 P) (BT.node (o_104 P) BT.nil BT.nil) (BT.node (o_142 P) BT.nil BT.nil)) (BT.node (o_85 P) (BT.node (o_126 P) BT.nil BT.nil) BT.nil)) (BT.node (o_58 P) (BT.node (o_74 P) (BT.node (o_115 P) BT.nil BT.nil) BT.nil) (BT.node (o_96 P) (BT.node (o_134 P) BT.nil BT.nil) BT.nil))) (BT.node (o_123 P) (BT.node (o_54 P) (BT.node (o_70 P) (BT.node (o_111 P) BT.nil BT.nil) BT.nil) (BT.node (o_89 P) (BT.node (o_130 P) BT.nil BT.nil) BT.nil)) (BT.node (o_62 P) (BT.node (o_81 P) (BT.node (o_119 P) BT.nil BT.nil) BT.nil) (BT.node (o_100 P) (BT.node (o_138 P) BT.nil BT.nil) BT.nil)))) (BT.node (boot_o_6 P) (BT.node (boot_o_10 P) (BT.node (o_52 P) (BT.node (o_68 P) (BT.node (o_106 P) BT.nil BT.nil) BT.nil) (BT.node (o_87 P) (BT.node (o_128 P) BT.nil BT.nil) BT.nil)) (BT.node (o_60 P) (BT.node (o_76 P) (BT.node (o_117 P) BT.nil BT.nil) BT.nil) (BT.node (o_98 P) (BT.node (o_136 P) BT.nil BT.nil) BT.nil))) (BT.node (o_46 P) (BT.node (o_56 P) (BT.node (o_72 P) (BT.node (o_113 P) BT.nil BT.nil) BT.nil) (BT.node (o_91 P) (BT.node (o_132 P) BT.nil BT.nil) BT.nil)) (BT.node (o_64 P) (BT.node (o_83 P) (BT.node (o_121 P) BT.nil BT.nil) BT.nil) (BT.node (o_102 P) (BT.node (o_140 P) BT.nil BT.nil) BT.nil))))))
noncomputable def tree_152 (P : Params) : BT := (BT.node (boot_o_0 P) (BT.node (boot_o_1 P) (BT.node (o_144 P) (BT.node (boot_o_7 P) (BT.node (o_49 P) (BT.node (o_65 P) (BT.node (o_103 P) BT.nil BT.nil) (BT.node (o_141 P) BT.nil BT.nil)) (BT.node (o_84 P) (BT.node (o_125 P) BT.nil BT.nil) BT.nil)) (BT.node (o_57 P) (BT.node (o_124 P) (BT.node (o_114 P) BT.nil BT.nil) (BT.node (o_150 P) BT.nil BT.nil)) (BT.node (o_95 P) (BT.node (o_133 P) BT.nil BT.nil) BT.nil))) (BT.node (o_43 P) (BT.node (o_53 P) (BT.node (o_69 P) (BT.node (o_110 P) BT.nil BT.nil) (BT.node (o_146 P) BT.nil BT.nil)) (BT.node (o_88 P) (BT.node (o_129 P) BT.nil BT.nil) BT.nil)) (BT.node (o_61 P) (BT.node (o_80 P) (BT.node (o_118 P) BT.nil BT.nil) BT.nil) (BT.node (o_99 P) (BT.node (o_137 P) BT.nil BT.nil) BT.nil)))) (BT.node (boot_o_5 P) (BT.node (boot_o_9 P) (BT.node (o_51 P) (BT.node (o_67 P) (BT.node (o_105 P) BT.nil BT.nil) (BT.node (o_143 P) BT.nil BT.nil)) (BT.node (o_86 P) (BT.node (o_127 P) BT.nil BT.nil) BT.nil)) (BT.node (o_59 P) (BT.node (o_75 P) (BT.node (o_116 P) BT.nil BT.nil) (BT.node (o_152 P) BT.nil BT.nil)) (BT.node (o_97 P) (BT.node (o_135 P) BT.nil BT.nil) BT.nil))) (BT.node (o_45 P) (BT.node (o_55 P) (BT.node (o_71 P) (BT.node (o_112 P) BT.nil BT.nil) (BT.node (o_148 P) BT.nil BT.nil)) (BT.node (o_90 P) (BT.node (o_131 P) BT.nil BT.nil) BT.nil)) (BT.node (o_63 P) (BT.node (o_82 P) (BT.node (o_120 P) BT.nil BT.nil) BT.nil) (BT.node (o_101 P) (BT.node (o_139 P) BT.nil BT.nil) BT.nil))))) (BT.node (boot_o_2 P) (BT.node (boot_o_4 P) (BT.node (boot_o_8 P) (BT.node (o_50 P) (BT.node (o_66 P) (BT.node (o_104 P) BT.nil BT.nil) (BT.node (o_142 P) BT.nil BT.nil)) (BT.node (o_85 P) (BT.node (o_126 P) BT.nil BT.nil) BT.nil)) (BT.node (o_58 P) (BT.node (o_74 P) (BT.node (o_115 P) BT.nil BT.nil) (BT.node (o_151 P) BT.nil BT.nil)) (BT.node (o_96 P) (BT.node (o_134 P) BT.nil BT.nil) BT.nil))) (BT.node (o_123 P) (BT.node (o_54 P) (BT.node (o_70 P) (BT.node (o_111 P) BT.nil BT.nil) (BT.node (o_147 P) BT.nil BT.nil)) (BT.node (o_89 P) (BT.node (o_130 P) BT.nil BT.nil) BT.nil)) (BT.node (o_62 P) (BT.node (o_81 P) (BT.node (o_119 P) BT.nil BT.nil) BT.nil) (BT.node (o_100 P) (BT.node (o_138 P) BT.nil BT.nil) BT.nil)))) (BT.node (boot_o_6 P) (BT.node (boot_o_10 P) (BT.node (o_52 P) (BT.node (o_68 P) (BT.node (o_106 P) BT.nil BT.nil) (BT.node (o_145 P) BT.nil BT.nil)) (BT.node (o_87 P) (BT.node (o_128 P) BT.nil BT.nil) BT.nil)) (BT.node (o_60 P) (BT.node (o_76 P) (BT.node (o_117 P) BT.nil BT.nil) BT.nil) (BT.node (o_98 P) (BT.node (o_136 P) BT.nil BT.nil) BT.nil))) (BT.node (o_46 P) (BT.node (o_56 P) (BT.node (o_72 P) (BT.node (o_113 P) BT.nil BT.nil) (BT.node (o_149 P) BT.nil BT.nil)) (BT.node (o_91 P) (BT.node (o_132 P) BT.nil BT.nil) BT.nil)) (BT.node (o_64 P) (BT.node (o_83 P) (BT.node (o_121 P) BT.nil BT.nil) BT.nil) (BT.node (o_102 P) (BT.node (o_140 P) BT.nil BT.nil) BT.nil))))))
noncomputable def tree_174 (P : Params) : BT := (BT.node (boot_o_0 P) (BT.node (boot_o_1 P) (BT.node (o_153 P) (BT.node (boot_o_7 P) (BT.node (o_49 P) (BT.node (o_65 P) (BT.node (o_103 P) BT.nil BT.nil) (BT.node (o_141 P) BT.nil BT.nil)) (BT.node (o_84 P) (BT.node (o_125 P) BT.nil BT.nil) (BT.node (o_160 P) BT.nil BT.nil))) (BT.node (o_57 P) (BT.node (o_124 P) (BT.node (o_114 P) BT.nil BT.nil) (BT.node (o_150 P) BT.nil BT.nil)) (BT.node (o_95 P) (BT.node (o_133 P) BT.nil BT.nil) (BT.node (o_168 P) BT.nil BT.nil)))) (BT.node (o_43 P) (BT.node (o_53 P) (BT.node (o_69 P) (BT.node (o_110 P) BT.nil BT.nil) (BT.node (o_146 P) BT.nil BT.nil)) (BT.node (o_88 P) (BT.node (o_129 P) BT.nil BT.nil) (BT.node (o_164 P) BT.nil BT.nil))) (BT.node (o_61 P) (BT.node (o_80 P) (BT.node (o_118 P) BT.nil BT.nil) (BT.node (o_156 P) BT.nil BT.nil)) (BT.node (o_99 P) (BT.node (o_137 P) BT.nil BT.nil) (BT.node (o_172 P) BT.nil BT.nil))))) (BT.node (boot_o_5 P) (BT.node (boot_o_9 P) (BT.node (o_51 P) (BT.node (o_67 P) (BT.node (o_105 P) BT.nil BT.nil) (BT.node (o_143 P) BT.nil BT.nil)) (BT.node (o_86 P) (BT.node (o_127 P) BT.nil BT.nil) (BT.node (o_162 P) BT.nil BT.nil))) (BT.node (o_59 P) (BT.node (o_75 P) (BT.node (o_116 P) BT.nil BT.nil) (BT.node (o_152 P) BT.nil BT.nil)) (BT.node (o_97 P) (BT.node (o_135 P) BT.nil BT.nil) (BT.node (o_170 P) BT.nil BT.nil)))) (BT.node (o_45 P) (BT.node (o_55 P) (BT.node (o_71 P) (BT.node (o_112 P) BT.nil BT.nil) (BT.node (o_148 P) BT.nil BT.nil)) (BT.node (o_90 P) (BT.node (o_131 P) BT.nil BT.nil) (BT.node (o_166 P) BT.nil BT.nil))) (BT.node (o_63 P) (BT.node (o_82 P) (BT.node (o_120 P) BT.nil BT.nil) (BT.node (o_158 P) BT.nil BT.nil)) (BT.node (o_101 P) (BT.node (o_139 P) BT.nil BT.nil) (BT.node (o_174 P) BT.nil BT.nil)))))) (BT.node (boot_o_2 P) (BT.node (boot_o_4 P) (BT.node (boot_o_8 P) (BT.node (o_50 P) (BT.node (o_66 P) (BT.node (o_104 P) BT.nil BT.nil) (BT.node (o_142 P) BT.nil BT.nil)) (BT.node (o_85 P) (BT.node (o_126 P) BT.nil BT.nil) (BT.node (o_161 P) BT.nil BT.nil))) (BT.node (o_58 P) (BT.node (o_74 P) (BT.node (o_115 P) BT.nil BT.nil) (BT.node (o_151 P) BT.nil BT.nil)) (BT.node (o_96 P) (BT.node (o_134 P) BT.nil BT.nil) (BT.node (o_169 P) BT.nil BT.nil)))) (BT.node (o_154 P) (BT.node (o_54 P) (BT.node (o_70 P) (BT.node (o_111 P) BT.nil BT.nil) (BT.node (o_147 P) BT.nil BT.nil)) (BT.node (o_89 P) (BT.node (o_130 P) BT.nil BT.nil) (BT.node (o_165 P) BT.nil BT.nil))) (BT.node (o_62 P) (BT.node (o_81 P) (BT.node (o_119 P) BT.nil BT.nil) (BT.node (o_157 P) BT.nil BT.nil)) (BT.node (o_100 P) (BT.node (o_138 P) BT.nil BT.nil) (BT.node (o_173 P) BT.nil BT.nil))))) (BT.node (boot_o_6 P) (BT.node (boot_o_10 P) (BT.node (o_52 P) (BT.node (o_68 P) (BT.node (o_106 P) BT.nil BT.nil) (BT.node (o_145 P) BT.nil BT.nil)) (BT.node (o_87 P) (BT.node (o_128 P) BT.nil BT.nil) (BT.node (o_163 P) BT.nil BT.nil))) (BT.node (o_60 P) (BT.node (o_76 P) (BT.node (o_117 P) BT.nil BT.nil) (BT.node (o_155 P) BT.nil BT.nil)) (BT.node (o_98 P) (BT.node (o_136 P) BT.nil BT.nil) (BT.node (o_171 P) BT.nil BT.nil)))) (BT.node (o_46 P) (BT.node (o_56 P) (BT.node (o_72 P) (BT.node (o_113 P) BT.nil BT.nil) (BT.node (o_149 P) BT.nil BT.nil)) (BT.node (o_91 P) (BT.node (o_132 P) BT.nil BT.nil) (BT.node (o_167 P) BT.nil BT.nil))) (BT.node (o_64 P) (BT.node (o_83 P) (BT.node (o_121 P) BT.nil BT.nil) (BT.node (o_159 P) BT.nil BT.nil)) (BT.node (o_102 P) (BT.node (o_140 P) BT.nil BT.nil) BT.nil))))))
noncomputable def tree_234 (P : Params) : BT := (BT.node (boot_o_0 P) (BT.node (boot_o_1 P) (BT.node (o_175 P) (BT.node (boot_o_7 P) (BT.node (o_49 P) (BT.node (o_65 P) (BT.node (o_103 P) (BT.node (o_178 P) BT.nil BT.nil) BT.nil) (BT.node (o_141 P) (BT.node (o_210 P) BT.nil BT.nil) BT.nil)) (BT.node (o_84 P) (BT.node (o_125 P) (BT.node (o_194 P) BT.nil BT.nil) BT.nil) (BT.node (o_160 P) (BT.node (o_226 P) BT.nil BT.nil) BT.nil))) (BT.node (o_57 P) (BT.node (o_124 P) (BT.node (o_114 P) (BT.node (o_186 P) BT.nil BT.nil) BT.nil) (BT.node (o_150 P) (BT.node (o_218 P) BT.nil BT.nil) BT.nil)) (BT.node (o_95 P) (BT.node (o_133 P) (BT.node (o_202 P) BT.nil BT.nil) BT.nil) (BT.node (o_168 P) (BT.node (o_234 P) BT.nil BT.nil) BT.nil)))) (BT.node (o_43 P) (BT.node (o_53 P) (BT.node (o_69 P) (BT.node (o_110 P) (BT.node (o_182 P) BT.nil BT.nil) BT.nil) (BT.node (o_146 P) (BT.node (o_214 P) BT.nil BT.nil) BT.nil)) (BT.node (o_88 P) (BT.node (o_129 P) (BT.node (o_198 P) BT.nil BT.nil) BT.nil) (BT.node (o_164 P) (BT.node (o_230 P) BT.nil BT.nil) BT.nil))) (BT.node (o_61 P) (BT.node (o_80 P) (BT.node (o_118 P) (BT.node (o_190 P) BT.nil BT.nil) BT.nil) (BT.node (o_156 P) (BT.node (o_222 P) BT.nil BT.nil) BT.nil)) (BT.node (o_99 P) (BT.node (o_137 P) (BT.node (o_206 P) BT.nil BT.nil) BT.nil) (BT.node (o_172 P) BT.nil BT.nil))))) (BT.node (boot_o_5 P) (BT.node (boot_o_9 P) (BT.node (o_51 P) (BT.node (o_67 P) (BT.node (o_105 P) (BT.node (o_180 P) BT.nil BT.nil) BT.nil) (BT.node (o_143 P) (BT.node (o_212 P) BT.nil BT.nil) BT.nil)) (BT.node (o_86 P) (BT.node (o_127 P) (BT.node (o_196 P) BT.nil BT.nil) BT.nil) (BT.node (o_162 P) (BT.node (o_228 P) BT.nil BT.nil) BT.nil))) (BT.node (o_59 P) (BT.node (o_75 P) (BT.node (o_116 P) (BT.node (o_188 P) BT.nil BT.nil) BT.nil) (BT.node (o_152 P) (BT.node (o_220 P) BT.nil BT.nil) BT.nil)) (BT.node (o_97 P) (BT.node (o_135 P) (BT.node (o_204 P) BT.nil BT.nil) BT.nil) (BT.node (o_170 P) BT.nil BT.nil)))) (BT.node (o_45 P) (BT.node (o_55 P) (BT.node (o_71 P) (BT.node (o_112 P) (BT.node (o_184 P) BT.nil BT.nil) BT.nil) (BT.node (o_148 P) (BT.node (o_216 P) BT.nil BT.nil) BT.nil)) (BT.node (o_90 P) (BT.node (o_131 P) (BT.node (o_200 P) BT.nil BT.nil) BT.nil) (BT.node (o_166 P) (BT.node (o_232 P) BT.nil BT.nil) BT.nil))) (BT.node (o_63 P) (BT.node (o_82 P) (BT.node (o_120 P) (BT.node (o_192 P) BT.nil BT.nil) BT.nil) (BT.node (o_158 P) (BT.node (o_224 P) BT.nil BT.nil) BT.nil)) (BT.node (o_101 P) (BT.node (o_139 P) (BT.node (o_208 P) BT.nil BT.nil) BT.nil) (BT.node (o_174 P) BT.nil BT.nil)))))) (BT.node (boot_o_2 P) (BT.node (boot_o_4 P) (BT.node (boot_o_8 P) (BT.node (o_50 P) (BT.node (o_66 P) (BT.node (o_104 P) (BT.node (o_179 P) BT.nil BT.nil) BT.nil) (BT.node (o_142 P) (BT.node (o_211 P) BT.nil BT.nil) BT.nil)) (BT.node (o_85 P) (BT.node (o_126 P) (BT.node (o_195 P) BT.nil BT.nil) BT.nil) (BT.node (o_161 P) (BT.node (o_227 P) BT.nil BT.nil) BT.nil))) (BT.node (o_58 P) (BT.node (o_74 P) (BT.node (o_115 P) (BT.node (o_187 P) BT.nil BT.nil) BT.nil) (BT.node (o_151 P) (BT.node (o_219 P) BT.nil BT.nil) BT.nil)) (BT.node (o_96 P) (BT.node (o_134 P) (BT.node (o_203 P) BT.nil BT.nil) BT.nil) (BT.node (o_169 P) BT.nil BT.nil)))) (BT.node (o_176 P) (BT.node (o_54 P) (BT.node (o_70 P) (BT.node (o_111 P) (BT.node (o_183 P) BT.nil BT.nil) BT.nil) (BT.node (o_147 P) (BT.node (o_215 P) BT.nil BT.nil) BT.nil)) (BT.node (o_89 P) (BT.node (o_130 P) (BT.node (o_199 P) BT.nil BT.nil) BT.nil) (BT.node (o_165 P) (BT.node (o_231 P) BT.nil BT.nil) BT.nil))) (BT.node (o_62 P) (BT.node (o_81 P) (BT.node (o_119 P) (BT.node (o_191 P) BT.nil BT.nil) BT.nil) (BT.node (o_157 P) (BT.node (o_223 P) BT.nil BT.nil) BT.nil)) (BT.node (o_100 P) (BT.node (o_138 P) (BT.node (o_207 P) BT.nil BT.nil) BT.nil) (BT.node (o_173 P) BT.nil BT.nil))))) (BT.node (boot_o_6 P) (BT.node (boot_o_10 P) (BT.node (o_52 P) (BT.node (o_68 P) (BT.node (o_106 P) (BT.node (o_181 P) BT.nil BT.nil) BT.nil) (BT.node (o_145 P) (BT.node (o_213 P) BT.nil BT.nil) BT.nil)) (BT.node (o_87 P) (BT.node (o_128 P) (BT.node (o_197 P) BT.nil BT.nil) BT.nil) (BT.node (o_163 P) (BT.node (o_229 P) BT.nil BT.nil) BT.nil))) (BT.node (o_60 P) (BT.node (o_76 P) (BT.node (o_117 P) (BT.node (o_189 P) BT.nil BT.nil) BT.nil) (BT.node (o_155 P) (BT.node (o_221 P) BT.nil BT.nil) BT.nil)) (BT.node (o_98 P) (BT.node (o_136 P) (BT.node (o_205 P) BT.nil BT.nil) BT.nil) (BT.node (o_171 P) BT.nil BT.nil)))) (BT.node (o_46 P) (BT.node (o_56 P) (BT.node (o_72 P) (BT.node (o_113 P) (BT.node (o_185 P) BT.nil BT.nil) BT.nil) (BT.node (o_149 P) (BT.node (o_217 P) BT.nil BT.nil) BT.nil)) (BT.node (o_91 P) (BT.node (o_132 P) (BT.node (o_201 P) BT.nil BT.nil) BT.nil) (BT.node (o_167 P) (BT.node (o_233 P) BT.nil BT.nil) BT.nil))) (BT.node (o_64 P) (BT.node (o_83 P) (BT.node (o_121 P) (BT.node (o_193 P) BT.nil BT.nil) BT.nil) (BT.node (o_159 P) (BT.node (o_225 P) BT.nil BT.nil) BT.nil)) (BT.node (o_102 P) (BT.node (o_140 P) (BT.node (o_209 P) BT.nil BT.nil) BT.nil) (BT.node (o_177 P) BT.nil BT.nil)))))))
noncomputable def tree_285 (P : Params) : BT := (BT.node (boot_o_0 P) (BT.node (boot_o_1 P) (BT.node (o_235 P) (BT.node (boot_o_7 P) (BT.node (o_49 P) (BT.node (o_65 P) (BT.node (o_103 P) (BT.node (o_178 P) BT.nil BT.nil) (BT.node (o_244 P) BT.nil BT.nil)) (BT.node (o_141 P) (BT.node (o_210 P) BT.nil BT.nil) (BT.node (o_276 P) BT.nil BT.nil))) (BT.node (o_84 P) (BT.node (o_125 P) (BT.node (o_194 P) BT.nil BT.nil) (BT.node (o_260 P) BT.nil BT.nil)) (BT.node (o_160 P) (BT.node (o_226 P) BT.nil BT.nil) BT.nil))) (BT.node (o_57 P) (BT.node (o_124 P) (BT.node (o_114 P) (BT.node (o_186 P) BT.nil BT.nil) (BT.node (o_252 P) BT.nil BT.nil)) (BT.node (o_150 P) (BT.node (o_218 P) BT.nil BT.nil) (BT.node (o_284 P) BT.nil BT.nil))) (BT.node (o_95 P) (BT.node (o_133 P) (BT.node (o_202 P) BT.nil BT.nil) (BT.node (o_268 P) BT.nil BT.nil)) (BT.node (o_168 P) (BT.node (o_234 P) BT.nil BT.nil) BT.nil)))) (BT.node (o_43 P) (BT.node (o_53 P) (BT.node (o_69 P) (BT.node (o_110 P) (BT.node (o_182 P) BT.nil BT.nil) (BT.node (o_248 P) BT.nil BT.nil)) (BT.node (o_146 P) (BT.node (o_214 P) BT.nil BT.nil) (BT.node (o_280 P) BT.nil BT.nil))) (BT.node (o_88 P) (BT.node (o_129 P) (BT.node (o_198 P) BT.nil BT.nil) (BT.node (o_264 P) BT.nil BT.nil)) (BT.node (o_164 P) (BT.node (o_230 P) BT.nil BT.nil) BT.nil))) (BT.node (o_61 P) (BT.node (o_80 P) (BT.node (o_118 P) (BT.node (o_190 P) BT.nil BT.nil) (BT.node (o_256 P) BT.nil BT.nil)) (BT.node (o_156 P) (BT.node (o_222 P) BT.nil BT.nil) BT.nil)) (BT.node (o_99 P) (BT.node (o_137 P) (BT.node (o_206 P) BT.nil BT.nil) (BT.node (o_272 P) BT.nil BT.nil)) (BT.node (o_172 P) (BT.node (o_240 P) BT.nil BT.nil) BT.nil))))) (BT.node (boot_o_5 P) (BT.node (boot_o_9 P) (BT.node (o_51 P) (BT.node (o_67 P) (BT.node (o_105 P) (BT.node (o_180 P) BT.nil BT.nil) (BT.node (o_246 P) BT.nil BT.nil)) (BT.node (o_143 P) (BT.node (o_212 P) BT.nil BT.nil) (BT.node (o_278 P) BT.nil BT.nil))) (BT.node (o_86 P) (BT.node (o_127 P) (BT.node (o_196 P) BT.nil BT.nil) (BT.node (o_262 P) BT.nil BT.nil)) (BT.node (o_162 P) (BT.node (o_228 P) BT.nil BT.nil) BT.nil))) (BT.node (o_59 P) (BT.node (o_75 P) (BT.node (o_116 P) (BT.node (o_188 P) BT.nil BT.nil) (BT.node (o_254 P) BT.nil BT.nil)) (BT.node (o_152 P) (BT.node (o_220 P) BT.nil BT.nil) BT.nil)) (BT.node (o_97 P) (BT.node (o_135 P) (BT.node (o_204 P) BT.nil BT.nil) (BT.node (o_270 P) BT.nil BT.nil)) (BT.node (o_170 P) (BT.node (o_238 P) BT.nil BT.nil) BT.nil)))) (BT.node (o_45 P) (BT.node (o_55 P) (BT.node (o_71 P) (BT.node (o_112 P) (BT.node (o_184 P) BT.nil BT.nil) (BT.node (o_250 P) BT.nil BT.nil)) (BT.node (o_148 P) (BT.node (o_216 P) BT.nil BT.nil) (BT.node (o_282 P) BT.nil BT.nil))) (BT.node (o_90 P) (BT.node (o_131 P) (BT.node (o_200 P) BT.nil BT.nil) (BT.node (o_266 P) BT.nil BT.nil)) (BT.node (o_166 P) (BT.node (o_232 P) BT.nil BT.nil) BT.nil))) (BT.node (o_63 P) (BT.node (o_82 P) (BT.node (o_120 P) (BT.node (o_192 P) BT.nil BT.nil) (BT.node (o_258 P) BT.nil BT.nil)) (BT.node (o_158 P) (BT.node (o_224 P) BT.nil BT.nil) BT.nil)) (BT.node (o_101 P) (BT.node (o_139 P) (BT.node (o_208 P) BT.nil BT.nil) (BT.node (o_274 P) BT.nil BT.nil)) (BT.node (o_174 P) (BT.node (o_242 P) BT.nil BT.nil) BT.nil)))))) (BT.node (boot_o_2 P) (BT.node (boot_o_4 P) (BT.node (boot_o_8 P) (BT.node (o_50 P) (BT.node (o_66 P) (BT.node (o_104 P) (BT.node (o_179 P) BT.nil BT.nil) (BT.node (o_245 P) BT.nil BT.nil)) (BT.node (o_142 P) (BT.node (o_211 P) BT.nil BT.nil) (BT.node (o_277 P) BT.nil BT.nil))) (BT.node (o_85 P) (BT.node (o_126 P) (BT.node (o_195 P) BT.nil BT.nil) (BT.node (o_261 P) BT.nil BT.nil)) (BT.node (o_161 P) (BT.node (o_227 P) BT.nil BT.nil) BT.nil))) (BT.node (o_58 P) (BT.node (o_74 P) (BT.node (o_115 P) (BT.node (o_187 P) BT.nil BT.nil) (BT.node (o_253 P) BT.nil BT.nil)) (BT.node (o_151 P) (BT.node (o_219 P) BT.nil BT.nil) (BT.node (o_285 P) BT.nil BT.nil))) (BT.node (o_96 P) (BT.node (o_134 P) (BT.node (o_203 P) BT.nil BT.nil) (BT.node (o_269 P) BT.nil BT.nil)) (BT.node (o_169 P) (BT.node (o_237 P) BT.nil BT.nil) BT.nil)))) (BT.node (o_236 P) (BT.node (o_54 P) (BT.node (o_70 P) (BT.node (o_111 P) (BT.node (o_183 P) BT.nil BT.nil) (BT.node (o_249 P) BT.nil BT.nil)) (BT.node (o_147 P) (BT.node (o_215 P) BT.nil BT.nil) (BT.node (o_281 P) BT.nil BT.nil))) (BT.node (o_89 P) (BT.node (o_130 P) (BT.node (o_199 P) BT.nil BT.nil) (BT.node (o_265 P) BT.nil BT.nil)) (BT.node (o_165 P) (BT.node (o_231 P) BT.nil BT.nil) BT.nil))) (BT.node (o_62 P) (BT.node (o_81 P) (BT.node (o_119 P) (BT.node (o_191 P) BT.nil BT.nil) (BT.node (o_257 P) BT.nil BT.nil)) (BT.node (o_157 P) (BT.node (o_223 P) BT.nil BT.nil) BT.nil)) (BT.node (o_100 P) (BT.node (o_138 P) (BT.node (o_207 P) BT.nil BT.nil) (BT.node (o_273 P) BT.nil BT.nil)) (BT.node (o_173 P) (BT.node (o_241 P) BT.nil BT.nil) BT.nil))))) (BT.node (boot_o_6 P) (BT.node (boot_o_10 P) (BT.node (o_52 P) (BT.node (o_68 P) (BT.node (o_106 P) (BT.node (o_181 P) BT.nil BT.nil) (BT.node (o_247 P) BT.nil BT.nil)) (BT.node (o_145 P) (BT.node (o_213 P) BT.nil BT.nil) (BT.node (o_279 P) BT.nil BT.nil))) (BT.node (o_87 P) (BT.node (o_128 P) (BT.node (o_197 P) BT.nil BT.nil) (BT.node (o_263 P) BT.nil BT.nil)) (BT.node (o_163 P) (BT.node (o_229 P) BT.nil BT.nil) BT.nil))) (BT.node (o_60 P) (BT.node (o_76 P) (BT.node (o_117 P) (BT.node (o_189 P) BT.nil BT.nil) (BT.node (o_255 P) BT.nil BT.nil)) (BT.node (o_155 P) (BT.node (o_221 P) BT.nil BT.nil) BT.nil)) (BT.node (o_98 P) (BT.node (o_136 P) (BT.node (o_205 P) BT.nil BT.nil) (BT.node (o_271 P) BT.nil BT.nil)) (BT.node (o_171 P) (BT.node (o_239 P) BT.nil BT.nil) BT.nil)))) (BT.node (o_46 P) (BT.node (o_56 P) (BT.node (o_72 P) (BT.node (o_113 P) (BT.node (o_185 P) BT.nil BT.nil) (BT.node (o_251 P) BT.nil BT.nil)) (BT.node (o_149 P) (BT.node (o_217 P) BT.nil BT.nil) (BT.node (o_283 P) BT.nil BT.nil))) (BT.node (o_91 P) (BT.node (o_132 P) (BT.node (o_201 P) BT.nil BT.nil) (BT.node (o_267 P) BT.nil BT.nil)) (BT.node (o_167 P) (BT.node (o_233 P) BT.nil BT.nil) BT.nil))) (BT.node (o_64 P) (BT.node (o_83 P) (BT.node (o_121 P) (BT.node (o_193 P) BT.nil BT.nil) (BT.node (o_259 P) BT.nil BT.nil)) (BT.node (o_159 P) (BT.node (o_225 P) BT.nil BT.nil) BT.nil)) (BT.node (o_102 P) (BT.node (o_140 P) (BT.node (o_209 P) BT.nil BT.nil) (BT.node (o_275 P) BT.nil BT.nil)) (BT.node (o_177 P) (BT.node (o_243 P) BT.nil BT.nil) BT.nil)))))))
noncomputable def tree_361 (P : Params) : BT := (BT.node (boot_o_0 P) (BT.node (boot_o_1 P) (BT.node (o_286 P) (BT.node (boot_o_7 P) (BT.node (o_49 P) (BT.node (o_65 P) (BT.node (o_103 P) (BT.node (o_178 P) (BT.node (o_310 P) BT.nil BT.nil) BT.nil) (BT.node (o_244 P) BT.nil BT.nil)) (BT.node (o_141 P) (BT.node (o_210 P) (BT.node (o_342 P) BT.nil BT.nil) BT.nil) (BT.node (o_276 P) BT.nil BT.nil))) (BT.node (o_84 P) (BT.node (o_125 P) (BT.node (o_194 P) (BT.node (o_326 P) BT.nil BT.nil) BT.nil) (BT.node (o_260 P) BT.nil BT.nil)) (BT.node (o_160 P) (BT.node (o_226 P) (BT.node (o_358 P) BT.nil BT.nil) BT.nil) (BT.node (o_294 P) BT.nil BT.nil)))) (BT.node (o_57 P) (BT.node (o_124 P) (BT.node (o_114 P) (BT.node (o_186 P) (BT.node (o_318 P) BT.nil BT.nil) BT.nil) (BT.node (o_252 P) BT.nil BT.nil)) (BT.node (o_150 P) (BT.node (o_218 P) (BT.node (o_350 P) BT.nil BT.nil) BT.nil) (BT.node (o_284 P) BT.nil BT.nil))) (BT.node (o_95 P) (BT.node (o_133 P) (BT.node (o_202 P) (BT.node (o_334 P) BT.nil BT.nil) BT.nil) (BT.node (o_268 P) BT.nil BT.nil)) (BT.node (o_168 P) (BT.node (o_234 P) BT.nil BT.nil) (BT.node (o_302 P) BT.nil BT.nil))))) (BT.node (o_43 P) (BT.node (o_53 P) (BT.node (o_69 P) (BT.node (o_110 P) (BT.node (o_182 P) (BT.node (o_314 P) BT.nil BT.nil) BT.nil) (BT.node (o_248 P) BT.nil BT.nil)) (BT.node (o_146 P) (BT.node (o_214 P) (BT.node (o_346 P) BT.nil BT.nil) BT.nil) (BT.node (o_280 P) BT.nil BT.nil))) (BT.node (o_88 P) (BT.node (o_129 P) (BT.node (o_198 P) (BT.node (o_330 P) BT.nil BT.nil) BT.nil) (BT.node (o_264 P) BT.nil BT.nil)) (BT.node (o_164 P) (BT.node (o_230 P) BT.nil BT.nil) (BT.node (o_298 P) BT.nil BT.nil)))) (BT.node (o_61 P) (BT.node (o_80 P) (BT.node (o_118 P) (BT.node (o_190 P) (BT.node (o_322 P) BT.nil BT.nil) BT.nil) (BT.node (o_256 P) BT.nil BT.nil)) (BT.node (o_156 P) (BT.node (o_222 P) (BT.node (o_354 P) BT.nil BT.nil) BT.nil) (BT.node (o_290 P) BT.nil BT.nil))) (BT.node (o_99 P) (BT.node (o_137 P) (BT.node (o_206 P) (BT.node (o_338 P) BT.nil BT.nil) BT.nil) (BT.node (o_272 P) BT.nil BT.nil)) (BT.node (o_172 P) (BT.node (o_240 P) BT.nil BT.nil) (BT.node (o_306 P) BT.nil BT.nil)))))) (BT.node (boot_o_5 P) (BT.node (boot_o_9 P) (BT.node (o_51 P) (BT.node (o_67 P) (BT.node (o_105 P) (BT.node (o_180 P) (BT.node (o_312 P) BT.nil BT.nil) BT.nil) (BT.node (o_246 P) BT.nil BT.nil)) (BT.node (o_143 P) (BT.node (o_212 P) (BT.node (o_344 P) BT.nil BT.nil) BT.nil) (BT.node (o_278 P) BT.nil BT.nil))) (BT.node (o_86 P) (BT.node (o_127 P) (BT.node (o_196 P) (BT.node (o_328 P) BT.nil BT.nil) BT.nil) (BT.node (o_262 P) BT.nil BT.nil)) (BT.node (o_162 P) (BT.node (o_228 P) (BT.node (o_360 P) BT.nil BT.nil) BT.nil) (BT.node (o_296 P) BT.nil BT.nil)))) (BT.node (o_59 P) (BT.node (o_75 P) (BT.node (o_116 P) (BT.node (o_188 P) (BT.node (o_320 P) BT.nil BT.nil) BT.nil) (BT.node (o_254 P) BT.nil BT.nil)) (BT.node (o_152 P) (BT.node (o_220 P) (BT.node (o_352 P) BT.nil BT.nil) BT.nil) (BT.node (o_288 P) BT.nil BT.nil))) (BT.node (o_97 P) (BT.node (o_135 P) (BT.node (o_204 P) (BT.node (o_336 P) BT.nil BT.nil) BT.nil) (BT.node (o_270 P) BT.nil BT.nil)) (BT.node (o_170 P) (BT.node (o_238 P) BT.nil BT.nil) (BT.node (o_304 P) BT.nil BT.nil))))) (BT.node (o_45 P) (BT.node (o_55 P) (BT.node (o_71 P) (BT.node (o_112 P) (BT.node (o_184 P) (BT.node (o_316 P) BT.nil BT.nil) BT.nil) (BT.node (o_250 P) BT.nil BT.nil)) (BT.node (o_148 P) (BT.node (o_216 P) (BT.node (o_348 P) BT.nil BT.nil) BT.nil) (BT.node (o_282 P) BT.nil BT.nil))) (BT.node (o_90 P) (BT.node (o_131 P) (BT.node (o_200 P) (BT.node (o_332 P) BT.nil BT.nil) BT.nil) (BT.node (o_266 P) BT.nil BT.nil)) (BT.node (o_166 P) (BT.node (o_232 P) BT.nil BT.nil) (BT.node (o_300 P) BT.nil BT.nil)))) (BT.node (o_63 P) (BT.node (o_82 P) (BT.node (o_120 P) (BT.node (o_192 P) (BT.node (o_324 P) BT.nil BT.nil) BT.nil) (BT.node (o_258 P) BT.nil BT.nil)) (BT.node (o_158 P) (BT.node (o_224 P) (BT.node (o_356 P) BT.nil BT.nil) BT.nil) (BT.node (o_292 P) BT.nil BT.nil))) (BT.node (o_101 P) (BT.node (o_139 P) (BT.node (o_208 P) (BT.node (o_340 P) BT.nil BT.nil) BT.nil) (BT.node (o_274 P) BT.nil BT.nil)) (BT.node (o_174 P) (BT.node (o_242 P) BT.nil BT.nil) (BT.node (o_308 P) BT.nil BT.nil))))))) (BT.node (boot_o_2 P) (BT.node (boot_o_4 P) (BT.node (boot_o_8 P) (BT.node (o_50 P) (BT.node (o_66 P) (BT.node (o_104 P) (BT.node (o_179 P) (BT.node (o_311 P) BT.nil BT.nil) BT.nil) (BT.node (o_245 P) BT.nil BT.nil)) (BT.node (o_142 P) (BT.node (o_211 P) (BT.node (o_343 P) BT.nil BT.nil) BT.nil) (BT.node (o_277 P) BT.nil BT.nil))) (BT.node (o_85 P) (BT.node (o_126 P) (BT.node (o_195 P) (BT.node (o_327 P) BT.nil BT.nil) BT.nil) (BT.node (o_261 P) BT.nil BT.nil)) (BT.node (o_161 P) (BT.node (o_227 P) (BT.node (o_359 P) BT.nil BT.nil) BT.nil) (BT.node (o_295 P) BT.nil BT.nil)))) (BT.node (o_58 P) (BT.node (o_74 P) (BT.node (o_115 P) (BT.node (o_187 P) (BT.node (o_319 P) BT.nil BT.nil) BT.nil) (BT.node (o_253 P) BT.nil BT.nil)) (BT.node (o_151 P) (BT.node (o_219 P) (BT.node (o_351 P) BT.nil BT.nil) BT.nil) (BT.node (o_285 P) BT.nil BT.nil))) (BT.node (o_96 P) (BT.node (o_134 P) (BT.node (o_203 P) (BT.node (o_335 P) BT.nil BT.nil) BT.nil) (BT.node (o_269 P) BT.nil BT.nil)) (BT.node (o_169 P) (BT.node (o_237 P) BT.nil BT.nil) (BT.node (o_303 P) BT.nil BT.nil))))) (BT.node (o_287 P) (BT.node (o_54 P) (BT.node (o_70 P) (BT.node (o_111 P) (BT.node (o_183 P) (BT.node (o_315 P) BT.nil BT.nil) BT.nil) (BT.node (o_249 P) BT.nil BT.nil)) (BT.node (o_147 P) (BT.node (o_215 P) (BT.node (o_347 P) BT.nil BT.nil) BT.nil) (BT.node (o_281 P) BT.nil BT.nil))) (BT.node (o_89 P) (BT.node (o_130 P) (BT.node (o_199 P) (BT.node (o_331 P) BT.nil BT.nil) BT.nil) (BT.node (o_265 P) BT.nil BT.nil)) (BT.node (o_165 P) (BT.node (o_231 P) BT.nil BT.nil) (BT.node (o_299 P) BT.nil BT.nil)))) (BT.node (o_62 P) (BT.node (o_81 P) (BT.node (o_119 P) (BT.node (o_191 P) (BT.node (o_323 P) BT.nil BT.nil) BT.nil) (BT.node (o_257 P) BT.nil BT.nil)) (BT.node (o_157 P) (BT.node (o_223 P) (BT.node (o_355 P) BT.nil BT.nil) BT.nil) (BT.node (o_291 P) BT.nil BT.nil))) (BT.node (o_100 P) (BT.node (o_138 P) (BT.node (o_207 P) (BT.node (o_339 P) BT.nil BT.nil) BT.nil) (BT.node (o_273 P) BT.nil BT.nil)) (BT.node (o_173 P) (BT.node (o_241 P) BT.nil BT.nil) (BT.node (o_307 P) BT.nil BT.nil)))))) (BT.node (boot_o_6 P) (BT.node (boot_o_10 P) (BT.node (o_52 P) (BT.node (o_68 P) (BT.node (o_106 P) (BT.node (o_181 P) (BT.node (o_313 P) BT.nil BT.nil) BT.nil) (BT.node (o_247 P) BT.nil BT.nil)) (BT.node (o_145 P) (BT.node (o_213 P) (BT.node (o_345 P) BT.nil BT.nil) BT.nil) (BT.node (o_279 P) BT.nil BT.nil))) (BT.node (o_87 P) (BT.node (o_128 P) (BT.node (o_197 P) (BT.node (o_329 P) BT.nil BT.nil) BT.nil) (BT.node (o_263 P) BT.nil BT.nil)) (BT.node (o_163 P) (BT.node (o_229 P) (BT.node (o_361 P) BT.nil BT.nil) BT.nil) (BT.node (o_297 P) BT.nil BT.nil)))) (BT.node (o_60 P) (BT.node (o_76 P) (BT.node (o_117 P) (BT.node (o_189 P) (BT.node (o_321 P) BT.nil BT.nil) BT.nil) (BT.node (o_255 P) BT.nil BT.nil)) (BT.node (o_155 P) (BT.node (o_221 P) (BT.node (o_353 P) BT.nil BT.nil) BT.nil) (BT.node (o_289 P) BT.nil BT.nil))) (BT.node (o_98 P) (BT.node (o_136 P) (BT.node (o_205 P) (BT.node (o_337 P) BT.nil BT.nil) BT.nil) (BT.node (o_271 P) BT.nil BT.nil)) (BT.node (o_171 P) (BT.node (o_239 P) BT.nil BT.nil) (BT.node (o_305 P) BT.nil BT.nil))))) (BT.node (o_46 P) (BT.node (o_56 P) (BT.node (o_72 P) (BT.node (o_113 P) (BT.node (o_185 P) (BT.node (o_317 P) BT.nil BT.nil) BT.nil) (BT.node (o_251 P) BT.nil BT.nil)) (BT.node (o_149 P) (BT.node (o_217 P) (BT.node (o_349 P) BT.nil BT.nil) BT.nil) (BT.node (o_283 P) BT.nil BT.nil))) (BT.node (o_91 P) (BT.node (o_132 P) (BT.node (o_201 P) (BT.node (o_333 P) BT.nil BT.nil) BT.nil) (BT.node (o_267 P) BT.nil BT.nil)) (BT.node (o_167 P) (BT.node (o_233 P) BT.nil BT.nil) (BT.node (o_301 P) BT.nil BT.nil)))) (BT.node (o_64 P) (BT.node (o_83 P) (BT.node (o_121 P) (BT.node (o_193 P) (BT.node (o_325 P) BT.nil BT.nil) BT.nil) (BT.node (o_259 P) BT.nil BT.nil)) (BT.node (o_159 P) (BT.node (o_225 P) (BT.node (o_357 P) BT.nil BT.nil) BT.nil) (BT.node (o_293 P) BT.nil BT.nil))) (BT.node (o_102 P) (BT.node (o_140 P) (BT.node (o_209 P) (BT.node (o_341 P) BT.nil BT.nil) BT.nil) (BT.node (o_275 P) BT.nil BT.nil)) (BT.node (o_177 P) (BT.node (o_243 P) BT.nil BT.nil) (BT.node (o_309 P) BT.nil BT.nil))))))))
noncomputable def heap_382 (P : Params) : Heap := (Heap.mk (Array.mk [(boot_o_0 P), (boot_o_1 P), (boot_o_2 P), (o_362 P), (boot_o_4 P), (boot_o_5 P), (boot_o_6 P), (boot_o_7 P), (boot_o_8 P), (boot_o_9 P), (boot_o_10 P), (o_43 P), (o_363 P), (o_45 P), (o_46 P), (o_49 P), (o_50 P), (o_51 P), (o_52 P), (o_53 P), (o_54 P), (o_55 P), (o_56 P), (o_57 P), (o_58 P), (o_59 P), (o_60 P), (o_61 P), (o_62 P), (o_63 P), (o_64 P), (o_65 P), (o_66 P), (o_67 P), (o_68 P), (o_69 P), (o_70 P), (o_71 P), (o_72 P), (o_124 P), (o_74 P), (o_75 P), (o_76 P), (o_80 P), (o_81 P), (o_82 P), (o_83 P), (o_84 P), (o_85 P), (o_86 P), (o_87 P), (o_88 P), (o_89 P), (o_90 P), (o_91 P), (o_95 P), (o_96 P), (o_97 P), (o_98 P), (o_99 P), (o_100 P), (o_101 P), (o_102 P), (o_103 P), (o_104 P), (o_105 P), (o_106 P), (o_110 P), (o_111 P), (o_112 P), (o_113 P), (o_114 P), (o_115 P), (o_116 P), (o_117 P), (o_118 P), (o_119 P), (o_120 P), (o_121 P), (o_125 P), (o_126 P), (o_127 P), (o_128 P), (o_129 P), (o_130 P), (o_131 P), (o_132 P), (o_133 P), (o_134 P), (o_135 P), (o_136 P), (o_137 P), (o_138 P), (o_139 P), (o_140 P), (o_141 P), (o_142 P), (o_143 P), (o_145 P), (o_146 P), (o_147 P), (o_148 P), (o_149 P), (o_150 P), (o_151 P), (o_152 P), (o_155 P), (o_156 P), (o_157 P), (o_158 P), (o_159 P), (o_160 P), (o_161 P), (o_162 P), (o_163 P), (o_164 P), (o_165 P), (o_166 P), (o_167 P), (o_168 P), (o_169 P), (o_170 P), (o_171 P), (o_172 P), (o_173 P), (o_174 P), (o_177 P), (o_178 P), (o_179 P), (o_180 P), (o_181 P), (o_182 P), (o_183 P), (o_184 P), (o_185 P), (o_186 P), (o_187 P), (o_188 P), (o_189 P), (o_190 P), (o_191 P), (o_192 P), (o_193 P), (o_194 P), (o_195 P), (o_196 P), (o_197 P), (o_198 P), (o_199 P), (o_200 P), (o_201 P), (o_202 P), (o_203 P), (o_204 P), (o_205 P), (o_206 P), (o_207 P), (o_208 P), (o_209 P), (o_210 P), (o_211 P), (o_212 P), (o_213 P), (o_214 P), (o_215 P), (o_216 P), (o_217 P), (o_218 P), (o_219 P), (o_220 P), (o_221 P), (o_222 P), (o_223 P), (o_224 P), (o_225 P), (o_226 P), (o_227 P), (o_228 P), (o_229 P), (o_230 P), (o_231 P), (o_232 P), (o_233 P), (o_234 P), (o_237 P), (o_238 P), (o_239 P), (o_240 P), (o_241 P), (o_242 P), (o_243 P), (o_244 P), (o_245 P), (o_246 P), (o_247 P), (o_248 P), (o_249 P), (o_250 P), (o_251 P), (o_252 P), (o_253 P), (o_254 P), (o_255 P), (o_256 P), (o_257 P), (o_258 P), (o_259 P), (o_260 P), (o_261 P), (o_262 P), (o_263 P), (o_264 P), (o_265 P), (o_266 P), (o_267 P), (o_268 P), (o_269 P), (o_270 P), (o_271 P), (o_272 P), (o_273 P), (o_274 P), (o_275 P), (o_276 P), (o_277 P), (o_278 P), (o_279 P), (o_280 P), (o_281 P), (o_282 P), (o_283 P), (o_284 P), (o_285 P), (o_288 P), (o_289 P), (o_290 P), (o_291 P), (o_292 P), (o_293 P), (o_294 P), (o_295 P), (o_296 P), (o_297 P), (o_298 P), (o_299 P), (o_300 P), (o_301 P), (o_302 P), (o_303 P), (o_304 P), (o_305 P), (o_306 P), (o_307 P), (o_308 P), (o_309 P), (o_310 P), (o_311 P), (o_312 P), (o_313 P), (o_314 P), (o_315 P), (o_316 P), (o_317 P), (o_318 P), (o_319 P), (o_320 P), (o_321 P), (o_322 P), (o_323 P), (o_324 P), (o_325 P), (o_326 P), (o_327 P), (o_328 P), (o_329 P), (o_330 P), (o_331 P), (o_332 P), (o_333 P), (o_334 P), (o_335 P), (o_336 P), (o_337 P), (o_338 P), (o_339 P), (o_340 P), (o_341 P), (o_342 P), (o_343 P), (o_344 P), (o_345 P), (o_346 P), (o_347 P), (o_348 P), (o_349 P), (o_350 P), (o_351 P), (o_352 P), (o_353 P), (o_354 P), (o_355 P), (o_356 P), (o_357 P), (o_358 P), (o_359 P), (o_360 P), (o_361 P), (o_364 P), (o_365 P), (o_366 P), (o_367 P), (o_368 P), (o_369 P), (o_370 P), (o_371 P), (o_372 P), (o_373 P), (o_374 P), (o_375 P), (o_376 P), (o_377 P), (o_378 P), (o_379 P), (o_380 P), (o_381 P), (o_382 P)]) (Life.mk [] [] [] 0 [] [] false #[] [] 0 false false false 0 [2000, 10, 10] false 0 true [] [] 0 false))
noncomputable def tree_382 (P : Params) : BT := (BT.node (boot_o_0 P) (BT.node (boot_o_1 P) (BT.node (o_362 P) (BT.node (boot_o_7 P) (BT.node (o_49 P) (BT.node (o_65 P) (BT.node (o_103 P) (BT.node (o_178 P) (BT.node (o_310 P) BT.nil BT.nil) BT.nil) (BT.node (o_244 P) (BT.node (o_376 P) BT.nil BT.nil) BT.nil)) (BT.node (o_141 P) (BT.node (o_210 P) (BT.node (o_342 P) BT.nil BT.nil) BT.nil) (BT.node (o_276 P) BT.nil BT.nil))) (BT.node (o_84 P) (BT.node (o_125 P) (BT.node (o_194 P) (BT.node (o_326 P) BT.nil BT.nil) BT.nil) (BT.node (o_260 P) BT.nil BT.nil)) (BT.node (o_160 P) (BT.node (o_226 P) (BT.node (o_358 P) BT.nil BT.nil) BT.nil) (BT.node (o_294 P) BT.nil BT.nil)))) (BT.node (o_57 P) (BT.node (o_124 P) (BT.node (o_114 P) (BT.node (o_186 P) (BT.node (o_318 P) BT.nil BT.nil) BT.nil) (BT.node (o_252 P) BT.nil BT.nil)) (BT.node (o_150 P) (BT.node (o_218 P) (BT.node (o_350 P) BT.nil BT.nil) BT.nil) (BT.node (o_284 P) BT.nil BT.nil))) (BT.node (o_95 P) (BT.node (o_133 P) (BT.node (o_202 P) (BT.node (o_334 P) BT.nil BT.nil) BT.nil) (BT.node (o_268 P) BT.nil BT.nil)) (BT.node (o_168 P) (BT.node (o_234 P) (BT.node (o_368 P) BT.nil BT.nil) BT.nil) (BT.node (o_302 P) BT.nil BT.nil))))) (BT.node (o_43 P) (BT.node (o_53 P) (BT.node (o_69 P) (BT.node (o_110 P) (BT.node (o_182 P) (BT.node (o_314 P) BT.nil BT.nil) BT.nil) (BT.node (o_248 P) (BT.node (o_380 P) BT.nil BT.nil) BT.nil)) (BT.node (o_146 P) (BT.node (o_214 P) (BT.node (o_346 P) BT.nil BT.nil) BT.nil) (BT.node (o_280 P) BT.nil BT.nil))) (BT.node (o_88 P) (BT.node (o_129 P) (BT.node (o_198 P) (BT.node (o_330 P) BT.nil BT.nil) BT.nil) (BT.node (o_264 P) BT.nil BT.nil)) (BT.node (o_164 P) (BT.node (o_230 P) (BT.node (o_364 P) BT.nil BT.nil) BT.nil) (BT.node (o_298 P) BT.nil BT.nil)))) (BT.node (o_61 P) (BT.node (o_80 P) (BT.node (o_118 P) (BT.node (o_190 P) (BT.node (o_322 P) BT.nil BT.nil) BT.nil) (BT.node (o_256 P) BT.nil BT.nil)) (BT.node (o_156 P) (BT.node (o_222 P) (BT.node (o_354 P) BT.nil BT.nil) BT.nil) (BT.node (o_290 P) BT.nil BT.nil))) (BT.node (o_99 P) (BT.node (o_137 P) (BT.node (o_206 P) (BT.node (o_338 P) BT.nil BT.nil) BT.nil) (BT.node (o_272 P) BT.nil BT.nil)) (BT.node (o_172 P) (BT.node (o_240 P) (BT.node (o_372 P) BT.nil BT.nil) BT.nil) (BT.node (o_306 P) BT.nil BT.nil)))))) (BT.node (boot_o_5 P) (BT.node (boot_o_9 P) (BT.node (o_51 P) (BT.node (o_67 P) (BT.node (o_105 P) (BT.node (o_180 P) (BT.node (o_312 P) BT.nil BT.nil) BT.nil) (BT.node (o_246 P) (BT.node (o_378 P) BT.nil BT.nil) BT.nil)) (BT.node (o_143 P) (BT.node (o_212 P) (BT.node (o_344 P) BT.nil BT.nil) BT.nil) (BT.node (o_278 P) BT.nil BT.nil))) (BT.node (o_86 P) (BT.node (o_127 P) (BT.node (o_196 P) (BT.node (o_328 P) BT.nil BT.nil) BT.nil) (BT.node (o_262 P) BT.nil BT.nil)) (BT.node (o_162 P) (BT.node (o_228 P) (BT.node (o_360 P) BT.nil BT.nil) BT.nil) (BT.node (o_296 P) BT.nil BT.nil)))) (BT.node (o_59 P) (BT.node (o_75 P) (BT.node (o_116 P) (BT.node (o_188 P) (BT.node (o_320 P) BT.nil BT.nil) BT.nil) (BT.node (o_254 P) BT.nil BT.nil)) (BT.node (o_152 P) (BT.node (o_220 P) (BT.node (o_352 P) BT.nil BT.nil) BT.nil) (BT.node (o_288 P) BT.nil BT.nil))) (BT.node (o_97 P) (BT.node (o_135 P) (BT.node (o_204 P) (BT.node (o_336 P) BT.nil BT.nil) BT.nil) (BT.node (o_270 P) BT.nil BT.nil)) (BT.node (o_170 P) (BT.node (o_238 P) (BT.node (o_370 P) BT.nil BT.nil) BT.nil) (BT.node (o_304 P) BT.nil BT.nil))))) (BT.node (o_45 P) (BT.node (o_55 P) (BT.node (o_71 P) (BT.node (o_112 P) (BT.node (o_184 P) (BT.node (o_316 P) BT.nil BT.nil) BT.nil) (BT.node (o_250 P) (BT.node (o_382 P) BT.nil BT.nil) BT.nil)) (BT.node (o_148 P) (BT.node (o_216 P) (BT.node (o_348 P) BT.nil BT.nil) BT.nil) (BT.node (o_282 P) BT.nil BT.nil))) (BT.node (o_90 P) (BT.node (o_131 P) (BT.node (o_200 P) (BT.node (o_332 P) BT.nil BT.nil) BT.nil) (BT.node (o_266 P) BT.nil BT.nil)) (BT.node (o_166 P) (BT.node (o_232 P) (BT.node (o_366 P) BT.nil BT.nil) BT.nil) (BT.node (o_300 P) BT.nil BT.nil)))) (BT.node (o_63 P) (BT.node (o_82 P) (BT.node (o_120 P) (BT.node (o_192 P) (BT.node (o_324 P) BT.nil BT.nil) BT.nil) (BT.node (o_258 P) BT.nil BT.nil)) (BT.node (o_158 P) (BT.node (o_224 P) (BT.node (o_356 P) BT.nil BT.nil) BT.nil) (BT.node (o_292 P) BT.nil BT.nil))) (BT.node (o_101 P) (BT.node (o_139 P) (BT.node (o_208 P) (BT.node (o_340 P) BT.nil BT.nil) BT.nil) (BT.node (o_274 P) BT.nil BT.nil)) (BT.node (o_174 P) (BT.node (o_242 P) (BT.node (o_374 P) BT.nil BT.nil) BT.nil) (BT.node (o_308 P) BT.nil BT.nil))))))) (BT.node (boot_o_2 P) (BT.node (boot_o_4 P) (BT.node (boot_o_8 P) (BT.node (o_50 P) (BT.node (o_66 P) (BT.node (o_104 P) (BT.node (o_179 P) (BT.node (o_311 P) BT.nil BT.nil) BT.nil) (BT.node (o_245 P) (BT.node (o_377 P) BT.nil BT.nil) BT.nil)) (BT.node (o_142 P) (BT.node (o_211 P) (BT.node (o_343 P) BT.nil BT.nil) BT.nil) (BT.node (o_277 P) BT.nil BT.nil))) (BT.node (o_85 P) (BT.node (o_126 P) (BT.node (o_195 P) (BT.node (o_327 P) BT.nil BT.nil) BT.nil) (BT.node (o_261 P) BT.nil BT.nil)) (BT.node (o_161 P) (BT.node (o_227 P) (BT.node (o_359 P) BT.nil BT.nil) BT.nil) (BT.node (o_295 P) BT.nil BT.nil)))) (BT.node (o_58 P) (BT.node (o_74 P) (BT.node (o_115 P) (BT.node (o_187 P) (BT.node (o_319 P) BT.nil BT.nil) BT.nil) (BT.node (o_253 P) BT.nil BT.nil)) (BT.node (o_151 P) (BT.node (o_219 P) (BT.node (o_351 P) BT.nil BT.nil) BT.nil) (BT.node (o_285 P) BT.nil BT.nil))) (BT.node (o_96 P) (BT.node (o_134 P) (BT.node (o_203 P) (BT.node (o_335 P) BT.nil BT.nil) BT.nil) (BT.node (o_269 P) BT.nil BT.nil)) (BT.node (o_169 P) (BT.node (o_237 P) (BT.node (o_369 P) BT.nil BT.nil) BT.nil) (BT.node (o_303 P) BT.nil BT.nil))))) (BT.node (o_363 P) (BT.node (o_54 P) (BT.node (o_70 P) (BT.node (o_111 P) (BT.node (o_183 P) (BT.node (o_315 P) BT.nil BT.nil) BT.nil) (BT.node (o_249 P) (BT.node (o_381 P) BT.nil BT.nil) BT.nil)) (BT.node (o_147 P) (BT.node (o_215 P) (BT.node (o_347 P) BT.nil BT.nil) BT.nil) (BT.node (o_281 P) BT.nil BT.nil))) (BT.node (o_89 P) (BT.node (o_130 P) (BT.node (o_199 P) (BT.node (o_331 P) BT.nil BT.nil) BT.nil) (BT.node (o_265 P) BT.nil BT.nil)) (BT.node (o_165 P) (BT.node (o_231 P) (BT.node (o_365 P) BT.nil BT.nil) BT.nil) (BT.node (o_299 P) BT.nil BT.nil)))) (BT.node (o_62 P) (BT.node (o_81 P) (BT.node (o_119 P) (BT.node (o_191 P) (BT.node (o_323 P) BT.nil BT.nil) BT.nil) (BT.node (o_257 P) BT.nil BT.nil)) (BT.node (o_157 P) (BT.node (o_223 P) (BT.node (o_355 P) BT.nil BT.nil) BT.nil) (BT.node (o_291 P) BT.nil BT.nil))) (BT.node (o_100 P) (BT.node (o_138 P) (BT.node (o_207 P) (BT.node (o_339 P) BT.nil BT.nil) BT.nil) (BT.node (o_273 P) BT.nil BT.nil)) (BT.node (o_173 P) (BT.node (o_241 P) (BT.node (o_373 P) BT.nil BT.nil) BT.nil) (BT.node (o_307 P) BT.nil BT.nil)))))) (BT.node (boot_o_6 P) (BT.node (boot_o_10 P) (BT.node (o_52 P) (BT.node (o_68 P) (BT.node (o_106 P) (BT.node (o_181 P) (BT.node (o_313 P) BT.nil BT.nil) BT.nil) (BT.node (o_247 P) (BT.node (o_379 P) BT.nil BT.nil) BT.nil)) (BT.node (o_145 P) (BT.node (o_213 P) (BT.node (o_345 P) BT.nil BT.nil) BT.nil) (BT.node (o_279 P) BT.nil BT.nil))) (BT.node (o_87 P) (BT.node (o_128 P) (BT.node (o_197 P) (BT.node (o_329 P) BT.nil BT.nil) BT.nil) (BT.node (o_263 P) BT.nil BT.nil)) (BT.node (o_163 P) (BT.node (o_229 P) (BT.node (o_361 P) BT.nil BT.nil) BT.nil) (BT.node (o_297 P) BT.nil BT.nil)))) (BT.node (o_60 P) (BT.node (o_76 P) (BT.node (o_117 P) (BT.node (o_189 P) (BT.node (o_321 P) BT.nil BT.nil) BT.nil) (BT.node (o_255 P) BT.nil BT.nil)) (BT.node (o_155 P) (BT.node (o_221 P) (BT.node (o_353 P) BT.nil BT.nil) BT.nil) (BT.node (o_289 P) BT.nil BT.nil))) (BT.node (o_98 P) (BT.node (o_136 P) (BT.node (o_205 P) (BT.node (o_337 P) BT.nil BT.nil) BT.nil) (BT.node (o_271 P) BT.nil BT.nil)) (BT.node (o_171 P) (BT.node (o_239 P) (BT.node (o_371 P) BT.nil BT.nil) BT.nil) (BT.node (o_305 P) BT.nil BT.nil))))) (BT.node (o_46 P) (BT.node (o_56 P) (BT.node (o_72 P) (BT.node (o_113 P) (BT.node (o_185 P) (BT.node (o_317 P) BT.nil BT.nil) BT.nil) (BT.node (o_251 P) BT.nil BT.nil)) (BT.node (o_149 P) (BT.node (o_217 P) (BT.node (o_349 P) BT.nil BT.nil) BT.nil) (BT.node (o_283 P) BT.nil BT.nil))) (BT.node (o_91 P) (BT.node (o_132 P) (BT.node (o_201 P) (BT.node (o_333 P) BT.nil BT.nil) BT.nil) (BT.node (o_267 P) BT.nil BT.nil)) (BT.node (o_167 P) (BT.node (o_233 P) (BT.node (o_367 P) BT.nil BT.nil) BT.nil) (BT.node (o_301 P) BT.nil BT.nil)))) (BT.node (o_64 P) (BT.node (o_83 P) (BT.node (o_121 P) (BT.node (o_193 P) (BT.node (o_325 P) BT.nil BT.nil) BT.nil) (BT.node (o_259 P) BT.nil BT.nil)) (BT.node (o_159 P) (BT.node (o_225 P) (BT.node (o_357 P) BT.nil BT.nil) BT.nil) (BT.node (o_293 P) BT.nil BT.nil))) (BT.node (o_102 P) (BT.node (o_140 P) (BT.node (o_209 P) (BT.node (o_341 P) BT.nil BT.nil) BT.nil) (BT.node (o_275 P) BT.nil BT.nil)) (BT.node (o_177 P) (BT.node (o_243 P) (BT.node (o_375 P) BT.nil BT.nil) BT.nil) (BT.node (o_309 P) BT.nil BT.nil))))))))
noncomputable def sts_47 : List Stmt := [pS 0, pS 1, pS 2]
noncomputable def sts_76 : List Stmt := [pS 3]
noncomputable def sts_91 : List Stmt := [pS 4]
noncomputable def sts_106 : List Stmt := [pS 5]
noncomputable def sts_121 : List Stmt := [pS 6, pS 7, pS 8, pS 9]
noncomputable def sts_143 : List Stmt := [pS 10, pS 11]
noncomputable def sts_153 : List Stmt := [pS 12, pS 13, pS 14, pS 15, pS 16, pS 17]
noncomputable def sts_175 : List Stmt := [pS 18, pS 19]
noncomputable def sts_234 : List Stmt := [pS 20, pS 21, pS 22, pS 23, pS 24]
noncomputable def sts_285 : List Stmt := [pS 25, pS 26, pS 27, pS 28, pS 29, pS 30, pS 31, pS 32, pS 33, pS 34, pS 35, pS 36, pS 37]
noncomputable def sts_361 : List Stmt := [pS 38, pS 39, pS 40]
noncomputable def env_41 : Env := (Env.mk (Module.scope (Program.main pE)) mainNs mainNs [] Str.empty none (Value.ref 13) (some 14) 0)

noncomputable abbrev cE : Code := Code.body (behindTheImports pE) env_41
noncomputable abbrev fE : List Frame := [topFrame ⟨0, 0, 0, 0⟩]
noncomputable abbrev sT (t : Params → BT) (n k : Nat) (w : World) (os : OsState) : SharedT := ⟨t w.params, n, {}, #[], {}, k, os⟩
theorem hp_pre : ∀ w : World, (fun os => topGo treeTable pE w 11 (some (.ref 6)) 12 ⟨boot_heap w.params, Array.mk [], boot_drawn, boot_toks, os⟩ (topStub pE)) = fun os => some ((⟨heap_46 w.params, Array.mk [], {}, 187, os⟩ : Shared), (⟨denote treeTable cE, cE, ⟨0, 0, 0, 0⟩, fE⟩ : Thread)) := by intro w; kernel_rfl
theorem hp_block : ∀ w : World, (fun os => segRun treeTable pE w 11 (some (.ref 6)) 1 1 ⟨heap_46 w.params, Array.mk [], {}, 187, os⟩ (blockOf (behindTheImports pE) env_41 cE ⟨0, 0, 0, 0⟩ fE)) = fun os => some (Flow.next, (sT tree_46 15 187 w os).abs, cE, (⟨0, 0, 0, 0⟩ : Pos)) := by intro w; kernel_rfl

theorem hp_76 : ∀ w : World, (fun os => segRunT treeTable pE w 11 (some (.ref 6)) 1 259 (sT tree_46 15 187 w os) (piecesOf sts_47 env_41 cE ⟨0, 0, 0, 0⟩ fE)) = fun os => some (Flow.next, sT tree_76 43 224 w os, cE, (⟨5, 0, 8, 28⟩ : Pos)) := by intro w; kernel_rfl
theorem hp_91 : ∀ w : World, (fun os => segRunT treeTable pE w 11 (some (.ref 6)) 1 214 (sT tree_76 43 224 w os) (piecesOf sts_76 env_41 cE ⟨5, 0, 8, 28⟩ fE)) = fun os => some (Flow.next, sT tree_91 55 240 w os, cE, (⟨9, 0, 10, 8⟩ : Pos)) := by intro w; kernel_rfl
theorem hp_106 : ∀ w : World, (fun os => segRunT treeTable pE w 11 (some (.ref 6)) 1 214 (sT tree_91 55 240 w os) (piecesOf sts_91 env_41 cE ⟨9, 0, 10, 8⟩ fE)) = fun os => some (Flow.next, sT tree_106 67 256 w os, cE, (⟨11, 0, 12, 8⟩ : Pos)) := by intro w; kernel_rfl
theorem hp_121 : ∀ w : World, (fun os => segRunT treeTable pE w 11 (some (.ref 6)) 1 214 (sT tree_106 67 256 w os) (piecesOf sts_106 env_41 cE ⟨11, 0, 12, 8⟩ fE)) = fun os => some (Flow.next, sT tree_121 79 272 w os, cE, (⟨13, 0, 14, 8⟩ : Pos)) := by intro w; kernel_rfl
theorem hp_143 : ∀ w : World, (fun os => segRunT treeTable pE w 11 (some (.ref 6)) 1 263 (sT tree_121 79 272 w os) (piecesOf sts_121 env_41 cE ⟨13, 0, 14, 8⟩ fE)) = fun os => some (Flow.next, sT tree_143 98 301 w os, cE, (⟨20, 0, 20, 8⟩ : Pos)) := by intro w; kernel_rfl
theorem hp_152 : ∀ w : World, (fun os => segRunT treeTable pE w 11 (some (.ref 6)) 1 347 (sT tree_143 98 301 w os) (piecesOf sts_143 env_41 cE ⟨20, 0, 20, 8⟩ fE)) = fun os => some (Flow.next, sT tree_152 106 333 w os, cE, (⟨22, 54, 22, 61⟩ : Pos)) := fun w => byRow2 "special-get-raises" (P := fun w => (fun os => segRunT treeTable pE w 11 (some (.ref 6)) 1 347 (sT tree_143 98 301 w os) (piecesOf sts_143 env_41 cE ⟨20, 0, 20, 8⟩ fE)) = fun os => some (Flow.next, sT tree_152 106 333 w os, cE, (⟨22, 54, 22, 61⟩ : Pos))) (fun w => by kernel_rfl) (fun w => by kernel_rfl) w
theorem hp_174 : ∀ w : World, (fun os => segRunT treeTable pE w 11 (some (.ref 6)) 1 253 (sT tree_152 106 333 w os) (piecesOf sts_153 env_41 cE ⟨22, 54, 22, 61⟩ fE)) = fun os => some (Flow.next, sT tree_174 126 397 w os, cE, (⟨31, 0, 34, 50⟩ : Pos)) := fun w => byRow2 "special-get-raises" (P := fun w => (fun os => segRunT treeTable pE w 11 (some (.ref 6)) 1 253 (sT tree_152 106 333 w os) (piecesOf sts_153 env_41 cE ⟨22, 54, 22, 61⟩ fE)) = fun os => some (Flow.next, sT tree_174 126 397 w os, cE, (⟨31, 0, 34, 50⟩ : Pos))) (fun w => by kernel_rfl) (fun w => by kernel_rfl) w
theorem hp_234 : ∀ w : World, (fun os => segRunT treeTable pE w 11 (some (.ref 6)) 1 395 (sT tree_174 126 397 w os) (piecesOf sts_175 env_41 cE ⟨31, 0, 34, 50⟩ fE)) = fun os => some (Flow.next, sT tree_234 184 468 w os, cE, (⟨60, 0, 60, 8⟩ : Pos)) := by intro w; kernel_rfl
theorem hp_285 : ∀ w : World, (fun os => segRunT treeTable pE w 11 (some (.ref 6)) 1 373 (sT tree_234 184 468 w os) (piecesOf sts_234 env_41 cE ⟨60, 0, 60, 8⟩ fE)) = fun os => some (Flow.next, sT tree_285 233 538 w os, cE, (⟨95, 0, 100, 23⟩ : Pos)) := by intro w; kernel_rfl
theorem hp_361 : ∀ w : World, (fun os => segRunT treeTable pE w 11 (some (.ref 6)) 1 373 (sT tree_285 233 538 w os) (piecesOf sts_285 env_41 cE ⟨95, 0, 100, 23⟩ fE)) = fun os => some (Flow.next, sT tree_361 307 656 w os, cE, (⟨205, 0, 219, 16⟩ : Pos)) := by intro w; kernel_rfl
theorem hp_382 : ∀ w : World, (fun os => segRunT treeTable pE w 11 (some (.ref 6)) 1 96 (sT tree_361 307 656 w os) (piecesOf sts_361 env_41 cE ⟨205, 0, 219, 16⟩ fE)) = fun os => some (Flow.next, sT tree_382 326 687 w os, cE, (⟨254, 0, 260, 89⟩ : Pos)) := by intro w; kernel_rfl
theorem hp_fin : ∀ w : World, (fun os => topRun treeTable pE w 11 (some (.ref 6)) 2 (sT tree_382 326 687 w os).abs ⟨doneF Flow.next, cE, ⟨254, 0, 260, 89⟩, fE⟩) = fun os => some (⟨heap_382 w.params, Array.mk [], {}, 687, os⟩ : Shared) := by intro w; kernel_rfl
theorem hp_list : behindTheImports pE = sts_47 ++ (sts_76 ++ (sts_91 ++ (sts_106 ++ (sts_121 ++ (sts_143 ++ (sts_153 ++ (sts_175 ++ (sts_234 ++ (sts_285 ++ (sts_361 ++ ([]))))))))))) := by kernel_rfl
abbrev hp_M : Nat := Nat.add 12 (Nat.add 1 (Nat.add 259 (Nat.add 214 (Nat.add 214 (Nat.add 214 (Nat.add 263 (Nat.add 347 (Nat.add 253 (Nat.add 395 (Nat.add 373 (Nat.add 373 (Nat.add 96 (2)))))))))))))
theorem hp_run : ∀ (w : World) (os : OsState), topRun treeTable pE w 11 (some (.ref 6)) hp_M ⟨boot_heap w.params, Array.mk [], boot_drawn, boot_toks, os⟩ (topStub pE) = some ⟨heap_382 w.params, Array.mk [], {}, 687, os⟩ := by
  intro w os
  have k := piece_app (segRun_of (congrFun (hp_76 w) os)) (piece_app (segRun_of (congrFun (hp_91 w) os)) (piece_app (segRun_of (congrFun (hp_106 w) os)) (piece_app (segRun_of (congrFun (hp_121 w) os)) (piece_app (segRun_of (congrFun (hp_143 w) os)) (piece_app (segRun_of (congrFun (hp_152 w) os)) (piece_app (segRun_of (congrFun (hp_174 w) os)) (piece_app (segRun_of (congrFun (hp_234 w) os)) (piece_app (segRun_of (congrFun (hp_285 w) os)) (piece_app (segRun_of (congrFun (hp_361 w) os)) (piece_app (segRun_of (congrFun (hp_382 w) os)) (piece_nil (congrFun (hp_fin w) os))))))))))))
  rw [← hp_list] at k
  exact go_top (congrFun (hp_pre w) os) (piece_block (congrFun (hp_block w) os) k)

noncomputable abbrev hp_q : Program := view pE [0, 2, 3, 4, 5, 6, 8, 10, 11, 12, 13, 14, 15, 16, 17, 18, 20, 21, 22, 23, 24, 25, 26, 27, 28, 29, 30, 32, 33, 34, 35, 36, 37, 38, 39, 40]
abbrev hp_lo : List Str := [Str.ofString "PageError", Str.ofString "ESCAPE", Str.ofString "BEGIN", Str.ofString "END", Str.ofString "MATH", Str.ofString "TAB", Str.ofString "RETURN", Str.ofString "PARAMETER", Str.ofString "UP", Str.ofString "DOWN", Str.ofString "IGNORED", Str.ofString "SPACE", Str.ofString "LETTER", Str.ofString "OTHER", Str.ofString "ACTIVE", Str.ofString "COMMENT", Str.ofString "INVALID", Str.ofString "CONTROL", Str.ofString "OUT", Str.ofString "MATCH", Str.ofString "FROZEN", Str.ofString "NOT_EXPANDED", Str.ofString "MOST_NAMES", Str.ofString "GREATEST_CODES", Str.ofString "TokenFeed", Str.ofString "BLANK"]
abbrev hp_lv : List (Str × WData) := [(Str.ofString "ESCAPE", WData.int 0), (Str.ofString "BEGIN", WData.int 1), (Str.ofString "END", WData.int 2), (Str.ofString "MATH", WData.int 3), (Str.ofString "TAB", WData.int 4), (Str.ofString "RETURN", WData.int 5), (Str.ofString "PARAMETER", WData.int 6), (Str.ofString "UP", WData.int 7), (Str.ofString "DOWN", WData.int 8), (Str.ofString "IGNORED", WData.int 9), (Str.ofString "SPACE", WData.int 10), (Str.ofString "LETTER", WData.int 11), (Str.ofString "OTHER", WData.int 12), (Str.ofString "ACTIVE", WData.int 13), (Str.ofString "COMMENT", WData.int 14), (Str.ofString "INVALID", WData.int 15), (Str.ofString "CONTROL", WData.int 0), (Str.ofString "OUT", WData.int 5), (Str.ofString "MATCH", WData.int 9), (Str.ofString "FROZEN", WData.int 14), (Str.ofString "NOT_EXPANDED", WData.int 15), (Str.ofString "MOST_NAMES", WData.int 1048576), (Str.ofString "GREATEST_CODES", WData.tuple [WData.int 1048575, WData.int 255, WData.int 255, WData.int 255, WData.int 255, WData.int 9, WData.int 255, WData.int 255, WData.int 255, WData.int 9, WData.int 255, WData.int 255, WData.int 255, WData.int 255, WData.int 255, WData.int 0]), (Str.ofString "BLANK", WData.tuple [WData.int 10, WData.int 32])]
abbrev hp_as : List Addr := [2, 3, 15, 17, 18, 20, 21, 22, 29, 30, 32, 33, 35, 36, 37, 38, 39, 40, 43, 50, 51, 52, 55, 62, 63, 64, 67, 74, 75, 76, 79, 86, 87, 88, 91, 93, 94, 96, 97, 110, 111, 112, 114, 115, 117, 118, 119, 121, 122, 124, 125, 133, 134, 135, 137, 138, 140, 141, 142, 144, 145, 147, 148, 149, 151, 152, 154, 155, 156, 158, 159, 161, 162, 163, 165, 166, 168, 169, 170, 172, 173, 175, 176, 177, 178, 179, 180, 181, 184, 192, 193, 196, 197, 198, 200, 201, 203, 204, 205, 207, 208, 210, 211, 212, 213, 214, 215, 216, 219, 221, 222, 224, 225, 226, 228, 229, 231, 232, 233, 235, 236, 238, 239, 240, 242, 243, 245, 246, 247, 249, 250, 252, 253, 254, 256, 257, 259, 260, 261, 263, 264, 266, 267, 268, 270, 271, 273, 274, 275, 276, 278, 279, 281, 282, 283, 285, 286, 288, 289, 290, 293, 294, 295, 297, 298, 300, 301, 302, 305, 306, 307, 309, 310, 312, 313, 314, 317, 318, 319, 321, 322, 324, 325]
theorem hp_ase : ∀ P, hp_as = (hd.heap_39 P).map (·.1) := fun _ => by kernel_rfl
noncomputable abbrev hp_H : Hook := kHook hd.heap_39 hp_as hp_ase
noncomputable abbrev hp_Xt : Shared → Bool := fun s => xlAt hp_q hp_lv s && recOk (RowW.records (OpenRow.toRowW (OpenLaw.row PySem.Challenge.rw_sq0031_01))) s
theorem hp_e : opening pE = plainProg pE.main.scope.names := by kernel_rfl
theorem hp_f : ∀ s : Shared, fenceModules? pE s = some s := by intro s; kernel_rfl
theorem hp_size : ∀ w : World, ((boot_heap w.params).isNs mainGlobals && (Array.mk [] : Array GenState).size == 0, (boot_heap w.params).objs.size, (boot_heap w.params).nsMap mainGlobals (Str.ofString "__annotations__")) = (true, 11, some (Value.ref 6)) := by intro w; kernel_rfl
theorem hp_looks : ∀ w : World, (fun os => ((staticsOk (importedModules pE.main.body) (boot_heap w.params) (heap_382 w.params) && namesBound pE (heap_382 w.params) && gensDone ⟨heap_382 w.params, Array.mk [], {}, 687, os⟩ && laidKept (boot_heap w.params) (heap_382 w.params)),
    openSeen hp_q hp_lo (importedModules pE.main.body) hp_Xt true ⟨heap_382 w.params, Array.mk [], {}, 687, os⟩, hp_H.obs ⟨heap_382 w.params, Array.mk [], {}, 687, os⟩)) = fun _ => (true, openGood hp_q hp_lo, hp_H.val w) := by intro w; kernel_rfl
theorem hp_left : LeftO pE hp_q hp_lo hp_Xt hp_H.obs hp_H.val 6106 true := LeftO.of_pieces (boot_open hp_e (by decide) hp_f) hp_size hp_run (by decide) hp_looks

theorem fill_all : Challenge.rw_sq0031_01 = Challenge.rw_sq0031_01 ∧ hd.heap_39 = hd.heap_39 := by
  k_fill
  exact ⟨rfl, rfl⟩

abbrev PH := Addr → Option Obj
def Le (R R' : PH) : Prop := ∀ b o, R b = some o → R' b = some o
theorem Le.rfl' {R : PH} : Le R R := fun _ _ e => e
theorem Le.trans {R R' R'' : PH} (a : Le R R') (b : Le R' R'') : Le R R'' := fun x o e => b x o (a x o e)

structure Cx where
  hB : Heap
  mg : Str → Option Value
  mb : Str → Option Value
  G : PH
  L : Addr
  gens : Array GenState
  drawn : Drawn
  os : OsState

abbrev NoE : Value → Shared → Prop := fun _ _ => False

structure Ok (A : Around) (n : Nat) : Prop where
  handled : A.handled = none
  depth : A.depth + n < recursionLimit
  units : A.units + 8 * n < cLine
theorem Ok.mono {A : Around} {n k : Nat} (x : Ok A n) (h : k ≤ n) : Ok A k := ⟨x.handled, by have := x.depth; omega, by have := x.units; omega⟩
theorem Ok.deeper {A : Around} {n : Nat} (x : Ok A (n + 1)) (env : Env) : Ok (A.deeper env) n :=
  ⟨x.handled, by have := x.depth; show A.depth + 1 + n < _; omega, by have := x.units; show A.units + 3 + 8 * n < _; omega⟩
theorem Ok.in1 {A : Around} {n : Nat} (x : Ok A (n + 1)) : Ok A.in1 n :=
  ⟨x.handled, by have := x.depth; show A.depth + n < _; omega, by have := x.units; show A.units + 1 + 8 * n < _; omega⟩
theorem Ok.room {A : Around} {n : Nat} (x : Ok A n) : A.depth < recursionLimit := by have := x.depth; omega
theorem Ok.unit {A : Around} {n : Nat} (x : Ok A n) : A.units < cLine := by have := x.units; omega

structure St (w : World) (C : Cx) (R : PH) (ms : List (Str × Value)) (own : List (Addr × Obj)) (s : Shared) : Prop where
  X : (hd.heap_39 w.params).In C.hB
  g : C.hB.Ns mainGlobals C.mg
  b : C.hB.Ns builtinsNs C.mb
  bi : ∀ x : Str, x ≠ "__name__" → C.mb x = bootBuiltins x
  nolimit : C.hB.NoLimit
  base : ∀ b o, C.hB.get? b = some o → R b = some o
  above : C.hB.objs.size ≤ C.L
  ns : s.heap.Ns C.L (fun y => ms.lookup y)
  kG : ∀ b o, C.G b = some o → s.heap.get? b = some o
  kR : ∀ b o, R b = some o → s.heap.get? b = some o
  kO : ∀ p ∈ own, s.heap.get? p.1 = some p.2
  dGR : ∀ b o, C.G b = some o → R b = none
  GL : C.G C.L = none
  RL : R C.L = none
  GO : ∀ p ∈ own, C.G p.1 = none
  RO : ∀ p ∈ own, R p.1 = none
  LO : ∀ p ∈ own, p.1 ≠ C.L
  nd : (own.map (·.1)).Nodup
  gens : s.gens = C.gens
  drawn : s.drawn = C.drawn
  os : s.os = C.os

section
variable {w : World} {C : Cx} {R : PH} {ms : List (Str × Value)} {own : List (Addr × Obj)} {s : Shared}
theorem St.kB (S : St w C R ms own s) : ∀ b o, C.hB.get? b = some o → s.heap.get? b = some o := fun b o e => S.kR b o (S.base b o e)
theorem St.fr (S : St w C R ms own s) : Fr C.hB C.L s.heap (fun y => ms.lookup y) := ⟨S.ns, S.kB, S.above⟩
theorem St.kIn (S : St w C R ms own s) : (hd.heap_39 w.params).In s.heap := S.X.keeps S.kB
theorem St.news (S : St w C R ms own s) : News C.hB C.L s.heap own := fun p hp => ⟨S.kO p hp, S.LO p hp, by
  cases e : C.hB.get? p.1 with
  | none => rfl
  | some o => have := S.base _ _ e; rw [S.RO p hp] at this; cases this⟩

/-- the state moves, nothing of what is told changes -/
theorem St.moved (S : St w C R ms own s) {h' : Heap} {tk : Nat} (hk : ∀ b o, s.heap.get? b = some o → h'.get? b = some o) : St w C R ms own { s with heap := h', toks := tk } :=
  { S with
    ns := S.ns.keeps hk
    kG := fun b o e => hk _ _ (S.kG b o e)
    kR := fun b o e => hk _ _ (S.kR b o e)
    kO := fun p hp => hk _ _ (S.kO p hp)
    gens := S.gens, drawn := S.drawn, os := S.os }
theorem St.tok (S : St w C R ms own s) {tk : Nat} : St w C R ms own { s with toks := tk } := S.moved (tk := tk) fun _ _ e => e

theorem St.fresh (S : St w C R ms own s) {a : Addr} (ha : s.heap.get? a = none) : C.G a = none ∧ R a = none ∧ a ≠ C.L ∧ ∀ p ∈ own, p.1 ≠ a := by
  refine ⟨?_, ?_, ?_, ?_⟩
  · cases e : C.G a with
    | none => rfl
    | some o => have := S.kG _ _ e; rw [ha] at this; cases this
  · cases e : R a with
    | none => rfl
    | some o => have := S.kR _ _ e; rw [ha] at this; cases this
  · rintro rfl
    obtain ⟨o, _, _, e, _⟩ := S.ns
    rw [ha] at e; cases e
  · rintro p hp rfl
    have := S.kO p hp; rw [ha] at this; cases this

theorem heap_size_none (h : Heap) : h.get? h.objs.size = none := by
  cases e : h.get? h.objs.size with
  | none => rfl
  | some o => exact absurd (Heap.lt_size e) (Nat.lt_irrefl _)

theorem St.add (S : St w C R ms own s) {h' : Heap} {tk : Nat} {a : Addr} {o : Obj} (ha : s.heap.get? a = none) (hk : ∀ b o, s.heap.get? b = some o → h'.get? b = some o) (ho : h'.get? a = some o) :
    St w C R ms ((a, o) :: own) { s with heap := h', toks := tk } := by
  obtain ⟨f1, f2, f3, f4⟩ := S.fresh ha
  have S' := S.moved (tk := tk) hk
  exact { S' with
    kO := fun p hp => by rcases List.mem_cons.mp hp with rfl | hp; exact ho; exact S'.kO p hp
    GO := fun p hp => by rcases List.mem_cons.mp hp with rfl | hp; exact f1; exact S.GO p hp
    RO := fun p hp => by rcases List.mem_cons.mp hp with rfl | hp; exact f2; exact S.RO p hp
    LO := fun p hp => by rcases List.mem_cons.mp hp with rfl | hp; exact f3; exact S.LO p hp
    nd := by
      rw [List.map_cons, List.nodup_cons]
      refine ⟨fun hm => ?_, S.nd⟩
      obtain ⟨p, hp, e⟩ := List.mem_map.mp hm
      exact f4 p hp e }
theorem St.push (S : St w C R ms own s) {tk : Nat} {o : Obj} (hf : o.isFreed = false := by rfl) : St w C R ms ((s.heap.objs.size, o) :: own) { s with heap := s.heap.push o, toks := tk } :=
  S.add (heap_size_none _) (fun _ _ e => Heap.get?_push_of_some _ e) (Heap.get?_push_size _ hf)

theorem St.sub (S : St w C R ms own s) {own' : List (Addr × Obj)} (h : own'.Sublist own) : St w C R ms own' s :=
  { S with
    kO := fun p hp => S.kO p (h.subset hp)
    GO := fun p hp => S.GO p (h.subset hp)
    RO := fun p hp => S.RO p (h.subset hp)
    LO := fun p hp => S.LO p (h.subset hp)
    nd := S.nd.sublist (h.map _) }
theorem St.drop1 {p : Addr × Obj} (S : St w C R ms (p :: own) s) : St w C R ms own s := S.sub (List.sublist_cons_self ..)

/-- one entry of the own list, by place -/
inductive OwnF (d : Addr) (o : Obj) : List (Addr × Obj) → (Obj → List (Addr × Obj)) → Prop
  | head {r} : OwnF d o ((d, o) :: r) (fun o' => (d, o') :: r)
  | tail {p r f} : OwnF d o r f → OwnF d o (p :: r) (fun o' => p :: f o')
inductive OwnD (d : Addr) (o : Obj) : List (Addr × Obj) → List (Addr × Obj) → Prop
  | head {r} : OwnD d o ((d, o) :: r) r
  | tail {p r r'} : OwnD d o r r' → OwnD d o (p :: r) (p :: r')
theorem OwnF.mem {d : Addr} {o : Obj} {own : List (Addr × Obj)} {f : Obj → List (Addr × Obj)} (U : OwnF d o own f) : (d, o) ∈ own := by
  induction U with
  | head => exact .head _
  | tail _ ih => exact .tail _ ih
theorem OwnF.keys {d : Addr} {o : Obj} {own : List (Addr × Obj)} {f : Obj → List (Addr × Obj)} (U : OwnF d o own f) (o' : Obj) : (f o').map (·.1) = own.map (·.1) := by
  induction U with
  | head => rfl
  | tail _ ih => simp only [List.map_cons, ih]
theorem OwnF.of {d : Addr} {o o' : Obj} {own : List (Addr × Obj)} {f : Obj → List (Addr × Obj)} (U : OwnF d o own f) (nd : (own.map (·.1)).Nodup) : ∀ p ∈ f o', p = (d, o') ∨ (p ∈ own ∧ p.1 ≠ d) := by
  induction U with
  | head =>
    intro p hp
    rcases List.mem_cons.mp hp with h | h
    · exact .inl h
    · refine .inr ⟨.tail _ h, fun e => ?_⟩
      rw [List.map_cons, List.nodup_cons] at nd
      exact nd.1 (List.mem_map.mpr ⟨p, h, e⟩)
  | tail u ih =>
    intro p hp
    rw [List.map_cons, List.nodup_cons] at nd
    rcases List.mem_cons.mp hp with h | h
    · refine .inr ⟨h ▸ .head _, fun e => nd.1 ?_⟩
      subst h
      rw [e]
      exact List.mem_map.mpr ⟨_, u.mem, rfl⟩
    · rcases ih nd.2 p h with h | h
      · exact .inl h
      · exact .inr ⟨.tail _ h.1, h.2⟩
theorem OwnD.mem {d : Addr} {o : Obj} {own own' : List (Addr × Obj)} (U : OwnD d o own own') : (d, o) ∈ own := by
  induction U with
  | head => exact .head _
  | tail _ ih => exact .tail _ ih
theorem OwnD.sub {d : Addr} {o : Obj} {own own' : List (Addr × Obj)} (U : OwnD d o own own') : own'.Sublist own := by
  induction U with
  | head => exact List.sublist_cons_self ..
  | tail _ ih => exact ih.cons_cons _
theorem OwnD.off {d : Addr} {o : Obj} {own own' : List (Addr × Obj)} (U : OwnD d o own own') (nd : (own.map (·.1)).Nodup) : ∀ p ∈ own', p.1 ≠ d := by
  induction U with
  | head =>
    intro p hp e
    rw [List.map_cons, List.nodup_cons] at nd
    exact nd.1 (List.mem_map.mpr ⟨p, hp, e⟩)
  | tail u ih =>
    intro p hp
    rw [List.map_cons, List.nodup_cons] at nd
    rcases List.mem_cons.mp hp with h | h
    · subst h
      intro e
      exact nd.1 (e ▸ List.mem_map.mpr ⟨_, u.mem, rfl⟩)
    · exact ih nd.2 p h

theorem St.upd (S : St w C R ms own s) {d : Addr} {o o' : Obj} {f : Obj → List (Addr × Obj)} (U : OwnF d o own f) {h' : Heap} {tk : Nat} (hk : ∀ b o, b ≠ d → s.heap.get? b = some o → h'.get? b = some o) (ho : h'.get? d = some o') :
    St w C R ms (f o') { s with heap := h', toks := tk } := by
  have hd := U.mem
  have nG : ∀ b o, C.G b = some o → b ≠ d := fun b o e q => by subst q; rw [S.GO _ hd] at e; cases e
  have nR : ∀ b o, R b = some o → b ≠ d := fun b o e q => by subst q; rw [S.RO _ hd] at e; cases e
  have of := U.of (o' := o') S.nd
  exact { S with
    ns := S.ns.extBut (b := d) (fun b o hb e => hk b o hb e) (Ne.symm (S.LO _ hd))
    kG := fun b o e => hk _ _ (nG b o e) (S.kG b o e)
    kR := fun b o e => hk _ _ (nR b o e) (S.kR b o e)
    kO := fun p hp => by rcases of p hp with rfl | ⟨h1, h2⟩; exact ho; exact hk _ _ h2 (S.kO p h1)
    GO := fun p hp => by rcases of p hp with rfl | ⟨h1, h2⟩; exact S.GO (d, o) hd; exact S.GO p h1
    RO := fun p hp => by rcases of p hp with rfl | ⟨h1, h2⟩; exact S.RO (d, o) hd; exact S.RO p h1
    LO := fun p hp => by rcases of p hp with rfl | ⟨h1, h2⟩; exact S.LO (d, o) hd; exact S.LO p h1
    nd := by rw [U.keys]; exact S.nd
    gens := S.gens, drawn := S.drawn, os := S.os }

/-- a name is stored -/
def putM (x : Str) (v : Value) : List (Str × Value) → List (Str × Value)
  | [] => [(x, v)]
  | (y, u) :: r => if y = x then (x, v) :: r else (y, u) :: putM x v r
theorem lookup_putM (x : Str) (v : Value) : ∀ (ms : List (Str × Value)) (y : Str), (putM x v ms).lookup y = if y = x then some v else ms.lookup y
  | [], y => by
    unfold putM
    by_cases h : y = x
    · subst h; simp
    · rw [List.lookup_cons]; have : (y == x) = false := by simpa using h
      rw [this]; simp [h]
  | (z, u) :: r, y => by
    unfold putM
    by_cases hz : z = x
    · subst hz
      rw [if_pos rfl, List.lookup_cons, List.lookup_cons]
      by_cases h : y = z
      · subst h; simp
      · have : (y == z) = false := by simpa using h
        rw [this]; simp [h]
    · rw [if_neg hz, List.lookup_cons, List.lookup_cons, lookup_putM x v r y]
      by_cases h : y = z
      · subst h
        have : (y == y) = true := by simp
        rw [this]; simp [hz]
      · have : (y == z) = false := by simpa using h
        rw [this]
theorem St.store (S : St w C R ms own s) {x : Str} {v : Value} {h' : Heap} {tk : Nat} (hn : h'.Ns C.L (fun y => if y = x then some v else ms.lookup y)) (hs : Heap.SameBut C.L s.heap h') {ms' : List (Str × Value)} (e : putM x v ms = ms') :
    St w C R ms' own { s with heap := h', toks := tk } := by
  subst e
  have hk : ∀ b o, b ≠ C.L → s.heap.get? b = some o → h'.get? b = some o := fun b o hb e => (hs.2 b hb).trans e
  have nG : ∀ b o, C.G b = some o → b ≠ C.L := fun b o e q => by subst q; rw [S.GL] at e; cases e
  have nR : ∀ b o, R b = some o → b ≠ C.L := fun b o e q => by subst q; rw [S.RL] at e; cases e
  exact { S with
    ns := by
      have e : (fun y => (putM x v ms).lookup y) = fun y => if y = x then some v else ms.lookup y := funext (lookup_putM x v ms)
      rw [e]; exact hn
    kG := fun b o e => hk _ _ (nG b o e) (S.kG b o e)
    kR := fun b o e => hk _ _ (nR b o e) (S.kR b o e)
    kO := fun p hp => hk _ _ (S.LO p hp) (S.kO p hp)
    gens := S.gens, drawn := S.drawn, os := S.os }

def addR (R : PH) (a : Addr) (o : Obj) : PH := fun b => if b = a then some o else R b
theorem addR_self (R : PH) (a : Addr) (o : Obj) : addR R a o a = some o := if_pos rfl
theorem addR_ne {R : PH} {a b : Addr} {o : Obj} (h : b ≠ a) : addR R a o b = R b := if_neg h
inductive Frz (w : World) (C : Cx) (R : PH) (ms : List (Str × Value)) (own' : List (Addr × Obj)) (s : Shared) (d : Addr) (o : Obj) : Prop
  | mk (R' : PH) (le : Le R R') (e : R' d = some o) (S : St w C R' ms own' s)
theorem St.freeze (S : St w C R ms own s) {d : Addr} {o : Obj} {own' : List (Addr × Obj)} (U : OwnD d o own own') : Frz w C R ms own' s d o := by
  have hd := U.mem
  have hR := S.RO _ hd
  have S' := S.sub U.sub
  refine ⟨addR R d o, fun b o' e => ?_, addR_self .., { S' with
    base := fun b o' e => ?_
    kR := fun b o' e => ?_
    dGR := fun b o' e => ?_
    RL := ?_
    RO := fun p hp => ?_ }⟩
  · rw [addR_ne (fun q => by subst q; rw [hR] at e; cases e)]; exact e
  · have e' := S.base b o' e
    rw [addR_ne (fun q => by subst q; rw [hR] at e'; cases e')]; exact e'
  · by_cases q : b = d
    · subst q; rw [addR_self] at e; cases e; exact S.kO _ hd
    · rw [addR_ne q] at e; exact S.kR _ _ e
  · rw [addR_ne (fun q => by subst q; rw [S.GO _ hd] at e; cases e)]; exact S.dGR b o' e
  · rw [addR_ne (Ne.symm (S.LO _ hd))]; exact S.RL
  · rw [addR_ne (U.off S.nd p hp)]; exact S'.RO p hp

/-- into a callee -/
def Cx.into (C : Cx) (R : PH) (own₁ : List (Addr × Obj)) (h : Heap) : Cx :=
  { C with G := fun b => if own₁.any (·.1 == b) || (R b).isSome then none else h.get? b, L := h.objs.size }
theorem into_G {C : Cx} {R : PH} {own₁ : List (Addr × Obj)} {h : Heap} {b : Addr} {o : Obj} (hb : ∀ p ∈ own₁, p.1 ≠ b) (hR : R b = none) (e : h.get? b = some o) : (C.into R own₁ h).G b = some o := by
  show (if own₁.any (·.1 == b) || (R b).isSome then none else h.get? b) = _
  have : own₁.any (·.1 == b) = false := by
    rw [List.any_eq_false]
    intro p hp; simpa using hb p hp
  rw [this, hR]; simpa using e
theorem of_into_G {C : Cx} {R : PH} {own₁ : List (Addr × Obj)} {h : Heap} {b : Addr} {o : Obj} (e : (C.into R own₁ h).G b = some o) : (∀ p ∈ own₁, p.1 ≠ b) ∧ R b = none ∧ h.get? b = some o := by
  have e' : (if own₁.any (·.1 == b) || (R b).isSome then none else h.get? b) = some o := e
  split at e'
  · cases e'
  · rename_i hn
    rw [Bool.not_eq_true, Bool.or_eq_false_iff] at hn
    refine ⟨fun p hp q => ?_, ?_, e'⟩
    · have := List.any_eq_false.mp hn.1 p hp
      exact this (by simpa using q)
    · cases q : R b with
      | none => rfl
      | some o' => rw [q] at hn; cases hn.2

theorem St.enter (S : St w C R ms own s) {own₁ : List (Addr × Obj)} (h1 : ∀ p ∈ own₁, p ∈ own) (nd : (own₁.map (·.1)).Nodup) {h' : Heap} {tk : Nat} {ms₁ : List (Str × Value)}
    (hn : h'.Ns s.heap.objs.size (fun y => ms₁.lookup y)) (hk : ∀ b o, s.heap.get? b = some o → h'.get? b = some o) :
    St w (C.into R own₁ s.heap) R ms₁ own₁ { s with heap := h', toks := tk } := by
  have fL := S.fresh (heap_size_none s.heap)
  exact {
    X := S.X, g := S.g, b := S.b, bi := S.bi, nolimit := S.nolimit, base := S.base
    above := by
      show C.hB.objs.size ≤ s.heap.objs.size
      exact Nat.le_trans S.above (Nat.le_of_lt S.ns.lt)
    ns := hn
    kG := fun b o e => hk _ _ (of_into_G e).2.2
    kR := fun b o e => hk _ _ (S.kR b o e)
    kO := fun p hp => hk _ _ (S.kO p (h1 p hp))
    dGR := fun b o e => (of_into_G e).2.1
    GL := by
      cases e : (C.into R own₁ s.heap).G (C.into R own₁ s.heap).L with
      | none => rfl
      | some o =>
        have := (of_into_G e).2.2
        rw [show (C.into R own₁ s.heap).L = s.heap.objs.size from rfl, heap_size_none] at this
        cases this
    RL := fL.2.1
    GO := fun p hp => by
      cases e : (C.into R own₁ s.heap).G p.1 with
      | none => rfl
      | some o => exact absurd rfl ((of_into_G e).1 p hp)
    RO := fun p hp => S.RO p (h1 p hp)
    LO := fun p hp => fL.2.2.2 p (h1 p hp)
    nd := nd
    gens := S.gens, drawn := S.drawn, os := S.os }

/-- back from a callee -/
theorem St.exit (S : St w C R ms own s) {own₁ own₁' own' : List (Addr × Obj)} {R' : PH} {ms' : List (Str × Value)} {s' : Shared} {C' : Cx} (hC : C' = C.into R own₁ s.heap) (S' : St w C' R' ms' own₁' s') (le : Le R R')
    (hf : ∀ p ∈ own', p ∈ own₁' ∨ (p ∈ own ∧ ∀ q ∈ own₁, q.1 ≠ p.1)) (h1 : ∀ p ∈ own₁, p ∈ own) (nd : (own'.map (·.1)).Nodup) : St w C R' ms own' s' := by
  subst hC
  have kept : ∀ b o, s.heap.get? b = some o → (∀ q ∈ own₁, q.1 ≠ b) → s'.heap.get? b = some o := fun b o e hb => by
    cases q : R b with
    | none => exact S'.kG b o (into_G hb q e)
    | some o' =>
      have := S.kR _ _ q; rw [e] at this; cases this
      exact S'.kR _ _ (le _ _ q)
  have gone : ∀ b o, s.heap.get? b = some o → (∀ q ∈ own₁, q.1 ≠ b) → R b = none → R' b = none := fun b o e hb q => S'.dGR b o (into_G hb q e)
  have nG : ∀ b o, C.G b = some o → ∀ q ∈ own₁, q.1 ≠ b := fun b o e q hq z => by have := S.GO q (h1 q hq); rw [z, e] at this; cases this
  obtain ⟨oL, esL, epL, eL, rL⟩ := S.ns
  have nL : ∀ q ∈ own₁, q.1 ≠ C.L := fun q hq => S.LO q (h1 q hq)
  have newer : ∀ p ∈ own₁', (∃ q ∈ own₁, q.1 = p.1) ∨ s.heap.get? p.1 = none := fun p hp => by
    cases e : s.heap.get? p.1 with
    | none => exact .inr rfl
    | some o =>
      refine .inl (Classical.byContradiction fun hn => ?_)
      have hb : ∀ q ∈ own₁, q.1 ≠ p.1 := fun q hq z => hn ⟨q, hq, z⟩
      cases q : R p.1 with
      | none => have := S'.GO p hp; rw [into_G hb q e] at this; cases this
      | some o' => have := S'.RO p hp; rw [le _ _ q] at this; cases this
  exact {
    X := S.X, g := S.g, b := S.b, bi := S.bi, nolimit := S.nolimit
    base := fun b o e => le _ _ (S.base b o e)
    above := S.above
    ns := ⟨oL, esL, epL, kept _ _ eL nL, rL⟩
    kG := fun b o e => kept b o (S.kG b o e) (nG b o e)
    kR := S'.kR
    kO := fun p hp => by
      rcases hf p hp with h | ⟨h, hb⟩
      · exact S'.kO p h
      · exact kept _ _ (S.kO p h) hb
    dGR := fun b o e => gone b o (S.kG b o e) (nG b o e) (S.dGR b o e)
    GL := S.GL
    RL := gone _ _ eL nL S.RL
    GO := fun p hp => by
      rcases hf p hp with h | ⟨h, hb⟩
      · rcases newer p h with ⟨q, hq, z⟩ | h
        · rw [← z]; exact S.GO q (h1 q hq)
        · exact (S.fresh h).1
      · exact S.GO p h
    RO := fun p hp => by
      rcases hf p hp with h | ⟨h, hb⟩
      · exact S'.RO p h
      · exact gone _ _ (S.kO p h) hb (S.RO p h)
    LO := fun p hp => by
      rcases hf p hp with h | ⟨h, hb⟩
      · rcases newer p h with ⟨q, hq, z⟩ | h
        · rw [← z]; exact S.LO q (h1 q hq)
        · exact (S.fresh h).2.2.1
      · exact S.LO p h
    nd := nd
    gens := S'.gens, drawn := S'.drawn, os := S'.os }
theorem St.exit0 (S : St w C R ms own s) {own₁' : List (Addr × Obj)} {R' : PH} {ms' : List (Str × Value)} {s' : Shared} {C' : Cx} (hC : C' = C.into R [] s.heap) (S' : St w C' R' ms' own₁' s') (le : Le R R') : St w C R' ms own s' :=
  S.exit hC S' le (fun p hp => .inr ⟨hp, fun _ hq => (nomatch hq)⟩) (fun _ hq => (nomatch hq)) S.nd
theorem St.exit1 (S : St w C R ms own s) {d : Addr} {o o' : Obj} {f : Obj → List (Addr × Obj)} (U : OwnF d o own f) {own₁' : List (Addr × Obj)} {R' : PH} {ms' : List (Str × Value)} {s' : Shared} {C' : Cx} (hC : C' = C.into R [(d, o)] s.heap)
    (S' : St w C' R' ms' own₁' s') (hm : (d, o') ∈ own₁') (le : Le R R') : St w C R' ms (f o') s' :=
  S.exit hC S' le (fun p hp => by
    rcases U.of (o' := o') S.nd p hp with rfl | ⟨h1, h2⟩
    · exact .inl hm
    · refine .inr ⟨h1, fun q hq => ?_⟩
      rw [List.mem_singleton.mp hq]; exact Ne.symm h2) (fun p hp => by rw [List.mem_singleton.mp hp]; exact U.mem) (by rw [U.keys]; exact S.nd)
/-- a callee that made an object which stays its own -/
theorem St.exitN (S : St w C R ms own s) {own₁' : List (Addr × Obj)} {R' : PH} {ms' : List (Str × Value)} {s' : Shared} {C' : Cx} {a : Addr} {o : Obj} (hC : C' = C.into R [] s.heap) (S' : St w C' R' ms' own₁' s') (hm : (a, o) ∈ own₁') (le : Le R R') :
    St w C R' ms ((a, o) :: own) s' := by
  refine S.exit hC S' le (fun p hp => ?_) (fun _ hq => (nomatch hq)) ?_
  · rcases List.mem_cons.mp hp with rfl | hp
    · exact .inl hm
    · exact .inr ⟨hp, fun _ hq => (nomatch hq)⟩
  · rw [List.map_cons, List.nodup_cons]
    refine ⟨fun h => ?_, S.nd⟩
    obtain ⟨p, hp, e⟩ := List.mem_map.mp h
    have e1 := S'.GO _ hm
    subst hC
    have : (C.into R [] s.heap).G p.1 = some p.2 := into_G (fun _ hq => (nomatch hq)) (S.RO p hp) (S.kO p hp)
    rw [e] at this
    rw [this] at e1; cases e1
end



abbrev lstO (vs : List Value) (n : Nat) : Obj := { cls := .type "list", data := .seq vs.toArray n }
abbrev tupO (vs : List Value) : Obj := { cls := .type "tuple", data := .seq vs.toArray 0 }

inductive GetM (x : Str) : List (Str × Value) → Value → Prop
  | hit {v r} : GetM x ((x, v) :: r) v
  | miss {y : Str} {u : Value} {r : List (Str × Value)} {v : Value} : y ≠ x → GetM x r v → GetM x ((y, u) :: r) v
theorem GetM.look {x : Str} {ms : List (Str × Value)} {v : Value} (h : GetM x ms v) : ms.lookup x = some v := by
  induction h with
  | hit => simp
  | @miss y u r v hn _ ih =>
    rw [List.lookup_cons]
    have : (x == y) = false := by simpa using (Ne.symm hn)
    rw [this]; exact ih
inductive PutM (x : Str) (v : Value) : List (Str × Value) → List (Str × Value) → Prop
  | nil : PutM x v [] [(x, v)]
  | hit {u r} : PutM x v ((x, u) :: r) ((x, v) :: r)
  | miss {y : Str} {u : Value} {r r' : List (Str × Value)} : y ≠ x → PutM x v r r' → PutM x v ((y, u) :: r) ((y, u) :: r')
theorem PutM.eq {x : Str} {v : Value} {ms ms' : List (Str × Value)} (h : PutM x v ms ms') : putM x v ms = ms' := by
  induction h with
  | nil => rfl
  | hit => unfold putM; rw [if_pos rfl]
  | miss hn _ ih => unfold putM; rw [if_neg hn, ih]

section
variable {prog : Program} {w : World} {M : Model} {A : Around} {E : Value → Shared → Prop} {s : Shared} {env : Env}
  {C : Cx} {R : PH} {ms ms' : List (Str × Value)} {own own' : List (Addr × Obj)} {names : List (Str × NameKind)} {cl : List (Str × Addr)}

/-! what stands behind -/
def NextQ (M : Model) (A : Around) (E : Value → Shared → Prop) (rest : List Stmt) (env : Env) (Q : Flow → Shared → Prop) (f : Flow) (s : Shared) : Prop := match f with
  | .next => wpAny M A (execs rest env) Q E s
  | f => Q f s
def RetQ (Q : Value → Shared → Prop) (f : Flow) (s : Shared) : Prop := Q (match f with | .ret v => v | _ => .none) s
def IfQ (M : Model) (A : Around) (E : Value → Shared → Prop) (body orelse : List Stmt) (env : Env) (Q : Flow → Shared → Prop) (b : Bool) (s : Shared) : Prop := if b = true then wpAny M A (execs body env) Q E s else wpAny M A (execs orelse env) Q E s
theorem x_cons {st : Stmt} {rest : List Stmt} {Q : Flow → Shared → Prop} (h : wpAny M A (exec st env) (NextQ M A E rest env Q) E s) : wpAny M A (execs (st :: rest) env) Q E s := by
  refine wpAny_execs_cons (wpAny_mono h (fun f s' q => ?_) fun _ _ e => e)
  cases f <;> exact q
theorem x_qn {rest : List Stmt} {Q : Flow → Shared → Prop} (h : wpAny M A (execs rest env) Q E s) : NextQ M A E rest env Q .next s := h
theorem x_qr {rest : List Stmt} {Q : Flow → Shared → Prop} {v : Value} (h : Q (.ret v) s) : NextQ M A E rest env Q (.ret v) s := h
theorem x_if {test : Expr} {body orelse : List Stmt} {pos : Pos} {Q : Flow → Shared → Prop} (h : wpAny M A (isTrue test env (eval test env)) (IfQ M A E body orelse env Q) E s) : wpAny M A (exec (.If test body orelse pos) env) Q E s := wpAny_If h
theorem x_qi {body orelse : List Stmt} {Q : Flow → Shared → Prop} {b : Bool} (h : if b = true then wpAny M A (execs body env) Q E s else wpAny M A (execs orelse env) Q E s) : IfQ M A E body orelse env Q b s := h

/-! names -/
structure Fra (env : Env) (C : Cx) (names : List (Str × NameKind)) (cl : List (Str × Addr)) : Prop where
  L : env.locals = C.L
  k : env.scope.kind = .function
  g : env.globals = mainGlobals
  b : env.builtins = builtinsNs
  n : env.scope.names = names
  c : env.cells = cl
  int : interactive env = false
  blk : env.blockKind = .function
theorem Fra.kind {names : List (Str × NameKind)} {cl : List (Str × Addr)} (F : Fra env C names cl) {x : Str} {k : NameKind} (h : names.lookup x = some k) : env.kindOf x = some k := by
  unfold Env.kindOf; rw [F.n]; exact h

theorem x_name {x : Str} {pos : Pos} {v : Value} {Q : Value → Shared → Prop} (S : St w C R ms own s) (F : Fra env C names cl) (hx : names.lookup x = some .local) (hdb : (x == ("__debug__" : Str)) = false) (hm : GetM x ms v)
    (h : Q v s) : wpAny M A (eval (.Name x pos) env) Q E s :=
  wpAny_Name (wpAny_loadName_local F.k (F.kind hx) (F.L ▸ S.ns) hm.look h) hdb
theorem x_load {x : Str} {v : Value} {Q : Value → Shared → Prop} (S : St w C R ms own s) (F : Fra env C names cl) (hx : names.lookup x = some .local) (hm : GetM x ms v)
    (h : Q v s) : wpAny M A (loadName env x) Q E s := wpAny_loadName_local F.k (F.kind hx) (F.L ▸ S.ns) hm.look h
theorem x_glob {x : Str} {pos : Pos} {v : Value} {Q : Value → Shared → Prop} (S : St w C R ms own s) (F : Fra env C names cl) (hx : names.lookup x = some .globalImplicit) (hdb : (x == ("__debug__" : Str)) = false)
    (e : nsIn (hd.heap_39 w.params) mainGlobals x = some (some v)) (h : Q v s) : wpAny M A (eval (.Name x pos) env) Q E s :=
  Name_function_global F.k (F.kind hx) (loadGlobal_global (F.g ▸ S.g.keeps S.kB) (mg_of S.X S.g e) h) hdb
theorem x_bltn {x : Str} {pos : Pos} {v : Value} {Q : Value → Shared → Prop} (S : St w C R ms own s) (F : Fra env C names cl) (hx : names.lookup x = some .globalImplicit) (hdb : (x == ("__debug__" : Str)) = false)
    (e : nsIn (hd.heap_39 w.params) mainGlobals x = some none ∧ bootBuiltins x = some v ∧ x ≠ "__name__") (h : Q v s) : wpAny M A (eval (.Name x pos) env) Q E s :=
  Name_function_global F.k (F.kind hx) (loadGlobal_builtin (F.g ▸ S.g.keeps S.kB) (mg_none_of S.X S.g e.1) (F.b ▸ S.b.keeps S.kB) ((S.bi x e.2.2).trans e.2.1) h) hdb
theorem x_store {x : Str} {v : Value} {Q : Unit → Shared → Prop} (S : St w C R ms own s) (F : Fra env C names cl) (hx : names.lookup x = some .local) (hp : PutM x v ms ms')
    (h : ∀ s', St w C R ms' own s' → Q () s') : wpAny M A (storeName env x v) Q E s :=
  wpAny_storeName_local (F.kind hx) (F.L ▸ S.ns) (fun h' hn hs => h _ (S.store (F.L ▸ hn) (F.L ▸ hs) hp.eq)) (by rw [F.k]; rfl)

/-! constants -/
theorem x_int {i : Int} {k pos} {Q : Value → Shared → Prop} (S : St w C R ms own s) (h : ∀ t s', St w C R ms own s' → Q (.int i t) s') : wpAny M A (eval (.Constant (.int i) k pos) env) Q E s := wpAny_Constant_int (h _ _ S.tok)

/-! ints -/
theorem x_add {a b : Int} {t u : Tok} {Q : Value → Shared → Prop} (S : St w C R ms own s) (h : ∀ t s', St w C R ms own s' → Q (.int (a + b) t) s') : wpAny (model prog w) A (binaryOp .Add (.int a t) (.int b u)) Q E s := PyProof.Rows.add_int (h _ _ S.tok)
theorem x_sub {a b : Int} {t u : Tok} {Q : Value → Shared → Prop} (S : St w C R ms own s) (h : ∀ t s', St w C R ms own s' → Q (.int (a - b) t) s') : wpAny (model prog w) A (binaryOp .Sub (.int a t) (.int b u)) Q E s := PyProof.Rows.sub_int (h _ _ S.tok)
theorem x_mul {a b : Int} {t u : Tok} {Q : Value → Shared → Prop} (S : St w C R ms own s) (hm : IntMulOk a b) (h : ∀ t s', St w C R ms own s' → Q (.int (a * b) t) s') : wpAny (model prog w) A (binaryOp .Mult (.int a t) (.int b u)) Q E s := PyProof.Rows.mul_int (h _ _ S.tok) hm
theorem x_mod {a b : Int} {t u : Tok} {Q : Value → Shared → Prop} (S : St w C R ms own s) (hb : b ≠ 0) (h : ∀ t s', St w C R ms own s' → Q (.int (a.fmod b) t) s') : wpAny (model prog w) A (binaryOp .Mod (.int a t) (.int b u)) Q E s := PyProof.Rows.mod_int' hb (h _ _ S.tok)
theorem x_div {a b : Int} {t u : Tok} {Q : Value → Shared → Prop} (S : St w C R ms own s) (hb : b ≠ 0) (hs : b.natAbs < 1073741824) (h : ∀ t s', St w C R ms own s' → Q (.int (a.fdiv b) t) s') : wpAny (model prog w) A (binaryOp .FloorDiv (.int a t) (.int b u)) Q E s :=
  PyProof.Rows.floordiv_int hb (h _ _ S.tok) (.inl (PyProof.noPylong_small hs))
theorem x_pow {a n : Int} {t u : Tok} {Q : Value → Shared → Prop} (S : St w C R ms own s) (hn : 0 ≤ n) (hz : (Builtin.Int.intBits a : Int) * n ≤ 2 ^ 27) (h : ∀ t s', St w C R ms own s' → Q (.int (a ^ n.toNat) t) s') : wpAny (model prog w) A (binaryOp .Pow (.int a t) (.int n u)) Q E s :=
  PyProof.Rows.pow_int hn hz (h _ _ S.tok)
theorem x_gt {a b : Int} {t u : Tok} {Q : Value → Shared → Prop} (h : Q (.bool (decide (b < a))) s) : wpAny (model prog w) A (compareOp .Gt (.int a t) (.int b u)) Q E s := PyProof.Rows.gt_int h
theorem x_lt {a b : Int} {t u : Tok} {Q : Value → Shared → Prop} (h : Q (.bool (decide (a < b))) s) : wpAny (model prog w) A (compareOp .Lt (.int a t) (.int b u)) Q E s := PyProof.Rows.lt_int h
theorem x_truthy {b : Bool} {Q : Bool → Shared → Prop} (h : Q b s) : wpAny M A (truthy (.bool b)) Q E s := wpAny_truthy_bool h

/-! statements -/
theorem x_assign {x pos' value pos} {Q : Flow → Shared → Prop} (hs : swapsWith value (some (.Name x pos')) pos.line env = pure false)
    (h : wpAny M A (eval value env) (fun v s₁ => wpAny M A (storeName env x v) (fun _ => Q .next) E s₁) E s) : wpAny M A (exec (.Assign [.Name x pos'] value pos) env) Q E s := wpAny_Assign_Name h hs
theorem x_assignSub {o i pos' value pos} {Q : Flow → Shared → Prop} (hs : swapsWith value (some (.Subscript o i pos')) pos.line env = pure false)
    (h : wpAny M A (eval value env) (fun v s₁ => wpAny M A (eval o env) (fun ov s₂ => wpAny M A (eval i env) (fun iv s₃ =>
      wpAny M A (setItem ov iv v) (fun _ => Q .next) E s₃) E s₂) E s₁) E s) : wpAny M A (exec (.Assign [.Subscript o i pos'] value pos) env) Q E s := wpAny_Assign_Subscript h hs
theorem x_isCmp {l op r pos whole} {Q : Bool → Shared → Prop} (hm : behindInMarks op r = false)
    (h : wpAny M A (eval l env) (fun a s₁ => wpAny M A (eval r env) (fun b s₂ => wpAny M A (compareOp op a b) (fun c s₃ => wpAny M A (truthy c) Q E s₃) E s₂) E s₁) E s) : wpAny M A (isTrue (.Compare l [op] [r] pos) env whole) Q E s := wpAny_isTrue_Compare1 h hm
theorem x_cmp {l op r pos} {Q : Value → Shared → Prop} (hm : behindInMarks op r = false)
    (h : wpAny M A (eval l env) (fun a s₁ => wpAny M A (eval r env) (fun b s₂ => wpAny M A (compareOp op a b) Q E s₂) E s₁) E s) : wpAny M A (eval (.Compare l [op] [r] pos) env) Q E s := wpAny_Compare1 h hm

/-! lists, tuples -/
theorem isL_of {h : Heap} {l : Addr} {vs : List Value} {n : Nat} (e : h.get? l = some (lstO vs n)) : h.IsList l vs.toArray := ⟨_, e, rfl, n, rfl⟩
theorem x_itemL {value slice : Expr} {l : Addr} {vs : List Value} {n : Nat} {k : Int} {u : Tok} {v : Value} {Q : Value → Shared → Prop} (e : s.heap.get? l = some (lstO vs n)) (h0 : 0 ≤ k) (hhi : k < 2 ^ 63) (hx : vs[k.toNat]? = some v)
    (hs : subscripted slice false (.ref l) (.int k u) = operate [.ref l, .int k u] (getItem (.ref l) (.int k u))) (h : Q v s) :
    wpAny (model prog w) A (subscriptTail value slice (.ref l) (.int k u)) Q E s := item_litK (isL_of e) h0 hhi hx h hs
theorem mapSeq_lst (f : Array Value → Array Value) (vs ws : List Value) (n : Nat) (h : f vs.toArray = ws.toArray) : Obj.mapSeq f (lstO vs n) = lstO ws (if ws.length == vs.length then n else n + 1) := by
  show (⟨_, _, .seq (f vs.toArray) (if (f vs.toArray).size == vs.toArray.size then n else n + 1), _⟩ : Obj) = _
  rw [h]; simp
theorem St.updL (S : St w C R ms own s) {l : Addr} {vs ws : List Value} {n : Nat} {fo : Obj → List (Addr × Obj)} (U : OwnF l (lstO vs n) own fo) (f : Array Value → Array Value) (h : f vs.toArray = ws.toArray) {tk : Nat} :
    St w C R ms (fo (lstO ws (if ws.length == vs.length then n else n + 1))) { s with heap := s.heap.update l (Obj.mapSeq f), toks := tk } := by
  refine S.upd U (fun b o hb e => (Heap.get?_update_other _ _ (Ne.symm hb)).trans e) ?_
  rw [← mapSeq_lst f vs ws n h]
  exact Heap.get?_update_self _ (S.kO _ U.mem) (by rw [mapSeq_lst f vs ws n h]; rfl)
theorem x_setL {l : Addr} {vs ws : List Value} {n : Nat} {k : Int} {t : Tok} {v : Value} {f : Obj → List (Addr × Obj)} {Q : Unit → Shared → Prop} (S : St w C R ms own s) (U : OwnF l (lstO vs n) own f) (h0 : 0 ≤ k) (hfit : k < 2 ^ 63) (hn : k < vs.length)
    (hw : vs.set k.toNat v = ws) (h : ∀ s', St w C R ms (f (lstO ws n)) s' → Q () s') : wpAny (model prog w) A (setItem (.ref l) (.int k t) v) Q E s := by
  subst hw
  refine ki_setAt (n := n) (S.kO _ U.mem) h0 hfit (by simpa using hn) (h _ ?_)
  have q := S.updL (ws := vs.set k.toNat v) U (fun xs => xs.setIfInBounds k.toNat v) (by simp) (tk := s.toks)
  rw [List.length_set, if_pos (by simp)] at q
  exact q

/-! calls -/
theorem x_enter {f : Addr} {name qual : Str} {params : Arguments} {body : List Stmt} {scope : Scope} {dV kV doc pm cdv ct oc : Value} {an od : Option Addr} {osl : Array (Option Value)} {args : List Value} {binds ms₁ : List (Str × Value)} {Q : Value → Shared → Prop}
    (S : St w C R ms own s) (own₁ : List (Addr × Obj)) (h1 : ∀ p ∈ own₁, p ∈ own) (nd : (own₁.map (·.1)).Nodup)
    (ho : (hd.heap_39 w.params).lookup f = some ⟨oc, od, .func (fnOf name qual params body scope dV kV doc pm an cdv ct), osl⟩) (hcd : codeIn (hd.heap_39 w.params) cdv qual = true)
    (hbind : BindsTo s (fnOf name qual params body scope dV kV doc pm an cdv ct) ⟨args, []⟩ binds) (hms : binds.reverse = ms₁) (hloc : ∀ y ∈ binds, scope.names.lookup y.1 = some .local) (hcell : ∀ x ∈ scope.names, x.2 ≠ .cell)
    (hco : scope.isCoroutine = false) (hgen : scope.isGenerator = false) (hk : scope.kind = .function)
    {nm : Nat} (ok : Ok A (nm + 1)) (h : ∀ C' A' env s₁, C' = C.into R own₁ s.heap → Fra env C' scope.names [] → Ok A' nm → St w C' R ms₁ own₁ s₁ →
      wpAny (model prog w) A' (execs body env) (RetQ Q) NoE s₁) :
    wpAny (model prog w) A (call (.ref f) args) Q E s := by
  subst hms
  refine wpAny_call (codeAny_call_def (fd := fnOf name qual params body scope dV kV doc pm an cdv ct) (body := body) (binds := binds) ok.room (S.kIn _ _ ho) rfl (S.nolimit.keeps S.kB) (codeRec_of S.kIn hcd) rfl hbind hcell hloc (fun h₁ hns hk₁ => ?_) hco hgen hk)
  exact wpAny_mono (h _ _ _ _ rfl ⟨rfl, hk, rfl, rfl, rfl, rfl, by show (scope.kind == .module && _) = false; rw [hk]; rfl, by show (if scope.kind.isAnnotationScope then ScopeKind.function else scope.kind) = .function; rw [hk]; rfl⟩ (ok.deeper _) (S.enter h1 nd hns hk₁)) (fun _ _ q => q) fun _ _ q => q.elim

theorem x_ite {P : Prop} [Decidable P] {a b : Prop} (h1 : P → a) (h2 : ¬ P → b) : if decide P = true then a else b := by
  by_cases h : P
  · rw [if_pos (decide_eq_true h)]; exact h1 h
  · rw [if_neg (by rw [decide_eq_false h]; decide)]; exact h2 h
theorem x_itt {a b : Prop} (h : a) : if true = true then a else b := by rw [if_pos rfl]; exact h
theorem x_iff {a b : Prop} (h : b) : if false = true then a else b := by rw [if_neg (by decide)]; exact h
theorem intBits_le {x : Int} {n : Nat} (h : x.natAbs < 2 ^ n) : Builtin.Int.intBits x ≤ n := by
  unfold Builtin.Int.intBits
  split
  · exact Nat.zero_le _
  · rename_i hx
    have hx' : x.natAbs ≠ 0 := by
      intro e; exact hx (by simpa using e)
    exact (Nat.log2_lt hx').mpr h
end

section
variable {prog : Program} {w : World} {M : Model} {A : Around} {E : Value → Shared → Prop} {s : Shared} {env : Env}
  {C : Cx} {R : PH} {ms ms' : List (Str × Value)} {own own' : List (Addr × Obj)} {names : List (Str × NameKind)} {cl : List (Str × Addr)}

/-! the library's ledger rules, used over a ledger of all that stands -/
def Full (S : Heap) (hB : Heap) (L : Addr) (news : List (Addr × Obj)) : Prop := ∀ b o, S.get? b = some o → b ≠ L → hB.get? b = none → (b, o) ∈ news
theorem St.snap (S : St w C R ms own s) : ∃ news, News C.hB C.L s.heap news ∧ Full s.heap C.hB C.L news := by
  classical
  refine ⟨(List.range s.heap.objs.size).filterMap (fun b => if b ≠ C.L ∧ C.hB.get? b = none then (s.heap.get? b).map (fun o => (b, o)) else none), ?_, ?_⟩
  · intro p hp
    obtain ⟨b, _, hb⟩ := List.mem_filterMap.mp hp
    split at hb
    · rename_i hc
      obtain ⟨o, ho, e⟩ := Option.map_eq_some_iff.mp hb
      subst e
      exact ⟨ho, hc.1, hc.2⟩
    · cases hb
  · intro b o e hL hB
    refine List.mem_filterMap.mpr ⟨b, List.mem_range.mpr (Heap.lt_size e), ?_⟩
    rw [if_pos ⟨hL, hB⟩, e]; rfl
theorem St.hB_none (S : St w C R ms own s) {b : Addr} (h : R b = none) : C.hB.get? b = none := by
  cases e : C.hB.get? b with
  | none => rfl
  | some o => have := S.base _ _ e; rw [h] at this; cases this
/-- back: new objects -/
theorem St.backNews (S : St w C R ms own s) {news ds : List (Addr × Obj)} (hf : Full s.heap C.hB C.L news) {h' : Heap} {tk : Nat} (F : Fr C.hB C.L h' (fun y => ms.lookup y)) (N : News C.hB C.L h' (ds ++ news)) (hD : ∀ p ∈ news, ∀ q ∈ ds, p.1 ≠ q.1) (nd : (ds.map (·.1)).Nodup) :
    St w C R ms (ds ++ own) { s with heap := h', toks := tk } := by
  have ND : ∀ q ∈ ds, h'.get? q.1 = some q.2 ∧ q.1 ≠ C.L ∧ C.hB.get? q.1 = none := fun q hq => N q (List.mem_append_left _ hq)
  have hDn : ∀ q ∈ ds, s.heap.get? q.1 = none := fun q hq => by
    cases e : s.heap.get? q.1 with
    | none => rfl
    | some ob => exact absurd rfl (hD _ (hf _ ob e (ND q hq).2.1 (ND q hq).2.2) q hq)
  have keep : ∀ b ob, s.heap.get? b = some ob → b ≠ C.L → h'.get? b = some ob := fun b ob e hL => by
    cases q : C.hB.get? b with
    | some o' => have := S.kB _ _ q; rw [e] at this; cases this; exact F.keep _ _ q
    | none => exact (N _ (List.mem_append_right _ (hf b ob e hL q))).1
  have nL : ∀ b ob, C.G b = some ob → b ≠ C.L := fun b ob e q => by subst q; rw [S.GL] at e; cases e
  have nL2 : ∀ b ob, R b = some ob → b ≠ C.L := fun b ob e q => by subst q; rw [S.RL] at e; cases e
  exact { S with
    ns := F.ns
    kG := fun b ob e => keep b ob (S.kG b ob e) (nL b ob e)
    kR := fun b ob e => keep b ob (S.kR b ob e) (nL2 b ob e)
    kO := fun p hp => by rcases List.mem_append.mp hp with hp | hp; exact (ND p hp).1; exact keep _ _ (S.kO p hp) (S.LO p hp)
    GO := fun p hp => by rcases List.mem_append.mp hp with hp | hp; exact (S.fresh (hDn p hp)).1; exact S.GO p hp
    RO := fun p hp => by rcases List.mem_append.mp hp with hp | hp; exact (S.fresh (hDn p hp)).2.1; exact S.RO p hp
    LO := fun p hp => by rcases List.mem_append.mp hp with hp | hp; exact (S.fresh (hDn p hp)).2.2.1; exact S.LO p hp
    nd := by
      rw [List.map_append, List.nodup_append]
      refine ⟨nd, S.nd, fun a ha b hb e => ?_⟩
      obtain ⟨q, hq, e1⟩ := List.mem_map.mp ha
      obtain ⟨p, hp, e2⟩ := List.mem_map.mp hb
      exact (S.fresh (hDn q hq)).2.2.2 p hp (by rw [e2, ← e, e1])
    gens := S.gens, drawn := S.drawn, os := S.os }
theorem St.backNew (S : St w C R ms own s) {news : List (Addr × Obj)} (hf : Full s.heap C.hB C.L news) {h' : Heap} {tk : Nat} {D : Addr} {o : Obj} (F : Fr C.hB C.L h' (fun y => ms.lookup y)) (N : News C.hB C.L h' ((D, o) :: news)) (hD : ∀ p ∈ news, p.1 ≠ D) :
    St w C R ms ((D, o) :: own) { s with heap := h', toks := tk } :=
  S.backNews (ds := [(D, o)]) hf F N (fun p hp q hq => by rw [List.mem_singleton.mp hq]; exact hD p hp) (by simp)
/-- the ledger with one of the own objects ahead -/
theorem St.snapD (S : St w C R ms own s) {d : Addr} {o : Obj} (hd : (d, o) ∈ own) : ∃ news, News C.hB C.L s.heap ((d, o) :: news) ∧ (∀ p ∈ news, p.1 ≠ d) ∧ ∀ b ob, s.heap.get? b = some ob → b ≠ C.L → b ≠ d → C.hB.get? b = none → (b, ob) ∈ news := by
  classical
  obtain ⟨news, N, hf⟩ := S.snap
  refine ⟨news.filter fun p => p.1 ≠ d, fun p hp => ?_, fun p hp => by simpa using (List.mem_filter.mp hp).2, fun b ob e hL hb q => List.mem_filter.mpr ⟨hf b ob e hL q, by simpa using hb⟩⟩
  rcases List.mem_cons.mp hp with rfl | hp
  · exact ⟨S.kO _ hd, S.LO _ hd, S.hB_none (S.RO _ hd)⟩
  · exact N p (List.mem_filter.mp hp).1
theorem St.backUpd (S : St w C R ms own s) {d : Addr} {o o' : Obj} {f : Obj → List (Addr × Obj)} (U : OwnF d o own f) {news : List (Addr × Obj)} (hf : ∀ b ob, s.heap.get? b = some ob → b ≠ C.L → b ≠ d → C.hB.get? b = none → (b, ob) ∈ news) {h' : Heap} {tk : Nat}
    (F : Fr C.hB C.L h' (fun y => ms.lookup y)) (N : News C.hB C.L h' ((d, o') :: news)) : St w C R ms (f o') { s with heap := h', toks := tk } := by
  have hd := U.mem
  have keep : ∀ b ob, s.heap.get? b = some ob → b ≠ C.L → b ≠ d → h'.get? b = some ob := fun b ob e hL hb => by
    cases q : C.hB.get? b with
    | some o' => have := S.kB _ _ q; rw [e] at this; cases this; exact F.keep _ _ q
    | none => exact (N _ (List.mem_cons_of_mem _ (hf b ob e hL hb q))).1
  have nL : ∀ b ob, C.G b = some ob → b ≠ C.L := fun b ob e q => by subst q; rw [S.GL] at e; cases e
  have nL2 : ∀ b ob, R b = some ob → b ≠ C.L := fun b ob e q => by subst q; rw [S.RL] at e; cases e
  have nG : ∀ b o, C.G b = some o → b ≠ d := fun b o e q => by subst q; rw [S.GO _ hd] at e; cases e
  have nR : ∀ b o, R b = some o → b ≠ d := fun b o e q => by subst q; rw [S.RO _ hd] at e; cases e
  have of := U.of (o' := o') S.nd
  exact { S with
    ns := F.ns
    kG := fun b ob e => keep b ob (S.kG b ob e) (nL b ob e) (nG b ob e)
    kR := fun b ob e => keep b ob (S.kR b ob e) (nL2 b ob e) (nR b ob e)
    kO := fun p hp => by rcases of p hp with rfl | ⟨h1, h2⟩; exact (N _ (List.mem_cons_self ..)).1; exact keep _ _ (S.kO p h1) (S.LO p h1) h2
    GO := fun p hp => by rcases of p hp with rfl | ⟨h1, h2⟩; exact S.GO (d, o) hd; exact S.GO p h1
    RO := fun p hp => by rcases of p hp with rfl | ⟨h1, h2⟩; exact S.RO (d, o) hd; exact S.RO p h1
    LO := fun p hp => by rcases of p hp with rfl | ⟨h1, h2⟩; exact S.LO (d, o) hd; exact S.LO p h1
    nd := by rw [U.keys]; exact S.nd
    gens := S.gens, drawn := S.drawn, os := S.os }

/-! calls: the plumbing -/
theorem x_callN {f : Str} {fp pos : Pos} {args : List Expr} {Q : Value → Shared → Prop}
    (h : wpAny M A (eval (.Name f fp) env) (fun fv s₁ => wpAny M A (callWith pos fv [] (backTo pos (starEach args env)) []) Q E s₁) E s) : wpAny M A (eval (.Call (.Name f fp) args [] pos) env) Q E s := wpAny_Call_NameR h
theorem x_cwF {f : Addr} {pos : Pos} {e : Expr} {rest : List Expr} {Q : Value → Shared → Prop} (S : St w C R ms own s) (hk : keepIn (hd.heap_39 w.params) (.ref f) = true) (hp : (backTo pos (starEach rest env)).any (·.1) = false) (he : starEach (e :: rest) env = (false, eval e env) :: starEach rest env)
    (h : wpAny M A (spliced (backTo pos (starEach (e :: rest) env))) (fun vs s₁ => (hd.heap_39 w.params).In s₁.heap ∧ wpAny M A (call (.ref f) vs) Q E s₁) E s) : wpAny M A (callWith pos (.ref f) [] (backTo pos (starEach (e :: rest) env)) []) Q E s :=
  callWith_K (first := []) S.X hk h he hp
theorem x_cwF1 {f : Addr} {self : Value} {pos : Pos} {e : Expr} {rest : List Expr} {Q : Value → Shared → Prop} (S : St w C R ms own s) (hk : keepIn (hd.heap_39 w.params) (.ref f) = true) (hp : (backTo pos (starEach rest env)).any (·.1) = false) (he : starEach (e :: rest) env = (false, eval e env) :: starEach rest env)
    (h : wpAny M A (spliced (backTo pos (starEach (e :: rest) env))) (fun vs s₁ => (hd.heap_39 w.params).In s₁.heap ∧ wpAny M A (call (.ref f) (self :: vs)) Q E s₁) E s) : wpAny M A (callWith pos (.ref f) [self] (backTo pos (starEach (e :: rest) env)) []) Q E s :=
  callWith_K (first := [self]) S.X hk h he hp
theorem x_cwF0 {f : Addr} {self : Value} {pos : Pos} {Q : Value → Shared → Prop} (S : St w C R ms own s) (hk : keepIn (hd.heap_39 w.params) (.ref f) = true)
    (h : wpAny M A (call (.ref f) [self]) Q E s) : wpAny M A (callWith pos (.ref f) [self] (backTo pos (starEach [] env)) []) Q E s :=
  callWith_K0 (first := [self]) S.kIn hk h
theorem x_in {Q : Prop} (S : St w C R ms own s) (h : Q) : (hd.heap_39 w.params).In s.heap ∧ Q := ⟨S.kIn, h⟩
theorem x_cwB {id : String} {pos : Pos} {first : List Value} {e : Expr} {rest : List Expr} {Q : Value → Shared → Prop} (hp : (backTo pos (starEach rest env)).any (·.1) = false) (he : starEach (e :: rest) env = (false, eval e env) :: starEach rest env)
    (h : wpAny M A (spliced (backTo pos (starEach (e :: rest) env))) (fun vs s₁ => wpAny M A (call (.builtin id) (first ++ vs)) Q E s₁) E s) : wpAny M A (callWith pos (.builtin id) first (backTo pos (starEach (e :: rest) env)) []) Q E s := by
  refine callWith_builtin (first := first) ?_ ?_
  · rw [he]; show (false || (backTo pos (starEach rest env)).any (·.1)) = false; rw [hp]; rfl
  · rw [he] at h ⊢; exact evalArgs_plain h
theorem x_cwT {id : String} {pos : Pos} {e : Expr} {rest : List Expr} {Q : Value → Shared → Prop} (hp : (backTo pos (starEach rest env)).any (·.1) = false) (he : starEach (e :: rest) env = (false, eval e env) :: starEach rest env)
    (h : wpAny M A (spliced (backTo pos (starEach (e :: rest) env))) (fun vs s₁ => wpAny M A (call (.type id) vs) Q E s₁) E s) : wpAny M A (callWith pos (.type id) [] (backTo pos (starEach (e :: rest) env)) []) Q E s := by
  refine PyProof.Rows.callWith_type (first := []) ?_ ?_
  · rw [he]; show (false || (backTo pos (starEach rest env)).any (·.1)) = false; rw [hp]; rfl
  · rw [he] at h ⊢; exact evalArgs_plain h
theorem x_spC {pos : Pos} {e : Expr} {rest : List Expr} {Q : List Value → Shared → Prop} (he : starEach (e :: rest) env = (false, eval e env) :: starEach rest env)
    (h : wpAny M A (eval e env) (fun v s₁ => wpAny M A (spliced (backTo pos (starEach rest env))) (fun vs s₂ => Q (v :: vs) s₂) E s₁) E s) : wpAny M A (spliced (backTo pos (starEach (e :: rest) env))) Q E s := by
  rw [he]; exact spliced_cons h
theorem x_spN {pos : Pos} {Q : List Value → Shared → Prop} (h : Q [] s) : wpAny M A (spliced (backTo pos (starEach [] env))) Q E s := spliced_nil h
theorem x_meth {name : Str} {o : Expr} {apos pos : Pos} {args : List Expr} {pl : Sem Bool} {Q : Value → Shared → Prop}
    (he : eval (.Call (.Attribute o name apos) args [] pos) env = (do
      let ov ← eval o env
      standAt apos.atName
      let (f, first) ← holding [ov] (getMethod ov name pl)
      callWith pos f first (backTo pos (starEach args env)) (backToKw pos (keywordEach [] env))))
    (h : wpAny M A (eval o env) (fun ov s₁ => wpAny M A (getMethod ov name pl) (fun fx s₂ => wpAny M A (callWith pos fx.1 fx.2 (backTo pos (starEach args env)) []) Q E s₂) E s₁) E s) :
    wpAny M A (eval (.Call (.Attribute o name apos) args [] pos) env) Q E s := methodCall_KW h he

/-! lists -/
theorem x_gmAppend {l : Addr} {vs : List Value} {n : Nat} {pl : Sem Bool} {Q : Value × List Value → Shared → Prop} (ho : s.heap.get? l = some (lstO vs n)) (h : Q (.builtin "list.append", [.ref l]) s) : wpAny M A (getMethod (.ref l) (Str.ofString "append") pl) Q E s :=
  getMethod_builtin ⟨_, ho, rfl⟩ PySem.F.plainAttrs_list PySem.F.slot_list_append PySem.F.type_list_append (fun a e => by cases e; exact ⟨_, ho, rfl⟩) h
theorem x_gmExtend {l : Addr} {vs : List Value} {n : Nat} {pl : Sem Bool} {Q : Value × List Value → Shared → Prop} (ho : s.heap.get? l = some (lstO vs n)) (h : Q (.builtin "list.extend", [.ref l]) s) : wpAny M A (getMethod (.ref l) (Str.ofString "extend") pl) Q E s :=
  getMethod_builtin ⟨_, ho, rfl⟩ PySem.F.plainAttrs_list PySem.F.slot_list_extend PySem.F.type_list_extend (fun a e => by cases e; exact ⟨_, ho, rfl⟩) h
theorem x_gmPop {l : Addr} {vs : List Value} {n : Nat} {pl : Sem Bool} {Q : Value × List Value → Shared → Prop} (ho : s.heap.get? l = some (lstO vs n)) (h : Q (.builtin "list.pop", [.ref l]) s) : wpAny M A (getMethod (.ref l) (Str.ofString "pop") pl) Q E s :=
  getMethod_builtin ⟨_, ho, rfl⟩ PySem.F.plainAttrs_list PySem.F.slot_list_pop PySem.F.type_list_pop (fun a e => by cases e; exact ⟨_, ho, rfl⟩) h
theorem x_append {l : Addr} {vs : List Value} {n : Nat} {v : Value} {f : Obj → List (Addr × Obj)} {Q : Value → Shared → Prop} (S : St w C R ms own s) (U : OwnF l (lstO vs n) own f) (hz : vs.length ≤ sizeLine)
    (h : ∀ s', St w C R ms (f (lstO (vs ++ [v]) (n + 1))) s' → Q .none s') : wpAny (model prog w) A (call (.builtin "list.append") [.ref l, v]) Q E s := by
  refine append_at (S.kO _ U.mem) (fun h' hs ho => h _ ?_) (by simpa using hz)
  refine S.upd (tk := s.toks) U (fun b o hb e => (hs.2 b hb).trans e) ?_
  rw [ho]; simp
theorem x_pop {l : Addr} {vs : List Value} {n : Nat} {v : Value} {pos : Pos} {f : Obj → List (Addr × Obj)} {Q : Value → Shared → Prop} (S : St w C R ms own s) (U : OwnF l (lstO (vs ++ [v]) n) own f) (hz : vs.length < sizeLine)
    (h : ∀ s', St w C R ms (f (lstO vs (n + 1))) s' → Q v s') : wpAny (model prog w) A (callWith pos (.builtin "list.pop") [.ref l] (backTo pos (starEach [] env)) []) Q E s := by
  refine P.pop_list (S.kO _ U.mem) (y := v) (by simp) (h _ ?_) (by simp; omega)
  have q := S.updL (ws := vs) U (fun xs => xs.eraseIdxIfInBounds ((vs ++ [v]).toArray.size - 1)) (by have := kl_eraseL vs [] v; simpa using this) (tk := s.toks)
  rw [if_neg (by simp)] at q
  exact q
theorem x_extendL {l b : Addr} {vs us : List Value} {n n2 : Nat} {f : Obj → List (Addr × Obj)} {Q : Value → Shared → Prop} (S : St w C R ms own s) (U : OwnF l (lstO vs n) own f) (hb : s.heap.get? b = some (lstO us n2)) (hz : vs.length + us.length ≤ sizeLine)
    (h : ∀ n' s', St w C R ms (f (lstO (vs ++ us) n')) s' → Q .none s') : wpAny (model prog w) A (call (.builtin "list.extend") [.ref l, .ref b]) Q E s := by
  have hz' : vs.toArray.size + us.toArray.size ≤ sizeLine := by simpa using hz
  refine call_meets PySem.F.slot_list_extend ⟨_, S.kO _ U.mem, rfl⟩ PySem.F.entry_list_extend (PySem.F.args_list_extend_2 _ _) (PySem.AutoSeq1.list_extend_list_list_0 l vs.toArray n b us.toArray n2 ?_ (by omega) (by omega)) ⟨S.kO _ U.mem, hb, h _ _ (S.updL U (fun xs => xs ++ us.toArray) (by simp))⟩
  have : Builtin.List.listTooLong (vs.toArray.size + us.toArray.size) = false := by
    show decide (_ > _) = false
    simp only [decide_eq_false_iff_not]; omega
  rw [this]; simp
theorem x_extendT {l b : Addr} {vs us : List Value} {n : Nat} {f : Obj → List (Addr × Obj)} {Q : Value → Shared → Prop} (S : St w C R ms own s) (U : OwnF l (lstO vs n) own f) (hb : s.heap.get? b = some (tupO us)) (hz : vs.length + us.length ≤ sizeLine)
    (h : ∀ n' s', St w C R ms (f (lstO (vs ++ us) n')) s' → Q .none s') : wpAny (model prog w) A (call (.builtin "list.extend") [.ref l, .ref b]) Q E s := by
  have hz' : vs.toArray.size + us.toArray.size ≤ sizeLine := by simpa using hz
  refine call_meets PySem.F.slot_list_extend ⟨_, S.kO _ U.mem, rfl⟩ PySem.F.entry_list_extend (PySem.F.args_list_extend_2 _ _) (PySem.AutoSeq1.list_extend_list_tuple_0 l vs.toArray n b us.toArray 0 ?_ (by omega) (by omega)) ⟨S.kO _ U.mem, hb, h _ _ (S.updL U (fun xs => xs ++ us.toArray) (by simp))⟩
  have : Builtin.List.listTooLong (vs.toArray.size + us.toArray.size) = false := by
    show decide (_ > _) = false
    simp only [decide_eq_false_iff_not]; omega
  rw [this]; simp
theorem x_addL {l b : Addr} {vs us : List Value} {n n2 : Nat} {Q : Value → Shared → Prop} (S : St w C R ms own s) (hl : s.heap.get? l = some (lstO vs n)) (hb : s.heap.get? b = some (lstO us n2)) (hz : vs.length + us.length ≤ sizeLine)
    (h : ∀ a s', St w C R ms ((a, lstO (vs ++ us) 0) :: own) s' → Q (.ref a) s') : wpAny (model prog w) A (binaryOp .Add (.ref l) (.ref b)) Q E s := by
  refine P.add_list hl hb (h _ _ ?_) (by simpa using hz)
  have := S.push (o := lstO (vs ++ us) 0) (tk := s.toks)
  simpa using this
theorem x_newList {vs : List Value} {Q : Value → Shared → Prop} (S : St w C R ms own s) (hz : vs.length ≤ sizeLine) (h : ∀ a s', St w C R ms ((a, lstO vs 0) :: own) s' → Q (.ref a) s') : wpAny M A (newList vs) Q E s :=
  wpAny_newObj_type (h _ _ (S.push (tk := s.toks))) (by show vs.toArray.size ≤ sizeLine; simpa using hz)
theorem x_newTup {vs : List Value} {Q : Value → Shared → Prop} (S : St w C R ms own s) (hz : vs.length ≤ sizeLine) (h : ∀ a R' s', Le R R' → R' a = some (tupO vs) → St w C R' ms own s' → Q (.ref a) s') : wpAny M A (newTuple vs) Q E s := by
  refine wpAny_newObj_type ?_ (by show vs.toArray.size ≤ sizeLine; simpa using hz)
  obtain ⟨R', le, e, S'⟩ := (S.push (o := tupO vs) (tk := s.toks)).freeze .head
  exact h _ R' _ le e S'
theorem x_lenL {l : Addr} {vs : List Value} {n : Nat} {Q : Value → Shared → Prop} (S : St w C R ms own s) (hl : s.heap.get? l = some (lstO vs n)) (hz : vs.length ≤ sizeLine) (h : ∀ t s', St w C R ms own s' → Q (.int vs.length t) s') : wpAny (model prog w) A (call (.builtin "len") [.ref l]) Q E s := by
  refine PyProof.Rows.len_list (isL_of hl) (by rw [List.size_toArray]; rw [sizeLine_eq] at hz; omega) ?_
  rw [List.size_toArray]
  exact h _ _ S.tok
theorem x_lenT {l : Addr} {vs : List Value} {Q : Value → Shared → Prop} (S : St w C R ms own s) (hl : s.heap.get? l = some (tupO vs)) (hz : vs.length ≤ sizeLine) (h : ∀ t s', St w C R ms own s' → Q (.int vs.length t) s') : wpAny (model prog w) A (call (.builtin "len") [.ref l]) Q E s := by
  refine PyProof.Rows.len_tuple ⟨_, hl, rfl, 0, rfl⟩ (by rw [List.size_toArray]; rw [sizeLine_eq] at hz; omega) ?_
  rw [List.size_toArray]
  exact h _ _ S.tok
theorem x_isiII {n : Int} {u : Tok} {Q : Value → Shared → Prop} (h : Q (.bool true) s) : wpAny (model prog w) A (call (.builtin "isinstance") [.int n u, .type "int"]) Q E s := IsiPair.int_int h
theorem x_isiIB {n : Int} {u : Tok} {Q : Value → Shared → Prop} (S : St w C R ms own s) (h : ∀ s', St w C R ms own s' → Q (.bool false) s') : wpAny (model prog w) A (call (.builtin "isinstance") [.int n u, .type "bool"]) Q E s := IsiPair.int_bool (h _ S.tok)
theorem x_isiTT {l : Addr} {vs : List Value} {Q : Value → Shared → Prop} (hl : s.heap.get? l = some (tupO vs)) (h : Q (.bool true) s) : wpAny (model prog w) A (call (.builtin "isinstance") [.ref l, .type "tuple"]) Q E s := IsiPair.tuple_tuple hl rfl h
theorem x_abs {a : Int} {t : Tok} {Q : Value → Shared → Prop} (S : St w C R ms own s) (h : ∀ u s', St w C R ms own s' → Q (.int (if a < 0 then -a else a) u) s') : wpAny (model prog w) A (call (.builtin "abs") [.int a t]) Q E s := call_abs_int fun u tk => h _ _ S.tok
theorem x_intB {b : Bool} {Q : Value → Shared → Prop} (S : St w C R ms own s) (h : ∀ u s', St w C R ms own s' → Q (.int (if b then 1 else 0) u) s') : wpAny (model prog w) A (call (.type "int") [.bool b]) Q E s := call_int_bool (h _ _ S.tok)
theorem x_neg {a : Int} {t : Tok} {Q : Value → Shared → Prop} (S : St w C R ms own s) (h : ∀ u s', St w C R ms own s' → Q (.int (-a) u) s') : wpAny (model prog w) A (unaryOp .USub (.int a t)) Q E s := PyProof.Rows.neg_int (h _ _ S.tok)
abbrev rngO (n : Int) (t t0 t1 : Tok) : Obj := { cls := .type "range", data := .fields #[.int 0 t0, .int n t, .int 1 t1] }
theorem x_range {n : Int} {t : Tok} {Q : Value → Shared → Prop} (S : St w C R ms own s) (h : ∀ a t0 t1 R' s', Le R R' → R' a = some (rngO n t t0 t1) → St w C R' ms own s' → Q (.ref a) s') : wpAny (model prog w) A (call (.type "range") [.int n t]) Q E s := by
  refine call_range_1 ?_
  obtain ⟨R', le, e, S'⟩ := (S.push (o := rngO n t s.toks (s.toks + 1)) (tk := s.toks + 1 + 1)).freeze .head
  exact h _ _ _ R' _ le e S'
theorem x_rangeAB {m n : Int} {t u : Tok} {Q : Value → Shared → Prop} (S : St w C R ms own s) (h : ∀ a t1 R' s', Le R R' → R' a = some ({ cls := .type "range", data := .fields #[.int m t, .int n u, .int 1 t1] } : Obj) → St w C R' ms own s' → Q (.ref a) s') : wpAny (model prog w) A (call (.type "range") [.int m t, .int n u]) Q E s := by
  refine call_range_2 ?_
  obtain ⟨R', le, e, S'⟩ := (S.push (o := { cls := .type "range", data := .fields #[.int m t, .int n u, .int 1 s.toks] }) (tk := s.toks + 1)).freeze .head
  exact h _ _ R' _ le e S'
theorem x_listL {l : Addr} {vs : List Value} {n : Nat} {Q : Value → Shared → Prop} (S : St w C R ms own s) (hl : s.heap.get? l = some (lstO vs n)) (hz : vs.length ≤ sizeLine) (h : ∀ a n' s', St w C R ms ((a, lstO vs n') :: own) s' → Q (.ref a) s') : wpAny (model prog w) A (call (.type "list") [.ref l]) Q E s :=
  call_list_seq l (.inl rfl) hl rfl rfl (fun h' c' hk hD => h _ c' _ (S.add (tk := s.toks) (heap_size_none _) hk hD)) (by simpa using hz)
theorem x_listT {l : Addr} {vs : List Value} {Q : Value → Shared → Prop} (S : St w C R ms own s) (hl : s.heap.get? l = some (tupO vs)) (hz : vs.length ≤ sizeLine) (h : ∀ a n' s', St w C R ms ((a, lstO vs n') :: own) s' → Q (.ref a) s') : wpAny (model prog w) A (call (.type "list") [.ref l]) Q E s :=
  call_list_seq l (.inr rfl) hl rfl rfl (fun h' c' hk hD => h _ c' _ (S.add (tk := s.toks) (heap_size_none _) hk hD)) (by simpa using hz)
theorem x_tupL {l : Addr} {vs : List Value} {n : Nat} {Q : Value → Shared → Prop} (S : St w C R ms own s) (hl : s.heap.get? l = some (lstO vs n)) (hz : vs.length ≤ sizeLine) (h : ∀ a R' s', Le R R' → R' a = some (tupO vs) → St w C R' ms own s' → Q (.ref a) s') : wpAny (model prog w) A (call (.type "tuple") [.ref l]) Q E s := by
  refine call_tuple_list (isL_of hl) (fun h' hk => ?_) (by simpa using hz)
  obtain ⟨R', le, e, S'⟩ := ((S.moved (tk := s.toks) hk).push (o := tupO vs) (tk := s.toks)).freeze .head
  exact h _ R' _ le e S'
theorem x_tupT {l : Addr} {vs : List Value} {Q : Value → Shared → Prop} (hl : s.heap.get? l = some (tupO vs)) (h : Q (.ref l) s) : wpAny (model prog w) A (call (.type "tuple") [.ref l]) Q E s := call_tuple_tup ⟨_, hl, rfl, 0, rfl⟩ h
theorem x_itemT {value slice : Expr} {l : Addr} {vs : List Value} {k : Int} {u : Tok} {j : Nat} {v : Value} {Q : Value → Shared → Prop} (e : s.heap.get? l = some (tupO vs)) (hlo : -(2 ^ 63) ≤ k) (hhi : k < 2 ^ 63) (hj : seqIndex? k vs.length = some j) (hx : vs[j]? = some v)
    (hs : subscripted slice false (.ref l) (.int k u) = operate [.ref l, .int k u] (getItem (.ref l) (.int k u))) (h : Q v s) :
    wpAny (model prog w) A (subscriptTail value slice (.ref l) (.int k u)) Q E s := item_tupleT ⟨_, e, rfl, 0, rfl⟩ hlo hhi hj hx h hs
theorem x_itemLn {value slice : Expr} {l : Addr} {vs : List Value} {n : Nat} {k : Int} {u : Tok} {j : Nat} {v : Value} {Q : Value → Shared → Prop} (e : s.heap.get? l = some (lstO vs n)) (h0 : k < 0) (hlo : -(2 ^ 63) ≤ k) (hj : seqIndex? k vs.length = some j) (hx : vs[j]? = some v)
    (hs : subscripted slice false (.ref l) (.int k u) = operate [.ref l, .int k u] (getItem (.ref l) (.int k u))) (h : Q v s) :
    wpAny (model prog w) A (subscriptTail value slice (.ref l) (.int k u)) Q E s := kde_neg (isL_of e) h0 hlo hj hx h hs

/-! comparisons of data -/
theorem x_eqD {a b : Value} {da db : PyData} {as bs : List Addr} {Q : Value → Shared → Prop} (ok : Ok A 9) (ra : PySem.Reads s.heap a da as) (rb : PySem.Reads s.heap b db bs) (ha : PySem.SeqAt.shaped da = true) (hb : PySem.SeqAt.shaped db = true) (h : Q (.bool (PyData.eqv da db)) s) : wpAny (model prog w) A (compareOp .Eq a b) Q E s :=
  eq_dataH ra rb ha hb (by have := ok.units; omega) h
theorem x_neD {a b : Value} {da db : PyData} {as bs : List Addr} {Q : Value → Shared → Prop} (ok : Ok A 9) (ra : PySem.Reads s.heap a da as) (rb : PySem.Reads s.heap b db bs) (ha : PySem.SeqAt.shaped da = true) (hb : PySem.SeqAt.shaped db = true) (h : Q (.bool (!PyData.eqv da db)) s) : wpAny (model prog w) A (compareOp .NotEq a b) Q E s :=
  ne_dataH ra rb ha hb (by have := ok.units; omega) h

/-! slices -/
abbrev slcO (vl vu vs : Value) : Obj := { cls := .type "slice", data := .fields #[vl, vu, vs] }
def SlK (M : Model) (A : Around) (T : String) (o vl vu vst : Value) (Q : Value → Shared → Prop) (E : Value → Shared → Prop) (s : Shared) : Prop :=
  ({ s with heap := s.heap.push (slcO vl vu vst) } : Shared).TypeIs o T ∧ wpAny M A (getItem o (.ref s.heap.objs.size)) Q E { s with heap := s.heap.push (slcO vl vu vst) }
theorem x_partN {Q : Value → Shared → Prop} (h : Q .none s) : wpAny M A (evalPart none env) Q E s := by rw [evalPart_none]; exact wpAny_pure h
theorem x_partS {e : Expr} {Q : Value → Shared → Prop} (h : wpAny M A (eval e env) Q E s) : wpAny M A (evalPart (some e) env) Q E s := by rw [evalPart_some]; exact h
theorem x_sliceL {value : Expr} {lo up : Option Expr} {p pos : Pos} {Q : Value → Shared → Prop} (ht : ∀ o r, letTemporaryGo value o r = pure ())
    (h : wpAny M A (eval value env) (fun o s₁ => wpAny M A (evalPart lo env) (fun vl s₂ => wpAny M A (evalPart up env) (fun vu s₃ => SlK M A "list" o vl vu .none Q E s₃) E s₂) E s₁) E s) :
    wpAny M A (eval (.Subscript value (.Slice lo up none p) pos) env) Q E s :=
  wpAny_Subscript_Slice (T := "list") list_getitem_lookup (wpAny_mono h (fun o s₁ h₁ => wpAny_Slice (wpAny_mono h₁ (fun vl s₂ h₂ => wpAny_mono h₂ (fun vu s₃ h₃ => x_partN h₃) fun _ _ e => e) fun _ _ e => e)) fun _ _ e => e) ht
theorem x_sliceT {value : Expr} {lo up : Option Expr} {p pos : Pos} {Q : Value → Shared → Prop} (ht : ∀ o r, letTemporaryGo value o r = pure ())
    (h : wpAny M A (eval value env) (fun o s₁ => wpAny M A (evalPart lo env) (fun vl s₂ => wpAny M A (evalPart up env) (fun vu s₃ => SlK M A "tuple" o vl vu .none Q E s₃) E s₂) E s₁) E s) :
    wpAny M A (eval (.Subscript value (.Slice lo up none p) pos) env) Q E s :=
  wpAny_Subscript_Slice (T := "tuple") slot_tuple_getitem.lookup (wpAny_mono h (fun o s₁ h₁ => wpAny_Slice (wpAny_mono h₁ (fun vl s₂ h₂ => wpAny_mono h₂ (fun vu s₃ h₃ => x_partN h₃) fun _ _ e => e) fun _ _ e => e)) fun _ _ e => e) ht
theorem x_sliceLS {value st : Expr} {lo up : Option Expr} {p pos : Pos} {Q : Value → Shared → Prop} (ht : ∀ o r, letTemporaryGo value o r = pure ())
    (h : wpAny M A (eval value env) (fun o s₁ => wpAny M A (evalPart lo env) (fun vl s₂ => wpAny M A (evalPart up env) (fun vu s₃ => wpAny M A (eval st env) (fun vst s₄ => SlK M A "list" o vl vu vst Q E s₄) E s₃) E s₂) E s₁) E s) :
    wpAny M A (eval (.Subscript value (.Slice lo up (some st) p) pos) env) Q E s :=
  wpAny_Subscript_Slice_step (T := "list") list_getitem_lookup (wpAny_mono h (fun o s₁ h₁ => wpAny_Slice (wpAny_mono h₁ (fun vl s₂ h₂ => wpAny_mono h₂ (fun vu s₃ h₃ => x_partS h₃) fun _ _ e => e) fun _ _ e => e)) fun _ _ e => e) ht
theorem x_slL {l : Addr} {vs ws : List Value} {n : Nat} {vl vu vst : Value} {lo hi st : Option Int} {Q : Value → Shared → Prop} (S : St w C R ms own s) (ho : s.heap.get? l = some (lstO vs n)) (pl : IsPart vl lo) (pu : IsPart vu hi) (ps : IsPart vst st) (h0 : st ≠ some 0) (hz : vs.length ≤ sizeLine)
    (e : slicePick vs.toArray lo hi st = ws.toArray) (h : ∀ a s', St w C R ms ((a, lstO ws 0) :: own) s' → Q (.ref a) s') : SlK (model prog w) A "list" (.ref l) vl vu vst Q E s := by
  have S₁ := (S.push (o := slcO vl vu vst) (tk := s.toks)).drop1
  have hl := isL_of (h := s.heap.push (slcO vl vu vst)) (Heap.get?_push_of_some _ ho)
  refine ⟨hl.typeIs (s := { s with heap := s.heap.push (slcO vl vu vst) }), wpAny_getItem_list_slice hl (Heap.IsSliceOf.new ..) pl pu ps h0 ?_ (by simpa using hz)⟩
  rw [e]
  exact h _ _ (S₁.push (o := lstO ws 0) (tk := s.toks))
end

section
variable {prog : Program} {w : World} {M : Model} {A : Around} {E : Value → Shared → Prop} {s : Shared} {env : Env}
  {C : Cx} {R : PH} {ms ms' : List (Str × Value)} {own own' : List (Addr × Obj)} {names : List (Str × NameKind)} {cl : List (Str × Addr)}

/-! an object out of sight -/
def Cx.hid (C : Cx) (I : Addr) (o : Obj) : Cx := { C with G := fun b => if b = I then some o else C.G b }
theorem hid_self {I : Addr} {o : Obj} : (C.hid I o).G I = some o := if_pos rfl
theorem hid_ne {I b : Addr} {o : Obj} (h : b ≠ I) : (C.hid I o).G b = C.G b := if_neg h
theorem St.hide {I : Addr} {o : Obj} (S : St w C R ms ((I, o) :: own) s) : St w (C.hid I o) R ms own s := by
  have S' := S.drop1
  have nd := S.nd
  rw [List.map_cons, List.nodup_cons] at nd
  exact { S' with
    X := S.X, g := S.g, b := S.b, bi := S.bi, nolimit := S.nolimit, base := S.base, above := S.above, ns := S.ns
    gens := S.gens, drawn := S.drawn, os := S.os, RL := S.RL, LO := S'.LO
    kG := fun b o' e => by
      by_cases q : b = I
      · subst q; rw [hid_self] at e; cases e; exact S.kO _ (.head _)
      · rw [hid_ne q] at e; exact S.kG b o' e
    dGR := fun b o' e => by
      by_cases q : b = I
      · subst q; exact S.RO _ (.head _)
      · rw [hid_ne q] at e; exact S.dGR b o' e
    GL := by
      show (C.hid I o).G C.L = none
      rw [hid_ne (Ne.symm (S.LO _ (.head _)))]; exact S.GL
    GO := fun p hp => by
      have : p.1 ≠ I := fun e => nd.1 (List.mem_map.mpr ⟨p, hp, e⟩)
      rw [hid_ne this]; exact S'.GO p hp }
theorem St.unhide {I : Addr} {o : Obj} (gi : C.G I = none) (S : St w (C.hid I o) R ms own s) : St w C R ms ((I, o) :: own) s := by
  have nI : ∀ b o', C.G b = some o' → b ≠ I := fun b o' e q => by subst q; rw [gi] at e; cases e
  have hL : I ≠ C.L := fun q => by
    have := S.GL
    rw [show (C.hid I o).L = I from q.symm, hid_self] at this; cases this
  have hO : ∀ p ∈ own, p.1 ≠ I := fun p hp q => by
    have := S.GO p hp; rw [q, hid_self] at this; cases this
  exact {
    X := S.X, g := S.g, b := S.b, bi := S.bi, nolimit := S.nolimit, base := S.base, above := S.above, ns := S.ns
    gens := S.gens, drawn := S.drawn, os := S.os, RL := S.RL
    kG := fun b o' e => S.kG b o' (by rw [hid_ne (nI b o' e)]; exact e)
    kR := S.kR
    kO := fun p hp => by
      rcases List.mem_cons.mp hp with rfl | hp
      · exact S.kG _ _ hid_self
      · exact S.kO p hp
    dGR := fun b o' e => S.dGR b o' (by rw [hid_ne (nI b o' e)]; exact e)
    GL := by
      have := S.GL
      rw [show (C.hid I o).L = C.L from rfl, hid_ne (Ne.symm hL)] at this; exact this
    GO := fun p hp => by
      rcases List.mem_cons.mp hp with rfl | hp
      · exact gi
      · have := S.GO p hp; rw [hid_ne (hO p hp)] at this; exact this
    RO := fun p hp => by
      rcases List.mem_cons.mp hp with rfl | hp
      · exact S.dGR _ _ hid_self
      · exact S.RO p hp
    LO := fun p hp => by
      rcases List.mem_cons.mp hp with rfl | hp
      · exact hL
      · exact S.LO p hp
    nd := by
      rw [List.map_cons, List.nodup_cons]
      refine ⟨fun h => ?_, S.nd⟩
      obtain ⟨p, hp, e⟩ := List.mem_map.mp h
      exact hO p hp e }
theorem Fra.hid {I : Addr} {o : Obj} (F : Fra env C names cl) : Fra env (C.hid I o) names cl := ⟨F.L, F.k, F.g, F.b, F.n, F.c, F.int, F.blk⟩

theorem St.lost {I : Addr} {o : Obj} (S : St w C R ms ((I, o) :: own) s) {h' : Heap} {tk : Nat} (hk : ∀ b o, b ≠ I → s.heap.get? b = some o → h'.get? b = some o) : St w C R ms own { s with heap := h', toks := tk } := by
  have nd := S.nd
  rw [List.map_cons, List.nodup_cons] at nd
  have S' := S.drop1
  have nG : ∀ b o, C.G b = some o → b ≠ I := fun b o e q => by subst q; rw [S.GO _ (.head _)] at e; cases e
  have nR : ∀ b o, R b = some o → b ≠ I := fun b o e q => by subst q; rw [S.RO _ (.head _)] at e; cases e
  exact { S' with
    ns := S.ns.extBut (b := I) (fun b o hb e => hk b o hb e) (Ne.symm (S.LO _ (.head _)))
    kG := fun b o e => hk _ _ (nG b o e) (S.kG b o e)
    kR := fun b o e => hk _ _ (nR b o e) (S.kR b o e)
    kO := fun p hp => hk _ _ (fun e => nd.1 (List.mem_map.mpr ⟨p, hp, e⟩)) (S'.kO p hp)
    gens := S.gens, drawn := S.drawn, os := S.os }

/-! loops -/
inductive Turned (w : World) (C : Cx) (R : PH) (Inv : PH → List (Str × Value) → List (Addr × Obj) → Prop) (s : Shared) : Prop
  | mk (R₂ : PH) (ms₂ : List (Str × Value)) (own₂ : List (Addr × Obj)) (le : Le R R₂) (inv : Inv R₂ ms₂ own₂) (S : St w C R₂ ms₂ own₂ s)
def LoopQ (Nx : Shared → Prop) (Q : Flow → Shared → Prop) (f : Flow) (s : Shared) : Prop := match f with
  | .next => Nx s
  | .cont => Nx s
  | .brk => False
  | .ret v => Q (.ret v) s
theorem x_lnext {Nx : Shared → Prop} {Q : Flow → Shared → Prop} (h : Nx s) : LoopQ Nx Q .next s := h
theorem x_lret {Nx : Shared → Prop} {Q : Flow → Shared → Prop} {v : Value} (h : Q (.ret v) s) : LoopQ Nx Q (.ret v) s := h

theorem x_loop {target : Expr} {body : List Stmt} {I : Addr} {oI : Obj} {fp : List Addr} {n : Nat} {P : Nat → Value → Prop} {Stt : Nat → Heap → Prop} {Q : Flow → Shared → Prop}
    (W : Walks prog w A I fp [I] n P Stt) (S : St w C R ms ((I, oI) :: own) s) (st0 : Stt 0 s.heap) (hfp : ∀ b ∈ fp, b = I ∨ (R b).isSome) (hIo : ∀ i h, Stt i h → ∃ o, h.get? I = some o)
    (hgo : ∀ i v (s : Shared) (Q : Unit → Shared → Prop) (E : Value → Shared → Prop), P i v → Stt (i + 1) s.heap → Q () s → wpAny (model prog w) A (letOwnedTupleGo target (.ref I) v) Q E s)
    (F : Fra env C names cl) (Inv : Nat → PH → List (Str × Value) → List (Addr × Obj) → Prop) (h0 : Inv 0 R ms own)
    (turn : ∀ C₁ i v R₁ ms₁ own₁ s₁, Fra env C₁ names cl → (∀ R₂ ms₂ own₂ s₂, St w C₁ R₂ ms₂ own₂ s₂ → St w C R₂ ms₂ own₂ s₂) → (∀ b o, C.G b = some o → C₁.G b = some o) → i < n → P i v → Le R R₁ → Inv i R₁ ms₁ own₁ → St w C₁ R₁ ms₁ own₁ s₁ →
      wpAny (model prog w) A (assign target env v) (fun _ s₂ => wpAny (model prog w) A (execs body env) (LoopQ (Turned w C₁ R₁ (Inv (i + 1))) Q) NoE s₂) NoE s₁)
    (done : ∀ R₁ ms₁ own₁ s₁, Le R R₁ → Inv n R₁ ms₁ own₁ → St w C R₁ ms₁ own₁ s₁ → Q .next s₁) :
    codeAny (model prog w) A (.forLoop target (.ref I) body [] env) (fun r s' => match r with | .ok f => Q f s' | .error e => cameBackBy (model prog w) A env E e s') s := by
  have gi := S.GO _ (.head _)
  have hk : ∀ (R₁ : PH) ms₁ own₁ (s₁ : Shared) o i (h : Heap), Le R R₁ → Stt i h → (∀ b ob, R b = some ob → h.get? b = some ob) → h.get? I = some o → St w C R₁ ms₁ ((I, o) :: own₁) s₁ → Stt i s₁.heap := by
    intro R₁ ms₁ own₁ s₁ o i h le st hR hI S₁
    refine W.frame i _ _ st fun b hb ob e => ?_
    rcases hfp b hb with rfl | hb
    · rw [hI] at e; cases e; exact S₁.kO _ (.head _)
    · obtain ⟨o', ho'⟩ := Option.isSome_iff_exists.mp hb
      have e1 := hR _ _ ho'
      rw [e] at e1; cases e1
      exact S₁.kR _ _ (le _ _ ho')
  refine codeAny_forLoop_any (fun k s' => ∃ i R₁ ms₁ own₁ o, k = n - i ∧ i ≤ n ∧ Le R R₁ ∧ Inv i R₁ ms₁ own₁ ∧ Stt i s'.heap ∧ St w C R₁ ms₁ ((I, o) :: own₁) s') ?_ n ⟨0, R, ms, own, oI, rfl, Nat.zero_le _, Le.rfl', h0, st0, S⟩
  rintro k s' ⟨i, R₁, ms₁, own₁, o, rfl, hi, le, inv, st, S₁⟩
  by_cases hlt : i < n
  · refine W.item i s' _ _ hlt st fun v h' tk hP st' hkeep => ?_
    obtain ⟨o', ho'⟩ := hIo _ _ st'
    have S₂ : St w C R₁ ms₁ ((I, o') :: own₁) { s' with heap := h', toks := tk } := S₁.upd .head (fun b ob hb e => hkeep b ob (by simpa using hb) e) ho'
    dsimp only
    refine hgo i v _ _ _ hP st' ?_
    refine wpAny_mono (turn _ i v R₁ ms₁ own₁ _ F.hid (fun R₂ ms₂ own₂ s₂ S₃ => (S₃.unhide gi).drop1) (fun b o e => by rw [hid_ne (fun q => by subst q; rw [gi] at e; cases e)]; exact e) hlt hP le inv S₂.hide) (fun _ s₂ h₂ => ?_) fun _ _ e => e.elim
    refine wpAny_mono h₂ (fun f s₃ h₃ => ?_) fun _ _ e => e.elim
    cases f with
    | brk => exact h₃.elim
    | ret v => exact h₃
    | _ =>
      obtain ⟨R₂, ms₂, own₂, le₂, inv₂, S₃⟩ := h₃
      have S₄ := S₃.unhide gi
      exact ⟨n - (i + 1), by omega, i + 1, R₂, ms₂, own₂, o', rfl, hlt, le.trans le₂, inv₂, hk R₂ ms₂ own₂ s₃ o' _ h' (le.trans le₂) st' (fun b ob e => S₂.kR b ob (le _ _ e)) ho' S₄, S₄⟩
  · have : i = n := by omega
    subst this
    refine W.done _ _ _ st fun h' tk hkeep => ?_
    exact wpAny_execs_nil (done R₁ ms₁ own₁ _ le inv (S₁.lost fun b ob hb e => hkeep b ob (by simpa using hb) e))

theorem x_forList {target : Expr} {body : List Stmt} {l : Addr} {vs : List Value} {n : Nat} {Q : Flow → Shared → Prop} (hh : A.handled = none) (S : St w C R ms own s) (hl : R l = some (lstO vs n))
    (hgo : (∀ it v, letOwnedTupleGo target it v = pure ()) ∨ ((∃ es x p, target = .Tuple es x p) ∧ ∀ v ∈ vs, ∃ a, v = .ref a))
    (F : Fra env C names cl) (Inv : Nat → PH → List (Str × Value) → List (Addr × Obj) → Prop) (h0 : Inv 0 R ms own)
    (turn : ∀ C₁ i v R₁ ms₁ own₁ s₁, Fra env C₁ names cl → (∀ R₂ ms₂ own₂ s₂, St w C₁ R₂ ms₂ own₂ s₂ → St w C R₂ ms₂ own₂ s₂) → i < vs.length → vs[i]? = some v → Le R R₁ → Inv i R₁ ms₁ own₁ → St w C₁ R₁ ms₁ own₁ s₁ →
      wpAny (model prog w) A (assign target env v) (fun _ s₂ => wpAny (model prog w) A (execs body env) (LoopQ (Turned w C₁ R₁ (Inv (i + 1))) Q) NoE s₂) NoE s₁)
    (done : ∀ R₁ ms₁ own₁ s₁, Le R R₁ → Inv vs.length R₁ ms₁ own₁ → St w C R₁ ms₁ own₁ s₁ → Q .next s₁) :
    wpAny (model prog w) A (pyIter (.ref l)) (fun it s₂ => codeAny (model prog w) A (.forLoop target it body [] env) (fun r s' => match r with | .ok f => Q f s' | .error e => cameBackBy (model prog w) A env E e s') s₂) E s := by
  have hL := isL_of (S.kR _ _ hl)
  refine wpAny_pyIter_list hL ?_
  have S₁ := S.push (o := { cls := .type "list_iterator", data := .fields #[.ref l, .int 0 0] }) (tk := s.toks)
  have hne : l ≠ s.heap.objs.size := fun e => by
    have := (S.fresh (heap_size_none s.heap)).2.1; rw [← e, hl] at this; cases this
  have hL₁ : (s.heap.push { cls := .type "list_iterator", data := .fields #[.ref l, .int 0 0] }).IsList l vs.toArray := isL_of (S₁.kR _ _ hl)
  have W := Walks.list (prog := prog) (w := w) hh s.heap.objs.size l hne vs.toArray
  rw [List.size_toArray] at W
  refine x_loop W S₁ ⟨⟨_, S₁.kO _ (.head _), rfl, rfl⟩, hL₁⟩ (fun b hb => ?_) (fun i h st => ?_) (fun i v s Q E hP st hQ => ?_) F Inv h0 (fun C₁ i v R₁ ms₁ own₁ s₁ F₁ bk _ hi hP => turn C₁ i v R₁ ms₁ own₁ s₁ F₁ bk hi (by simpa using hP)) done
  · rcases List.mem_cons.mp hb with rfl | hb
    · exact .inl rfl
    · rw [List.mem_singleton.mp hb]; exact .inr (by rw [hl]; rfl)
  · obtain ⟨o, ho, _⟩ := st.1; exact ⟨o, ho⟩
  · rcases hgo with hgo | ⟨⟨es, x, p, rfl⟩, hv⟩
    · rw [hgo]; exact wpAny_pure hQ
    · obtain ⟨a, rfl⟩ := hv v (List.mem_of_getElem? (by simpa using hP))
      exact wpAny_letOwnedTupleGo_listiter st.1 hQ
theorem x_forTup {target : Expr} {body : List Stmt} {l : Addr} {vs : List Value} {Q : Flow → Shared → Prop} (hh : A.handled = none) (S : St w C R ms own s) (hl : R l = some (tupO vs))
    (hgo : ∀ it v, letOwnedTupleGo target it v = pure ())
    (F : Fra env C names cl) (Inv : Nat → PH → List (Str × Value) → List (Addr × Obj) → Prop) (h0 : Inv 0 R ms own)
    (turn : ∀ C₁ i v R₁ ms₁ own₁ s₁, Fra env C₁ names cl → (∀ R₂ ms₂ own₂ s₂, St w C₁ R₂ ms₂ own₂ s₂ → St w C R₂ ms₂ own₂ s₂) → i < vs.length → vs[i]? = some v → Le R R₁ → Inv i R₁ ms₁ own₁ → St w C₁ R₁ ms₁ own₁ s₁ →
      wpAny (model prog w) A (assign target env v) (fun _ s₂ => wpAny (model prog w) A (execs body env) (LoopQ (Turned w C₁ R₁ (Inv (i + 1))) Q) NoE s₂) NoE s₁)
    (done : ∀ R₁ ms₁ own₁ s₁, Le R R₁ → Inv vs.length R₁ ms₁ own₁ → St w C R₁ ms₁ own₁ s₁ → Q .next s₁) :
    wpAny (model prog w) A (pyIter (.ref l)) (fun it s₂ => codeAny (model prog w) A (.forLoop target it body [] env) (fun r s' => match r with | .ok f => Q f s' | .error e => cameBackBy (model prog w) A env E e s') s₂) E s := by
  have hL : s.heap.IsTuple l vs.toArray := ⟨_, S.kR _ _ hl, rfl, 0, rfl⟩
  refine wpAny_pyIter_tuple hL ?_
  have S₁ := S.push (o := { cls := .type "tuple_iterator", data := .fields #[.ref l, .int 0 0] }) (tk := s.toks)
  have hne : l ≠ s.heap.objs.size := fun e => by
    have := (S.fresh (heap_size_none s.heap)).2.1; rw [← e, hl] at this; cases this
  have hL₁ : (s.heap.push { cls := .type "tuple_iterator", data := .fields #[.ref l, .int 0 0] }).IsTuple l vs.toArray := ⟨_, S₁.kR _ _ hl, rfl, 0, rfl⟩
  have W := Walks.tuple (prog := prog) (w := w) hh s.heap.objs.size l hne vs.toArray
  rw [List.size_toArray] at W
  refine x_loop W S₁ ⟨⟨_, S₁.kO _ (.head _), rfl, rfl⟩, hL₁⟩ (fun b hb => ?_) (fun i h st => ?_) (fun i v s Q E hP st hQ => ?_) F Inv h0 (fun C₁ i v R₁ ms₁ own₁ s₁ F₁ bk _ hi hP => turn C₁ i v R₁ ms₁ own₁ s₁ F₁ bk hi (by simpa using hP)) done
  · rcases List.mem_cons.mp hb with rfl | hb
    · exact .inl rfl
    · rw [List.mem_singleton.mp hb]; exact .inr (by rw [hl]; rfl)
  · obtain ⟨o, ho, _⟩ := st.1; exact ⟨o, ho⟩
  · rw [hgo]; exact wpAny_pure hQ
theorem x_forRng {target : Expr} {body : List Stmt} {l : Addr} {a b : Int} {t u t1 : Tok} {Q : Flow → Shared → Prop} (hh : A.handled = none) (S : St w C R ms own s) (hl : R l = some ({ cls := .type "range", data := .fields #[.int a t, .int b u, .int 1 t1] } : Obj))
    (ha : a.natAbs < 1000000) (hb : b.natAbs < 1000000)
    (hgo : ∀ it v, letOwnedTupleGo target it v = pure ())
    (F : Fra env C names cl) (Inv : Nat → PH → List (Str × Value) → List (Addr × Obj) → Prop) (h0 : Inv 0 R ms own)
    (turn : ∀ C₁ (i : Nat) t R₁ ms₁ own₁ s₁, Fra env C₁ names cl → (∀ R₂ ms₂ own₂ s₂, St w C₁ R₂ ms₂ own₂ s₂ → St w C R₂ ms₂ own₂ s₂) → (∀ b o, C.G b = some o → C₁.G b = some o) → i < (b - a).toNat → Le R R₁ → Inv i R₁ ms₁ own₁ → St w C₁ R₁ ms₁ own₁ s₁ →
      wpAny (model prog w) A (assign target env (.int (a + i) t)) (fun _ s₂ => wpAny (model prog w) A (execs body env) (LoopQ (Turned w C₁ R₁ (Inv (i + 1))) Q) NoE s₂) NoE s₁)
    (done : ∀ R₁ ms₁ own₁ s₁, Le R R₁ → Inv (b - a).toNat R₁ ms₁ own₁ → St w C R₁ ms₁ own₁ s₁ → Q .next s₁) :
    wpAny (model prog w) A (pyIter (.ref l)) (fun it s₂ => codeAny (model prog w) A (.forLoop target it body [] env) (fun r s' => match r with | .ok f => Q f s' | .error e => cameBackBy (model prog w) A env E e s') s₂) E s := by
  refine wpAny_pyIter_range (S.kR _ _ hl) ?_ ?_
  · exact small_one (by omega) (by omega) (by omega) (by omega)
  have S₁ := S.push (o := { cls := .type "range_iterator", data := .fields #[rawInt a, rawInt (Builtin.Range.rangeSize a b 1), rawInt 1] }) (tk := s.toks)
  have hz : Builtin.Range.rangeSize a b 1 = ((b - a).toNat : Int) := by
    unfold Builtin.Range.rangeSize
    simp only [show (1 : Int) > 0 by decide, if_true, Int.ediv_one]
    split <;> omega
  have W := Walks.range (prog := prog) (w := w) hh s.heap.objs.size a 1 (b - a).toNat
  refine x_loop W S₁ ?_ (fun b hb => ?_) (fun i h st => ?_) (fun i v s Q E hP st hQ => ?_) F Inv h0 (fun C₁ i v R₁ ms₁ own₁ s₁ F₁ bk hkk hi hP => ?_) done
  · rw [← hz]; simpa using S₁.kO _ (.head _)
  · exact .inl (List.mem_singleton.mp hb)
  · exact ⟨_, st⟩
  · rw [hgo]; exact wpAny_pure hQ
  · obtain ⟨t, rfl⟩ := hP
    have := turn C₁ i t R₁ ms₁ own₁ s₁ F₁ bk hkk hi
    simpa using this
inductive Low (k : Nat) (Inv : Nat → PH → List (Str × Value) → List (Addr × Obj) → Prop) (R₂ : PH) (ms₂ : List (Str × Value)) (own₂ : List (Addr × Obj)) : Prop
  | mk (m : Nat) (hm : m < k) (inv : Inv m R₂ ms₂ own₂)
def WhileQ (M : Model) (A : Around) (body : List Stmt) (env : Env) (N Q : Flow → Shared → Prop) (b : Bool) (s : Shared) : Prop := if b = true then wpAny M A (execs body env) N NoE s else Q .next s
theorem x_qw {body : List Stmt} {N Q : Flow → Shared → Prop} {b : Bool} (h : if b = true then wpAny M A (execs body env) N NoE s else Q .next s) : WhileQ M A body env N Q b s := h
theorem x_while {test : Expr} {body : List Stmt} {pos : Pos} {Q : Flow → Shared → Prop} (S : St w C R ms own s) (Inv : Nat → PH → List (Str × Value) → List (Addr × Obj) → Prop) (n : Nat) (h0 : Inv n R ms own)
    (turn : ∀ k R₁ ms₁ own₁ s₁, Le R R₁ → Inv k R₁ ms₁ own₁ → St w C R₁ ms₁ own₁ s₁ →
      wpAny (model prog w) A (isTrue test env (eval test env)) (WhileQ (model prog w) A body env (LoopQ (Turned w C R₁ (Low k Inv)) Q) Q) NoE s₁) :
    wpAny (model prog w) A (exec (.While test body [] pos) env) Q E s := by
  refine wpAny_While (codeAny_whileLoop (fun k s' => ∃ R₁ ms₁ own₁, Le R R₁ ∧ Inv k R₁ ms₁ own₁ ∧ St w C R₁ ms₁ own₁ s') ?_ n ⟨R, ms, own, Le.rfl', h0, S⟩)
  rintro k s' ⟨R₁, ms₁, own₁, le, inv, S₁⟩
  refine wpAny_mono (turn k R₁ ms₁ own₁ s' le inv S₁) (fun b s₂ h₂ => ?_) fun _ _ e => e.elim
  cases b with
  | false => exact wpAny_execs_nil h₂
  | true =>
    refine wpAny_mono h₂ (fun f s₃ h₃ => ?_) fun _ _ e => e.elim
    cases f with
    | brk => exact h₃.elim
    | ret v => exact h₃
    | _ =>
      obtain ⟨R₂, ms₂, own₂, le₂, ⟨m, hm, inv₂⟩, S₃⟩ := h₃
      exact ⟨m, hm, R₂, ms₂, own₂, le.trans le₂, inv₂, S₃⟩
end

section
variable {prog : Program} {w : World} {M : Model} {A : Around} {E : Value → Shared → Prop} {s : Shared} {env : Env}
  {C : Cx} {R : PH} {ms ms' : List (Str × Value)} {own own' : List (Addr × Obj)} {names : List (Str × NameKind)} {cl : List (Str × Addr)}

/-! cells -/
def CellAt (R : PH) (c : Addr) (v : Value) : Prop := ∃ o, R c = some o ∧ o.data = .cell (some v)
theorem CellAt.le {R R' : PH} {c : Addr} {v : Value} (h : CellAt R c v) (le : Le R R') : CellAt R' c v := let ⟨o, a, b⟩ := h; ⟨o, le _ _ a, b⟩
theorem x_cell {x : Str} {pos : Pos} {c : Addr} {v : Value} {Q : Value → Shared → Prop} (S : St w C R ms own s) (F : Fra env C names cl) (hx : names.lookup x = some .cell) (hdb : (x == ("__debug__" : Str)) = false) (hc : cl.lookup x = some c) (hm : CellAt R c v)
    (h : Q v s) : wpAny M A (eval (.Name x pos) env) Q E s := by
  obtain ⟨o, ho, hd⟩ := hm
  exact wpAny_Name (wpAny_loadName_cell F.k (F.kind hx) (by rw [F.c]; exact hc) ⟨o, S.kR _ _ ho, hd⟩ h) hdb
theorem x_cellO {x : Str} {pos : Pos} {c : Addr} {o : Obj} {v : Value} {Q : Value → Shared → Prop} (S : St w C R ms own s) (F : Fra env C names cl) (hx : names.lookup x = some .cell) (hdb : (x == ("__debug__" : Str)) = false) (hc : cl.lookup x = some c) (ho : s.heap.get? c = some o) (hd : o.data = .cell (some v))
    (h : Q v s) : wpAny M A (eval (.Name x pos) env) Q E s :=
  wpAny_Name (wpAny_loadName_cell F.k (F.kind hx) (by rw [F.c]; exact hc) ⟨o, ho, hd⟩ h) hdb
theorem x_storeC {x : Str} {v : Value} {c : Addr} {o : Obj} {v₀ : Option Value} {f : Obj → List (Addr × Obj)} {Q : Unit → Shared → Prop} (S : St w C R ms own s) (F : Fra env C names cl) (hx : names.lookup x = some .cell) (hc : cl.lookup x = some c) (U : OwnF c o own f) (hd : o.data = .cell v₀)
    (h : ∀ o' s', o'.data = .cell (some v) → St w C R ms (f o') s' → Q () s') : wpAny M A (storeName env x v) Q E s := by
  refine wpAny_storeName_cell F.k (F.kind hx) (by rw [F.c]; exact hc) ⟨o, S.kO _ U.mem, hd⟩ fun h' hc' hs => ?_
  obtain ⟨o', ho', hd'⟩ := hc'
  exact h o' _ hd' (S.upd (tk := s.toks) U (fun b o hb e => (hs.2 b hb).trans e) ho')

/-! an entry with cells -/
def localBinds (names : List (Str × NameKind)) (binds : List (Str × Value)) : List (Str × Value) := binds.filter fun p => names.lookup p.1 == some .local
theorem bindL_eq {kindOf : Str → Option NameKind} {names : List (Str × NameKind)} (hk : ∀ x, kindOf x = names.lookup x) : ∀ (binds : List (Str × Value)) (m : Str → Option Value), bindL kindOf binds m = fun y => ((localBinds names binds).reverse.lookup y).or (m y)
  | [], m => by
    funext y
    show m y = _
    simp [localBinds]
  | (n, v) :: r, m => by
    refine (show bindL kindOf ((n, v) :: r) m = bindL kindOf r (if kindOf n = some .local then fun y => if y = n then some v else m y else m) from rfl).trans ?_
    rw [bindL_eq hk r]
    funext y
    unfold localBinds
    by_cases h : names.lookup n = some .local
    · have e : ((n, v) :: r).filter (fun p => names.lookup p.1 == some .local) = (n, v) :: r.filter (fun p => names.lookup p.1 == some .local) := List.filter_cons_of_pos (by simp [h])
      have hk' : kindOf n = some .local := by rw [hk]; exact h
      rw [e, List.reverse_cons, List.lookup_append]
      simp only [hk', if_true]
      rw [Option.or_assoc]
      congr 1
      by_cases hy : y = n
      · subst hy; simp
      · have : (y == n) = false := by simpa using hy
        simp [List.lookup_cons, this, hy]
    · have e : ((n, v) :: r).filter (fun p => names.lookup p.1 == some .local) = r.filter (fun p => names.lookup p.1 == some .local) := List.filter_cons_of_neg (by simpa using h)
      have hk' : kindOf n ≠ some .local := by rw [hk]; exact h
      rw [e]
      simp only [hk', if_false]
theorem x_enterC {f : Addr} {name qual : Str} {params : Arguments} {body : List Stmt} {scope : Scope} {dV kV doc pm cdv ct oc : Value} {an od : Option Addr} {osl : Array (Option Value)} {args : List Value} {binds ms₁ : List (Str × Value)} {Q : Value → Shared → Prop}
    (S : St w C R ms own s) (own₁ : List (Addr × Obj)) (h1 : ∀ p ∈ own₁, p ∈ own) (nd : (own₁.map (·.1)).Nodup)
    (ho : (hd.heap_39 w.params).lookup f = some ⟨oc, od, .func (fnOf name qual params body scope dV kV doc pm an cdv ct), osl⟩) (hcd : codeIn (hd.heap_39 w.params) cdv qual = true)
    (hbind : bindArgs (fnOf name qual params body scope dV kV doc pm an cdv ct) ⟨args, []⟩ = pure binds) (hms : (localBinds scope.names binds).reverse = ms₁)
    (hkind : ∀ L, ∀ x ∈ binds, scope.names.lookup x.1 = some .local ∨ (scope.names.lookup x.1 = some .cell ∧ ((cellsFrom (L + 1) scope.names []).lookup x.1).isSome = true))
    (hco : scope.isCoroutine = false) (hgen : scope.isGenerator = false) (hk : scope.kind = .function)
    {nm : Nat} (ok : Ok A (nm + 1)) (h : ∀ C' A' env L (cs : List (Str × Addr)) s₁, C' = C.into R own₁ s.heap → L = s.heap.objs.size → cs = cellsFrom (L + 1) scope.names [] → Fra env C' scope.names cs → Ok A' nm →
      ∀ ob : Addr → Obj, (∀ n c, cs.lookup n = some c → (ob c).data = .cell (bindC (fun x => scope.names.lookup x) binds (fun _ => none) n)) → (∀ n c, cs.lookup n = some c → s₁.heap.get? c = some (ob c)) → (∀ n c, (n, c) ∈ cs → L < c) →
      St w C' R ms₁ own₁ s₁ →
      wpAny (model prog w) A' (execs body env) (RetQ Q) NoE s₁) :
    wpAny (model prog w) A (call (.ref f) args) Q E s := by
  subst hms
  refine wpAny_call (codeAny_call_cells (fd := fnOf name qual params body scope dV kV doc pm an cdv ct) (body := body) (binds := binds) ok.room (S.kIn _ _ ho) rfl (S.nolimit.keeps S.kB) (codeRec_of S.kIn hcd) rfl hbind rfl (hkind _) (fun s₁ ic => ?_) hco hgen hk)
  generalize hev : callEnvC (fnOf name qual params body scope dV kV doc pm an cdv ct) s.heap.objs.size f = env at ic ⊢
  have e1 : env.locals = s.heap.objs.size := by rw [← hev]; rfl
  have e2 : env.cells = cellsFrom (s.heap.objs.size + 1) scope.names [] := by rw [← hev]; rfl
  have e3 : env.kindOf = fun x => scope.names.lookup x := by rw [← hev]; rfl
  have F : Fra env (C.into R own₁ s.heap) scope.names env.cells := by
    subst hev
    exact ⟨rfl, hk, rfl, rfl, rfl, rfl, by show (scope.kind == .module && _) = false; rw [hk]; rfl, by show (if scope.kind.isAnnotationScope then ScopeKind.function else scope.kind) = .function; rw [hk]; rfl⟩
  obtain ⟨⟨⟨h', tk, rfl⟩, hns, hkp, hfr⟩, hcl, hap, hab⟩ := ic
  have hns' : h'.Ns s.heap.objs.size (fun y => (localBinds scope.names binds).reverse.lookup y) := by
    rw [← e1]
    refine (show (fun y => (localBinds scope.names binds).reverse.lookup y) = bindL env.kindOf binds fun _ => none from ?_) ▸ hns
    rw [bindL_eq (names := scope.names) (fun x => by rw [e3])]
    funext y; simp
  have S₁ := S.enter h1 nd (tk := tk) hns' hkp
  refine wpAny_mono (h _ _ env s.heap.objs.size env.cells _ rfl rfl e2 F (ok.deeper _) (fun c => (h'.get? c).getD default) (fun n c hc => ?_) (fun n c hc => ?_) (fun n c hc => e1 ▸ hab n c hc) S₁) (fun _ _ q => q) fun _ _ q => q.elim
  · obtain ⟨o, ho', hd⟩ := hcl n c hc
    show ((h'.get? c).getD default).data = _
    rw [ho', e3] at *
    exact hd
  · obtain ⟨o, ho', hd⟩ := hcl n c hc
    show h'.get? c = some ((h'.get? c).getD default)
    rw [ho']; rfl

theorem St.adopt {C' : Cx} {s₁ : Shared} {ms₁ : List (Str × Value)} {own₁ : List (Addr × Obj)} (S : St w C R ms own s) (hC' : C' = C.into R own₁ s.heap) (h1 : ∀ p ∈ own₁, p ∈ own) (S₁ : St w C' R ms₁ own₁ s₁) (cs : List (Addr × Obj))
    (hc : ∀ p ∈ cs, s₁.heap.get? p.1 = some p.2 ∧ s.heap.objs.size < p.1) (nd : (cs.map (·.1)).Nodup) : St w C' R ms₁ (cs ++ own₁) s₁ := by
  have fr : ∀ p ∈ cs, s.heap.get? p.1 = none := fun p hp => by
    cases e : s.heap.get? p.1 with
    | none => rfl
    | some o => exact absurd (Heap.lt_size e) (Nat.not_lt.mpr (Nat.le_of_lt (hc p hp).2))
  exact { S₁ with
    kO := fun p hp => by rcases List.mem_append.mp hp with hp | hp; exact (hc p hp).1; exact S₁.kO p hp
    GO := fun p hp => by
      rcases List.mem_append.mp hp with hp | hp
      · cases e : C'.G p.1 with
        | none => rfl
        | some o => rw [hC'] at e; have := (of_into_G e).2.2; rw [fr p hp] at this; cases this
      · exact S₁.GO p hp
    RO := fun p hp => by rcases List.mem_append.mp hp with hp | hp; exact (S.fresh (fr p hp)).2.1; exact S₁.RO p hp
    LO := fun p hp => by
      rcases List.mem_append.mp hp with hp | hp
      · rw [hC']; exact Nat.ne_of_gt (hc p hp).2
      · exact S₁.LO p hp
    nd := by
      rw [List.map_append, List.nodup_append]
      refine ⟨nd, S₁.nd, fun a ha b hb e => ?_⟩
      obtain ⟨q, hq, e1⟩ := List.mem_map.mp ha
      obtain ⟨p, hp, e2⟩ := List.mem_map.mp hb
      have := Heap.lt_size (S.kO p (h1 p hp))
      have h2 := (hc q hq).2
      rw [e1, e, ← e2] at h2
      exact Nat.lt_asymm h2 this }

/-! comprehensions -/
def relN (sn names : List (Str × NameKind)) : List (Str × NameKind) := sn.map fun (n, k) => if (k == .free && names.lookup n == some .cell) then (n, .cell) else (n, k)
def closG (cells : List (Str × Addr)) : List (Str × NameKind) → List (Str × Addr) → Option (List (Str × Addr))
  | [], acc => some acc
  | (n, k) :: r, acc => if k == .free then (match cells.lookup n with | some c => closG cells r ((n, c) :: acc) | none => none) else closG cells r acc
theorem closFor {env : Env} (f : Str × NameKind → List (Str × Addr) → Sem (ForInStep (List (Str × Addr)))) (hf : ∀ n k cs, f (n, k) cs = if k == .free then (do let a ← cellOf env n; pure (.yield ((n, a) :: cs))) else pure (.yield cs)) :
    ∀ (l : List (Str × NameKind)) (acc r : List (Str × Addr)), closG env.cells l acc = some r → forIn l acc f = pure r
  | [], acc, r, h => by cases h; rfl
  | (n, k) :: l, acc, r, h => by
    rw [List.forIn_cons, hf]
    unfold closG at h
    split at h
    · rename_i hk
      rw [if_pos hk]
      split at h
      · rename_i c hc
        have : cellOf env n = pure c := by unfold cellOf; rw [hc]
        rw [this]
        exact closFor f hf l _ r h
      · cases h
    · rename_i hk
      rw [if_neg hk]
      exact closFor f hf l _ r h
theorem closureFor_eq {scope : Scope} {r : List (Str × Addr)} (h : closG env.cells scope.names [] = some r) : closureFor scope env = pure r := by
  unfold closureFor
  dsimp only
  rw [closFor (env := env) _ (fun n k cs => rfl) scope.names [] r h]
  rfl

theorem Fra.comp {scope : Scope} {cl' : List (Str × Addr)} {K : Addr} {C₁ : Cx} (F : Fra env C names cl) (hkind : scope.kind = .function) (hL : C₁.L = K) : Fra (compEnvC scope cl' K env) C₁ (relN scope.names names) cl' :=
  ⟨hL.symm, hkind, F.g, F.b, by
    show (relabel scope env).names = _
    unfold relabel
    unfold relN Env.kindOf
    rw [F.k, F.n]
    refine List.map_congr_left fun p _ => ?_
    obtain ⟨n, k⟩ := p
    simp, rfl, by show (scope.kind == .module && _) = false; rw [hkind]; rfl, by show (if scope.kind.isAnnotationScope then ScopeKind.function else scope.kind) = .function; rw [hkind]; rfl⟩
/-- a change at one place that nothing here knows -/
theorem St.but (S : St w C R ms own s) {K : Addr} (gK : C.G K = none) (rK : R K = none) (lK : K ≠ C.L) (oK : ∀ p ∈ own, p.1 ≠ K) {h' : Heap} {tk : Nat} (hk : ∀ b o, b ≠ K → s.heap.get? b = some o → h'.get? b = some o) : St w C R ms own { s with heap := h', toks := tk } := by
  have nG : ∀ b o, C.G b = some o → b ≠ K := fun b o e q => by subst q; rw [gK] at e; cases e
  have nR : ∀ b o, R b = some o → b ≠ K := fun b o e q => by subst q; rw [rK] at e; cases e
  exact { S with
    ns := S.ns.extBut (b := K) (fun b o hb e => hk b o hb e) (Ne.symm lK)
    kG := fun b o e => hk _ _ (nG b o e) (S.kG b o e)
    kR := fun b o e => hk _ _ (nR b o e) (S.kR b o e)
    kO := fun p hp => hk _ _ (oK p hp) (S.kO p hp)
    gens := S.gens, drawn := S.drawn, os := S.os }

theorem lookup_relN {x : Str} {names sn : List (Str × NameKind)} (h : sn.lookup x = some .local) : (relN sn names).lookup x = some .local := by
  induction sn with
  | nil => cases h
  | cons p r ih =>
    obtain ⟨n, k⟩ := p
    by_cases e : x = n
    · subst e
      have hk : k = .local := by simpa using h
      subst hk
      exact List.lookup_cons_self
    · have e' : (x == n) = false := by simpa using e
      have hr := ih (by rw [List.lookup_cons, e'] at h; exact h)
      show List.lookup x ((if _ then (n, NameKind.cell) else (n, k)) :: relN r names) = _
      split <;> (rw [List.lookup_cons, e']; exact hr)
theorem St.swap2 {p q : Addr × Obj} (S : St w C R ms (p :: q :: own) s) : St w C R ms (q :: p :: own) s :=
  { S with
    kO := fun r hr => S.kO r (by simp at hr ⊢; rcases hr with h | h | h <;> simp [h])
    GO := fun r hr => S.GO r (by simp at hr ⊢; rcases hr with h | h | h <;> simp [h])
    RO := fun r hr => S.RO r (by simp at hr ⊢; rcases hr with h | h | h <;> simp [h])
    LO := fun r hr => S.LO r (by simp at hr ⊢; rcases hr with h | h | h <;> simp [h])
    nd := by
      have := S.nd
      simp only [List.map_cons, List.nodup_cons, List.mem_cons, not_or] at this ⊢
      exact ⟨⟨Ne.symm this.1.1, this.2.1⟩, this.1.2, this.2.2⟩ }
inductive CompT (w : World) (C : Cx) (R : PH) (ms : List (Str × Value)) (ys : List Value) (Inv : PH → List Value → List (Addr × Obj) → Prop) (y : Value) (s : Shared) : Prop
  | mk (R₂ : PH) (own₂ : List (Addr × Obj)) (le : Le R R₂) (inv : Inv R₂ (ys ++ [y]) own₂) (S : St w C R₂ ms own₂ s)
theorem x_compCore {elt iter : Expr} {x : Str} {px : Pos} {scope : Scope} {cl' : List (Str × Addr)} {pos : Pos} {I : Addr} {oI : Obj} {fp : List Addr} {n : Nat} {P : Nat → Value → Prop} {Stt : Nat → Heap → Prop} {RR : Value → Addr → Result → Shared → Prop}
    (W : Walks prog w A I fp [I] n P Stt) (S : St w C R ms ((I, oI) :: own) s) (st0 : Stt 0 s.heap) (hfp : ∀ b ∈ fp, b = I ∨ (R b).isSome) (hIo : ∀ i h, Stt i h → ∃ o, h.get? I = some o)
    (hcell : ∀ y ∈ scope.names, y.2 ≠ .cell) (hkind : scope.kind = .function) (hx : scope.names.lookup x = some .local) (hsz : n ≤ sizeLine) (F : Fra env C names cl)
    (Inv : Nat → PH → List Value → List (Addr × Obj) → Prop) (h0 : Inv 0 R [] own)
    (turn : ∀ C₁ env₁ i v R₁ ys own₁ s₁, Fra env₁ C₁ (relN scope.names names) cl' → (∀ b o, C.G b = some o → C₁.G b = some o) → i < n → P i v → Le R R₁ → Inv i R₁ ys own₁ → ys.length = i → St w C₁ R₁ [(x, v)] own₁ s₁ →
      wpAny (model prog w) A (eval elt env₁) (CompT w C₁ R₁ [(x, v)] ys (Inv (i + 1))) NoE s₁)
    (done : ∀ D K R₁ ys nn own₁ s₁, Le R R₁ → Inv n R₁ ys own₁ → ys.length = n → St w C R₁ ms ((D, lstO ys nn) :: own₁) s₁ → (∃ m, s₁.heap.Ns K m) → C.G K = none → R₁ K = none → K ≠ C.L → (∀ p ∈ (D, lstO ys nn) :: own₁, p.1 ≠ K) → RR (.ref D) K (.ok .next) s₁) :
    wpAny (model prog w) A (newList []) (fun acc s₃ => wpAny (model prog w) A (newFunctionEnv scope env.globals cl' [] env.qual none .none (some env)) (fun cenv s₄ =>
      codeAny (model prog w) A (.compStart (.ListComp elt [⟨.Name x px, iter, [], 0⟩] scope pos) 0 (.ref I) acc { cenv with scope := relabel scope env }) (RR acc cenv.locals) s₄) E s₃) E s := by
  refine x_newList S (by simp) fun D s₂ S₂ => ?_
  refine wpAny_newFunctionEnv hcell (by intro y hy; simp at hy) (fun h₁ hns₁ hsb₁ => ?_) hkind
  have hkp : ∀ b o, s₂.heap.get? b = some o → h₁.get? b = some o := fun b o e => hsb₁.extBut b o (Nat.ne_of_lt (Heap.lt_size e)) (Heap.get?_push_of_some _ e)
  have S₃ := S₂.enter (own₁ := (D, lstO [] 0) :: (I, oI) :: own) (fun _ h => h) S₂.nd (tk := s₂.toks + ([] : List (Str × Value)).length) (ms₁ := []) hns₁ hkp
  generalize hCC : C.into R ((D, lstO [] 0) :: (I, oI) :: own) s₂.heap = CC at S₃
  have hCG : ∀ b o, C.G b = some o → CC.G b = some o := fun b ob e => by
    rw [← hCC]
    refine into_G (fun p hp q => ?_) (S₂.dGR _ _ e) (S₂.kG _ _ e)
    have := S₂.GO p hp
    rw [q, e] at this; cases this
  generalize hK : s₂.heap.objs.size = K at *
  have hKL : CC.L = K := by rw [← hCC, ← hK]; rfl
  have FF : Fra (compEnvC scope cl' K env) CC (relN scope.names names) cl' := F.comp hkind hKL
  have st1 : Stt 0 h₁ := W.frame 0 _ _ st0 fun b hb ob e => by
    rcases hfp b hb with rfl | hb
    · have := S.kO _ (.head _)
      rw [e] at this; cases this
      exact S₃.kO _ (.tail _ (.head _))
    · obtain ⟨o₂, ho₂⟩ := Option.isSome_iff_exists.mp hb
      have e1 := S.kR _ _ ho₂
      rw [e] at e1; cases e1
      exact S₃.kR _ _ ho₂
  have loop : ∀ s₃ : Shared, s₃ = { s₂ with heap := h₁, toks := s₂.toks + ([] : List (Str × Value)).length } →
      codeAny (model prog w) A (.compLoop (.ListComp elt [⟨.Name x px, iter, [], 0⟩] scope pos) 0 (.ref I) (.ref D) (compEnvC scope cl' K env)) (RR (.ref D) K) s₃ := by
    rintro s₃ rfl
    have gD : CC.G D = none := S₃.GO _ (.head _)
    have gI : CC.G I = none := S₃.GO _ (.tail _ (.head _))
    have nDI : D ≠ I := by
      have := S₃.nd
      rw [List.map_cons, List.map_cons, List.nodup_cons] at this
      intro e; exact this.1 (e ▸ .head _)
    refine codeAny_compLoop_tests (fun k s' => ∃ i R₁ ys own₁ o nn m₁, k = n - i ∧ i ≤ n ∧ Le R R₁ ∧ Inv i R₁ ys own₁ ∧ ys.length = i ∧ Stt i s'.heap ∧ (m₁ = [] ∨ ∃ v, m₁ = [(x, v)]) ∧ St w CC R₁ m₁ ((D, lstO ys nn) :: (I, o) :: own₁) s') ?_ n
      ⟨0, R, [], own, oI, 0, [], rfl, Nat.zero_le _, Le.rfl', h0, rfl, st1, .inl rfl, S₃⟩
    rintro k s' ⟨i, R₁, ys, own₁, o, nn, m₁, rfl, hi, le, inv, hyl, st, hm₁, S₁⟩
    by_cases hlt : i < n
    · refine W.item i s' _ _ hlt st fun v h' tk hP st' hkeep => ?_
      obtain ⟨o', ho'⟩ := hIo _ _ st'
      have S₂ : St w CC R₁ m₁ ((D, lstO ys nn) :: (I, o') :: own₁) { s' with heap := h', toks := tk } := S₁.upd (.tail .head) (fun b ob hb e => hkeep b ob (by simpa using hb) e) ho'
      dsimp only
      have hxl : (relN scope.names names).lookup x = some .local := lookup_relN hx
      refine wpAny_assign_Name (x_store (ms' := [(x, v)]) S₂ FF hxl (by rcases hm₁ with rfl | ⟨u, rfl⟩; exact .nil; exact .hit) fun s₄ S₄ => ?_)
      rw [List.forIn_nil]
      refine wpAny_pure ?_
      rw [if_pos rfl]
      have S₅ : St w ((CC.hid D (lstO ys nn)).hid I o') R₁ [(x, v)] own₁ s₄ := S₄.hide.hide
      have hGk : ∀ b o, C.G b = some o → ((CC.hid D (lstO ys nn)).hid I o').G b = some o := fun b ob e => by
        have e2 : CC.G b = some ob := hCG b ob e
        rw [hid_ne (fun q => by subst q; rw [gI] at e2; cases e2), hid_ne (fun q => by subst q; rw [gD] at e2; cases e2)]
        exact e2
      refine wpAny_mono (turn _ _ i v R₁ ys own₁ s₄ FF.hid.hid hGk hlt hP le inv hyl S₅) (fun y s₅ h₅ => ?_) fun _ _ e => e.elim
      obtain ⟨R₂, own₂, le₂, inv₂, S₆⟩ := h₅
      have S₈ := (S₆.unhide (by rw [hid_ne (Ne.symm nDI)]; exact gI)).unhide gD
      refine x_append S₈ .head (by omega) fun s₆ S₉ => ?_
      refine ⟨n - (i + 1), by omega, i + 1, R₂, ys ++ [y], own₂, o', nn + 1, [(x, v)], rfl, hlt, le.trans le₂, inv₂, by simp [hyl], ?_, .inr ⟨v, rfl⟩, S₉⟩
      refine W.frame _ _ _ st' fun b hb ob e => ?_
      rcases hfp b hb with rfl | hb
      · rw [ho'] at e; cases e; exact S₉.kO _ (.tail _ (.head _))
      · obtain ⟨o₂, ho₂⟩ := Option.isSome_iff_exists.mp hb
        have e1 := S₂.kR _ _ (le _ _ ho₂)
        rw [show ({ s' with heap := h', toks := tk } : Shared).heap = h' from rfl, e] at e1; cases e1
        exact S₉.kR _ _ (le₂ _ _ (le _ _ ho₂))
    · have : i = n := by omega
      subst this
      refine W.done _ _ _ st fun h' tk hkeep => ?_
      have S₄ : St w CC R₁ m₁ ((D, lstO ys nn) :: own₁) { s' with heap := h', toks := tk } := (S₁.swap2).lost fun b ob hb e => hkeep b ob (by simpa using hb) e
      have S₅ : St w C R₁ ms ((D, lstO ys nn) :: own₁) { s' with heap := h', toks := tk } := S₂.exit hCC.symm S₄ le (fun p hp => .inl hp) (fun _ h => h) S₄.nd
      refine done D K R₁ ys nn own₁ _ le inv hyl S₅ ⟨_, hKL ▸ S₄.ns⟩ ?_ (hKL ▸ S₄.RL) ?_ (fun p hp => hKL ▸ S₄.LO p hp)
      · exact hK ▸ (S₂.fresh (heap_size_none _)).1
      · exact hK ▸ (S₂.fresh (heap_size_none _)).2.2.1
  exact codeAny_compStart_list (loop _ rfl) (W.self 0 _ _ _ st1 (loop _ rfl))
theorem x_comp {elt iter : Expr} {x : Str} {px : Pos} {scope : Scope} {cl' : List (Str × Addr)} {pos : Pos} {Q : Value → Shared → Prop} (F : Fra env C names cl) (hclos : closG cl scope.names [] = some cl') (hkind : scope.kind = .function)
    (hnames : ∀ y ∈ scope.names, y.2 = .local → scope.names.lookup y.1 = some .local) (hs : ∀ x, foldedSetIterable iter env x = pure x)
    (h : wpAny (model prog w) A (eval iter env) (fun xv s₁ => wpAny (model prog w) A (pyIter xv) (fun it s₂ => wpAny (model prog w) A (newList []) (fun acc s₃ => wpAny (model prog w) A (newFunctionEnv scope env.globals cl' [] env.qual none .none (some env)) (fun cenv s₄ =>
      codeAny (model prog w) A (.compStart (.ListComp elt [⟨.Name x px, iter, [], 0⟩] scope pos) 0 it acc { cenv with scope := relabel scope env }) (compPost (model prog w) A E none Q acc cenv.locals) s₄) E s₃) E s₂) E s₁) E s) :
    wpAny (model prog w) A (eval (.ListComp elt [⟨.Name x px, iter, [], 0⟩] scope pos) env) Q E s := by
  rw [eval_ListComp]
  exact wpAny_comprehension_free (use := none) rfl hs (closureFor_eq (F.c ▸ hclos)) hkind hnames h
theorem x_assignComp {elt iter : Expr} {x y : Str} {px py : Pos} {scope : Scope} {cl' : List (Str × Addr)} {pos spos : Pos} {Q : Flow → Shared → Prop} (F : Fra env C names cl) (hsw : swapsWith (.ListComp elt [⟨.Name x px, iter, [], 0⟩] scope pos) (some (.Name y py)) spos.line env = pure true)
    (hclos : closG cl scope.names [] = some cl') (hkind : scope.kind = .function)
    (hnames : ∀ y ∈ scope.names, y.2 = .local → scope.names.lookup y.1 = some .local) (hs : ∀ x, foldedSetIterable iter env x = pure x)
    (h : wpAny (model prog w) A (eval iter env) (fun xv s₁ => wpAny (model prog w) A (pyIter xv) (fun it s₂ => wpAny (model prog w) A (newList []) (fun acc s₃ => wpAny (model prog w) A (newFunctionEnv scope env.globals cl' [] env.qual none .none (some env)) (fun cenv s₄ =>
      codeAny (model prog w) A (.compStart (.ListComp elt [⟨.Name x px, iter, [], 0⟩] scope pos) 0 it acc { cenv with scope := relabel scope env }) (compPost (model prog w) A E (some (assign (.Name y py) env)) (fun _ s' => Q .next s') acc cenv.locals) s₄) E s₃) E s₂) E s₁) E s) :
    wpAny (model prog w) A (exec (.Assign [.Name y py] (.ListComp elt [⟨.Name x px, iter, [], 0⟩] scope pos) spos) env) Q E s := by
  rw [exec_Assign_Name_used _ _ _ _ hsw]
  refine wpAny_bind (wpAny_standAt (wpAny_bind ?_))
  show wpAny _ A (do let _ ← comprehension (.ListComp elt [⟨.Name x px, iter, [], 0⟩] scope pos) scope env _ (newList []) false (eval iter env) (some (assign (.Name y py) env))) _ _ s
  exact wpAny_bind (wpAny_mono (wpAny_comprehension_free (use := some (assign (.Name y py) env)) (Q := fun _ s' => Q .next s') rfl hs (closureFor_eq (F.c ▸ hclos)) hkind hnames h) (fun _ s' hq => wpAny_pure (wpAny_pure hq)) fun _ _ e => e)
theorem x_compL {elt iter : Expr} {x : Str} {px : Pos} {scope : Scope} {cl' : List (Str × Addr)} {pos : Pos} {l : Addr} {vs : List Value} {n : Nat} {Q : Value → Shared → Prop} (hh : A.handled = none) (S : St w C R ms own s) (hl : R l = some (lstO vs n)) (hsz : vs.length ≤ sizeLine)
    (hcell : ∀ y ∈ scope.names, y.2 ≠ .cell) (hkind : scope.kind = .function) (hx : scope.names.lookup x = some .local) (F : Fra env C names cl)
    (Inv : Nat → PH → List Value → List (Addr × Obj) → Prop) (h0 : Inv 0 R [] own)
    (turn : ∀ C₁ env₁ (i : Nat) v R₁ ys own₁ s₁, Fra env₁ C₁ (relN scope.names names) cl' → i < vs.length → vs[i]? = some v → Le R R₁ → Inv i R₁ ys own₁ → ys.length = i → St w C₁ R₁ [(x, v)] own₁ s₁ →
      wpAny (model prog w) A (eval elt env₁) (CompT w C₁ R₁ [(x, v)] ys (Inv (i + 1))) NoE s₁)
    (done : ∀ D R₁ ys nn own₁ s₁, Le R R₁ → Inv vs.length R₁ ys own₁ → ys.length = vs.length → St w C R₁ ms ((D, lstO ys nn) :: own₁) s₁ → Q (.ref D) s₁) :
    wpAny (model prog w) A (pyIter (.ref l)) (fun it s₂ => wpAny (model prog w) A (newList []) (fun acc s₃ => wpAny (model prog w) A (newFunctionEnv scope env.globals cl' [] env.qual none .none (some env)) (fun cenv s₄ =>
      codeAny (model prog w) A (.compStart (.ListComp elt [⟨.Name x px, iter, [], 0⟩] scope pos) 0 it acc { cenv with scope := relabel scope env }) (compPost (model prog w) A E none Q acc cenv.locals) s₄) E s₃) E s₂) E s := by
  have hL := isL_of (S.kR _ _ hl)
  refine wpAny_pyIter_list hL ?_
  have S₁ := S.push (o := { cls := .type "list_iterator", data := .fields #[.ref l, .int 0 0] }) (tk := s.toks)
  have hne : l ≠ s.heap.objs.size := fun e => by
    have := (S.fresh (heap_size_none s.heap)).2.1; rw [← e, hl] at this; cases this
  have hL₁ : (s.heap.push { cls := .type "list_iterator", data := .fields #[.ref l, .int 0 0] }).IsList l vs.toArray := isL_of (S₁.kR _ _ hl)
  have W := Walks.list (prog := prog) (w := w) hh s.heap.objs.size l hne vs.toArray
  rw [List.size_toArray] at W
  have st0 : (fun i (h : Heap) => h.IsListIter s.heap.objs.size l i ∧ h.IsList l vs.toArray) 0 (s.heap.push { cls := .type "list_iterator", data := .fields #[.ref l, .int 0 0] }) := ⟨⟨_, S₁.kO _ (.head _), rfl, rfl⟩, hL₁⟩
  have hfp : ∀ b ∈ [s.heap.objs.size, l], b = s.heap.objs.size ∨ (R b).isSome := fun b hb => by
    rcases List.mem_cons.mp hb with rfl | hb
    · exact .inl rfl
    · rw [List.mem_singleton.mp hb]; exact .inr (by rw [hl]; rfl)
  exact x_compCore (RR := fun acc K => compPost (model prog w) A E none Q acc K) W S₁ st0 hfp (fun i h st => ⟨_, st.1.choose_spec.1⟩) hcell hkind hx hsz F Inv h0 (fun C₁ env₁ i v R₁ ys own₁ s₁ F₁ _ hi hP => turn C₁ env₁ i v R₁ ys own₁ s₁ F₁ hi (by simpa using hP))
    (fun D K R₁ ys nn own₁ s₁ le inv hyl S₁ hm gK rK lK oK => ⟨hm.choose, hm.choose_spec, fun h' hs' => done D R₁ ys nn own₁ _ le inv hyl (S₁.but (tk := s₁.toks) gK rK lK oK fun b o hb e => hs'.extBut b o hb e)⟩)
theorem x_compR {elt iter : Expr} {x : Str} {px : Pos} {scope : Scope} {cl' : List (Str × Addr)} {pos : Pos} {l : Addr} {a b : Int} {t u t1 : Tok} {Q : Value → Shared → Prop} (hh : A.handled = none) (S : St w C R ms own s) (hl : R l = some ({ cls := .type "range", data := .fields #[.int a t, .int b u, .int 1 t1] } : Obj)) (ha : a.natAbs < 1000000) (hb : b.natAbs < 1000000) 
    (hcell : ∀ y ∈ scope.names, y.2 ≠ .cell) (hkind : scope.kind = .function) (hx : scope.names.lookup x = some .local) (F : Fra env C names cl)
    (Inv : Nat → PH → List Value → List (Addr × Obj) → Prop) (h0 : Inv 0 R [] own)
    (turn : ∀ C₁ env₁ (i : Nat) v R₁ ys own₁ s₁, Fra env₁ C₁ (relN scope.names names) cl' → (∀ b o, C.G b = some o → C₁.G b = some o) → i < (b - a).toNat → (∃ t, v = .int (a + i) t) → Le R R₁ → Inv i R₁ ys own₁ → ys.length = i → St w C₁ R₁ [(x, v)] own₁ s₁ →
      wpAny (model prog w) A (eval elt env₁) (CompT w C₁ R₁ [(x, v)] ys (Inv (i + 1))) NoE s₁)
    (done : ∀ D R₁ ys nn own₁ s₁, Le R R₁ → Inv (b - a).toNat R₁ ys own₁ → ys.length = (b - a).toNat → St w C R₁ ms ((D, lstO ys nn) :: own₁) s₁ → Q (.ref D) s₁) :
    wpAny (model prog w) A (pyIter (.ref l)) (fun it s₂ => wpAny (model prog w) A (newList []) (fun acc s₃ => wpAny (model prog w) A (newFunctionEnv scope env.globals cl' [] env.qual none .none (some env)) (fun cenv s₄ =>
      codeAny (model prog w) A (.compStart (.ListComp elt [⟨.Name x px, iter, [], 0⟩] scope pos) 0 it acc { cenv with scope := relabel scope env }) (compPost (model prog w) A E none Q acc cenv.locals) s₄) E s₃) E s₂) E s := by
  refine wpAny_pyIter_range (S.kR _ _ hl) ?_ ?_
  · exact small_one (by omega) (by omega) (by omega) (by omega)
  have S₁ := S.push (o := { cls := .type "range_iterator", data := .fields #[rawInt a, rawInt (Builtin.Range.rangeSize a b 1), rawInt 1] }) (tk := s.toks)
  have hz : Builtin.Range.rangeSize a b 1 = ((b - a).toNat : Int) := by
    rw [rangeSize_one]
    split <;> omega
  have W := Walks.range (prog := prog) (w := w) hh s.heap.objs.size a 1 (b - a).toNat
  have hfp : ∀ b ∈ [s.heap.objs.size], b = s.heap.objs.size ∨ (R b).isSome := fun b hb => .inl (List.mem_singleton.mp hb)
  exact x_compCore (RR := fun acc K => compPost (model prog w) A E none Q acc K) W S₁ (by rw [← hz]; simpa using S₁.kO _ (.head _)) hfp (fun i h st => ⟨_, st⟩) hcell hkind hx (by have := sizeLine_eq; omega) F Inv h0 (fun C₁ env₁ i v R₁ ys own₁ s₁ F₁ hkk hi hP => turn C₁ env₁ i v R₁ ys own₁ s₁ F₁ hkk hi (by simpa using hP))
    (fun D K R₁ ys nn own₁ s₁ le inv hyl S₁ hm gK rK lK oK => ⟨hm.choose, hm.choose_spec, fun h' hs' => done D R₁ ys nn own₁ _ le inv hyl (S₁.but (tk := s₁.toks) gK rK lK oK fun b o hb e => hs'.extBut b o hb e)⟩)
theorem x_compLU {elt iter : Expr} {x : Str} {px : Pos} {scope : Scope} {cl' : List (Str × Addr)} {pos : Pos} {l : Addr} {vs : List Value} {n : Nat} {y : Str} {py : Pos} {Q : Flow → Shared → Prop} {msf : Value → List (Str × Value)} (hh : A.handled = none) (S : St w C R ms own s) (hl : R l = some (lstO vs n)) (hsz : vs.length ≤ sizeLine)
    (hcell : ∀ y ∈ scope.names, y.2 ≠ .cell) (hkind : scope.kind = .function) (hx : scope.names.lookup x = some .local) (F : Fra env C names cl)
    (Inv : Nat → PH → List Value → List (Addr × Obj) → Prop) (h0 : Inv 0 R [] own)
    (turn : ∀ C₁ env₁ (i : Nat) v R₁ ys own₁ s₁, Fra env₁ C₁ (relN scope.names names) cl' → i < vs.length → vs[i]? = some v → Le R R₁ → Inv i R₁ ys own₁ → ys.length = i → St w C₁ R₁ [(x, v)] own₁ s₁ →
      wpAny (model prog w) A (eval elt env₁) (CompT w C₁ R₁ [(x, v)] ys (Inv (i + 1))) NoE s₁)
    (hy : names.lookup y = some .local) (hput : ∀ v, PutM y v ms (msf v)) (done : ∀ D R₁ ys nn own₁ s₁, Le R R₁ → Inv vs.length R₁ ys own₁ → ys.length = vs.length → St w C R₁ (msf (.ref D)) ((D, lstO ys nn) :: own₁) s₁ → Q .next s₁) :
    wpAny (model prog w) A (pyIter (.ref l)) (fun it s₂ => wpAny (model prog w) A (newList []) (fun acc s₃ => wpAny (model prog w) A (newFunctionEnv scope env.globals cl' [] env.qual none .none (some env)) (fun cenv s₄ =>
      codeAny (model prog w) A (.compStart (.ListComp elt [⟨.Name x px, iter, [], 0⟩] scope pos) 0 it acc { cenv with scope := relabel scope env }) (compPost (model prog w) A E (some (assign (.Name y py) env)) (fun _ s' => Q .next s') acc cenv.locals) s₄) E s₃) E s₂) E s := by
  have hL := isL_of (S.kR _ _ hl)
  refine wpAny_pyIter_list hL ?_
  have S₁ := S.push (o := { cls := .type "list_iterator", data := .fields #[.ref l, .int 0 0] }) (tk := s.toks)
  have hne : l ≠ s.heap.objs.size := fun e => by
    have := (S.fresh (heap_size_none s.heap)).2.1; rw [← e, hl] at this; cases this
  have hL₁ : (s.heap.push { cls := .type "list_iterator", data := .fields #[.ref l, .int 0 0] }).IsList l vs.toArray := isL_of (S₁.kR _ _ hl)
  have W := Walks.list (prog := prog) (w := w) hh s.heap.objs.size l hne vs.toArray
  rw [List.size_toArray] at W
  have st0 : (fun i (h : Heap) => h.IsListIter s.heap.objs.size l i ∧ h.IsList l vs.toArray) 0 (s.heap.push { cls := .type "list_iterator", data := .fields #[.ref l, .int 0 0] }) := ⟨⟨_, S₁.kO _ (.head _), rfl, rfl⟩, hL₁⟩
  have hfp : ∀ b ∈ [s.heap.objs.size, l], b = s.heap.objs.size ∨ (R b).isSome := fun b hb => by
    rcases List.mem_cons.mp hb with rfl | hb
    · exact .inl rfl
    · rw [List.mem_singleton.mp hb]; exact .inr (by rw [hl]; rfl)
  exact x_compCore (RR := fun acc K => compPost (model prog w) A E (some (assign (.Name y py) env)) (fun _ s' => Q .next s') acc K) W S₁ st0 hfp (fun i h st => ⟨_, st.1.choose_spec.1⟩) hcell hkind hx hsz F Inv h0 (fun C₁ env₁ i v R₁ ys own₁ s₁ F₁ _ hi hP => turn C₁ env₁ i v R₁ ys own₁ s₁ F₁ hi (by simpa using hP))
    (fun D K R₁ ys nn own₁ s₁ le inv hyl S₁ hm gK rK lK oK => by
      obtain ⟨m, hm⟩ := hm
      show wpAny _ A (assign (.Name y py) env (.ref D)) _ _ _
      refine wpAny_assign_Name (wpAny_storeName_local (F.kind hy) (F.L ▸ S₁.ns) (fun h₂ hn₂ hs₂ => ?_) (by rw [F.k]; rfl))
      have S₂ := S₁.store (tk := s₁.toks + 1) (F.L ▸ hn₂) (F.L ▸ hs₂) (hput (.ref D)).eq
      exact ⟨m, hm.sameBut (F.L ▸ hs₂) lK, fun h₃ hs₃ => done D R₁ ys nn own₁ _ le inv hyl (S₂.but gK rK lK oK (fun b o hb e => hs₃.extBut b o hb e))⟩)
end

section
variable {prog : Program} {w : World} {M : Model} {A : Around} {E : Value → Shared → Prop} {s : Shared} {env : Env}
  {C : Cx} {R : PH} {ms ms' : List (Str × Value)} {own own' : List (Addr × Obj)} {names : List (Str × NameKind)} {cl : List (Str × Addr)}

/-! the fields of an own object -/
inductive DIs : List DictEntry → List (Str × Value) → Prop
  | nil : DIs [] []
  | cons {h t nm v es fs} : DIs es fs → DIs (⟨h, .str nm t, v⟩ :: es) ((nm, v) :: fs)
theorem DIs.noRef {es : List DictEntry} {fs : List (Str × Value)} (D : DIs es fs) : es.any (·.refKey) = false := by
  induction D with
  | nil => rfl
  | cons _ ih => rw [List.any_cons, ih]; rfl
theorem DIs.find {es : List DictEntry} {fs : List (Str × Value)} (D : DIs es fs) (name : Str) : (es.find? (·.key.isStr name)).map (·.val) = fs.lookup name := by
  induction D with
  | nil => rfl
  | @cons h t nm v es fs _ ih =>
    rw [List.find?_cons, List.lookup_cons]
    show Option.map _ (match nm == name with | true => _ | false => _) = _
    by_cases e : name = nm
    · subst e; simp
    · have e1 : (nm == name) = false := by simpa using Ne.symm e
      have e2 : (name == nm) = false := by simpa using e
      rw [e1, e2]; exact ih
theorem DIs.get {es : List DictEntry} {fs : List (Str × Value)} (D : DIs es fs) (name : Str) : getL name es = some (fs.lookup name) := by
  unfold getL
  have e := D.find name
  cases h : es.find? (·.key.isStr name) with
  | some x => rw [h] at e; rw [← e]; rfl
  | none => rw [h] at e; rw [← e]; simp [D.noRef]
theorem DIs.put {es : List DictEntry} {fs : List (Str × Value)} (D : DIs es fs) {name : Str} {h : Int} {t : Tok} {v : Value} (hn : fs.lookup name = none) : DIs (putL name h (.str name t) v es) (fs ++ [(name, v)]) := by
  induction D with
  | nil => exact .cons .nil
  | @cons h' t' nm u es fs D ih =>
    rw [List.lookup_cons] at hn
    by_cases e : name = nm
    · subst e; simp at hn
    · have e1 : (nm == name) = false := by simpa using Ne.symm e
      have e2 : (name == nm) = false := by simpa using e
      rw [e2] at hn
      unfold putL
      rw [if_neg (by show ¬ (nm == name) = true; rw [e1]; decide)]
      exact .cons (ih hn)
theorem DIs.len {es : List DictEntry} {fs : List (Str × Value)} (D : DIs es fs) : es.length = fs.length := by
  induction D with
  | nil => rfl
  | cons _ ih => simp [ih]

def InstR (R : PH) (x Cc : Addr) (fs : List (Str × Value)) : Prop := ∃ dx es n, R x = some (instObj Cc dx) ∧ R dx = some (dictOf es n) ∧ DIs es fs
theorem InstR.le {R R' : PH} {x Cc : Addr} {fs : List (Str × Value)} (I : InstR R x Cc fs) (le : Le R R') : InstR R' x Cc fs := let ⟨dx, es, n, a, b, c⟩ := I; ⟨dx, es, n, le _ _ a, le _ _ b, c⟩
theorem x_getA {x Cc : Addr} {fs : List (Str × Value)} {name : Str} {v : Value} {expr : Bool} {Q : Value → Shared → Prop} (S : St w C R ms own s) (I : InstR R x Cc fs)
    (hf : plainGet (hd.heap_39 w.params) Cc name = true ∧ hasDictIn (hd.heap_39 w.params) Cc = true ∧ findIn (hd.heap_39 w.params) (.ref Cc) name = some none) (hm : fs.lookup name = some v) (hv : handedIn v = true)
    (h : ∀ s', St w C R ms own s' → Q v s') : wpAny (model prog w) A (getAttr (.ref x) name expr) Q E s := by
  obtain ⟨dx, es, n, a, b, c⟩ := I
  exact get_own S.fr S.X ⟨S.kR _ _ a, rfl, rfl, S.kR _ _ b⟩ hf.1 hf.2.1 hf.2.2 rfl (by rw [c.get, hm]) hv (h _ S.tok)
theorem x_gmInst {x Cc f : Addr} {fs : List (Str × Value)} {name : Str} {pl : Sem Bool} {Q : Value × List Value → Shared → Prop} (S : St w C R ms own s) (I : InstR R x Cc fs)
    (hf : plainGet (hd.heap_39 w.params) Cc name = true ∧ findIn (hd.heap_39 w.params) (.ref Cc) name = some (some (.ref f)) ∧ isFn (hd.heap_39 w.params) (.ref f) = true) (hm : fs.lookup name = none)
    (h : Q (.ref f, [.ref x]) s) : wpAny (model prog w) A (getMethod (.ref x) name pl) Q E s := by
  obtain ⟨dx, es, n, a, b, c⟩ := I
  exact method_inst S.fr S.X ⟨S.kR _ _ a, rfl, rfl, S.kR _ _ b⟩ hf.1 hf.2.1 hf.2.2 (by rw [c.get, hm]) h
theorem x_setA {x dx Cc : Addr} {es : List DictEntry} {n : Nat} {fs : List (Str × Value)} {name : Str} {v : Value} {f : Obj → List (Addr × Obj)} {Q : Unit → Shared → Prop} (S : St w C R ms own s) (ho : R x = some (instObj Cc dx)) (U : OwnF dx (dictOf es n) own f) (D : DIs es fs)
    (hf : findIn (hd.heap_39 w.params) (.ref Cc) "__setattr__" = some (some (.builtin "object.__setattr__")) ∧ plainOver (hd.heap_39 w.params) Cc = true ∧ takerIn (hd.heap_39 w.params) Cc name = some none ∧ hasDictIn (hd.heap_39 w.params) Cc = true)
    (hn : fs.lookup name = none) (hz : fs.length < 1000) (h : ∀ es' n' s', DIs es' (fs ++ [(name, v)]) → St w C R ms (f (dictOf es' n')) s' → Q () s') :
    wpAny (model prog w) A (setAttr (.ref x) name v) Q E s := by
  obtain ⟨news, N, hne, hfull⟩ := S.snapD U.mem
  have D' := D.put (h := PyData.keyHash w.params name) (t := s.toks + 1) (v := v) hn
  refine set_dict S.fr S.X N ⟨S.kR _ _ ho, rfl, rfl, S.kO _ U.mem⟩ rfl hf.1 hf.2.1 hf.2.2.1 hf.2.2.2 (by rw [D.get]; rfl) rfl (.head hne) (by rw [D'.len, List.length_append, List.length_singleton]; omega) fun h' F' N' => ?_
  exact h _ _ _ D' (S.backUpd U hfull F' N')

/-! a class called -/
theorem Ok.cls {A : Around} {n : Nat} {Cc : Addr} {pos : List Value} (x : Ok A (n + 1)) : Ok (A.under (.builtin "type.__call__" ⟨.ref Cc :: pos, []⟩)) n :=
  ⟨x.handled, by have := x.depth; show A.depth + 1 + n < _; omega, by have := x.units; show A.units + 1 + 8 * n < _; omega⟩
theorem x_class {Cc fI : Addr} {pos : List Value} {name qual : Str} {params : Arguments} {body : List Stmt} {scope : Scope} {dV kV doc pm cdv ct oc : Value} {an od : Option Addr} {osl : Array (Option Value)} {binds ms₁ : Value → List (Str × Value)} {Q : Value → Shared → Prop}
    (S : St w C R ms own s) (hm : makesIn (hd.heap_39 w.params) Cc = true ∧ findIn (hd.heap_39 w.params) (.ref Cc) "__init__" = some (some (.ref fI)) ∧ isFn (hd.heap_39 w.params) (.ref fI) = true)
    (ho : (hd.heap_39 w.params).lookup fI = some ⟨oc, od, .func (fnOf name qual params body scope dV kV doc pm an cdv ct), osl⟩) (hcd : codeIn (hd.heap_39 w.params) cdv qual = true)
    (hbind : ∀ x s, (hd.heap_39 w.params).In s.heap → BindsTo s (fnOf name qual params body scope dV kV doc pm an cdv ct) ⟨x :: pos, []⟩ (binds x)) (hms : ∀ x, (binds x).reverse = ms₁ x) (hloc : ∀ x, ∀ y ∈ binds x, scope.names.lookup y.1 = some .local) (hcell : ∀ x ∈ scope.names, x.2 ≠ .cell)
    (hco : scope.isCoroutine = false) (hgen : scope.isGenerator = false) (hk : scope.kind = .function)
    {nm : Nat} (ok : Ok A (nm + 2))
    (h : ∀ x dx R₁ s₀ C' A' env s₁, Le R R₁ → R₁ x = some (instObj Cc dx) → St w C R₁ ms ((dx, dictOf [] 0) :: own) s₀ → C' = C.into R₁ [(dx, dictOf [] 0)] s₀.heap → Fra env C' scope.names [] → Ok A' nm → St w C' R₁ (ms₁ (.ref x)) [(dx, dictOf [] 0)] s₁ →
      wpAny (model prog w) A' (execs body env) (fun fl s' => (match fl with | .ret v => v | _ => .none) = .none ∧ Q (.ref x) s') NoE s₁) :
    wpAny (model prog w) A (call (.ref Cc) pos) Q E s := by
  obtain ⟨news, N, hfull⟩ := S.snap
  refine call_cls S.fr S.X N hm.1 hm.2.1 hm.2.2 fun x dx h' F' N' hlt hx => ?_
  have S₀ : St w C R ms ((x, instObj Cc dx) :: (dx, dictOf [] 0) :: own) { s with heap := h', toks := s.toks } := by
    refine S.backNews (ds := [(x, instObj Cc dx), (dx, dictOf [] 0)]) hfull F' N' (fun p hp q hq => ?_) ?_
    · have := hlt p hp
      simp only [List.mem_cons, List.not_mem_nil, or_false] at hq
      rcases hq with rfl | rfl
      · exact Nat.ne_of_lt (Nat.lt_trans this hx)
      · exact Nat.ne_of_lt this
    · simp only [List.map_cons, List.map_nil, List.nodup_cons, List.mem_singleton, List.not_mem_nil, not_false_eq_true, List.nodup_nil, and_true]
      exact Nat.ne_of_gt hx
  obtain ⟨R₁, le, e, S₁⟩ := S₀.freeze .head
  have ok' : Ok (A.under (.builtin "type.__call__" ⟨.ref Cc :: pos, []⟩)) (nm + 1) := ok.cls
  refine codeAny_call_def (fd := fnOf name qual params body scope dV kV doc pm an cdv ct) (body := body) (binds := binds (.ref x)) ok'.room (S₁.kIn _ _ ho) rfl (S₁.nolimit.keeps S₁.kB) (codeRec_of S₁.kIn hcd) rfl (hbind _ _ S₁.kIn) hcell (hloc _) (fun h₁ hns hk₁ => ?_) hco hgen hk
  have e1 : (fun y => (binds (.ref x)).reverse.lookup y) = fun y => (ms₁ (.ref x)).lookup y := by rw [hms]
  rw [e1] at hns
  refine wpAny_mono (h x dx R₁ _ _ _ _ _ le e S₁ rfl ⟨rfl, hk, rfl, rfl, rfl, rfl, by show (scope.kind == .module && _) = false; rw [hk]; rfl, by show (if scope.kind.isAnnotationScope then ScopeKind.function else scope.kind) = .function; rw [hk]; rfl⟩ (ok'.deeper _)
    (S₁.enter (own₁ := [(dx, dictOf [] 0)]) (fun p hp => by rw [List.mem_singleton.mp hp]; exact .head _) (by simp) hns hk₁)) (fun fl s' q => ?_) fun _ _ q => q.elim
  exact q
/-- default values -/
theorem binds_D {fd : FuncData} {args : Args} {binds : List (Str × Value)} {T : Addr} {o : Obj} {items : Array Value} {n : Nat} {k : Option (Array Value) → Sem (List (Str × Value))} (hdf : fd.defaults = .ref T) (ho : (hd.heap_39 w.params).lookup T = some o) (hs : o.data = .seq items n)
    (h₁ : bindArgs fd args = seqItems? fd.defaults >>= k) (h₂ : k (some items) = pure binds) (s : Shared) (X : (hd.heap_39 w.params).In s.heap) : BindsTo s fd args binds := BindsTo.of_defaults hdf (X _ _ ho) hs h₁ h₂
end

section
variable {w : World}
theorem g_is_whole : nsIn (hd.heap_39 w.params) mainGlobals (Str.ofString "is_whole") = some (some (.ref 97)) := by k_is
theorem g_is_token : nsIn (hd.heap_39 w.params) mainGlobals (Str.ofString "is_token") = some (some (.ref 118)) := by k_is
theorem g_check_tokens : nsIn (hd.heap_39 w.params) mainGlobals (Str.ofString "check_tokens") = some (some (.ref 125)) := by k_is
theorem g_TokenFeed : nsIn (hd.heap_39 w.params) mainGlobals (Str.ofString "TokenFeed") = some (some (.ref 179)) := by k_is
theorem g_Macro : nsIn (hd.heap_39 w.params) mainGlobals (Str.ofString "Macro") = some (some (.ref 214)) := by k_is
theorem g_token_wanted : nsIn (hd.heap_39 w.params) mainGlobals (Str.ofString "token_wanted") = some (some (.ref 225)) := by k_is
theorem g_slid : nsIn (hd.heap_39 w.params) mainGlobals (Str.ofString "slid") = some (some (.ref 232)) := by k_is
theorem g_check_par : nsIn (hd.heap_39 w.params) mainGlobals (Str.ofString "check_par") = some (some (.ref 239)) := by k_is
theorem g_group_tokens : nsIn (hd.heap_39 w.params) mainGlobals (Str.ofString "group_tokens") = some (some (.ref 246)) := by k_is
theorem g_argument : nsIn (hd.heap_39 w.params) mainGlobals (Str.ofString "argument") = some (some (.ref 253)) := by k_is
theorem g_arguments : nsIn (hd.heap_39 w.params) mainGlobals (Str.ofString "arguments") = some (some (.ref 260)) := by k_is
theorem g_filled : nsIn (hd.heap_39 w.params) mainGlobals (Str.ofString "filled") = some (some (.ref 267)) := by k_is
theorem g_call : nsIn (hd.heap_39 w.params) mainGlobals (Str.ofString "call") = some (some (.ref 274)) := by k_is
theorem g_law_par : nsIn (hd.heap_39 w.params) mainGlobals (Str.ofString "_law_par") = some (some (.ref 275)) := by k_is
theorem g_law_pool : nsIn (hd.heap_39 w.params) mainGlobals (Str.ofString "_law_pool") = some (some (.ref 282)) := by k_is
theorem g_law_take : nsIn (hd.heap_39 w.params) mainGlobals (Str.ofString "_law_take") = some (some (.ref 289)) := by k_is
theorem g_law_trees : nsIn (hd.heap_39 w.params) mainGlobals (Str.ofString "_law_trees") = some (some (.ref 294)) := by k_is
theorem g_law_tokens : nsIn (hd.heap_39 w.params) mainGlobals (Str.ofString "_law_tokens") = some (some (.ref 301)) := by k_is
theorem g_law_worked_out : nsIn (hd.heap_39 w.params) mainGlobals (Str.ofString "_law_worked_out") = some (some (.ref 306)) := by k_is
theorem g_law_replaced : nsIn (hd.heap_39 w.params) mainGlobals (Str.ofString "_law_replaced") = some (some (.ref 313)) := by k_is
theorem g_law_program_right : nsIn (hd.heap_39 w.params) mainGlobals (Str.ofString "_law_program_right") = some (some (.ref 318)) := by k_is
theorem g_LEAST_CODES : nsIn (hd.heap_39 w.params) mainGlobals (Str.ofString "LEAST_CODES") = some (some (.ref 110)) := by k_is
theorem g_GREATEST_CODES : nsIn (hd.heap_39 w.params) mainGlobals (Str.ofString "GREATEST_CODES") = some (some (.ref 111)) := by k_is
theorem g_BLANK : nsIn (hd.heap_39 w.params) mainGlobals (Str.ofString "BLANK") = some (some (.ref 184)) := by k_is
theorem g_BEGIN : ∃ t, nsIn (hd.heap_39 w.params) mainGlobals (Str.ofString "BEGIN") = some (some (.int 1 t)) := ⟨_, by k_is⟩
theorem g_END : ∃ t, nsIn (hd.heap_39 w.params) mainGlobals (Str.ofString "END") = some (some (.int 2 t)) := ⟨_, by k_is⟩
theorem g_OUT : ∃ t, nsIn (hd.heap_39 w.params) mainGlobals (Str.ofString "OUT") = some (some (.int 5 t)) := ⟨_, by k_is⟩
theorem g_MATCH : ∃ t, nsIn (hd.heap_39 w.params) mainGlobals (Str.ofString "MATCH") = some (some (.int 9 t)) := ⟨_, by k_is⟩
theorem g_MOST_PARAMETERS : ∃ t, nsIn (hd.heap_39 w.params) mainGlobals (Str.ofString "MOST_PARAMETERS") = some (some (.int 9 t)) := ⟨_, by k_is⟩
theorem b_isinstance : nsIn (hd.heap_39 w.params) mainGlobals (Str.ofString "isinstance") = some none ∧ bootBuiltins (Str.ofString "isinstance") = some (.builtin "isinstance") ∧ Str.ofString "isinstance" ≠ "__name__" := ⟨by k_is, by boot_fast, by decide⟩
theorem b_len : nsIn (hd.heap_39 w.params) mainGlobals (Str.ofString "len") = some none ∧ bootBuiltins (Str.ofString "len") = some (.builtin "len") ∧ Str.ofString "len" ≠ "__name__" := ⟨by k_is, by boot_fast, by decide⟩
theorem b_abs : nsIn (hd.heap_39 w.params) mainGlobals (Str.ofString "abs") = some none ∧ bootBuiltins (Str.ofString "abs") = some (.builtin "abs") ∧ Str.ofString "abs" ≠ "__name__" := ⟨by k_is, by boot_fast, by decide⟩
theorem b_int : nsIn (hd.heap_39 w.params) mainGlobals (Str.ofString "int") = some none ∧ bootBuiltins (Str.ofString "int") = some (.type "int") ∧ Str.ofString "int" ≠ "__name__" := ⟨by k_is, by boot_fast, by decide⟩
theorem b_bool : nsIn (hd.heap_39 w.params) mainGlobals (Str.ofString "bool") = some none ∧ bootBuiltins (Str.ofString "bool") = some (.type "bool") ∧ Str.ofString "bool" ≠ "__name__" := ⟨by k_is, by boot_fast, by decide⟩
theorem b_tuple : nsIn (hd.heap_39 w.params) mainGlobals (Str.ofString "tuple") = some none ∧ bootBuiltins (Str.ofString "tuple") = some (.type "tuple") ∧ Str.ofString "tuple" ≠ "__name__" := ⟨by k_is, by boot_fast, by decide⟩
theorem b_list : nsIn (hd.heap_39 w.params) mainGlobals (Str.ofString "list") = some none ∧ bootBuiltins (Str.ofString "list") = some (.type "list") ∧ Str.ofString "list" ≠ "__name__" := ⟨by k_is, by boot_fast, by decide⟩
theorem b_range : nsIn (hd.heap_39 w.params) mainGlobals (Str.ofString "range") = some none ∧ bootBuiltins (Str.ofString "range") = some (.type "range") ∧ Str.ofString "range" ≠ "__name__" := ⟨by k_is, by boot_fast, by decide⟩
theorem b_zip : nsIn (hd.heap_39 w.params) mainGlobals (Str.ofString "zip") = some none ∧ bootBuiltins (Str.ofString "zip") = some (.type "zip") ∧ Str.ofString "zip" ≠ "__name__" := ⟨by k_is, by boot_fast, by decide⟩
theorem a_rest_179 : plainGet (hd.heap_39 w.params) 179 (Str.ofString "rest") = true ∧ hasDictIn (hd.heap_39 w.params) 179 = true ∧ findIn (hd.heap_39 w.params) (.ref 179) (Str.ofString "rest") = some none := ⟨by k_is, by k_is, by k_is⟩
theorem s_rest_179 : findIn (hd.heap_39 w.params) (.ref 179) "__setattr__" = some (some (.builtin "object.__setattr__")) ∧ plainOver (hd.heap_39 w.params) 179 = true ∧ takerIn (hd.heap_39 w.params) 179 (Str.ofString "rest") = some none ∧ hasDictIn (hd.heap_39 w.params) 179 = true := ⟨by k_is, by k_is, by k_is, by k_is⟩
theorem a_outers_179 : plainGet (hd.heap_39 w.params) 179 (Str.ofString "outers") = true ∧ hasDictIn (hd.heap_39 w.params) 179 = true ∧ findIn (hd.heap_39 w.params) (.ref 179) (Str.ofString "outers") = some none := ⟨by k_is, by k_is, by k_is⟩
theorem s_outers_179 : findIn (hd.heap_39 w.params) (.ref 179) "__setattr__" = some (some (.builtin "object.__setattr__")) ∧ plainOver (hd.heap_39 w.params) 179 = true ∧ takerIn (hd.heap_39 w.params) 179 (Str.ofString "outers") = some none ∧ hasDictIn (hd.heap_39 w.params) 179 = true := ⟨by k_is, by k_is, by k_is, by k_is⟩
theorem a_parameters_214 : plainGet (hd.heap_39 w.params) 214 (Str.ofString "parameters") = true ∧ hasDictIn (hd.heap_39 w.params) 214 = true ∧ findIn (hd.heap_39 w.params) (.ref 214) (Str.ofString "parameters") = some none := ⟨by k_is, by k_is, by k_is⟩
theorem s_parameters_214 : findIn (hd.heap_39 w.params) (.ref 214) "__setattr__" = some (some (.builtin "object.__setattr__")) ∧ plainOver (hd.heap_39 w.params) 214 = true ∧ takerIn (hd.heap_39 w.params) 214 (Str.ofString "parameters") = some none ∧ hasDictIn (hd.heap_39 w.params) 214 = true := ⟨by k_is, by k_is, by k_is, by k_is⟩
theorem a_body_214 : plainGet (hd.heap_39 w.params) 214 (Str.ofString "body") = true ∧ hasDictIn (hd.heap_39 w.params) 214 = true ∧ findIn (hd.heap_39 w.params) (.ref 214) (Str.ofString "body") = some none := ⟨by k_is, by k_is, by k_is⟩
theorem s_body_214 : findIn (hd.heap_39 w.params) (.ref 214) "__setattr__" = some (some (.builtin "object.__setattr__")) ∧ plainOver (hd.heap_39 w.params) 214 = true ∧ takerIn (hd.heap_39 w.params) 214 (Str.ofString "body") = some none ∧ hasDictIn (hd.heap_39 w.params) 214 = true := ⟨by k_is, by k_is, by k_is, by k_is⟩
theorem a_is_long_214 : plainGet (hd.heap_39 w.params) 214 (Str.ofString "is_long") = true ∧ hasDictIn (hd.heap_39 w.params) 214 = true ∧ findIn (hd.heap_39 w.params) (.ref 214) (Str.ofString "is_long") = some none := ⟨by k_is, by k_is, by k_is⟩
theorem s_is_long_214 : findIn (hd.heap_39 w.params) (.ref 214) "__setattr__" = some (some (.builtin "object.__setattr__")) ∧ plainOver (hd.heap_39 w.params) 214 = true ∧ takerIn (hd.heap_39 w.params) 214 (Str.ofString "is_long") = some none ∧ hasDictIn (hd.heap_39 w.params) 214 = true := ⟨by k_is, by k_is, by k_is, by k_is⟩
theorem a_is_outer_214 : plainGet (hd.heap_39 w.params) 214 (Str.ofString "is_outer") = true ∧ hasDictIn (hd.heap_39 w.params) 214 = true ∧ findIn (hd.heap_39 w.params) (.ref 214) (Str.ofString "is_outer") = some none := ⟨by k_is, by k_is, by k_is⟩
theorem s_is_outer_214 : findIn (hd.heap_39 w.params) (.ref 214) "__setattr__" = some (some (.builtin "object.__setattr__")) ∧ plainOver (hd.heap_39 w.params) 214 = true ∧ takerIn (hd.heap_39 w.params) 214 (Str.ofString "is_outer") = some none ∧ hasDictIn (hd.heap_39 w.params) 214 = true := ⟨by k_is, by k_is, by k_is, by k_is⟩
theorem a_count_214 : plainGet (hd.heap_39 w.params) 214 (Str.ofString "count") = true ∧ hasDictIn (hd.heap_39 w.params) 214 = true ∧ findIn (hd.heap_39 w.params) (.ref 214) (Str.ofString "count") = some none := ⟨by k_is, by k_is, by k_is⟩
theorem s_count_214 : findIn (hd.heap_39 w.params) (.ref 214) "__setattr__" = some (some (.builtin "object.__setattr__")) ∧ plainOver (hd.heap_39 w.params) 214 = true ∧ takerIn (hd.heap_39 w.params) 214 (Str.ofString "count") = some none ∧ hasDictIn (hd.heap_39 w.params) 214 = true := ⟨by k_is, by k_is, by k_is, by k_is⟩
theorem a_delimiters_214 : plainGet (hd.heap_39 w.params) 214 (Str.ofString "delimiters") = true ∧ hasDictIn (hd.heap_39 w.params) 214 = true ∧ findIn (hd.heap_39 w.params) (.ref 214) (Str.ofString "delimiters") = some none := ⟨by k_is, by k_is, by k_is⟩
theorem s_delimiters_214 : findIn (hd.heap_39 w.params) (.ref 214) "__setattr__" = some (some (.builtin "object.__setattr__")) ∧ plainOver (hd.heap_39 w.params) 214 = true ∧ takerIn (hd.heap_39 w.params) 214 (Str.ofString "delimiters") = some none ∧ hasDictIn (hd.heap_39 w.params) 214 = true := ⟨by k_is, by k_is, by k_is, by k_is⟩
theorem m_next_179 : plainGet (hd.heap_39 w.params) 179 (Str.ofString "next") = true ∧ findIn (hd.heap_39 w.params) (.ref 179) (Str.ofString "next") = some (some (.ref 148)) ∧ isFn (hd.heap_39 w.params) (.ref 148) = true := ⟨by k_is, by k_is, by k_is⟩
theorem m_back_179 : plainGet (hd.heap_39 w.params) 179 (Str.ofString "back") = true ∧ findIn (hd.heap_39 w.params) (.ref 179) (Str.ofString "back") = some (some (.ref 155)) ∧ isFn (hd.heap_39 w.params) (.ref 155) = true := ⟨by k_is, by k_is, by k_is⟩
theorem m_left_179 : plainGet (hd.heap_39 w.params) 179 (Str.ofString "left") = true ∧ findIn (hd.heap_39 w.params) (.ref 179) (Str.ofString "left") = some (some (.ref 169)) ∧ isFn (hd.heap_39 w.params) (.ref 169) = true := ⟨by k_is, by k_is, by k_is⟩
theorem m_is_outer_179 : plainGet (hd.heap_39 w.params) 179 (Str.ofString "is_outer") = true ∧ findIn (hd.heap_39 w.params) (.ref 179) (Str.ofString "is_outer") = some (some (.ref 176)) ∧ isFn (hd.heap_39 w.params) (.ref 176) = true := ⟨by k_is, by k_is, by k_is⟩
theorem m_has_brace_214 : plainGet (hd.heap_39 w.params) 214 (Str.ofString "has_brace") = true ∧ findIn (hd.heap_39 w.params) (.ref 214) (Str.ofString "has_brace") = some (some (.ref 204)) ∧ isFn (hd.heap_39 w.params) (.ref 204) = true := ⟨by k_is, by k_is, by k_is⟩
theorem c_TokenFeed : makesIn (hd.heap_39 w.params) 179 = true ∧ findIn (hd.heap_39 w.params) (.ref 179) "__init__" = some (some (.ref 141)) ∧ isFn (hd.heap_39 w.params) (.ref 141) = true := ⟨by k_is, by k_is, by k_is⟩
theorem c_Macro : makesIn (hd.heap_39 w.params) 214 = true ∧ findIn (hd.heap_39 w.params) (.ref 214) "__init__" = some (some (.ref 197)) ∧ isFn (hd.heap_39 w.params) (.ref 197) = true := ⟨by k_is, by k_is, by k_is⟩
end


/-! tokens as data -/
abbrev Tk := Int × Int
inductive All2 {α β : Type} (P : α → β → Prop) : List α → List β → Prop
  | nil : All2 P [] []
  | cons {a b as bs} : P a b → All2 P as bs → All2 P (a :: as) (b :: bs)
section
variable {α β : Type} {P Q : α → β → Prop}
theorem All2.length {as : List α} {bs : List β} (h : All2 P as bs) : as.length = bs.length := by
  induction h with
  | nil => rfl
  | cons _ _ ih => simp [ih]
theorem All2.imp {as : List α} {bs : List β} (h : All2 P as bs) (f : ∀ a b, P a b → Q a b) : All2 Q as bs := by
  induction h with
  | nil => exact .nil
  | cons x _ ih => exact .cons (f _ _ x) ih
theorem All2.append {as as' : List α} {bs bs' : List β} (h : All2 P as bs) (h' : All2 P as' bs') : All2 P (as ++ as') (bs ++ bs') := by
  induction h with
  | nil => exact h'
  | cons x _ ih => exact .cons x ih
theorem All2.snoc {as : List α} {bs : List β} {a : α} {b : β} (h : All2 P as bs) (x : P a b) : All2 P (as ++ [a]) (bs ++ [b]) := h.append (.cons x .nil)
theorem All2.rev {as : List α} {bs : List β} (h : All2 P as bs) : All2 P as.reverse bs.reverse := by
  induction h with
  | nil => exact .nil
  | cons x _ ih => rw [List.reverse_cons, List.reverse_cons]; exact ih.snoc x
theorem All2.take {as : List α} {bs : List β} (h : All2 P as bs) (n : Nat) : All2 P (as.take n) (bs.take n) := by
  induction h generalizing n with
  | nil => simp; exact .nil
  | cons x _ ih => cases n with
    | zero => exact .nil
    | succ n => exact .cons x (ih n)
theorem All2.drop {as : List α} {bs : List β} (h : All2 P as bs) (n : Nat) : All2 P (as.drop n) (bs.drop n) := by
  induction h generalizing n with
  | nil => simp; exact .nil
  | cons x h ih => cases n with
    | zero => exact .cons x h
    | succ n => exact ih n
theorem All2.get {as : List α} {bs : List β} (h : All2 P as bs) {i : Nat} {a : α} (e : as[i]? = some a) : ∃ b, bs[i]? = some b ∧ P a b := by
  induction h generalizing i with
  | nil => simp at e
  | @cons a' b' as bs x _ ih => cases i with
    | zero => simp at e; subst e; exact ⟨b', rfl, x⟩
    | succ i => simpa using ih (by simpa using e)
theorem All2.get' {as : List α} {bs : List β} (h : All2 P as bs) {i : Nat} {b : β} (e : bs[i]? = some b) : ∃ a, as[i]? = some a ∧ P a b := by
  induction h generalizing i with
  | nil => simp at e
  | @cons a' b' as bs x _ ih => cases i with
    | zero => simp at e; subst e; exact ⟨a', rfl, x⟩
    | succ i => simpa using ih (by simpa using e)
end

def TokAt (R : PH) (v : Value) (t : Tk) : Prop := ∃ a ta tb, v = .ref a ∧ R a = some (tupO [.int t.1 ta, .int t.2 tb])
abbrev ToksAt (R : PH) : List Value → List Tk → Prop := All2 (TokAt R)
theorem TokAt.le {R R' : PH} {v : Value} {t : Tk} (h : TokAt R v t) (le : Le R R') : TokAt R' v t := let ⟨a, ta, tb, e, r⟩ := h; ⟨a, ta, tb, e, le _ _ r⟩
theorem ToksAt.le {R R' : PH} {vs : List Value} {ts : List Tk} (h : ToksAt R vs ts) (le : Le R R') : ToksAt R' vs ts := h.imp fun _ _ x => x.le le

def pyTk (t : Tk) : PyData := .tuple [.int t.1, .int t.2]
def pyTks (ts : List Tk) : List PyData := ts.map pyTk
theorem eqv_tk (t u : Tk) : PyData.eqv (pyTk t) (pyTk u) = decide (t = u) := by
  obtain ⟨a, b⟩ := t
  obtain ⟨c, d⟩ := u
  simp only [pyTk, PyData.eqv, PyData.eqvAll, Bool.and_true]
  rw [Bool.eq_iff_iff]
  simp
theorem eqv_tks : ∀ (ts us : List Tk), PyData.eqvAll (pyTks ts) (pyTks us) = decide (ts = us)
  | [], [] => by simp [pyTks, PyData.eqvAll]
  | [], _ :: _ => by simp [pyTks, PyData.eqvAll]
  | _ :: _, [] => by simp [pyTks, PyData.eqvAll]
  | t :: ts, u :: us => by
    show (PyData.eqv (pyTk t) (pyTk u) && PyData.eqvAll (pyTks ts) (pyTks us)) = _
    rw [eqv_tk, eqv_tks ts us, Bool.eq_iff_iff]
    simp
theorem canLay_tks : ∀ ts : List Tk, PyData.canLayAll0 (pyTks ts) = true
  | [] => by simp [pyTks, PyData.canLayAll0]
  | t :: ts => by
    show (PyData.canLay0 (pyTk t) && PyData.canLayAll0 (pyTks ts)) = true
    rw [canLay_tks ts]; simp [pyTk, PyData.canLay0, PyData.canLayAll0]

theorem depth_tks : ∀ ts : List Tk, PyData.depthAll (pyTks ts) ≤ 1
  | [] => by simp [pyTks, PyData.depthAll]
  | t :: ts => by
    show max (PyData.depth (pyTk t)) (PyData.depthAll (pyTks ts)) ≤ 1
    have := depth_tks ts
    have e : PyData.depth (pyTk t) = 1 := by simp [pyTk, PyData.depth, PyData.depthAll]
    omega
theorem shaped_tk (t : Tk) : PySem.SeqAt.shaped (pyTk t) = true := by
  unfold PySem.SeqAt.shaped
  simp [pyTk, PyData.canLay0, PyData.canLayAll0, PyData.depth, PyData.depthAll]
theorem shaped_tup (ts : List Tk) : PySem.SeqAt.shaped (.tuple (pyTks ts)) = true := by
  unfold PySem.SeqAt.shaped
  have := depth_tks ts
  simp only [PyData.canLay0, canLay_tks, PyData.depth, Bool.true_and]
  exact decide_eq_true (Nat.le_trans (Nat.succ_le_succ this) (by decide))
theorem shaped_lst (ts : List Tk) : PySem.SeqAt.shaped (.list (pyTks ts)) = true := by
  unfold PySem.SeqAt.shaped
  have := depth_tks ts
  simp only [PyData.canLay0, canLay_tks, PyData.depth, Bool.true_and]
  exact decide_eq_true (Nat.le_trans (Nat.succ_le_succ this) (by decide))
section
variable {prog : Program} {w : World} {M : Model} {A : Around} {E : Value → Shared → Prop} {s : Shared} {env : Env}
  {C : Cx} {R : PH} {ms ms' : List (Str × Value)} {own own' : List (Addr × Obj)} {names : List (Str × NameKind)} {cl : List (Str × Addr)}
theorem reads_tk {h : Heap} {v : Value} {t : Tk} (hk : ∀ b o, R b = some o → h.get? b = some o) (x : TokAt R v t) : ∃ as, Reads h v (pyTk t) as := by
  obtain ⟨a, ta, tb, rfl, r⟩ := x
  exact ⟨_, .tuple (hk _ _ r) rfl rfl (.cons (.int _ _) (.cons (.int _ _) .nil))⟩
theorem reads_tks {h : Heap} {vs : List Value} {ts : List Tk} (hk : ∀ b o, R b = some o → h.get? b = some o) (x : ToksAt R vs ts) : ∃ as, ReadsAll h vs (pyTks ts) as := by
  induction x with
  | nil => exact ⟨_, .nil⟩
  | cons x _ ih =>
    obtain ⟨as, ra⟩ := reads_tk hk x
    obtain ⟨bs, rb⟩ := ih
    exact ⟨_, .cons ra rb⟩
theorem reads_tup {h : Heap} {a : Addr} {vs : List Value} {ts : List Tk} (hk : ∀ b o, R b = some o → h.get? b = some o) (e : h.get? a = some (tupO vs)) (x : ToksAt R vs ts) : ∃ as, Reads h (.ref a) (.tuple (pyTks ts)) as := by
  obtain ⟨as, ra⟩ := reads_tks hk x
  exact ⟨_, .tuple e rfl rfl ra⟩
theorem reads_lst {h : Heap} {a : Addr} {vs : List Value} {n : Nat} {ts : List Tk} (hk : ∀ b o, R b = some o → h.get? b = some o) (e : h.get? a = some (lstO vs n)) (x : ToksAt R vs ts) : ∃ as, Reads h (.ref a) (.list (pyTks ts)) as := by
  obtain ⟨as, ra⟩ := reads_tks hk x
  exact ⟨_, .list e rfl rfl ra⟩
theorem x_eqTk {u v : Value} {t t' : Tk} {Q : Value → Shared → Prop} (S : St w C R ms own s) (ok : Ok A 9) (a : TokAt R u t) (b : TokAt R v t') (h : Q (.bool (decide (t = t'))) s) : wpAny (model prog w) A (compareOp .Eq u v) Q E s := by
  obtain ⟨as, ra⟩ := reads_tk S.kR a
  obtain ⟨bs, rb⟩ := reads_tk S.kR b
  exact x_eqD ok ra rb (shaped_tk _) (shaped_tk _) (by rw [eqv_tk]; exact h)
theorem x_neTk {u v : Value} {t t' : Tk} {Q : Value → Shared → Prop} (S : St w C R ms own s) (ok : Ok A 9) (a : TokAt R u t) (b : TokAt R v t') (h : Q (.bool (!decide (t = t'))) s) : wpAny (model prog w) A (compareOp .NotEq u v) Q E s := by
  obtain ⟨as, ra⟩ := reads_tk S.kR a
  obtain ⟨bs, rb⟩ := reads_tk S.kR b
  exact x_neD ok ra rb (shaped_tk _) (shaped_tk _) (by rw [eqv_tk]; exact h)
theorem x_eqTup {a b : Addr} {us vs : List Value} {ts ts' : List Tk} {Q : Value → Shared → Prop} (S : St w C R ms own s) (ok : Ok A 9) (ha : s.heap.get? a = some (tupO us)) (hb : s.heap.get? b = some (tupO vs)) (ra : ToksAt R us ts) (rb : ToksAt R vs ts') (h : Q (.bool (decide (ts = ts'))) s) : wpAny (model prog w) A (compareOp .Eq (.ref a) (.ref b)) Q E s := by
  obtain ⟨as, ra⟩ := reads_tup S.kR ha ra
  obtain ⟨bs, rb⟩ := reads_tup S.kR hb rb
  exact x_eqD ok ra rb (shaped_tup _) (shaped_tup _) (by rw [show PyData.eqv (.tuple (pyTks ts)) (.tuple (pyTks ts')) = PyData.eqvAll (pyTks ts) (pyTks ts') by simp only [PyData.eqv], eqv_tks]; exact h)
theorem x_neTup {a b : Addr} {us vs : List Value} {ts ts' : List Tk} {Q : Value → Shared → Prop} (S : St w C R ms own s) (ok : Ok A 9) (ha : s.heap.get? a = some (tupO us)) (hb : s.heap.get? b = some (tupO vs)) (ra : ToksAt R us ts) (rb : ToksAt R vs ts') (h : Q (.bool (!decide (ts = ts'))) s) : wpAny (model prog w) A (compareOp .NotEq (.ref a) (.ref b)) Q E s := by
  obtain ⟨as, ra⟩ := reads_tup S.kR ha ra
  obtain ⟨bs, rb⟩ := reads_tup S.kR hb rb
  exact x_neD ok ra rb (shaped_tup _) (shaped_tup _) (by rw [show PyData.eqv (.tuple (pyTks ts)) (.tuple (pyTks ts')) = PyData.eqvAll (pyTks ts) (pyTks ts') by simp only [PyData.eqv], eqv_tks]; exact h)
theorem x_neLst {a b : Addr} {us vs : List Value} {n m : Nat} {ts ts' : List Tk} {Q : Value → Shared → Prop} (S : St w C R ms own s) (ok : Ok A 9) (ha : s.heap.get? a = some (lstO us n)) (hb : s.heap.get? b = some (lstO vs m)) (ra : ToksAt R us ts) (rb : ToksAt R vs ts') (h : Q (.bool (!decide (ts = ts'))) s) : wpAny (model prog w) A (compareOp .NotEq (.ref a) (.ref b)) Q E s := by
  obtain ⟨as, ra⟩ := reads_lst S.kR ha ra
  obtain ⟨bs, rb⟩ := reads_lst S.kR hb rb
  exact x_neD ok ra rb (shaped_lst _) (shaped_lst _) (by rw [show PyData.eqv (.list (pyTks ts)) (.list (pyTks ts')) = PyData.eqvAll (pyTks ts) (pyTks ts') by simp only [PyData.eqv], eqv_tks]; exact h)

/-! more rules -/
theorem x_bool {c : Bool} {k pos} {Q : Value → Shared → Prop} (h : Q (.bool c) s) : wpAny M A (eval (.Constant (.bool c) k pos) env) Q E s := Constant_bool h
theorem x_none {k pos} {Q : Value → Shared → Prop} (h : Q .none s) : wpAny M A (eval (.Constant .none k pos) env) Q E s := Constant_none h
theorem x_iadd {a b : Int} {t u : Tok} {Q : Value → Shared → Prop} (S : St w C R ms own s) (h : ∀ t s', St w C R ms own s' → Q (.int (a + b) t) s') : wpAny (model prog w) A (inplaceOp .Add (.int a t) (.int b u)) Q E s := PyProof.Rows.iadd_int (h _ _ S.tok)
theorem x_isub {a b : Int} {t u : Tok} {Q : Value → Shared → Prop} (S : St w C R ms own s) (h : ∀ t s', St w C R ms own s' → Q (.int (a - b) t) s') : wpAny (model prog w) A (inplaceOp .Sub (.int a t) (.int b u)) Q E s := PyProof.Rows.isub_int (h _ _ S.tok)
theorem x_eqI {a b : Int} {t u : Tok} {Q : Value → Shared → Prop} (h : Q (.bool (decide (a = b))) s) : wpAny (model prog w) A (compareOp .Eq (.int a t) (.int b u)) Q E s := PyProof.Rows.eq_int (by rw [show (a == b) = decide (a = b) by rw [Bool.eq_iff_iff]; simp]; exact h)
theorem x_neI {a b : Int} {t u : Tok} {Q : Value → Shared → Prop} (h : Q (.bool (decide (a ≠ b))) s) : wpAny (model prog w) A (compareOp .NotEq (.int a t) (.int b u)) Q E s := PyProof.Rows.ne_int (by rw [show (a != b) = decide (a ≠ b) by rw [Bool.eq_iff_iff]; simp]; exact h)
theorem x_le {a b : Int} {t u : Tok} {Q : Value → Shared → Prop} (h : Q (.bool (decide (a ≤ b))) s) : wpAny (model prog w) A (compareOp .LtE (.int a t) (.int b u)) Q E s := PyProof.Rows.le_int h
theorem x_ge {a b : Int} {t u : Tok} {Q : Value → Shared → Prop} (h : Q (.bool (decide (b ≤ a))) s) : wpAny (model prog w) A (compareOp .GtE (.int a t) (.int b u)) Q E s := PyProof.Rows.ge_int h
theorem x_globI {x : Str} {pos : Pos} {i : Int} {Q : Value → Shared → Prop} (S : St w C R ms own s) (F : Fra env C names cl) (hx : names.lookup x = some .globalImplicit) (hdb : (x == ("__debug__" : Str)) = false)
    (e : ∃ t, nsIn (hd.heap_39 w.params) mainGlobals x = some (some (.int i t))) (h : ∀ t, Q (.int i t) s) : wpAny M A (eval (.Name x pos) env) Q E s := by
  obtain ⟨t, e⟩ := e
  exact x_glob S F hx hdb e (h t)
theorem x_expr {e pos} {Q : Flow → Shared → Prop} (F : Fra env C names cl) (hs : swapsWith e none pos.line env = pure false) (h : wpAny M A (eval e env) (fun v s' => v = .none ∧ Q .next s') E s) : wpAny M A (exec (.Expr e pos) env) Q E s :=
  wpAny_Expr (wpAny_mono h (fun v s' q => by obtain ⟨rfl, q⟩ := q; exact q) fun _ _ e => e) F.int hs
theorem x_nn {Q : Prop} (h : Q) : (Value.none = .none) ∧ Q := ⟨rfl, h⟩
theorem x_aug {x pos' op value pos} {Q : Flow → Shared → Prop}
    (h : wpAny M A (loadName env x) (fun old s₁ => wpAny M A (eval value env) (fun v s₂ => wpAny M A (inplaceOp op old v)
      (fun r s₃ => wpAny M A (storeName env x r) (fun _ => Q .next) E s₃) E s₂) E s₁) E s) :
    wpAny M A (exec (.AugAssign (.Name x pos') op value pos) env) Q E s := wpAny_AugAssign_Name h
theorem x_sing {x : Expr} {op : BoolOp} {pos : Pos} {Q : Value → Shared → Prop} (h : wpAny M A (eval x env) Q E s) : wpAny M A (eval (.BoolOp op [x] pos) env) Q E s := by
  have : eval (.BoolOp op [x] pos) env = eval x env := by with_unfolding_all rfl
  rw [this]; exact h
theorem x_ifnf {a b : Prop} (h : a) : if (!false) = true then a else b := by rw [if_pos (by decide)]; exact h
theorem x_ifnt {a b : Prop} (h : b) : if (!true) = true then a else b := by rw [if_neg (by decide)]; exact h
theorem x_iten {P : Prop} [Decidable P] {a b : Prop} (h1 : ¬ P → a) (h2 : P → b) : if (!decide P) = true then a else b := by
  by_cases h : P
  · rw [if_neg (by rw [decide_eq_true h]; decide)]; exact h2 h
  · rw [if_pos (by rw [decide_eq_false h]; decide)]; exact h1 h
theorem x_cwB0 {id : String} {pos : Pos} {e : Expr} {rest : List Expr} {Q : Value → Shared → Prop} (hp : (backTo pos (starEach rest env)).any (·.1) = false) (he : starEach (e :: rest) env = (false, eval e env) :: starEach rest env)
    (h : wpAny M A (spliced (backTo pos (starEach (e :: rest) env))) (fun vs s₁ => wpAny M A (call (.builtin id) vs) Q E s₁) E s) : wpAny M A (callWith pos (.builtin id) [] (backTo pos (starEach (e :: rest) env)) []) Q E s := x_cwB (first := []) hp he h
theorem x_cwB1 {id : String} {pos : Pos} {self : Value} {e : Expr} {rest : List Expr} {Q : Value → Shared → Prop} (hp : (backTo pos (starEach rest env)).any (·.1) = false) (he : starEach (e :: rest) env = (false, eval e env) :: starEach rest env)
    (h : wpAny M A (spliced (backTo pos (starEach (e :: rest) env))) (fun vs s₁ => wpAny M A (call (.builtin id) (self :: vs)) Q E s₁) E s) : wpAny M A (callWith pos (.builtin id) [self] (backTo pos (starEach (e :: rest) env)) []) Q E s := x_cwB (first := [self]) hp he h
theorem x_chainLast {pos : Pos} {a : Value} {op : CmpOp} {r : Expr} {Q : Value → Shared → Prop}
    (h : wpAny M A (eval r env) (fun b s₁ => wpAny M A (compareOp op a b) Q E s₁) E s) : wpAny M A (compareChain pos a [op] (eval r env :: evalEach [] env)) Q E s := chain_last h
theorem x_testLast {pos : Pos} {a : Value} {op : CmpOp} {r : Expr} {Q : Bool → Shared → Prop}
    (h : wpAny M A (eval r env) (fun b s₁ => wpAny M A (compareOp op a b) (fun c s₂ => wpAny M A (truthy c) Q E s₂) E s₁) E s) : wpAny M A (testChain pos a [op] (eval r env :: evalEach [] env)) Q E s := test_last h
end

section
variable {w : World} {C : Cx} {R : PH} {ms : List (Str × Value)} {own : List (Addr × Obj)} {s : Shared}
theorem l_110 : (hd.heap_39 w.params).lookup 110 = some (tupO [.int 0 347, .int 0 348, .int 0 349, .int 0 350, .int 0 351, .int 1 352, .int 0 353, .int 0 354, .int 0 355, .int 1 356, .int 0 357, .int 0 358, .int 0 359, .int 0 360, .int 0 361, .int 0 362]) := by k_is
theorem l_111 : (hd.heap_39 w.params).lookup 111 = some (tupO [.int 1048575 365, .int 255 366, .int 255 367, .int 255 368, .int 255 369, .int 9 370, .int 255 371, .int 255 372, .int 255 373, .int 9 374, .int 255 375, .int 255 376, .int 255 377, .int 255 378, .int 255 379, .int 0 380]) := by k_is
theorem l_133 : (hd.heap_39 w.params).lookup 133 = some (tupO []) := by k_is
theorem l_134 : (hd.heap_39 w.params).lookup 134 = some (tupO [.ref 133]) := by k_is
theorem l_184 : (hd.heap_39 w.params).lookup 184 = some (tupO [.int 10 319, .int 32 470]) := by k_is
theorem l_192 : (hd.heap_39 w.params).lookup 192 = some (tupO [.bool false, .bool false]) := by k_is
theorem l_275 : (hd.heap_39 w.params).lookup 275 = some (tupO [.int 0 610, .int 40 611]) := by k_is
theorem St.kK (S : St w C R ms own s) {a : Addr} {o : Obj} (e : (hd.heap_39 w.params).lookup a = some o) : R a = some o := S.base _ _ (S.X _ _ e)
theorem St.blank (S : St w C R ms own s) : TokAt R (.ref 184) (10, 32) := ⟨184, _, _, rfl, S.kK l_184⟩
theorem St.par (S : St w C R ms own s) : TokAt R (.ref 275) (0, 40) := ⟨275, _, _, rfl, S.kK l_275⟩
end
/-- a token that may lie in a feed -/
def okT (t : Tk) : Prop := (t.1 = 0 ∨ t.1 = 1 ∨ t.1 = 2 ∨ t.1 = 11) ∧ 0 ≤ t.2 ∧ t.2 ≤ 255

section
variable {prog : Program} {w : World} {M : Model} {A : Around} {E : Value → Shared → Prop} {s : Shared} {env : Env}
  {C : Cx} {R : PH} {ms ms' : List (Str × Value)} {own own' : List (Addr × Obj)} {names : List (Str × NameKind)} {cl : List (Str × Addr)}

/-! slices of what no name holds -/
theorem sub_slice {value slice : Expr} {pos : Pos} {T id : String} {Q : Value → Shared → Prop} (hl : typeLookup (.type T) "__getitem__" = pure (some (.builtin id)))
    (h : wpAny (model prog w) A (eval value env) (fun o s₁ => wpAny (model prog w) A (eval slice env) (fun i s₂ => s₂.TypeIs o T ∧ wpAny (model prog w) A (getItem o i) Q E s₂) E s₁) E s)
    (hop : ∀ o i, ∃ l, subscripted slice false o i = operate l (getItem o i)) :
    wpAny (model prog w) A (eval (.Subscript value slice pos) env) Q E s := by
  rw [eval_Subscript]
  refine wpAny_bind (wpAny_mono h (fun o s₁ h₁ => wpAny_bind (wpAny_holding (wpAny_mono h₁ (fun i s₂ h₂ => wpAny_bind (wpAny_standAt ?_)) fun _ _ x => x))) fun _ _ x => x)
  have fin : wpAny (model prog w) A (subscripted slice false o i) (fun r s₃ => wpAny (model prog w) A (letTemporaryGo value o r >>= fun _ => pure r) Q E s₃) E s₂ := by
    obtain ⟨l, e⟩ := hop o i
    rw [e]
    exact wpAny_operating (wpAny_mono h₂.2 (fun r s₃ h₃ => wpAny_bind (wpAny_letTemporaryGo (wpAny_pure h₃))) fun _ _ x => x)
  refine wpAny_bind ?_
  rw [getitemInPython_of_ne h₂.1.not_modules]
  exact wpAny_bind (wpAny_specialOf h₂.1 hl (wpAny_pure (wpAny_bind fin)))
theorem x_sliceLA {value : Expr} {lo up : Option Expr} {p pos : Pos} {Q : Value → Shared → Prop}
    (h : wpAny (model prog w) A (eval value env) (fun o s₁ => wpAny (model prog w) A (evalPart lo env) (fun vl s₂ => wpAny (model prog w) A (evalPart up env) (fun vu s₃ => SlK (model prog w) A "list" o vl vu .none Q E s₃) E s₂) E s₁) E s) :
    wpAny (model prog w) A (eval (.Subscript value (.Slice lo up none p) pos) env) Q E s :=
  sub_slice (T := "list") list_getitem_lookup (wpAny_mono h (fun o s₁ h₁ => wpAny_Slice (wpAny_mono h₁ (fun vl s₂ h₂ => wpAny_mono h₂ (fun vu s₃ h₃ => x_partN h₃) fun _ _ e => e) fun _ _ e => e)) fun _ _ e => e) (fun o i => ⟨_, rfl⟩)
theorem x_sliceTA {value : Expr} {lo up : Option Expr} {p pos : Pos} {Q : Value → Shared → Prop}
    (h : wpAny (model prog w) A (eval value env) (fun o s₁ => wpAny (model prog w) A (evalPart lo env) (fun vl s₂ => wpAny (model prog w) A (evalPart up env) (fun vu s₃ => SlK (model prog w) A "tuple" o vl vu .none Q E s₃) E s₂) E s₁) E s) :
    wpAny (model prog w) A (eval (.Subscript value (.Slice lo up none p) pos) env) Q E s :=
  sub_slice (T := "tuple") slot_tuple_getitem.lookup (wpAny_mono h (fun o s₁ h₁ => wpAny_Slice (wpAny_mono h₁ (fun vl s₂ h₂ => wpAny_mono h₂ (fun vu s₃ h₃ => x_partN h₃) fun _ _ e => e) fun _ _ e => e)) fun _ _ e => e) (fun o i => ⟨_, rfl⟩)
theorem x_sliceLSA {value st : Expr} {lo up : Option Expr} {p pos : Pos} {Q : Value → Shared → Prop}
    (h : wpAny (model prog w) A (eval value env) (fun o s₁ => wpAny (model prog w) A (evalPart lo env) (fun vl s₂ => wpAny (model prog w) A (evalPart up env) (fun vu s₃ => wpAny (model prog w) A (eval st env) (fun vst s₄ => SlK (model prog w) A "list" o vl vu vst Q E s₄) E s₃) E s₂) E s₁) E s) :
    wpAny (model prog w) A (eval (.Subscript value (.Slice lo up (some st) p) pos) env) Q E s :=
  sub_slice (T := "list") list_getitem_lookup (wpAny_mono h (fun o s₁ h₁ => wpAny_Slice (wpAny_mono h₁ (fun vl s₂ h₂ => wpAny_mono h₂ (fun vu s₃ h₃ => x_partS h₃) fun _ _ e => e) fun _ _ e => e)) fun _ _ e => e) (fun o i => ⟨_, rfl⟩)

theorem toList_eq {vs : List Value} {xs : Array Value} {f : List Value → List Value} (h : xs = (f vs.toArray.toList).toArray) : xs = (f vs).toArray := by simpa using h
theorem x_slRev {l : Addr} {vs : List Value} {n : Nat} {t : Tok} {Q : Value → Shared → Prop} (S : St w C R ms own s) (ho : s.heap.get? l = some (lstO vs n)) (hz : vs.length ≤ sizeLine)
    (h : ∀ a s', St w C R ms ((a, lstO vs.reverse 0) :: own) s' → Q (.ref a) s') : SlK (model prog w) A "list" (.ref l) .none .none (.int (-1) t) Q E s :=
  x_slL S ho .none .none (.int _ _) (by decide) hz (toList_eq (f := fun l => l.reverse) (krv_pick vs.toArray)) h
theorem x_slUpto {l : Addr} {vs : List Value} {n : Nat} {b : Int} {t : Tok} {Q : Value → Shared → Prop} (S : St w C R ms own s) (ho : s.heap.get? l = some (lstO vs n)) (hb : 0 ≤ b) (hz : vs.length ≤ sizeLine)
    (h : ∀ a s', St w C R ms ((a, lstO (vs.take b.toNat) 0) :: own) s' → Q (.ref a) s') : SlK (model prog w) A "list" (.ref l) .none (.int b t) .none Q E s := by
  have e : slicePick vs.toArray none (some b) none = (vs.take b.toNat).toArray := by
    have := slicePick_upto' vs.toArray b.toNat
    rw [Int.toNat_of_nonneg hb] at this
    simpa using this
  exact x_slL S ho .none (.int _ _) .none (by decide) hz e h
theorem x_slInner {l : Addr} {u v : Value} {vs : List Value} {n : Nat} {t t' : Tok} {Q : Value → Shared → Prop} (S : St w C R ms own s) (ho : s.heap.get? l = some (lstO (u :: vs ++ [v]) n)) (hz : (u :: vs ++ [v]).length ≤ sizeLine)
    (h : ∀ a s', St w C R ms ((a, lstO vs 0) :: own) s' → Q (.ref a) s') : SlK (model prog w) A "list" (.ref l) (.int 1 t) (.int (-1) t') .none Q E s := by
  have e : slicePick (u :: vs ++ [v]).toArray (some 1) (some (-1)) none = vs.toArray := by
    rw [kms_pick_eq]
    congr 1
    unfold kms_pick
    have h1 : kms_lo (some 1) (u :: vs ++ [v]).toArray.toList.length = 1 := by simp [kms_lo]
    have h2 : kms_hi (some (-1)) (u :: vs ++ [v]).toArray.toList.length = vs.length + 1 := by simp [kms_hi]
    rw [h1, h2]
    simp
  exact x_slL S ho (.int _ _) (.int _ _) .none (by decide) hz e h
theorem x_slTfrom {l : Addr} {vs : List Value} {a : Int} {u : Tok} {Q : Value → Shared → Prop} (S : St w C R ms own s) (ho : s.heap.get? l = some (tupO vs)) (h1 : 1 ≤ a) (ha : a ≤ vs.length) (hz : vs.length ≤ sizeLine)
    (h : ∀ b R' s', Le R R' → R' b = some (tupO (vs.drop a.toNat)) → St w C R' ms own s' → Q (.ref b) s') : SlK (model prog w) A "tuple" (.ref l) (.int a u) .none .none Q E s := by
  have S₁ := (S.push (o := slcO (.int a u) .none .none) (tk := s.toks)).drop1
  have hl : IsTup (s.heap.push (slcO (.int a u) .none .none)) l vs.toArray := ⟨_, Heap.get?_push_of_some _ ho, rfl, 0, rfl⟩
  have e : a = ((a.toNat : Nat) : Int) := (Int.toNat_of_nonneg (by omega)).symm
  refine ⟨hl.typeIs (s := { s with heap := s.heap.push (slcO (.int a u) .none .none) }), getItem_tuple_from (a := a.toNat) (u := u) hl ?_ (by omega) (by rw [List.size_toArray]; omega) ?_ (by simpa using hz)⟩
  · rw [← e]; exact Heap.IsSliceOf.new ..
  · obtain ⟨R', le, er, S'⟩ := (S₁.push (o := tupO (vs.drop a.toNat)) (tk := s.toks)).freeze .head
    have := h _ R' _ le er S'
    simpa using this
theorem x_slT0 {l : Addr} {b : Int} {u : Tok} {Q : Value → Shared → Prop} (S : St w C R ms own s) (ho : s.heap.get? l = some (tupO [])) (hb : 0 ≤ b)
    (h : ∀ s', St w C R ms own s' → Q (.ref l) s') : SlK (model prog w) A "tuple" (.ref l) .none (.int b u) .none Q E s := by
  have S₁ := (S.push (o := slcO .none (.int b u) .none) (tk := s.toks)).drop1
  have ht : IsTup (s.heap.push (slcO .none (.int b u) .none)) l #[] := ⟨_, Heap.get?_push_of_some _ ho, rfl, 0, rfl⟩
  have hs := Heap.IsSliceOf.new s.heap .none (.int b u) .none
  refine ⟨ht.typeIs (s := { s with heap := s.heap.push (slcO .none (.int b u) .none) }), ?_⟩
  generalize hs2 : ({ s with heap := s.heap.push (slcO .none (.int b u) .none) } : Shared) = s₂ at *
  have ht : IsTup s₂.heap l #[] := by rw [← hs2]; exact ht
  have hs : s₂.heap.IsSliceOf s.heap.objs.size .none (.int b u) .none := by rw [← hs2]; exact hs
  generalize s.heap.objs.size = sl at *
  obtain ⟨os, hos, hcs, hds⟩ := id hs
  have hTs : s₂.TypeIs (.ref sl) "slice" := ⟨os, hos, hcs⟩
  unfold getItem
  try with_reducible refine wpAny_holding ?_
  first | refine wpAny_bind (wpAny_pure ?_) | skip
  refine wpAny_bind (wpAny_sequenceKey ht.typeIs (by decide) ?_)
  refine wpAny_bind (wpAny_callSpecial?_slot (name := Str.ofString "__getitem__") ht.typeIs slot_tuple_getitem
    (wpAny_call_entry slot_tuple_getitem ht.typeIs entry_tuple_getitem ?_ (args_tuple_getitem _ _)))
  show wpAny _ _ (Builtin.Tuple.tupleItemsOf (.ref l) >>= _) _ _ _
  refine wpAny_bind (tupleItemsOf_ ht ?_)
  refine wpAny_bind (wpAny_typeOf hTs ?_)
  rw [if_pos (by decide)]
  have ap : ∀ {Q' : Int × Int × Nat → Shared → Prop} {E'}, Q' (0, 1, 0) s₂ → wpAny (model prog w) A.in1 (Builtin.Slice.sliceApplied (.ref sl) (pure (0 : Int))) Q' E' s₂ := fun {Q' E'} hQ => by
    unfold Builtin.Slice.sliceApplied Builtin.Slice.sliceFields
    refine wpAny_bind (wpAny_bind (wpAny_field hos hds (x := .none) rfl (wpAny_bind (wpAny_field hos hds (x := .int b u) rfl (wpAny_bind (wpAny_field hos hds (x := .none) rfl (wpAny_pure ?_)))))))
    refine wpAny_bind (slicePart_none ?_)
    show wpAny _ _ (if ((1 : Int) == 0) = true then _ else _) _ _ _
    rw [if_neg (by decide)]
    refine wpAny_bind (slicePart_none (wpAny_bind (slicePart_int (wpAny_bind (wpAny_pure ?_)))))
    have e : Builtin.Slice.sliceAdjust none (some b) 1 0 = (0, 0) := by
      unfold Builtin.Slice.sliceAdjust
      have h1 : ¬ ((1 : Int) < 0) := by omega
      have h2 : ¬ (b < 0) := by omega
      simp only [h1, h2, if_false]
      congr 1
      omega
    show wpAny _ _ (match Builtin.Slice.sliceAdjust none (some b) 1 0 with | (lo, hi) => pure (lo, (1 : Int), Builtin.Slice.slicePlaces lo hi 1)) _ _ _
    rw [e]
    exact wpAny_pure hQ
  refine wpAny_bind (ap ?_)
  show wpAny _ _ (if ((0 : Int) == 0 && (1 : Int) == 1 && (0 : Nat) == 0) = true then _ else _) _ _ _
  rw [if_pos (by decide)]
  unfold Builtin.Tuple.tupleIsExact
  have fin : Q (.ref l) s₂ := h _ S₁
  refine wpAny_bind (wpAny_bind (wpAny_typeOf ht.typeIs (wpAny_pure ?_)))
  rw [if_pos (by decide)]
  exact wpAny_bind (wpAny_rule (wpAny_pure ⟨_, rfl, wpAny_pure fin⟩))

/-- back from an initialisation -/
theorem St.exitInit {C' : Cx} {R₁ R' : PH} {dx a : Addr} {o o2 : Obj} {own₁' : List (Addr × Obj)} {ms' : List (Str × Value)} {s₀ s' : Shared} (S₀ : St w C R₁ ms ((dx, o) :: own) s₀) (hC : C' = C.into R₁ [(dx, o)] s₀.heap)
    (S' : St w C' R' ms' own₁' s') (le : Le R₁ R') (hm : (a, o2) ∈ own₁') : St w C R' ms ((a, o2) :: own) s' := by
  have nd := S₀.nd
  rw [List.map_cons, List.nodup_cons] at nd
  have nx : ∀ p ∈ own, p.1 ≠ dx := fun p hp e => nd.1 (List.mem_map.mpr ⟨p, hp, e⟩)
  refine S₀.exit hC S' le (fun p hp => ?_) (fun p hp => by rw [List.mem_singleton.mp hp]; exact .head _) ?_
  · rcases List.mem_cons.mp hp with rfl | hp
    · exact .inl hm
    · refine .inr ⟨.tail _ hp, fun q hq => ?_⟩
      rw [List.mem_singleton.mp hq]; exact Ne.symm (nx p hp)
  · rw [List.map_cons, List.nodup_cons]
    refine ⟨fun h => ?_, nd.2⟩
    obtain ⟨p, hp, e⟩ := List.mem_map.mp h
    have e1 := S'.GO _ hm
    subst hC
    have : (C.into R₁ [(dx, o)] s₀.heap).G p.1 = some p.2 := into_G (fun q hq => by rw [List.mem_singleton.mp hq]; exact Ne.symm (nx p hp)) (S₀.RO p (.tail _ hp)) (S₀.kO p (.tail _ hp))
    rw [e] at this
    rw [this] at e1; cases e1
theorem St.exitInit0 {C' : Cx} {R₁ R' : PH} {dx : Addr} {o : Obj} {own₁' : List (Addr × Obj)} {ms' : List (Str × Value)} {s₀ s' : Shared} (S₀ : St w C R₁ ms ((dx, o) :: own) s₀) (hC : C' = C.into R₁ [(dx, o)] s₀.heap)
    (S' : St w C' R' ms' own₁' s') (le : Le R₁ R') : St w C R' ms own s' := by
  have nd := S₀.nd
  rw [List.map_cons, List.nodup_cons] at nd
  have nx : ∀ p ∈ own, p.1 ≠ dx := fun p hp e => nd.1 (List.mem_map.mpr ⟨p, hp, e⟩)
  refine S₀.exit hC S' le (fun p hp => ?_) (fun p hp => by rw [List.mem_singleton.mp hp]; exact .head _) nd.2
  refine .inr ⟨.tail _ hp, fun q hq => ?_⟩
  rw [List.mem_singleton.mp hq]; exact Ne.symm (nx p hp)
def FeedR (R : PH) (x lr : Addr) : Prop := ∃ lo, InstR R x 179 [(Str.ofString "rest", .ref lr), (Str.ofString "outers", .ref lo)] ∧ R lo = some (tupO [])
theorem FeedR.le {R R' : PH} {x lr : Addr} (h : FeedR R x lr) (le : Le R R') : FeedR R' x lr := let ⟨lo, a, b⟩ := h; ⟨lo, a.le le, le _ _ b⟩
theorem OwnF.same {d : Addr} {o : Obj} {own : List (Addr × Obj)} {f : Obj → List (Addr × Obj)} (U : OwnF d o own f) : f o = own := by
  induction U with
  | head => rfl
  | tail _ ih => simp only [ih]
theorem St.exitS {d : Addr} {o : Obj} {f : Obj → List (Addr × Obj)} (S : St w C R ms own s) (U : OwnF d o own f) {own₁' : List (Addr × Obj)} {R' : PH} {ms' : List (Str × Value)} {s' : Shared} {C' : Cx} (hC : C' = C.into R [(d, o)] s.heap)
    (S' : St w C' R' ms' own₁' s') (hm : (d, o) ∈ own₁') (le : Le R R') : St w C R' ms own s' := by
  have := S.exit1 U hC S' hm le
  rwa [U.same] at this
theorem St.exit1N {d a : Addr} {o o' o2 : Obj} {f : Obj → List (Addr × Obj)} (S : St w C R ms own s) (U : OwnF d o own f) {own₁' : List (Addr × Obj)} {R' : PH} {ms' : List (Str × Value)} {s' : Shared} {C' : Cx} (hC : C' = C.into R [(d, o)] s.heap)
    (S' : St w C' R' ms' own₁' s') (hm : (d, o') ∈ own₁') (hn : (a, o2) ∈ own₁') (hne : a ≠ d) (le : Le R R') : St w C R' ms ((a, o2) :: f o') s' := by
  have of := U.of (o' := o') S.nd
  refine S.exit hC S' le (fun p hp => ?_) (fun p hp => by rw [List.mem_singleton.mp hp]; exact U.mem) ?_
  · rcases List.mem_cons.mp hp with rfl | hp
    · exact .inl hn
    · rcases of p hp with rfl | ⟨h1, h2⟩
      · exact .inl hm
      · exact .inr ⟨h1, fun q hq => by rw [List.mem_singleton.mp hq]; exact Ne.symm h2⟩
  · rw [List.map_cons, List.nodup_cons]
    refine ⟨fun h => ?_, by rw [U.keys]; exact S.nd⟩
    obtain ⟨p, hp, e⟩ := List.mem_map.mp h
    rcases of p hp with rfl | ⟨h1, h2⟩
    · exact hne e.symm
    · have e1 := S'.GO _ hn
      subst hC
      have : (C.into R [(d, o)] s.heap).G p.1 = some p.2 := into_G (fun q hq => by rw [List.mem_singleton.mp hq]; exact Ne.symm h2) (S.RO p h1) (S.kO p h1)
      rw [e] at this
      rw [this] at e1; cases e1
theorem x_isN {a : Addr} {Q : Value → Shared → Prop} (h : Q (.bool false) s) : wpAny M A (compareOp .Is (.ref a) .none) Q E s := wpAny_is_other rfl (by simp) h
theorem x_isnN {a : Addr} {Q : Value → Shared → Prop} (h : Q (.bool true) s) : wpAny M A (compareOp .IsNot (.ref a) .none) Q E s := wpAny_isNot_other rfl (by simp) h
theorem x_isnNN {Q : Value → Shared → Prop} (h : Q (.bool false) s) : wpAny M A (compareOp .IsNot .none .none) Q E s := wpAny_isNot_self rfl h
theorem x_inT0 {l : Addr} {v : Value} {Q : Value → Shared → Prop} (hl : s.heap.get? l = some (tupO [])) (h : Q (.bool false) s) : wpAny (model prog w) A (compareOp .In v (.ref l)) Q E s :=
  PySem.SeqRoads2.in_tuple (items := #[]) (fun _ => false) (fun y hy => by simp at hy) hl (by simpa using h)
end

theorem Le.up {R R' : PH} {b : Addr} {o : Obj} (h : R b = some o) (le : Le R R') : R' b = some o := le b o h
section
variable {prog : Program} {w : World} {M : Model} {A : Around} {E : Value → Shared → Prop} {s : Shared} {env : Env}
  {C : Cx} {R : PH} {ms ms' : List (Str × Value)} {own own' : List (Addr × Obj)} {names : List (Str × NameKind)} {cl : List (Str × Addr)}
theorem x_asT {elts : List Expr} {k} {pos : Pos} {t : Addr} {vs : List Value} {Q : Unit → Shared → Prop} (S : St w C R ms own s) (hh : A.handled = none) (ht : s.heap.get? t = some (tupO vs)) (hn : (assignEach elts env).length = vs.length) (hstar : (assignEach elts env).findIdx? (·.1) = none)
    (h : ∀ s', St w C R ms own s' → wpAny (model prog w) A (assignInOrder ((assignEach elts env).map (·.2)) vs) Q E s') : wpAny (model prog w) A (assign (.Tuple elts k pos) env (.ref t)) Q E s :=
  assign_Tuple_tuple hh ⟨_, ht, rfl, 0, rfl⟩ (by simpa using hn) hstar fun h' he => h _ (S.moved (tk := s.toks) fun b o e => he b o (Nat.ne_of_lt (Heap.lt_size e)) e)
theorem x_asC {x : Str} {p : Pos} {r : List Expr} {v : Value} {vs : List Value} {Q : Unit → Shared → Prop} (h : wpAny M A (storeName env x v) (fun _ s₁ => wpAny M A (assignInOrder ((assignEach r env).map (·.2)) vs) Q E s₁) E s) :
    wpAny M A (assignInOrder ((assignEach (.Name x p :: r) env).map (·.2)) (v :: vs)) Q E s := by
  show wpAny M A (assignInOrder (assign (.Name x p) env :: (assignEach r env).map (·.2)) (v :: vs)) Q E s
  exact assignInOrder_cons (assign_Name h)
theorem x_asN {Q : Unit → Shared → Prop} {vs : List Value} (h : Q () s) : wpAny M A (assignInOrder ((assignEach [] env).map (·.2)) vs) Q E s := assignInOrder_nil h
theorem x_sw3 {elts k tpos value pos} {a b c : Str} {Q : Flow → Shared → Prop} (hh : A.handled = none)
    (hs : swapsWithSole [.Tuple elts k tpos] value pos.line env = pure false) (hw : swappedStores [.Tuple elts k tpos] value env = pure (some [a, b, c]))
    (h : wpAny (model prog w) A (eval value env) (fun v s₁ => ∃ (C : Cx) (R : PH) (ms : List (Str × Value)) (own : List (Addr × Obj)) (t : Addr) (v1 v2 v3 : Value), v = .ref t ∧ St w C R ms own s₁ ∧ s₁.heap.get? t = some (tupO [v1, v2, v3]) ∧ ∀ s₂, St w C R ms own s₂ →
      wpAny (model prog w) A (storeName env c v3) (fun _ s₃ => wpAny (model prog w) A (storeName env b v2) (fun _ s₄ => wpAny (model prog w) A (storeName env a v1) (fun _ s₅ => Q .next s₅) E s₄) E s₃) E s₂) E s) :
    wpAny (model prog w) A (exec (.Assign [.Tuple elts k tpos] value pos) env) Q E s := by
  refine Assign_Tuple_swapped (wpAny_mono h (fun v s₁ h₁ => ?_) fun _ _ e => e) hs hw
  obtain ⟨C, R, ms, own, t, v1, v2, v3, rfl, S, ht, h⟩ := h₁
  refine unpackItems_tuple (items := [v1, v2, v3].toArray) hh ⟨_, ht, rfl, 0, rfl⟩ fun h' he => ?_
  have S' := S.moved (tk := s₁.toks) fun b o e => he b o (Nat.ne_of_lt (Heap.lt_size e)) e
  show wpAny _ _ (assignInOrder [fun v => bindName env c v, fun v => bindName env b v, fun v => bindName env a v] [v3, v2, v1]) _ _ _
  refine assignInOrder_cons (bindName_ (wpAny_mono (h _ S') (fun _ s₃ h₃ => ?_) fun _ _ e => e))
  refine assignInOrder_cons (bindName_ (wpAny_mono h₃ (fun _ s₄ h₄ => ?_) fun _ _ e => e))
  exact assignInOrder_cons (bindName_ (wpAny_mono h₄ (fun _ s₅ h₅ => assignInOrder_nil h₅) fun _ _ e => e))
theorem x_eqTkF {u v : Value} {t t' : Tk} {Q : Value → Shared → Prop} (S : St w C R ms own s) (ok : Ok A 9) (a : TokAt R u t) (b : TokAt R v t') (hne : t ≠ t') (h : Q (.bool false) s) : wpAny (model prog w) A (compareOp .Eq u v) Q E s := x_eqTk S ok a b (by rw [decide_eq_false hne]; exact h)
theorem x_neTkT {u v : Value} {t t' : Tk} {Q : Value → Shared → Prop} (S : St w C R ms own s) (ok : Ok A 9) (a : TokAt R u t) (b : TokAt R v t') (hne : t ≠ t') (h : Q (.bool true) s) : wpAny (model prog w) A (compareOp .NotEq u v) Q E s := x_neTk S ok a b (by rw [decide_eq_false hne]; exact h)
theorem seqIndex_last (n : Nat) : seqIndex? (-1) (n + 1) = some n := by
  unfold seqIndex?
  simp
  omega
theorem x_itemLast {value slice : Expr} {l : Addr} {vs : List Value} {n : Nat} {u : Tok} {v : Value} {Q : Value → Shared → Prop} (e : s.heap.get? l = some (lstO (vs ++ [v]) n))
    (hs : subscripted slice false (.ref l) (.int (-1) u) = operate [.ref l, .int (-1) u] (getItem (.ref l) (.int (-1) u))) (h : Q v s) : wpAny (model prog w) A (subscriptTail value slice (.ref l) (.int (-1) u)) Q E s :=
  x_itemLn e (by decide) (by decide) (j := vs.length) (by rw [List.length_append]; exact seqIndex_last _) (by simp) hs h
theorem x_itemLastT {value slice : Expr} {l : Addr} {vs : List Value} {u : Tok} {v : Value} {Q : Value → Shared → Prop} (e : s.heap.get? l = some (tupO (vs ++ [v])))
    (hs : subscripted slice false (.ref l) (.int (-1) u) = operate [.ref l, .int (-1) u] (getItem (.ref l) (.int (-1) u))) (h : Q v s) : wpAny (model prog w) A (subscriptTail value slice (.ref l) (.int (-1) u)) Q E s :=
  x_itemT e (by decide) (by decide) (j := vs.length) (by rw [List.length_append]; exact seqIndex_last _) (by simp) hs h
theorem x_neT0 {a b : Addr} {Q : Value → Shared → Prop} (S : St w C R ms own s) (ok : Ok A 9) (ha : s.heap.get? a = some (tupO [])) (hb : s.heap.get? b = some (tupO [])) (h : Q (.bool false) s) : wpAny (model prog w) A (compareOp .NotEq (.ref a) (.ref b)) Q E s :=
  x_neTup S ok ha hb (.nil (P := TokAt R)) (.nil (P := TokAt R)) (by simpa using h)
end
theorem All2.split2 {α β : Type} {P : α → β → Prop} {ws : List α} {a b : β} {l : List β} (h : All2 P ws (a :: l ++ [b])) : ∃ w0 wm wl, ws = w0 :: wm ++ [wl] ∧ P w0 a ∧ All2 P wm l ∧ P wl b := by
  cases h with
  | @cons w0 _ ws' _ h0 h1 =>
    have h2 := h1.rev
    rw [show List.append l [b] = l ++ [b] from rfl, List.reverse_append] at h2
    generalize hq : ws'.reverse = q at h2
    cases h2 with
    | @cons wl _ wr _ hl hr =>
      refine ⟨w0, wr.reverse, wl, ?_, h0, ?_, hl⟩
      · have := congrArg List.reverse hq
        rw [List.reverse_reverse, List.reverse_cons] at this
        rw [this]; rfl
      · have := hr.rev
        simpa using this

local macro_rules | `(tactic| k_memK) => `(tactic| first | exact GetM.hit | (refine' GetM.miss ?a ?b; (case a => decide); (case b => k_memK)))
local macro_rules | `(tactic| k_allIn) => `(tactic| first | exact PutM.hit | exact PutM.nil | (refine' PutM.miss ?a ?b; (case a => decide); (case b => k_allIn)))
local macro_rules | `(tactic| k_updF) => `(tactic| first | exact OwnF.head | assumption | exact OwnF.tail (by k_updF))
local macro_rules | `(tactic| k_upd) => `(tactic| first | exact OwnD.head | exact OwnD.tail (by k_upd))
local macro_rules | `(tactic| k_ownIn) => `(tactic| first | exact Le.rfl' | assumption | (refine' Le.trans ?a ?b; (case a => assumption); (case b => k_ownIn)))
local macro_rules | `(tactic| walk_at "R") => `(tactic| first | assumption | (refine' Le.up ?a ?b; (case b => with_reducible assumption); (case a => walk_at "R")))
local macro_rules | `(tactic| walk_at "tok") => `(tactic| first | assumption | (refine' TokAt.le ?a ?b; (case b => with_reducible assumption); (case a => walk_at "tok")))
local macro_rules | `(tactic| walk_at "mem") => `(tactic| first | exact List.Mem.head _ | assumption | exact OwnF.mem (by assumption) | (refine List.Mem.tail _ ?_; walk_at "mem"))
local macro_rules | `(tactic| k_inst) => `(tactic| first | assumption | exact St.kO (by assumption) _ (by walk_at "mem") | (refine' St.kR ?S _ _ ?b; (case S => assumption); (case b => walk_at "R")))
local macro_rules | `(tactic| walk_at "g") => `(tactic| with_reducible first | exact g_is_whole | exact g_is_token | exact g_check_tokens | exact g_TokenFeed | exact g_Macro | exact g_token_wanted | exact g_slid | exact g_check_par | exact g_group_tokens | exact g_argument | exact g_arguments | exact g_filled | exact g_call | exact g_law_par | exact g_law_pool | exact g_law_take | exact g_law_trees | exact g_law_tokens | exact g_law_worked_out | exact g_law_replaced | exact g_law_program_right | exact g_LEAST_CODES | exact g_GREATEST_CODES | exact g_BLANK)
local macro_rules | `(tactic| walk_at "gi") => `(tactic| with_reducible first | exact g_BEGIN | exact g_END | exact g_OUT | exact g_MATCH | exact g_MOST_PARAMETERS)
local macro_rules | `(tactic| walk_at "gb") => `(tactic| with_reducible first | exact b_isinstance | exact b_len | exact b_abs | exact b_int | exact b_bool | exact b_tuple | exact b_list | exact b_range | exact b_zip)
local macro_rules | `(tactic| walk_at "inst") => `(tactic| first | assumption | (refine' InstR.le ?a ?b; (case b => with_reducible assumption); (case a => walk_at "inst")))
local macro_rules | `(tactic| walk_at "at") => `(tactic| with_reducible first | exact a_rest_179 | exact a_outers_179 | exact a_parameters_214 | exact a_body_214 | exact a_is_long_214 | exact a_count_214 | exact a_delimiters_214)
local macro_rules | `(tactic| walk_at "me") => `(tactic| with_reducible first | exact m_next_179 | exact m_back_179 | exact m_left_179 | exact m_is_outer_179 | exact m_has_brace_214)
local macro_rules | `(tactic| walk_at "sa") => `(tactic| with_reducible first | exact s_rest_179 | exact s_outers_179 | exact s_parameters_214 | exact s_body_214 | exact s_is_long_214 | exact s_is_outer_214 | exact s_count_214 | exact s_delimiters_214)
local macro_rules | `(tactic| walk_at "slL") => `(tactic| with_reducible first | refine x_sliceLSA ?_ | refine x_sliceLA ?_)
local macro_rules | `(tactic| walk_at "slT") => `(tactic| with_reducible first | refine x_sliceTA ?_)
-- groups
local macro_rules | `(tactic| walk_at "x") => `(tactic| first
  | ((with_reducible refine' x_cons ?_))
  | ((with_reducible refine' wpAny_execs_nil ?_)))
local macro_rules | `(tactic| walk_at "st") => `(tactic| first
  | ((with_reducible refine' x_assign ?hs ?_); (case hs => rfl))
  | ((with_reducible refine' x_assignSub ?hs ?_); (case hs => rfl))
  | ((with_reducible refine' plainObj_wpAny_Assign_Attribute ?_ ?hs); (case hs => rfl))
  | ((with_reducible refine' wpAny_For ?_ ?hs); (case hs => (intro _; rfl)))
  | ((with_reducible refine' x_if ?_))
  | ((with_reducible refine' wpAny_Return_some ?_))
  | ((with_reducible refine' x_aug ?_))
  | ((with_reducible refine' Assign_Tuple ?_ ?hs ?hw); (case hs => rfl); (case hw => rfl))
  | ((with_reducible refine' x_expr ?F ?hs ?_); (case F => assumption); (case hs => rfl)))
local macro_rules | `(tactic| walk_at "it") => `(tactic| first
  | ((with_reducible refine' x_isCmp ?hs ?_); (case hs => with_unfolding_all rfl))
  | ((with_reducible refine' isTrue_not ?_))
  | ((with_reducible refine' isTrue_and_nil ?_))
  | ((with_reducible refine' isTrue_or_nil ?_))
  | ((with_reducible refine' isTrue_and ?_))
  | ((with_reducible refine' isTrue_or ?_))
  | ((with_reducible refine' isTrue_chain ?_ ?hs); (case hs => with_unfolding_all rfl))
  | ((with_reducible refine' isTrue_plain ?_ ?hs); (case hs => rfl)))
local macro_rules | `(tactic| walk_at "ev") => `(tactic| first
  | ((rename St _ _ _ _ _ _ => S0); (with_reducible refine' x_name S0 ?F ?hx ?hdb ?hm ?_); (case F => assumption); (case hx => rfl); (case hdb => decide); (case hm => k_memK))
  | ((rename St _ _ _ _ _ _ => S0); (with_reducible refine' x_int S0 ?_); clear S0; intro _ _ _)
  | ((with_reducible refine' Subscript_ ?_))
  | ((with_reducible refine' wpAny_BinOp ?_))
  | ((with_reducible refine' x_callN ?_))
  | ((rename St _ _ _ _ _ _ => S0); (with_reducible refine' x_cell S0 ?F ?hx ?hdb ?hc ?hm ?_); (case F => assumption); (case hx => rfl); (case hdb => decide); (case hc => rfl); (case hm => walk_at "cell"))
  | ((rename St _ _ _ _ _ _ => S0); (with_reducible refine' x_glob S0 ?F ?hx ?hdb ?e ?_); (case F => assumption); (case hx => rfl); (case hdb => decide); (case e => walk_at "g"))
  | ((rename St _ _ _ _ _ _ => S0); (with_reducible refine' x_bltn S0 ?F ?hx ?hdb ?e ?_); (case F => assumption); (case hx => rfl); (case hdb => decide); (case e => walk_at "gb"))
  | ((rename St _ _ _ _ _ _ => S0); (with_reducible refine' x_globI S0 ?F ?hx ?hdb ?e ?_); (case F => assumption); (case hx => rfl); (case hdb => decide); (case e => walk_at "gi"); intro _)
  | ((with_reducible refine' x_cmp ?hs ?_); (case hs => with_unfolding_all rfl))
  | ((with_reducible refine' x_meth ?he ?_); (case he => with_unfolding_all rfl))
  | ((with_reducible refine' Attribute_any_ ?_ ?he); (case he => with_unfolding_all rfl))
  | ((with_reducible refine' Tuple_ ?_))
  | ((with_reducible refine' List_ ?_))
  | ((with_reducible refine' UnaryOp_ ?_))
  | ((with_reducible refine' IfExp_ ?_))
  | ((with_reducible refine' BoolOp_and ?_))
  | ((with_reducible refine' BoolOp_or ?_))
  | ((with_reducible refine' x_sing ?_))
  | ((with_reducible refine' Compare_chain ?_ ?hs); (case hs => with_unfolding_all rfl))
  | ((with_reducible refine' x_bool ?_))
  | ((with_reducible refine' x_none ?_)))
local macro_rules | `(tactic| walk_at "sp") => `(tactic| first
  | ((with_reducible refine' x_spC ?he ?_); (case he => rfl))
  | ((with_reducible refine' x_spN ?_)))
local macro_rules | `(tactic| walk_at "cw") => `(tactic| first
  | ((rename St _ _ _ _ _ _ => S0); (with_reducible refine' x_pop S0 ?U ?hz ?_); (case U => k_updF); (case hz => walk_at "sz"); clear S0; intro _ _)
  | ((with_reducible refine' x_cwB0 ?hp ?he ?_); (case hp => rfl); (case he => rfl))
  | ((with_reducible refine' x_cwB1 ?hp ?he ?_); (case hp => rfl); (case he => rfl))
  | ((with_reducible refine' x_cwT ?hp ?he ?_); (case hp => rfl); (case he => rfl))
  | ((rename St _ _ _ _ _ _ => S0); (with_reducible refine' x_cwF S0 ?hk ?hp ?he ?_); (case hk => k_is); (case hp => rfl); (case he => rfl))
  | ((rename St _ _ _ _ _ _ => S0); (with_reducible refine' x_cwF1 S0 ?hk ?hp ?he ?_); (case hk => k_is); (case hp => rfl); (case he => rfl))
  | ((rename St _ _ _ _ _ _ => S0); (with_reducible refine' x_cwF0 S0 ?hk ?_); (case hk => k_is)))
local macro_rules | `(tactic| walk_at "co") => `(tactic| first
  | ((rename St _ _ _ _ _ _ => S0); (with_reducible refine' x_neT0 S0 ?ok ?a ?b ?_); (case ok => (refine Ok.mono (by assumption) ?_; omega)); (case a => k_inst); (case b => k_inst))
  | ((rename St _ _ _ _ _ _ => S0); (with_reducible refine' x_eqTkF S0 ?ok ?a ?b ?hne ?_); (case ok => (refine Ok.mono (by assumption) ?_; omega)); (case a => walk_at "tok"); (case b => walk_at "tok"); (case hne => assumption))
  | ((rename St _ _ _ _ _ _ => S0); (with_reducible refine' x_neTkT S0 ?ok ?a ?b ?hne ?_); (case ok => (refine Ok.mono (by assumption) ?_; omega)); (case a => walk_at "tok"); (case b => walk_at "tok"); (case hne => assumption))
  | ((rename St _ _ _ _ _ _ => S0); (with_reducible refine' x_eqTk S0 ?ok ?a ?b ?_); (case ok => (refine Ok.mono (by assumption) ?_; omega)); (case a => walk_at "tok"); (case b => walk_at "tok"))
  | ((rename St _ _ _ _ _ _ => S0); (with_reducible refine' x_neTk S0 ?ok ?a ?b ?_); (case ok => (refine Ok.mono (by assumption) ?_; omega)); (case a => walk_at "tok"); (case b => walk_at "tok"))
  | with_reducible refine x_isN ?_
  | with_reducible refine x_isnN ?_
  | with_reducible refine x_isnNN ?_
  | ((with_reducible refine' x_inT0 ?e ?_); (case e => k_inst))
  | ((with_reducible refine' x_eqI ?_))
  | ((with_reducible refine' x_lt ?_))
  | ((with_reducible refine' x_gt ?_))
  | ((with_reducible refine' x_le ?_))
  | ((with_reducible refine' x_ge ?_))
  | ((with_reducible refine' x_neI ?_)))
local macro_rules | `(tactic| walk_at "bo") => `(tactic| first
  | ((rename St _ _ _ _ _ _ => S0); (with_reducible refine' x_add S0 ?_); clear S0; intro _ _ _)
  | ((rename St _ _ _ _ _ _ => S0); (with_reducible refine' x_sub S0 ?_); clear S0; intro _ _ _)
  | ((rename St _ _ _ _ _ _ => S0); (with_reducible refine' x_mod S0 ?hb ?_); (case hb => omega); clear S0; intro _ _ _)
  | ((rename St _ _ _ _ _ _ => S0); (with_reducible refine' x_div S0 ?hb ?hz ?_); (case hb => omega); (case hz => omega); clear S0; intro _ _ _)
  | ((rename St _ _ _ _ _ _ => S0); (with_reducible refine' x_mul S0 ?hm ?_); rotate_left; clear S0; intro _ _ _; rotate_right)
  | ((rename St _ _ _ _ _ _ => S0); (with_reducible refine' x_pow S0 ?hn ?hz ?_); rotate_left 2; clear S0; intro _ _ _; rotate_right 2))
local macro_rules | `(tactic| walk_at "tl") => `(tactic| first
  | ((with_reducible refine' x_itemLast ?e ?hs ?_); (case e => k_inst); (case hs => with_unfolding_all rfl))
  | ((with_reducible refine' x_itemLastT ?e ?hs ?_); (case e => k_inst); (case hs => with_unfolding_all rfl))
  | ((with_reducible refine' x_itemL ?e ?h0 ?hhi ?hx ?hs ?_); (case e => k_inst); (case h0 => omega); (case hhi => omega); (case hx => first | rfl | assumption); (case hs => with_unfolding_all rfl))
  | ((with_reducible refine' x_itemT ?e ?h0 ?hhi ?hj ?hx ?hs ?_); (case e => k_inst); (case h0 => omega); (case hhi => omega); (case hj => first | rfl | assumption); (case hx => first | rfl | assumption); (case hs => with_unfolding_all rfl)))
local macro_rules | `(tactic| walk_at "ca") => `(tactic| first
  | ((rename St _ _ _ _ _ _ => S0); (with_reducible refine' x_lenL S0 ?e ?hz ?_); (case e => k_inst); (case hz => walk_at "sz"); clear S0; intro _ _ _)
  | ((rename St _ _ _ _ _ _ => S0); (with_reducible refine' x_lenT S0 ?e ?hz ?_); (case e => k_inst); (case hz => walk_at "sz"); clear S0; intro _ _ _)
  | ((rename St _ _ _ _ _ _ => S0); (with_reducible refine' x_append S0 ?U ?hz ?_); (case U => k_updF); (case hz => walk_at "sz"); clear S0; intro _ _)
  | ((with_reducible refine' x_isiII ?_))
  | ((rename St _ _ _ _ _ _ => S0); (with_reducible refine' x_isiIB S0 ?_); clear S0; intro _ _)
  | ((with_reducible refine' x_isiTT ?e ?_); (case e => k_inst))
  | ((rename St _ _ _ _ _ _ => S0); (with_reducible refine' x_listL S0 ?e ?hz ?_); (case e => k_inst); (case hz => walk_at "sz"); clear S0; intro _ _ _ _)
  | ((rename St _ _ _ _ _ _ => S0); (with_reducible refine' x_listT S0 ?e ?hz ?_); (case e => k_inst); (case hz => walk_at "sz"); clear S0; intro _ _ _ _)
  | ((rename St _ _ _ _ _ _ => S0); (with_reducible refine' x_tupL S0 ?e ?hz ?_); (case e => k_inst); (case hz => walk_at "sz"); clear S0; intro _ _ _ _ _ _)
  | ((with_reducible refine' x_tupT ?e ?_); (case e => k_inst))
  | ((rename St _ _ _ _ _ _ => S0); (with_reducible refine' x_extendL S0 ?U ?e ?hz ?_); (case U => k_updF); (case e => k_inst); (case hz => walk_at "sz"); clear S0; intro _ _ _)
  | ((rename St _ _ _ _ _ _ => S0); (with_reducible refine' x_extendT S0 ?U ?e ?hz ?_); (case U => k_updF); (case e => k_inst); (case hz => walk_at "sz"); clear S0; intro _ _ _)
  | ((rename St _ _ _ _ _ _ => S0); (with_reducible refine' x_range S0 ?_); clear S0; intro _ _ _ _ _ _ _ _)
  | ((rename St _ _ _ _ _ _ => S0); (with_reducible refine' x_rangeAB S0 ?_); clear S0; intro _ _ _ _ _ _ _)
  | ((rename St _ _ _ _ _ _ => S0); (with_reducible refine' x_abs S0 ?_); clear S0; intro _ _ _)
  | ((rename St _ _ _ _ _ _ => S0); (with_reducible refine' x_intB S0 ?_); clear S0; intro _ _ _))
local macro_rules | `(tactic| walk_at "ot") => `(tactic| first
  | ((with_reducible refine' x_qn ?_))
  | ((with_reducible refine' x_qi ?_))
  | ((with_reducible refine' x_qw ?_))
  | ((with_reducible refine' x_qr ?_))
  | ((with_reducible refine' x_truthy ?_))
  | ((with_reducible refine' x_itt ?_))
  | ((with_reducible refine' x_iff ?_))
  | ((with_reducible refine' x_ifnf ?_))
  | ((with_reducible refine' x_ifnt ?_))
  | ((with_reducible refine x_ite ?_ ?_) <;> intro _ <;> first | (exfalso; omega) | skip)
  | ((with_reducible refine x_iten ?_ ?_) <;> intro _ <;> first | (exfalso; omega) | skip)
  | ((rename St _ _ _ _ _ _ => S0); (with_reducible refine' x_store S0 ?F ?hx ?hm ?_); (case F => assumption); (case hx => rfl); (case hm => k_allIn); clear S0; intro _ _)
  | ((rename St _ _ _ _ _ _ => S0); (with_reducible refine' x_load S0 ?F ?hx ?hm ?_); (case F => assumption); (case hx => rfl); (case hm => k_memK))
  | ((rename St _ _ _ _ _ _ => S0); (with_reducible refine' x_in S0 ?_))
  | ((with_reducible refine' x_nn ?_))
  | ((rename St _ _ _ _ _ _ => S0); (with_reducible refine' x_iadd S0 ?_); clear S0; intro _ _ _)
  | ((rename St _ _ _ _ _ _ => S0); (with_reducible refine' x_isub S0 ?_); clear S0; intro _ _ _)
  | ((rename St _ _ _ _ _ _ => S0); (with_reducible refine' x_neg S0 ?_); clear S0; intro _ _ _)
  | ((with_reducible refine' not_of ?_))
  | ((rename St _ _ _ _ _ _ => S0); (with_reducible refine' x_setL S0 ?U ?h0 ?hhi ?hn ?hw ?_); (case U => k_updF); (case h0 => omega); (case hhi => omega); (case hn => simp); (case hw => (dsimp only [List.set, Int.reduceToNat]; try rfl)); clear S0; intro _ _)
  | ((rename St _ _ _ _ _ _ => S0); (with_reducible refine' x_getA S0 ?I ?hf ?hm ?hv ?_); (case I => walk_at "inst"); (case hf => walk_at "at"); (case hm => rfl); (case hv => rfl); clear S0; intro _ _)
  | ((rename St _ _ _ _ _ _ => S0); (with_reducible refine' x_gmInst S0 ?I ?hf ?hm ?_); (case I => walk_at "inst"); (case hf => walk_at "me"); (case hm => rfl))
  | ((with_reducible refine' x_gmAppend ?e ?_); (case e => k_inst))
  | ((with_reducible refine' x_gmExtend ?e ?_); (case e => k_inst))
  | ((with_reducible refine' x_gmPop ?e ?_); (case e => k_inst))
  | ((rename St _ _ _ _ _ _ => S0); (with_reducible refine' x_newList S0 ?hz ?_); (case hz => walk_at "sz"); clear S0; intro _ _ _)
  | ((rename St _ _ _ _ _ _ => S0); (with_reducible refine' x_newTup S0 ?hz ?_); (case hz => walk_at "sz"); clear S0; intro _ _ _ _ _ _)
  | ((rename St _ _ _ _ _ _ => S0); (with_reducible refine' x_asT S0 ?hh ?ht ?hn ?hstar ?_); (case hh => exact Ok.handled (by assumption)); (case ht => k_inst); (case hn => rfl); (case hstar => rfl); clear S0; intro _ _)
  | ((with_reducible refine' x_asC ?_))
  | ((with_reducible refine' x_asN ?_))
  | ((with_reducible refine' x_partN ?_))
  | ((with_reducible refine' x_partS ?_))
  | ((rename St _ _ _ _ _ _ => S0); (with_reducible refine' x_slRev S0 ?e ?hz ?_); (case e => k_inst); (case hz => walk_at "sz"); clear S0; intro _ _ _)
  | ((rename St _ _ _ _ _ _ => S0); (with_reducible refine' x_slUpto S0 ?e ?hb ?hz ?_); (case e => k_inst); (case hb => omega); (case hz => walk_at "sz"); clear S0; intro _ _ _)
  | ((rename St _ _ _ _ _ _ => S0); (with_reducible refine' x_slInner S0 ?e ?hz ?_); (case e => k_inst); (case hz => walk_at "sz"); clear S0; intro _ _ _)
  | ((rename St _ _ _ _ _ _ => S0); (with_reducible refine' x_slT0 S0 ?e ?hb ?_); (case e => k_inst); (case hb => omega); clear S0; intro _ _)
  | ((rename St _ _ _ _ _ _ => S0); (with_reducible refine' x_slTfrom S0 ?e ?h1 ?ha ?hz ?_); (case e => k_inst); (case h1 => omega); (case ha => walk_at "sz"); (case hz => walk_at "sz"); clear S0; intro _ _ _ _ _ _)
  | ((rename St _ _ _ _ _ _ => S0); (with_reducible refine' x_setA S0 ?ho ?U ?D ?hf ?hn ?hz ?_); (case ho => walk_at "R"); (case D => assumption); (case U => k_updF); (case hf => walk_at "sa"); (case hn => rfl); (case hz => simp); clear S0; intro _ _ _ _ _)
  | ((with_reducible refine' test_link ?_))
  | ((with_reducible refine' x_testLast ?_))
  | ((with_reducible refine' chain_link ?_))
  | ((with_reducible refine' x_chainLast ?_)))
local macro_rules | `(tactic| walk_at "w") => `(tactic| first
  | ((with_reducible show wpAny _ _ (execs _ _) _ _ _); walk_at "x")
  | ((with_reducible show wpAny _ _ (exec _ _) _ _ _); walk_at "st")
  | ((with_reducible show wpAny _ _ (isTrue _ _ _) _ _ _); walk_at "it")
  | ((with_reducible show wpAny _ _ (eval _ _) _ _ _); walk_at "ev")
  | ((with_reducible show wpAny _ _ (spliced _) _ _ _); walk_at "sp")
  | ((with_reducible show wpAny _ _ (callWith _ _ _ _ _) _ _ _); walk_at "cw")
  | ((with_reducible show wpAny _ _ (compareOp _ _ _) _ _ _); walk_at "co")
  | ((with_reducible show wpAny _ _ (binaryOp _ _ _) _ _ _); walk_at "bo")
  | ((with_reducible show wpAny _ _ (subscriptTail _ _ _ _) _ _ _); walk_at "tl")
  | ((with_reducible show wpAny _ _ (call _ _) _ _ _); walk_at "ca")
  | walk_at "ot")
local macro_rules | `(tactic| walk_at "cell") => `(tactic| first | assumption | (refine' CellAt.le ?a ?b; (case b => with_reducible assumption); (case a => walk_at "cell")))
local macro_rules | `(tactic| walk_at "sz") => `(tactic| first | omega | (have := sizeLine_eq; simp only [List.length_append, List.length_cons, List.length_nil, List.length_reverse]; omega) | (have := sizeLine_eq; simp only [List.length_append, List.length_cons, List.length_nil, List.length_reverse] at *; omega))
-- entry
local macro_rules | `(tactic| walk_at "e") => `(tactic| (k_dflt ((case ho => k_is); (case hcd => k_is); (case hbind => exact BindsTo.of_eq rfl); (case hms => exact rfl); (case hloc => exact locs rfl); (case hcell => decide); (case hco => rfl); (case hgen => rfl); (case hk => rfl))))

theorem is_whole_spec {prog : Program} {w : World} {A : Around} {E : Value → Shared → Prop} {s : Shared} {C : Cx} {R : PH} {ms : List (Str × Value)} {own : List (Addr × Obj)}
   {v lo hi : Int} {tv tl th : Tok} {Q : Value → Shared → Prop} (S : St w C R ms own s) (ok : Ok A 1) (h1 : lo ≤ v) (h2 : v ≤ hi)
   (ret : ∀ s', St w C R ms own s' → Q (.bool true) s') :
   wpAny (model prog w) A (call (.ref 97) [.int v tv, .int lo tl, .int hi th]) Q E s := by
  k_dflt (refine' x_enter S [] ?h11 ?nd1 ?ho1 ?hcd1 ?hbind1 ?hms1 ?hloc1 ?hcell1 ?hco1 ?hgen1 ?hk1 ok ?h1 (binds := [(Str.ofString "value", .int v tv), (Str.ofString "low", .int lo tl), (Str.ofString "high", .int hi th)]) (ms₁ := [(Str.ofString "high", .int hi th), (Str.ofString "low", .int lo tl), (Str.ofString "value", .int v tv)]); (case h11 => (intro p hp; cases hp)); (case nd1 => simp); (case ho1 => k_is); (case hcd1 => k_is); (case hbind1 => exact BindsTo.of_eq rfl); (case hms1 => exact rfl); (case hloc1 => exact locs rfl); (case hcell1 => decide); (case hco1 => rfl); (case hgen1 => rfl); (case hk1 => rfl))
  intro C' A' env s₁ hC' F ok' S₁
  conv at F in (pSc _) => whnf
  dsimp only at F
  conv in (pB _) => whnf
  repeat' (first | walk_at "w")
  all_goals first
    | (exfalso; omega)
    | (rename St _ _ _ _ _ _ => S2; rw [decide_eq_true (by omega)]; exact ret _ (S.exit0 hC' S2 Le.rfl'))
    | (rename St _ _ _ _ _ _ => S2; exact ret _ (S.exit0 hC' S2 Le.rfl'))
theorem is_token_spec {prog : Program} {w : World} {A : Around} {E : Value → Shared → Prop} {s : Shared} {C : Cx} {R : PH} {ms : List (Str × Value)} {own : List (Addr × Obj)}
   {v : Value} {t : Tk} {Q : Value → Shared → Prop} (S : St w C R ms own s) (ok : Ok A 2) (hv : TokAt R v t) (ht : okT t)
   (ret : ∀ s', St w C R ms own s' → Q (.bool true) s') :
   wpAny (model prog w) A (call (.ref 118) [v]) Q E s := by
  obtain ⟨a, ta, tb, rfl, hr⟩ := hv
  obtain ⟨x, y⟩ := t
  k_dflt (refine' x_enter S [] ?h12 ?nd2 ?ho2 ?hcd2 ?hbind2 ?hms2 ?hloc2 ?hcell2 ?hco2 ?hgen2 ?hk2 ok ?h2 (binds := [(Str.ofString "token", .ref a)]) (ms₁ := [(Str.ofString "token", .ref a)]); (case h12 => (intro p hp; cases hp)); (case nd2 => simp); (case ho2 => k_is); (case hcd2 => k_is); (case hbind2 => exact BindsTo.of_eq rfl); (case hms2 => exact rfl); (case hloc2 => exact locs rfl); (case hcell2 => decide); (case hco2 => rfl); (case hgen2 => rfl); (case hk2 => rfl))
  intro C' A' env s₁ hC' F ok' S₁
  conv at F in (pSc _) => whnf
  dsimp only at F
  conv in (pB _) => whnf
  have h110 := S.kK l_110
  have h111 := S.kK l_111
  obtain ⟨hx, hy0, hy1⟩ := ht
  dsimp only at hx hy0 hy1 hr
  obtain ⟨j, lo, tl, hi, th, hj, e1, e2, hlo, hhi⟩ : ∃ j lo tl hi th, seqIndex? x 16 = some j ∧ ([.int 0 347, .int 0 348, .int 0 349, .int 0 350, .int 0 351, .int 1 352, .int 0 353, .int 0 354, .int 0 355, .int 1 356, .int 0 357, .int 0 358, .int 0 359, .int 0 360, .int 0 361, .int 0 362] : List Value)[j]? = some (.int lo tl) ∧
    ([.int 1048575 365, .int 255 366, .int 255 367, .int 255 368, .int 255 369, .int 9 370, .int 255 371, .int 255 372, .int 255 373, .int 9 374, .int 255 375, .int 255 376, .int 255 377, .int 255 378, .int 255 379, .int 0 380] : List Value)[j]? = some (.int hi th) ∧ lo ≤ y ∧ y ≤ hi := by
    rcases hx with rfl | rfl | rfl | rfl
    · exact ⟨0, _, _, _, _, rfl, rfl, rfl, by omega, by omega⟩
    · exact ⟨1, _, _, _, _, rfl, rfl, rfl, by omega, by omega⟩
    · exact ⟨2, _, _, _, _, rfl, rfl, rfl, by omega, by omega⟩
    · exact ⟨11, _, _, _, _, rfl, rfl, rfl, by omega, by omega⟩
  repeat' (first | walk_at "w" | ((rename St _ _ _ _ _ _ => S0); (with_reducible refine' is_whole_spec S0 ok' ?_ ?_ ?_); omega; omega; clear S0; intro _ _))
  all_goals first
    | (exfalso; simp at *; done)
    | (rename St _ _ _ _ _ _ => S2; exact ret _ (S.exit0 hC' S2 Le.rfl'))
theorem take_spec {prog : Program} {w : World} {A : Around} {E : Value → Shared → Prop} {s : Shared} {C : Cx} {R : PH} {ms : List (Str × Value)} {own : List (Addr × Obj)}
   {src : Addr} {a b c many : Int} {ta tb tc tm : Tok} {n : Nat} {f : Obj → List (Addr × Obj)} {Q : Value → Shared → Prop} (S : St w C R ms own s) (ok : Ok A 1)
   (U : OwnF src (lstO [.int a ta, .int b tb, .int c tc] n) own f)
   (ha : 0 ≤ a) (ha2 : a < 10 ^ 90) (hb : 0 ≤ b) (hb2 : b < 10^9) (hc : 0 ≤ c) (hc2 : c < 1000003) (hm : 0 < many) (hm2 : many < 1000)
   (ret : ∀ d t s' a' b' ta' tb', 0 ≤ d → d < many → 0 ≤ a' → a' < 10 ^ 90 → 0 ≤ b' → b' ≤ b + 1 → St w C R ms (f (lstO [.int a' ta', .int b' tb', .int c tc] n)) s' → Q (.int d t) s') :
   wpAny (model prog w) A (call (.ref 289) [.ref src, .int many tm]) Q E s := by
  k_dflt (refine' x_enter S [(src, lstO [.int a ta, .int b tb, .int c tc] n)] ?h13 ?nd3 ?ho3 ?hcd3 ?hbind3 ?hms3 ?hloc3 ?hcell3 ?hco3 ?hgen3 ?hk3 ok ?h3 (binds := [(Str.ofString "source", .ref src), (Str.ofString "many", .int many tm)]) (ms₁ := [(Str.ofString "many", .int many tm), (Str.ofString "source", .ref src)]); (case h13 => (intro p hp; rw [List.mem_singleton.mp hp]; exact U.mem)); (case nd3 => simp); (case ho3 => k_is); (case hcd3 => k_is); (case hbind3 => exact BindsTo.of_eq rfl); (case hms3 => exact rfl); (case hloc3 => exact locs rfl); (case hcell3 => decide); (case hco3 => rfl); (case hgen3 => rfl); (case hk3 => rfl))
  intro C' A' env s₁ hC' F ok' S₁
  conv at F in (pSc _) => whnf
  dsimp only at F
  conv in (pB _) => whnf
  have hpos : ∀ x : Int, 0 ≤ x.fmod 2147483647 ∧ x.fmod 2147483647 < 2147483647 := fun x => ⟨Int.fmod_nonneg_of_pos _ (by omega), Int.fmod_lt_of_pos _ (by omega)⟩
  repeat' (first | walk_at "w")
  all_goals first
    | exact IntMulOk.of_left (intBits_le (n := 64) (by omega))
    | exact IntMulOk.of_left (intBits_le (n := 64) (by have := hpos ((c + 8011 * (b + 1) + 40009) ^ Int.toNat 5); omega))
    | omega
    | (have h1 : Builtin.Int.intBits (c + 8011 * (b + 1) + 40009) ≤ 64 := intBits_le (by omega)
       omega)
    | skip
  · rename_i S2
    refine ret _ _ _ (a.fdiv many) b _ _ (Int.fmod_nonneg_of_pos _ hm) (Int.fmod_lt_of_pos _ hm) (Int.fdiv_nonneg ha (by omega)) ?_ hb (by omega) (S.exit1 U hC' S2 (List.mem_singleton.mpr rfl) Le.rfl')
    refine Int.lt_of_le_of_lt ?_ ha2
    rw [Int.fdiv_eq_ediv_of_nonneg _ (by omega)]
    exact Int.ediv_le_self _ ha
  · rename_i S2
    exact ret _ _ _ a (b + 1) _ _ (Int.fmod_nonneg_of_pos _ hm) (Int.fmod_lt_of_pos _ hm) ha ha2 (by omega) (by omega) (S.exit1 U hC' S2 (List.mem_singleton.mpr rfl) Le.rfl')
theorem check_tokens_spec {prog : Program} {w : World} {A : Around} {E : Value → Shared → Prop} {s : Shared} {C : Cx} {R : PH} {ms : List (Str × Value)} {own : List (Addr × Obj)}
   {l : Addr} {vs : List Value} {n : Nat} {ts : List Tk} {Q : Value → Shared → Prop} (S : St w C R ms own s) (ok : Ok A 3) (hl : R l = some (lstO vs n)) (hv : ToksAt R vs ts) (ht : ∀ t ∈ ts, okT t)
   (ret : ∀ s', St w C R ms own s' → Q .none s') :
   wpAny (model prog w) A (call (.ref 125) [.ref l]) Q E s := by
  k_dflt (refine' x_enter S [] ?h14 ?nd4 ?ho4 ?hcd4 ?hbind4 ?hms4 ?hloc4 ?hcell4 ?hco4 ?hgen4 ?hk4 ok ?h4 (binds := [(Str.ofString "tokens", .ref l)]) (ms₁ := [(Str.ofString "tokens", .ref l)]); (case h14 => (intro p hp; cases hp)); (case nd4 => simp); (case ho4 => k_is); (case hcd4 => k_is); (case hbind4 => exact BindsTo.of_eq rfl); (case hms4 => exact rfl); (case hloc4 => exact locs rfl); (case hcell4 => decide); (case hco4 => rfl); (case hgen4 => rfl); (case hk4 => rfl))
  intro C' A' env s₁ hC' F ok' S₁
  conv at F in (pSc _) => whnf
  dsimp only at F
  conv in (pB _) => whnf
  repeat' (first | walk_at "w")
  rename St _ _ _ _ _ _ => S₁
  refine x_forList ok'.handled S₁ hl (.inl fun _ _ => rfl) F (fun i R₁ ms₁ own₁ => R₁ = R ∧ own₁ = [] ∧ (ms₁ = [(Str.ofString "tokens", .ref l)] ∨ ∃ v, ms₁ = [(Str.ofString "tokens", .ref l), (Str.ofString "token", v)])) ⟨rfl, rfl, .inl rfl⟩ ?_ ?_
  · rintro C₁ i v R₁ ms₁ own₁ s₂ F₁ bk hi hvi le ⟨rfl, rfl, hms⟩ S₂
    obtain ⟨t, hti, hvt⟩ := hv.get hvi
    have hokt := ht t (List.mem_of_getElem? hti)
    refine wpAny_assign_Name (x_store (ms' := [(Str.ofString "tokens", .ref l), (Str.ofString "token", v)]) S₂ F₁ rfl ?_ fun s₃ S₃ => ?_)
    · rcases hms with rfl | ⟨u, rfl⟩ <;> k_allIn
    clear S₂ F
    repeat' (first | walk_at "w" | ((rename St _ _ _ _ _ _ => S0); (with_reducible refine' is_token_spec S0 ok' hvt hokt ?_); clear S0; intro _ _))
    rename St _ _ _ _ _ _ => S9
    exact ⟨_, _, _, Le.rfl', ⟨rfl, rfl, .inr ⟨_, rfl⟩⟩, S9⟩
  · rintro R₁ ms₁ own₁ s₂ le ⟨rfl, rfl, hms⟩ S₂
    repeat' (first | walk_at "w")
    try rename St _ _ _ _ _ _ => S₂
    exact ret _ (S.exit0 hC' S₂ Le.rfl')
theorem feed_new_spec {prog : Program} {w : World} {A : Around} {E : Value → Shared → Prop} {s : Shared} {C : Cx} {R : PH} {ms : List (Str × Value)} {own : List (Addr × Obj)}
   {l : Addr} {vs : List Value} {n : Nat} {ts : List Tk} {Q : Value → Shared → Prop} (S : St w C R ms own s) (ok : Ok A 6) (hl : R l = some (lstO vs n)) (hv : ToksAt R vs ts) (ht : ∀ t ∈ ts, okT t) (hz : vs.length ≤ 1000000)
   (ret : ∀ x lr n' R' s', Le R R' → FeedR R' x lr → St w C R' ms ((lr, lstO vs.reverse n') :: own) s' → Q (.ref x) s') :
   wpAny (model prog w) A (call (.ref 179) [.ref l]) Q E s := by
  have hsz := sizeLine_eq
  k_dflt (refine' x_class S c_TokenFeed ?ho ?hcd ?hbind ?hms ?hloc ?hcell ?hco ?hgen ?hk ok ?h (binds := fun x => [(Str.ofString "self", x), (Str.ofString "tokens", .ref l), (Str.ofString "outers", .ref 133)]) (ms₁ := fun x => [(Str.ofString "outers", .ref 133), (Str.ofString "tokens", .ref l), (Str.ofString "self", x)]); (case ho => k_is); (case hcd => k_is); (case hbind => (intro x s X; exact binds_D rfl l_134 rfl rfl rfl s X)); (case hms => (intro _; exact rfl)); (case hloc => (intro _; exact locs rfl)); (case hcell => decide); (case hco => rfl); (case hgen => rfl); (case hk => rfl))
  intro x dx R₁ s₀ C' A' env s₁ le hx S₀ hC' F ok' S₁
  conv at F in (pSc _) => whnf
  dsimp only at F S₁
  conv in (pB _) => whnf
  have hl₁ := le _ _ hl
  have hv₁ := hv.le le
  have h133 := S₁.kK l_133
  have hD : DIs [] [] := .nil
  repeat' (first | walk_at "slL" | walk_at "w" | ((rename St _ _ _ _ _ _ => S0); (with_reducible refine' check_tokens_spec S0 (ok'.mono (by omega)) hl₁ hv₁ ht ?_); clear S0; intro _ _))
  rename DIs _ _ => D9
  rename St _ _ _ _ _ _ => S9
  obtain ⟨R', le', e', S8⟩ := S9.freeze (d := dx) (by k_upd)
  refine ret x _ 0 R' _ (le.trans le') ⟨133, ⟨dx, _, _, le' _ _ hx, e', D9⟩, le' _ _ h133⟩ (S₀.exitInit hC' S8 le' (.head _))

theorem feed_next_spec {prog : Program} {w : World} {A : Around} {E : Value → Shared → Prop} {s : Shared} {C : Cx} {R : PH} {ms : List (Str × Value)} {own : List (Addr × Obj)}
   {x lr : Addr} {us : List Value} {n : Nat} {f : Obj → List (Addr × Obj)} {Q : Value → Shared → Prop} (S : St w C R ms own s) (ok : Ok A 1) (I : FeedR R x lr) (U : OwnF lr (lstO us.reverse n) own f) (hz : us.length ≤ 1000000)
   (ret0 : us = [] → ∀ s', St w C R ms own s' → Q .none s')
   (ret : ∀ u us' n' s', us = u :: us' → St w C R ms (f (lstO us'.reverse n')) s' → Q u s') :
   wpAny (model prog w) A (call (.ref 148) [.ref x]) Q E s := by
  have hsz := sizeLine_eq
  cases us with
  | nil =>
    k_dflt (refine' x_enter S [(lr, lstO [] n)] ?h15 ?nd5 ?ho5 ?hcd5 ?hbind5 ?hms5 ?hloc5 ?hcell5 ?hco5 ?hgen5 ?hk5 ok ?h5 (binds := [(Str.ofString "self", .ref x)]) (ms₁ := [(Str.ofString "self", .ref x)]); (case h15 => (intro p hp; rw [List.mem_singleton.mp hp]; exact U.mem)); (case nd5 => simp); (case ho5 => k_is); (case hcd5 => k_is); (case hbind5 => exact BindsTo.of_eq rfl); (case hms5 => exact rfl); (case hloc5 => exact locs rfl); (case hcell5 => decide); (case hco5 => rfl); (case hgen5 => rfl); (case hk5 => rfl))
    intro C' A' env s₁ hC' F ok' S₁
    conv at F in (pSc _) => whnf
    dsimp only at F
    conv in (pB _) => whnf
    obtain ⟨lo, I, ho⟩ := I
    repeat' (first | walk_at "slL" | walk_at "w")
    · rename St _ _ _ _ _ _ => S9
      exact ret0 rfl _ (S.exitS U hC' S9 (.head _) Le.rfl')
    · simp at *
  | cons u us' =>
    rw [List.reverse_cons] at U
    k_dflt (refine' x_enter S [(lr, lstO (us'.reverse ++ [u]) n)] ?h16 ?nd6 ?ho6 ?hcd6 ?hbind6 ?hms6 ?hloc6 ?hcell6 ?hco6 ?hgen6 ?hk6 ok ?h6 (binds := [(Str.ofString "self", .ref x)]) (ms₁ := [(Str.ofString "self", .ref x)]); (case h16 => (intro p hp; rw [List.mem_singleton.mp hp]; exact U.mem)); (case nd6 => simp); (case ho6 => k_is); (case hcd6 => k_is); (case hbind6 => exact BindsTo.of_eq rfl); (case hms6 => exact rfl); (case hloc6 => exact locs rfl); (case hcell6 => decide); (case hco6 => rfl); (case hgen6 => rfl); (case hk6 => rfl))
    intro C' A' env s₁ hC' F ok' S₁
    conv at F in (pSc _) => whnf
    dsimp only at F
    conv in (pB _) => whnf
    obtain ⟨lo, I, ho⟩ := I
    repeat' (first | walk_at "slL" | walk_at "w")
    · exfalso; simp at *; omega
    · rename St _ _ _ _ _ _ => S9
      exact ret _ _ _ _ rfl (S.exit1 U hC' S9 (.head _) Le.rfl')

theorem feed_back_spec {prog : Program} {w : World} {A : Around} {E : Value → Shared → Prop} {s : Shared} {C : Cx} {R : PH} {ms : List (Str × Value)} {own : List (Addr × Obj)}
   {x lr : Addr} {u : Value} {t : Tk} {us : List Value} {n : Nat} {f : Obj → List (Addr × Obj)} {Q : Value → Shared → Prop} (S : St w C R ms own s) (ok : Ok A 3) (I : FeedR R x lr) (U : OwnF lr (lstO us.reverse n) own f) (hz : us.length ≤ 1000000) (hu : TokAt R u t) (ht : okT t)
   (ret : ∀ n' s', St w C R ms (f (lstO (u :: us).reverse n')) s' → Q .none s') :
   wpAny (model prog w) A (call (.ref 155) [.ref x, u]) Q E s := by
  have hsz := sizeLine_eq
  k_dflt (refine' x_enter S [(lr, lstO us.reverse n)] ?h17 ?nd7 ?ho7 ?hcd7 ?hbind7 ?hms7 ?hloc7 ?hcell7 ?hco7 ?hgen7 ?hk7 ok ?h7 (binds := [(Str.ofString "self", .ref x), (Str.ofString "token", u)]) (ms₁ := [(Str.ofString "token", u), (Str.ofString "self", .ref x)]); (case h17 => (intro p hp; rw [List.mem_singleton.mp hp]; exact U.mem)); (case nd7 => simp); (case ho7 => k_is); (case hcd7 => k_is); (case hbind7 => exact BindsTo.of_eq rfl); (case hms7 => exact rfl); (case hloc7 => exact locs rfl); (case hcell7 => decide); (case hco7 => rfl); (case hgen7 => rfl); (case hk7 => rfl))
  intro C' A' env s₁ hC' F ok' S₁
  conv at F in (pSc _) => whnf
  dsimp only at F
  conv in (pB _) => whnf
  obtain ⟨lo, I, ho⟩ := I
  repeat' (first | walk_at "slL" | walk_at "w" | ((rename St _ _ _ _ _ _ => S0); (with_reducible refine' is_token_spec S0 ok' hu ht ?_); clear S0; intro _ _))
  rename St _ _ _ _ _ _ => S9
  rw [← List.reverse_cons] at S9
  exact ret _ _ (S.exit1 U hC' S9 (.head _) Le.rfl')

theorem feed_left_spec {prog : Program} {w : World} {A : Around} {E : Value → Shared → Prop} {s : Shared} {C : Cx} {R : PH} {ms : List (Str × Value)} {own : List (Addr × Obj)}
   {x lr : Addr} {us : List Value} {n : Nat} {f : Obj → List (Addr × Obj)} {Q : Value → Shared → Prop} (S : St w C R ms own s) (ok : Ok A 1) (I : FeedR R x lr) (U : OwnF lr (lstO us.reverse n) own f) (hz : us.length ≤ 1000000)
   (ret : ∀ a s', St w C R ms ((a, lstO us 0) :: own) s' → Q (.ref a) s') :
   wpAny (model prog w) A (call (.ref 169) [.ref x]) Q E s := by
  have hsz := sizeLine_eq
  k_dflt (refine' x_enter S [(lr, lstO us.reverse n)] ?h18 ?nd8 ?ho8 ?hcd8 ?hbind8 ?hms8 ?hloc8 ?hcell8 ?hco8 ?hgen8 ?hk8 ok ?h8 (binds := [(Str.ofString "self", .ref x)]) (ms₁ := [(Str.ofString "self", .ref x)]); (case h18 => (intro p hp; rw [List.mem_singleton.mp hp]; exact U.mem)); (case nd8 => simp); (case ho8 => k_is); (case hcd8 => k_is); (case hbind8 => exact BindsTo.of_eq rfl); (case hms8 => exact rfl); (case hloc8 => exact locs rfl); (case hcell8 => decide); (case hco8 => rfl); (case hgen8 => rfl); (case hk8 => rfl))
  intro C' A' env s₁ hC' F ok' S₁
  conv at F in (pSc _) => whnf
  dsimp only at F
  conv in (pB _) => whnf
  obtain ⟨lo, I, ho⟩ := I
  repeat' (first | walk_at "slL" | walk_at "w")
  rename St _ _ _ _ _ _ => S9
  rw [List.reverse_reverse] at S9
  have nd := S9.nd
  have q := S.exit1N U hC' S9 (.tail _ (.head _)) (.head _) (by simp at nd; exact nd) Le.rfl'
  rw [U.same] at q
  exact ret _ _ q

theorem feed_outer_spec {prog : Program} {w : World} {A : Around} {E : Value → Shared → Prop} {s : Shared} {C : Cx} {R : PH} {ms : List (Str × Value)} {own : List (Addr × Obj)}
   {x lr : Addr} {u : Value} {Q : Value → Shared → Prop} (S : St w C R ms own s) (ok : Ok A 1) (I : FeedR R x lr)
   (ret : ∀ s', St w C R ms own s' → Q (.bool false) s') :
   wpAny (model prog w) A (call (.ref 176) [.ref x, u]) Q E s := by
  k_dflt (refine' x_enter S [] ?h19 ?nd9 ?ho9 ?hcd9 ?hbind9 ?hms9 ?hloc9 ?hcell9 ?hco9 ?hgen9 ?hk9 ok ?h9 (binds := [(Str.ofString "self", .ref x), (Str.ofString "token", u)]) (ms₁ := [(Str.ofString "token", u), (Str.ofString "self", .ref x)]); (case h19 => (intro p hp; cases hp)); (case nd9 => simp); (case ho9 => k_is); (case hcd9 => k_is); (case hbind9 => exact BindsTo.of_eq rfl); (case hms9 => exact rfl); (case hloc9 => exact locs rfl); (case hcell9 => decide); (case hco9 => rfl); (case hgen9 => rfl); (case hk9 => rfl))
  intro C' A' env s₁ hC' F ok' S₁
  conv at F in (pSc _) => whnf
  dsimp only at F
  conv in (pB _) => whnf
  obtain ⟨lo, I, ho⟩ := I
  repeat' (first | walk_at "slL" | walk_at "w")
  rename St _ _ _ _ _ _ => S9
  exact ret _ (S.exit0 hC' S9 Le.rfl')

theorem token_wanted_spec {prog : Program} {w : World} {A : Around} {E : Value → Shared → Prop} {s : Shared} {C : Cx} {R : PH} {ms : List (Str × Value)} {own : List (Addr × Obj)}
   {x lr : Addr} {u : Value} {t : Tk} {us : List Value} {n : Nat} {f : Obj → List (Addr × Obj)} {Q : Value → Shared → Prop} (S : St w C R ms own s) (ok : Ok A 2) (I : FeedR R x lr) (U : OwnF lr (lstO (u :: us).reverse n) own f) (hz : us.length < 1000000) (hu : TokAt R u t)
   (ret : ∀ n' s', St w C R ms (f (lstO us.reverse n')) s' → Q u s') :
   wpAny (model prog w) A (call (.ref 225) [.ref x]) Q E s := by
  have hsz := sizeLine_eq
  obtain ⟨a, ta, tb, rfl, hr⟩ := hu
  k_dflt (refine' x_enter S [(lr, lstO (.ref a :: us).reverse n)] ?h110 ?nd10 ?ho10 ?hcd10 ?hbind10 ?hms10 ?hloc10 ?hcell10 ?hco10 ?hgen10 ?hk10 ok ?h10 (binds := [(Str.ofString "feed", .ref x)]) (ms₁ := [(Str.ofString "feed", .ref x)]); (case h110 => (intro p hp; rw [List.mem_singleton.mp hp]; exact U.mem)); (case nd10 => simp); (case ho10 => k_is); (case hcd10 => k_is); (case hbind10 => exact BindsTo.of_eq rfl); (case hms10 => exact rfl); (case hloc10 => exact locs rfl); (case hcell10 => decide); (case hco10 => rfl); (case hgen10 => rfl); (case hk10 => rfl))
  intro C' A' env s₁ hC' F ok' S₁
  conv at F in (pSc _) => whnf
  dsimp only at F
  conv in (pB _) => whnf
  have I' := I
  obtain ⟨lo, I, ho⟩ := I
  repeat' (first | walk_at "slL" | walk_at "w" | ((rename St _ _ _ _ _ _ => S0); (refine feed_next_spec S0 ok' I' (by k_updF) (by simp; omega) (by intro q; cases q) ?_); clear S0; intro u' us' _ _ q _; cases q) | ((rename St _ _ _ _ _ _ => S0); (with_reducible refine' feed_outer_spec S0 ok' I' ?_); clear S0; intro _ _))
  rename St _ _ _ _ _ _ => S9
  exact ret _ _ (S.exit1 U hC' S9 (.head _) Le.rfl')
theorem check_par_spec {prog : Program} {w : World} {A : Around} {E : Value → Shared → Prop} {s : Shared} {C : Cx} {R : PH} {ms : List (Str × Value)} {own : List (Addr × Obj)}
   {u v : Value} {t p : Tk} {b : Bool} {Q : Value → Shared → Prop} (S : St w C R ms own s) (ok : Ok A 10) (hu : TokAt R u t) (hv : TokAt R v p) (hne : t ≠ p)
   (ret : ∀ s', St w C R ms own s' → Q .none s') :
   wpAny (model prog w) A (call (.ref 239) [u, v, .bool b]) Q E s := by
  k_dflt (refine' x_enter S [] ?h111 ?nd11 ?ho11 ?hcd11 ?hbind11 ?hms11 ?hloc11 ?hcell11 ?hco11 ?hgen11 ?hk11 ok ?h11 (binds := [(Str.ofString "token", u), (Str.ofString "par", v), (Str.ofString "is_long", .bool b)]) (ms₁ := [(Str.ofString "is_long", .bool b), (Str.ofString "par", v), (Str.ofString "token", u)]); (case h111 => (intro p hp; cases hp)); (case nd11 => simp); (case ho11 => k_is); (case hcd11 => k_is); (case hbind11 => exact BindsTo.of_eq rfl); (case hms11 => exact rfl); (case hloc11 => exact locs rfl); (case hcell11 => decide); (case hco11 => rfl); (case hgen11 => rfl); (case hk11 => rfl))
  intro C' A' env s₁ hC' F ok' S₁
  conv at F in (pSc _) => whnf
  dsimp only at F
  conv in (pB _) => whnf
  repeat' (first | walk_at "w")
  · rename St _ _ _ _ _ _ => S9
    exact ret _ (S.exit0 hC' S9 Le.rfl')

theorem slid_spec {prog : Program} {w : World} {A : Around} {E : Value → Shared → Prop} {s : Shared} {C : Cx} {R : PH} {ms : List (Str × Value)} {own : List (Addr × Obj)}
   {v u : Value} {tm : Tok} {Q : Value → Shared → Prop} (S : St w C R ms own s) (ok : Ok A 1)
   (ret : ∀ b tb tc R' s', Le R R' → R' b = some (tupO [.int 0 tb, .int 0 tc]) → St w C R' ms own s' → Q (.ref b) s') :
   wpAny (model prog w) A (call (.ref 232) [v, .int 0 tm, u]) Q E s := by
  k_dflt (refine' x_enter S [] ?h112 ?nd12 ?ho12 ?hcd12 ?hbind12 ?hms12 ?hloc12 ?hcell12 ?hco12 ?hgen12 ?hk12 ok ?h12 (binds := [(Str.ofString "delimiter", v), (Str.ofString "matched", .int 0 tm), (Str.ofString "token", u)]) (ms₁ := [(Str.ofString "token", u), (Str.ofString "matched", .int 0 tm), (Str.ofString "delimiter", v)]); (case h112 => (intro p hp; cases hp)); (case nd12 => simp); (case ho12 => k_is); (case hcd12 => k_is); (case hbind12 => exact BindsTo.of_eq rfl); (case hms12 => exact rfl); (case hloc12 => exact locs rfl); (case hcell12 => decide); (case hco12 => rfl); (case hgen12 => rfl); (case hk12 => rfl))
  intro C' A' env s₁ hC' F ok' S₁
  conv at F in (pSc _) => whnf
  dsimp only at F
  conv in (pB _) => whnf
  repeat' (first | walk_at "w")
  rename St _ _ _ _ _ _ => S₂
  refine x_forRng ok'.handled S₂ (by assumption) (by decide) (by decide) (fun _ _ => rfl) F (fun i R₁ ms₁ own₁ => R₁ = _ ∧ own₁ = _ ∧ ms₁ = _) ⟨rfl, rfl, rfl⟩ ?_ ?_
  · intro C₁ i t R₁ ms₁ own₁ s₁ F₁ bk hkk hi
    exact absurd hi (by simp)
  · rintro R₁ ms₁ own₁ s₂ le ⟨rfl, rfl, rfl⟩ S₃
    repeat' (first | walk_at "w")
    rename St _ _ _ _ _ _ => S9
    exact ret _ _ _ _ _ (by k_ownIn) (by assumption) (S.exit0 hC' S9 (by k_ownIn))

/-- what a group takes -/
def grp : Nat → List Tk → Option (List Tk × List Tk)
  | 0, ts => some ([], ts)
  | _ + 1, [] => none
  | d + 1, t :: ts => if t.1 = 1 then (grp (d + 2) ts).map (fun p => (t :: p.1, p.2)) else if t.1 = 2 then (grp d ts).map (fun p => (t :: p.1, p.2)) else (grp (d + 1) ts).map (fun p => (t :: p.1, p.2))
theorem grp_step {d : Nat} {t : Tk} {ts g rest : List Tk} (h : grp (d + 1) (t :: ts) = some (g, rest)) : ∃ (d' : Nat) (g' : List Tk), g = t :: g' ∧ grp d' ts = some (g', rest) ∧ (t.1 = 1 → (d' : Int) = d + 2) ∧ (t.1 ≠ 1 → t.1 = 2 → (d' : Int) = d) ∧ (t.1 ≠ 1 → t.1 ≠ 2 → (d' : Int) = d + 1) := by
  unfold grp at h
  split at h
  · obtain ⟨p, hp, e⟩ := Option.map_eq_some_iff.mp h
    cases e
    exact ⟨d + 2, _, rfl, hp, by omega⟩
  · split at h
    · obtain ⟨p, hp, e⟩ := Option.map_eq_some_iff.mp h
      cases e
      exact ⟨d, _, rfl, hp, by omega⟩
    · obtain ⟨p, hp, e⟩ := Option.map_eq_some_iff.mp h
      cases e
      exact ⟨d + 1, _, rfl, hp, by omega⟩
inductive GrpI (R : PH) (us : List Value) (v u : Value) (b : Bool) (t0 p : Tk) (g rest : List Tk) (x fa lr : Addr) (k : Nat) (R₁ : PH) (ms₁ : List (Str × Value)) (own₁ : List (Addr × Obj)) : Prop
  | mk (d : Nat) (us_i : List Value) (ts_i g_i : List Tk) (ws : List Value) (fs : List Tk) (n1 n2 : Nat) (td : Tok) (dI : Int) (tl : List (Str × Value)) (h1 : dI = (d : Int)) (h2 : R = R₁) (h3 : ms₁ = (Str.ofString "is_long", .bool b) :: (Str.ofString "par", v) :: (Str.ofString "first", u) :: (Str.ofString "feed", .ref x) :: (Str.ofString "found", .ref fa) :: (Str.ofString "depth", .int dI td) :: tl) (h4 : (∀ z, PutM (Str.ofString "token") z ((Str.ofString "is_long", .bool b) :: (Str.ofString "par", v) :: (Str.ofString "first", u) :: (Str.ofString "feed", .ref x) :: (Str.ofString "found", .ref fa) :: (Str.ofString "depth", .int dI td) :: tl) [(Str.ofString "is_long", .bool b), (Str.ofString "par", v), (Str.ofString "first", u), (Str.ofString "feed", .ref x), (Str.ofString "found", .ref fa), (Str.ofString "depth", .int dI td), (Str.ofString "token", z)])) (h5 : own₁ = [(fa, lstO ws n1), (lr, lstO us_i.reverse n2)]) (h6 : grp d ts_i = some (g_i, rest)) (h7 : ToksAt R us_i ts_i) (h8 : ToksAt R ws fs) (h9 : fs ++ g_i = t0 :: g) (h10 : k = us_i.length) (h11 : ws.length + us_i.length = us.length + 1) (h12 : ∀ t ∈ ts_i, t ≠ p)
theorem group_spec {prog : Program} {w : World} {A : Around} {E : Value → Shared → Prop} {s : Shared} {C : Cx} {R : PH} {ms : List (Str × Value)} {own : List (Addr × Obj)}
   {x lr : Addr} {u v : Value} {p t0 : Tk} {b : Bool} {us : List Value} {ts g rest : List Tk} {n : Nat} {f : Obj → List (Addr × Obj)} {Q : Value → Shared → Prop} (S : St w C R ms own s) (ok : Ok A 12) (I : FeedR R x lr) (U : OwnF lr (lstO us.reverse n) own f) (hz : us.length < 1000000)
   (hus : ToksAt R us ts) (hu0 : TokAt R u t0) (hv : TokAt R v p) (hne : ∀ t ∈ ts, t ≠ p) (hg : grp 1 ts = some (g, rest))
   (ret : ∀ a ws us' n' n2 s', ToksAt R ws (t0 :: g) → ToksAt R us' rest → us'.length ≤ us.length → ws.length ≤ us.length + 1 → St w C R ms ((a, lstO ws n2) :: f (lstO us'.reverse n')) s' → Q (.ref a) s') :
   wpAny (model prog w) A (call (.ref 246) [.ref x, u, v, .bool b]) Q E s := by
  have hsz := sizeLine_eq
  k_dflt (refine' x_enter S [(lr, lstO us.reverse n)] ?h113 ?nd13 ?ho13 ?hcd13 ?hbind13 ?hms13 ?hloc13 ?hcell13 ?hco13 ?hgen13 ?hk13 ok ?h13 (binds := [(Str.ofString "feed", .ref x), (Str.ofString "first", u), (Str.ofString "par", v), (Str.ofString "is_long", .bool b)]) (ms₁ := [(Str.ofString "is_long", .bool b), (Str.ofString "par", v), (Str.ofString "first", u), (Str.ofString "feed", .ref x)]); (case h113 => (intro p hp; rw [List.mem_singleton.mp hp]; exact U.mem)); (case nd13 => simp); (case ho13 => k_is); (case hcd13 => k_is); (case hbind13 => exact BindsTo.of_eq rfl); (case hms13 => exact rfl); (case hloc13 => exact locs rfl); (case hcell13 => decide); (case hco13 => rfl); (case hgen13 => rfl); (case hk13 => rfl))
  intro C' A' env s₁ hC' F ok' S₁
  conv at F in (pSc _) => whnf
  dsimp only at F
  conv in (pB _) => whnf
  repeat' (first | walk_at "w")
  rename_i fa _ _ td0 _ _ S₂
  refine x_while S₂ (GrpI R us v u b t0 p g rest x fa lr) us.length
      ⟨1, us, ts, g, [u], [t0], _, _, _, 1, [], rfl, rfl, rfl, fun _ => by k_allIn, rfl, hg, hus, .cons hu0 .nil, rfl, rfl, by simp [Nat.add_comm], hne⟩ ?_
  rintro k R₁ ms₁ own₁ s₁ le ⟨d, us_i, ts_i, g_i, ws, fs, n1, n2, td, dI, tl, hdI, rfl, rfl, hput, rfl, hg_i, hus_i, hws, hfs, rfl, hN, hne_i⟩ S₁
  clear S₂ le
  rcases d with _ | d
  · simp only [grp, Option.some.injEq, Prod.mk.injEq] at hg_i
    obtain ⟨rfl, rfl⟩ := hg_i
    repeat' (first | walk_at "w")
    · rename St _ _ _ _ _ _ => S9
      have nd := S9.nd
      have hl1 := hws.length
      have hl2 := congrArg List.length hfs
      rw [List.append_nil, List.length_cons] at hl2
      refine ret _ _ _ _ _ _ ?_ hus_i (by omega) (by omega) (S.exit1N U hC' S9 (.tail _ (.head _)) (.head _) (by simp at nd; exact nd) Le.rfl')
      rw [List.append_nil] at hfs; rw [← hfs]; exact hws
  · cases hus_i with
    | nil => cases hg_i
    | @cons u1 t1 us_j ts_j hu1 hus_j =>
      have hne1 := hne_i t1 (.head _)
      obtain ⟨d', g', rfl, hg', hd1, hd2, hd3⟩ := grp_step hg_i
      obtain ⟨a1, ta1, tb1, rfl, hr1⟩ := hu1
      have hu1 : TokAt R (.ref a1) t1 := ⟨a1, ta1, tb1, rfl, hr1⟩
      repeat' (first | ((with_reducible show wpAny _ _ (storeName _ _ _) _ _ _); rename St _ _ _ _ _ _ => S0; refine x_store S0 (by assumption) rfl (hput _) ?_; clear S0; intro _ _) | walk_at "w" | ((with_reducible show wpAny _ _ (call (.ref 225) _) _ _ _); (rename St _ _ _ _ _ _ => S0); (refine token_wanted_spec S0 (ok'.mono (by omega)) I (by k_updF) (by rw [List.length_cons] at hN; omega) hu1 ?_); clear S0; intro _ _ _) | ((with_reducible show wpAny _ _ (call (.ref 239) _) _ _ _); (rename St _ _ _ _ _ _ => S0); (refine check_par_spec S0 (ok'.mono (by omega)) hu1 hv hne1 ?_); clear S0; intro _ _))
      all_goals (rename St _ _ _ _ _ _ => S9)
      all_goals exact ⟨R, _, _, Le.rfl', ⟨us_j.length, by simp, d', us_j, ts_j, g', ws ++ [.ref a1], fs ++ [t1], _, _, _, _, _, by omega, rfl, rfl, fun z => by k_allIn, rfl, hg', hus_j, hws.snoc hu1, by simpa using hfs, rfl, by simp at hN ⊢; omega, fun t ht => hne_i t (.tail _ ht)⟩, S9⟩
/-! forests and rows, as data -/
inductive T
  | nil : T
  | leaf (s c : Int) (r : T) : T
  | call (m : Nat) (a r : T) : T
  | row (f r : T) : T

def T.toks : T → List Tk
  | .nil => []
  | .leaf s c r => (if s = 0 then (11, c) else (5, c)) :: r.toks
  | .call m a r => (0, (m : Int)) :: (a.toks ++ r.toks)
  | .row f r => (1, 123) :: (f.toks ++ (2, 125) :: r.toks)
def T.app : T → T → T
  | .nil, u => u
  | .leaf s c r, u => .leaf s c (r.app u)
  | .call m a r, u => .call m a (r.app u)
  | .row f r, u => .row f (r.app u)
def T.rows : T → List T
  | .row f r => f :: r.rows
  | _ => []
def T.sub (g : List T) : T → T
  | .nil => .nil
  | .leaf s c r => if s = 0 then .leaf s c (r.sub g) else ((g[(c - 1).toNat]?).getD .nil).app (r.sub g)
  | .call m a r => .call m (a.sub g) (r.sub g)
  | .row f r => .row (f.sub g) (r.sub g)
abbrev Mac := Nat → List (List Tk) → List Tk
mutual
def T.ev (mac : Mac) (g : List (List Tk)) : T → List Tk
  | .nil => []
  | .leaf s c r => (if s = 0 then [(11, c)] else (g[(c - 1).toNat]?).getD []) ++ r.ev mac g
  | .call m a r => mac m (a.evR mac g) ++ r.ev mac g
  | .row _ _ => []
def T.evR (mac : Mac) (g : List (List Tk)) : T → List (List Tk)
  | .row f r => f.ev mac g :: r.evR mac g
  | _ => []
end
/-- told: how many arguments each macro takes that may be called; inn: how many parameters there are -/
def T.wf (cn : List Nat) (inn : Nat) : Bool → T → Prop
  | _, .nil => True
  | false, .leaf s c r => ((s = 0 ∧ 0 ≤ c ∧ c ≤ 255) ∨ (s = 1 ∧ 1 ≤ c ∧ c ≤ inn)) ∧ r.wf cn inn false
  | false, .call m a r => cn[m]? = some a.rows.length ∧ a.wf cn inn true ∧ r.wf cn inn false
  | true, .row f r => f.wf cn inn false ∧ r.wf cn inn true
  | _, _ => False

theorem T.toks_app (t u : T) : (t.app u).toks = t.toks ++ u.toks := by
  induction t <;> simp [T.app, T.toks, *]
theorem T.ev_app (mac : Mac) (g : List (List Tk)) {cn : List Nat} {inn : Nat} (t u : T) (h : t.wf cn inn false) : (t.app u).ev mac g = t.ev mac g ++ u.ev mac g := by
  induction t with
  | nil => simp [T.app, T.ev]
  | leaf s c r ih => simp [T.app, T.ev, ih h.2]
  | call m a r _ ih => simp [T.app, T.ev, ih h.2.2]
  | row f r _ _ => exact h.elim
theorem T.wf_app {cn : List Nat} {inn : Nat} (t u : T) (h : t.wf cn inn false) (hu : u.wf cn inn false) : (t.app u).wf cn inn false := by
  induction t with
  | nil => exact hu
  | leaf s c r ih => exact ⟨h.1, ih h.2⟩
  | call m a r _ ih => exact ⟨h.1, h.2.1, ih h.2.2⟩
  | row f r _ _ => exact h.elim
theorem T.wf_mono {cn cn' : List Nat} {inn inn' : Nat} (hi : inn ≤ inn') (hc : ∀ (m n : Nat), cn[m]? = some n → cn'[m]? = some n) (t : T) (b : Bool) (h : t.wf cn inn b) : t.wf cn' inn' b := by
  induction t generalizing b with
  | nil => simp [T.wf]
  | leaf s c r ih =>
    cases b
    · refine ⟨?_, ih _ h.2⟩
      rcases h.1 with h1 | h1
      · exact .inl h1
      · exact .inr ⟨h1.1, h1.2.1, by omega⟩
    · exact h.elim
  | call m a r iha ih =>
    cases b
    · exact ⟨hc _ _ h.1, iha _ h.2.1, ih _ h.2.2⟩
    · exact h.elim
  | row f r ihf ih =>
    cases b
    · exact h.elim
    · exact ⟨ihf _ h.1, ih _ h.2⟩
theorem T.rows_sub (g : List T) (a : T) {cn : List Nat} {inn : Nat} (h : a.wf cn inn true) : (a.sub g).rows = a.rows.map (T.sub g) := by
  induction a with
  | nil => rfl
  | leaf s c r _ => exact h.elim
  | call m a r _ _ => exact h.elim
  | row f r _ ih => simp [T.sub, T.rows, ih h.2]
theorem T.wf_rows {cn : List Nat} {inn : Nat} (a : T) (h : a.wf cn inn true) : ∀ f ∈ a.rows, f.wf cn inn false := by
  induction a with
  | nil => intro f hf; simp [T.rows] at hf
  | leaf s c r _ => exact h.elim
  | call m a r _ _ => exact h.elim
  | row f r _ ih =>
    intro x hx
    rcases List.mem_cons.mp hx with rfl | hx
    · exact h.1
    · exact ih h.2 x hx
theorem T.wf_sub {cn cn' : List Nat} (hc : ∀ (m n : Nat), cn[m]? = some n → cn'[m]? = some n) {inn : Nat} (g : List T) (hg : ∀ f ∈ g, f.wf cn' 0 false) (t : T) (b : Bool) (h : t.wf cn inn b) : (t.sub g).wf cn' 0 b := by
  induction t generalizing b with
  | nil => simp [T.wf, T.sub]
  | leaf s c r ih =>
    cases b
    · rcases h.1 with h1 | h1
      · have : (T.leaf s c r).sub g = .leaf s c (r.sub g) := by simp [T.sub, h1.1]
        rw [this]
        exact ⟨.inl h1, ih _ h.2⟩
      · have : (T.leaf s c r).sub g = ((g[(c - 1).toNat]?).getD .nil).app (r.sub g) := by simp [T.sub, h1.1]
        rw [this]
        refine T.wf_app _ _ ?_ (ih _ h.2)
        cases e : g[(c - 1).toNat]? with
        | none => simp [T.wf]
        | some f => exact hg f (List.mem_of_getElem? e)
    · exact h.elim
  | call m a r iha ih =>
    cases b
    · refine ⟨?_, iha _ h.2.1, ih _ h.2.2⟩
      rw [T.rows_sub g a h.2.1, List.length_map]; exact hc _ _ h.1
    · exact h.elim
  | row f r ihf ih =>
    cases b
    · exact h.elim
    · exact ⟨ihf _ h.1, ih _ h.2⟩
theorem T.ev_eq (mac : Mac) (g : List (List Tk)) {cn : List Nat} {inn : Nat} (t : T) : (∀ b, t.wf cn inn b → True) := fun _ _ => trivial
theorem T.evR_rows (mac : Mac) (g : List (List Tk)) {cn : List Nat} {inn : Nat} (a : T) (h : a.wf cn inn true) : a.evR mac g = a.rows.map (T.ev mac g) := by
  induction a with
  | nil => simp [T.evR, T.rows]
  | leaf s c r _ => exact h.elim
  | call m a r _ _ => exact h.elim
  | row f r _ ih => simp [T.evR, T.rows, ih h.2]
/-- the arguments put in first, or worked out first: the same -/
theorem T.ev_sub (mac : Mac) {cn cn' : List Nat} {inn : Nat} (g : List T) (g0 : List (List Tk)) (hg : ∀ f ∈ g, f.wf cn' 0 false) (t : T) :
    (t.wf cn inn false → (t.sub g).ev mac g0 = t.ev mac (g.map (T.ev mac g0))) ∧ (t.wf cn inn true → (t.sub g).evR mac g0 = t.evR mac (g.map (T.ev mac g0))) := by
  induction t with
  | nil => simp [T.sub, T.ev, T.evR]
  | leaf s c r ih =>
    refine ⟨fun h => ?_, fun h => h.elim⟩
    rcases h.1 with h1 | h1
    · simp only [T.sub, T.ev, h1.1, if_true, ih.1 h.2]
    · have e : (T.leaf s c r).sub g = ((g[(c - 1).toNat]?).getD .nil).app (r.sub g) := by simp [T.sub, h1.1]
      have e2 : (T.leaf s c r).ev mac (g.map (T.ev mac g0)) = ((g.map (T.ev mac g0))[(c - 1).toNat]?).getD [] ++ r.ev mac (g.map (T.ev mac g0)) := by simp [T.ev, h1.1]
      rw [e, e2, ← ih.1 h.2, List.getElem?_map]
      cases q : g[(c - 1).toNat]? with
      | none => simp [T.app]
      | some f => simp only [Option.getD_some, Option.map_some]; exact T.ev_app mac g0 f _ (hg f (List.mem_of_getElem? q))
  | call m a r iha ih =>
    refine ⟨fun h => ?_, fun h => h.elim⟩
    simp only [T.sub, T.ev, iha.2 h.2.1, ih.1 h.2.2]
  | row f r ihf ih =>
    refine ⟨fun h => h.elim, fun h => ?_⟩
    simp only [T.sub, T.evR, ihf.1 h.1, ih.2 h.2]
/-! groups -/
theorem T.grp_pass (t : T) (b : Bool) {cn : List Nat} {inn : Nat} (h : t.wf cn inn b) : ∀ (d : Nat) (r : List Tk), grp (d + 1) (t.toks ++ r) = (grp (d + 1) r).map fun p => (t.toks ++ p.1, p.2) := by
  have tr : ∀ (d : Nat) (u : Tk) (us : List Tk), u.1 ≠ 1 → u.1 ≠ 2 → grp (d + 1) (u :: us) = (grp (d + 1) us).map fun p => (u :: p.1, p.2) := fun d u us h1 h2 => by
    conv => lhs; unfold grp
    rw [if_neg h1, if_neg h2]
  induction t generalizing b with
  | nil => intro d r; simp [T.toks]
  | leaf s c r' ih =>
    intro d r
    cases b with
    | true => exact h.elim
    | false =>
      show grp (d + 1) ((if s = 0 then (11, c) else (5, c)) :: (r'.toks ++ r)) = _
      rw [tr, ih false h.2]
      · cases grp (d + 1) r <;> simp [T.toks]
      · split <;> simp
      · split <;> simp
  | call m a r' iha ih =>
    intro d r
    cases b with
    | true => exact h.elim
    | false =>
      show grp (d + 1) ((0, (m : Int)) :: ((a.toks ++ r'.toks) ++ r)) = _
      rw [tr, List.append_assoc, iha true h.2.1, ih false h.2.2]
      · cases grp (d + 1) r <;> simp [T.toks]
      · simp
      · simp
  | row f r' ihf ih =>
    intro d r
    cases b with
    | false => exact h.elim
    | true =>
      show grp (d + 1) ((1, 123) :: ((f.toks ++ (2, 125) :: r'.toks) ++ r)) = _
      conv => lhs; unfold grp
      rw [if_pos rfl, List.append_assoc, ihf false h.1]
      show Option.map _ (Option.map _ (grp (d + 1 + 1) ((2, 125) :: (r'.toks ++ r)))) = _
      conv => lhs; unfold grp
      rw [if_neg (by decide), if_pos rfl, ih true h.2]
      cases grp (d + 1) r <;> simp [T.toks]
theorem T.grp_row (f r : T) {cn : List Nat} {inn : Nat} (h : f.wf cn inn false) (x : List Tk) : grp 1 (f.toks ++ (2, 125) :: x) = some (f.toks ++ [(2, 125)], x) := by
  rw [T.grp_pass f false h 0]
  simp [grp]
/-- no paragraph, and tokens that may lie in a feed -/
theorem T.toks_ok {cn : List Nat} (hc : cn.length ≤ 40) (t : T) (b : Bool) (h : t.wf cn 0 b) : ∀ u ∈ t.toks, okT u ∧ u ≠ (0, 40) := by
  induction t generalizing b with
  | nil => intro u hu; simp [T.toks] at hu
  | leaf s c r ih =>
    cases b with
    | true => exact h.elim
    | false =>
      intro u hu
      rcases List.mem_cons.mp hu with rfl | hu
      · rcases h.1 with h1 | h1
        · rw [if_pos h1.1]
          refine ⟨⟨.inr (.inr (.inr rfl)), h1.2.1, h1.2.2⟩, fun e => ?_⟩
          have := congrArg Prod.fst e; simp at this
        · omega
      · exact ih false h.2 u hu
  | call m a r iha ih =>
    cases b with
    | true => exact h.elim
    | false =>
      intro u hu
      rcases List.mem_cons.mp hu with rfl | hu
      · have hm : m < cn.length := by
          have := h.1
          by_cases q : m < cn.length
          · exact q
          · rw [List.getElem?_eq_none (by omega)] at this; cases this
        refine ⟨⟨.inl rfl, by simp, by simp; omega⟩, fun e => ?_⟩
        have := congrArg Prod.snd e; simp at this; omega
      · rcases List.mem_append.mp hu with hu | hu
        · exact iha true h.2.1 u hu
        · exact ih false h.2.2 u hu
  | row f r ihf ih =>
    cases b with
    | false => exact h.elim
    | true =>
      intro u hu
      rcases List.mem_cons.mp hu with rfl | hu
      · exact ⟨⟨.inr (.inl rfl), by simp, by simp⟩, by simp⟩
      · rcases List.mem_append.mp hu with hu | hu
        · exact ihf false h.1 u hu
        · rcases List.mem_cons.mp hu with rfl | hu
          · exact ⟨⟨.inr (.inr (.inl rfl)), by simp, by simp⟩, by simp⟩
          · exact ih true h.2 u hu
/-! filled in -/
def fillT (g : List (List Tk)) : List Tk → List Tk
  | [] => []
  | t :: r => (if t.1 = 5 then (g[(t.2 - 1).toNat]?).getD [] else [t]) ++ fillT g r
theorem fillT_append (g : List (List Tk)) : ∀ a b : List Tk, fillT g (a ++ b) = fillT g a ++ fillT g b
  | [], b => rfl
  | t :: r, b => by simp only [List.cons_append, fillT, fillT_append g r b, List.append_assoc]
theorem T.fill (g : List T) {cn : List Nat} {inn : Nat} (t : T) (b : Bool) (h : t.wf cn inn b) : fillT (g.map T.toks) t.toks = (t.sub g).toks := by
  induction t generalizing b with
  | nil => rfl
  | leaf s c r ih =>
    cases b with
    | true => exact h.elim
    | false =>
      rcases h.1 with h1 | h1
      · simp [T.toks, T.sub, h1.1, fillT, ih false h.2]
      · have e : (T.leaf s c r).sub g = ((g[(c - 1).toNat]?).getD .nil).app (r.sub g) := by simp [T.sub, h1.1]
        rw [e, T.toks_app]
        have e2 : (T.leaf s c r).toks = (5, c) :: r.toks := by simp [T.toks, h1.1]
        rw [e2]
        show (if (5 : Int) = 5 then ((g.map T.toks)[(c - 1).toNat]?).getD [] else [(5, c)]) ++ fillT (g.map T.toks) r.toks = _
        rw [if_pos rfl, ih false h.2, List.getElem?_map]
        cases g[(c - 1).toNat]? <;> rfl
  | call m a r iha ih =>
    cases b with
    | true => exact h.elim
    | false => simp [T.toks, T.sub, fillT, fillT_append, iha true h.2.1, ih false h.2.2]
  | row f r ihf ih =>
    cases b with
    | false => exact h.elim
    | true => simp [T.toks, T.sub, fillT, fillT_append, ihf false h.1, ih true h.2]

theorem argument_spec {prog : Program} {w : World} {A : Around} {E : Value → Shared → Prop} {s : Shared} {C : Cx} {R : PH} {ms : List (Str × Value)} {own : List (Addr × Obj)}
   {x lr dl : Addr} {u v : Value} {c : Int} {b : Bool} {us : List Value} {ts g rest : List Tk} {n : Nat} {f : Obj → List (Addr × Obj)} {Q : Value → Shared → Prop} (S : St w C R ms own s) (ok : Ok A 14) (I : FeedR R x lr) (U : OwnF lr (lstO (u :: us).reverse n) own f) (hz : us.length < 1000000)
   (hd : R dl = some (tupO [])) (hus : ToksAt R us ts) (hu : TokAt R u (1, 123)) (hv : TokAt R v (0, 40)) (hne : ∀ t ∈ ts, t ≠ (0, 40)) (hg : grp 1 ts = some (g ++ [(2, c)], rest))
   (ret : ∀ a ws us' n' R' s', Le R R' → R' a = some (tupO ws) → ToksAt R' ws g → ToksAt R' us' rest → us'.length ≤ us.length → ws.length ≤ us.length → St w C R' ms (f (lstO us'.reverse n')) s' → Q (.ref a) s') :
   wpAny (model prog w) A (call (.ref 253) [.ref x, .ref dl, v, .bool b]) Q E s := by
  have hsz := sizeLine_eq
  obtain ⟨a1, ta1, tb1, rfl, hr1⟩ := hu
  have hu : TokAt R (.ref a1) (1, 123) := ⟨a1, ta1, tb1, rfl, hr1⟩
  have hpar : ((1, 123) : Tk) ≠ (0, 40) := by decide
  have hblank := S.blank
  have hnb : ((1, 123) : Tk) ≠ (10, 32) := by decide
  k_dflt (refine' x_enter S [(lr, lstO (.ref a1 :: us).reverse n)] ?h114 ?nd14 ?ho14 ?hcd14 ?hbind14 ?hms14 ?hloc14 ?hcell14 ?hco14 ?hgen14 ?hk14 ok ?h14 (binds := [(Str.ofString "feed", .ref x), (Str.ofString "delimiter", .ref dl), (Str.ofString "par", v), (Str.ofString "is_long", .bool b)]) (ms₁ := [(Str.ofString "is_long", .bool b), (Str.ofString "par", v), (Str.ofString "delimiter", .ref dl), (Str.ofString "feed", .ref x)]); (case h114 => (intro p hp; rw [List.mem_singleton.mp hp]; exact U.mem)); (case nd14 => simp); (case ho14 => k_is); (case hcd14 => k_is); (case hbind14 => exact BindsTo.of_eq rfl); (case hms14 => exact rfl); (case hloc14 => exact locs rfl); (case hcell14 => decide); (case hco14 => rfl); (case hgen14 => rfl); (case hk14 => rfl))
  intro C' A' env s₁ hC' F ok' S₁
  conv at F in (pSc _) => whnf
  dsimp only at F
  conv in (pB _) => whnf
  repeat' (first | walk_at "w")
  rename_i fa _ _ tp0 _ _ tm0 _ _ _ S₂
  refine x_while S₂ (fun k R₁ ms₁ own₁ => (k = 1 ∧ R = R₁ ∧ ms₁ = [(Str.ofString "is_long", .bool b), (Str.ofString "par", v), (Str.ofString "delimiter", .ref dl), (Str.ofString "feed", .ref x), (Str.ofString "found", .ref fa), (Str.ofString "parts", .int 0 tp0), (Str.ofString "matched", .int 0 tm0), (Str.ofString "going", .bool true)] ∧ own₁ = [(fa, lstO [] 0), (lr, lstO (.ref a1 :: us).reverse n)]) ∨
      (k = 0 ∧ Le R R₁ ∧ ∃ (ws us' : List Value) (n1 n2 : Nat) (t1 t2 : Tok) (pI : Int) (v1 v2 : Value), pI = 1 ∧ ms₁ = [(Str.ofString "is_long", .bool b), (Str.ofString "par", v), (Str.ofString "delimiter", .ref dl), (Str.ofString "feed", .ref x), (Str.ofString "found", .ref fa), (Str.ofString "parts", .int pI t1), (Str.ofString "matched", .int 0 t2), (Str.ofString "going", .bool false), (Str.ofString "token", v1), (Str.ofString "given", v2)] ∧
        own₁ = [(fa, lstO ws n1), (lr, lstO us'.reverse n2)] ∧ ToksAt R₁ ws ((1, 123) :: g ++ [(2, c)]) ∧ ToksAt R₁ us' rest ∧ us'.length ≤ us.length ∧ ws.length ≤ us.length + 1)) 1 (.inl ⟨rfl, rfl, rfl, rfl⟩) ?_
  rintro k R₁ ms₁ own₁ s₁ le (⟨rfl, rfl, rfl, rfl⟩ | ⟨rfl, le1, ws, us', n1, n2, t1, t2, pI, v1, v2, hpI, rfl, rfl, hws, hus', hl1, hl2⟩) S₁
  · clear le S₂
    repeat' (first | walk_at "slT" | walk_at "w"
                   | ((with_reducible show wpAny _ _ (call (.ref 225) _) _ _ _); (rename St _ _ _ _ _ _ => S0); (refine token_wanted_spec S0 (ok'.mono (by omega)) I (by k_updF) hz hu ?_); clear S0; intro _ _ _)
                   | ((with_reducible show wpAny _ _ (call (.ref 232) _) _ _ _); (rename St _ _ _ _ _ _ => S0); (refine slid_spec S0 (ok'.mono (by omega)) ?_); clear S0; intro _ _ _ _ _ _ _ _)
                   | ((with_reducible show wpAny _ _ (call (.ref 239) _) _ _ _); (rename St _ _ _ _ _ _ => S0); (refine check_par_spec S0 (ok'.mono (by omega)) (hu.le (by k_ownIn)) (hv.le (by k_ownIn)) hpar ?_); clear S0; intro _ _)
                   | ((with_reducible show wpAny _ _ (call (.ref 246) _) _ _ _); (rename St _ _ _ _ _ _ => S0); (refine group_spec S0 (ok'.mono (by omega)) (I.le (by k_ownIn)) (by k_updF) hz (hus.le (by k_ownIn)) (hu.le (by k_ownIn)) (hv.le (by k_ownIn)) hne hg ?_); clear S0; intro _ _ _ _ _ _ _ _ _ _ _))
    rename St _ _ _ _ _ _ => S9
    rename_i hws9 hus9 hla hlb _ _ _ _ _ _ _ _ _ _ leN _ _
    refine ⟨_, _, _, by k_ownIn, ⟨0, by decide, .inr ⟨rfl, by k_ownIn, _, _, _, _, _, _, _, _, _, rfl, rfl, rfl, ToksAt.le hws9 leN, ToksAt.le hus9 leN, hla, hlb⟩⟩, S9.drop1⟩
  · subst hpI
    clear S₂ le
    obtain ⟨w0, wm, wl, rfl, hw0, hwm, hwl⟩ := hws.split2
    obtain ⟨al, tal, tbl, rfl, hrl⟩ := hwl
    have hq : wm.length ≤ us.length := by simp at hl2; omega
    repeat' (first | walk_at "slL" | walk_at "w")
    rename St _ _ _ _ _ _ => S9
    rename_i leN eN
    exact ret _ wm us' _ _ _ (le1.trans leN) eN (ToksAt.le hwm leN) (ToksAt.le hus' leN) hl1 hq (S.exit1 U hC' S9 (.tail _ (.tail _ (.head _))) (le1.trans leN))
def prm (n : Nat) : List Tk := (List.range n).map fun (i : Nat) => ((9 : Int), 1 + (i : Int))
theorem prm_get {n i : Nat} {t : Tk} (h : (prm n)[i]? = some t) : t = (9, 1 + (i : Int)) ∧ i < n := by
  unfold prm at h
  rw [List.getElem?_map] at h
  obtain ⟨j, hj, e⟩ := Option.map_eq_some_iff.mp h
  have hlt := (List.getElem?_eq_some_iff.mp hj).1
  rw [List.length_range] at hlt
  rw [List.getElem?_range hlt] at hj
  cases hj
  exact ⟨e.symm, hlt⟩
theorem prm_length (n : Nat) : (prm n).length = n := by simp [prm]
def MacR (R : PH) (x pa bo : Addr) (l : Bool) (n : Nat) : Prop := ∃ dl ds o t, InstR R x 214 [(Str.ofString "parameters", .ref pa), (Str.ofString "body", .ref bo), (Str.ofString "is_long", .bool l), (Str.ofString "is_outer", .bool o), (Str.ofString "count", .int n t), (Str.ofString "delimiters", .ref dl)] ∧
  R dl = some (tupO ds) ∧ ds.length = n + 1 ∧ ∀ d ∈ ds, ∃ a, d = .ref a ∧ R a = some (tupO [])
theorem MacR.le {R R' : PH} {x pa bo : Addr} {l : Bool} {n : Nat} (h : MacR R x pa bo l n) (le : Le R R') : MacR R' x pa bo l n := by
  obtain ⟨dl, ds, o, t, I, a, b, c⟩ := h
  exact ⟨dl, ds, o, t, I.le le, le _ _ a, b, fun d hd => let ⟨y, e, r⟩ := c d hd; ⟨y, e, le _ _ r⟩⟩
inductive MacI (o l : Bool) (bo pa x ra dx : Addr) (i : Nat) (R₃ : PH) (ms₃ : List (Str × Value)) (own₃ : List (Addr × Obj)) : Prop
  | mk (vs : List Value) (n1 : Nat) (tl : List (Str × Value)) (h1 : vs.length = i + 1) (h2 : (∀ v ∈ vs, ∃ a, v = .ref a ∧ R₃ a = some (lstO [] 0))) (h3 : ms₃ = (Str.ofString "is_outer", .bool o) :: (Str.ofString "is_long", .bool l) :: (Str.ofString "body", .ref bo) :: (Str.ofString "parameters", .ref pa) :: (Str.ofString "self", .ref x) :: (Str.ofString "rows", .ref ra) :: tl) (h4 : (∀ z, PutM (Str.ofString "token") z ((Str.ofString "is_outer", .bool o) :: (Str.ofString "is_long", .bool l) :: (Str.ofString "body", .ref bo) :: (Str.ofString "parameters", .ref pa) :: (Str.ofString "self", .ref x) :: (Str.ofString "rows", .ref ra) :: tl) [(Str.ofString "is_outer", .bool o), (Str.ofString "is_long", .bool l), (Str.ofString "body", .ref bo), (Str.ofString "parameters", .ref pa), (Str.ofString "self", .ref x), (Str.ofString "rows", .ref ra), (Str.ofString "token", z)])) (h5 : own₃ = [(ra, lstO vs n1), (dx, dictOf [] 0)])
theorem macro_spec {prog : Program} {w : World} {A : Around} {E : Value → Shared → Prop} {s : Shared} {C : Cx} {R : PH} {ms : List (Str × Value)} {own : List (Addr × Obj)}
   {pa bo : Addr} {ps bs pos : List Value} {n : Nat} {l o : Bool} {Q : Value → Shared → Prop} (S : St w C R ms own s) (ok : Ok A 6) (hp : R pa = some (tupO ps)) (hps : ToksAt R ps (prm n)) (hn : n ≤ 2) (hb : R bo = some (tupO bs))
   (hpos : pos = [.ref pa, .ref bo, .bool l, .bool o] ∨ (pos = [.ref pa, .ref bo] ∧ l = false ∧ o = false))
   (ret : ∀ x R' s', Le R R' → MacR R' x pa bo l n → St w C R' ms own s' → Q (.ref x) s') :
   wpAny (model prog w) A (call (.ref 214) pos) Q E s := by
  have hsz := sizeLine_eq
  k_dflt (refine' x_class S c_Macro ?ho ?hcd ?hbind ?hms ?hloc ?hcell ?hco ?hgen ?hk ok ?h (binds := fun x => [(Str.ofString "self", x), (Str.ofString "parameters", .ref pa), (Str.ofString "body", .ref bo), (Str.ofString "is_long", .bool l), (Str.ofString "is_outer", .bool o)]) (ms₁ := fun x => [(Str.ofString "is_outer", .bool o), (Str.ofString "is_long", .bool l), (Str.ofString "body", .ref bo), (Str.ofString "parameters", .ref pa), (Str.ofString "self", x)]); (case ho => k_is); (case hcd => k_is); (case hbind => (intro x s X; rcases hpos with rfl | ⟨rfl, rfl, rfl⟩; exact binds_D rfl l_192 rfl rfl rfl s X; exact binds_D rfl l_192 rfl rfl rfl s X)); (case hms => (intro _; exact rfl)); (case hloc => (intro _; exact locs rfl)); (case hcell => decide); (case hco => rfl); (case hgen => rfl); (case hk => rfl))
  intro x dx R₁ s₀ C' A' env s₁ le hx S₀ hC' F ok' S₁
  conv at F in (pSc _) => whnf
  dsimp only at F S₁
  conv in (pB _) => whnf
  have hp₁ := le _ _ hp
  have hb₁ := le _ _ hb
  have hps₁ := hps.le le
  have hD : DIs [] [] := .nil
  repeat' (first | walk_at "w")
  rename_i ea _ ra _ _ S9
  obtain ⟨R₂, le₂, he, S₂⟩ := S9.freeze (d := ea) (by k_upd)
  have hx₂ := le₂ _ _ hx
  have hp₂ := le₂ _ _ hp₁
  have hps₂ := hps₁.le le₂
  refine x_forTup ok'.handled S₂ hp₂ (fun _ _ => rfl) F (MacI o l bo pa x ra dx) ⟨[.ref ea], _, _, rfl, fun v hv => ⟨ea, List.mem_singleton.mp hv, he⟩, rfl, fun z => by k_allIn, rfl⟩ ?_ ?_
  · rintro C₁ i v R₃ ms₃ own₃ s₂ F₁ bk hi hvi le₃ ⟨vs, n1, tl, hlen, hvs, rfl, hput, rfl⟩ S₃
    obtain ⟨t, hti, a1, ta1, tb1, rfl, hr1⟩ := hps₂.get hvi
    obtain ⟨rfl, hin⟩ := prm_get hti
    dsimp only at hr1
    have hr1 := le₃ _ _ hr1
    refine wpAny_assign_Name (x_store S₃ F₁ rfl (hput _) fun s₃ S₄ => ?_)
    clear S₃ S₂ F S9
    repeat' (first | walk_at "w")
    all_goals (try (exfalso; omega))
    rename_i ne _ _ S9
    obtain ⟨R₅, le₅, he₅, S₅⟩ := S9.freeze (d := ne) (by k_upd)
    exact ⟨R₅, _, _, le₅, ⟨vs ++ [.ref ne], _, _, by simp [hlen], fun v hv => by
      rcases List.mem_append.mp hv with hv | hv
      · obtain ⟨a, e, r⟩ := hvs v hv
        exact ⟨a, e, le₅ _ _ r⟩
      · exact ⟨ne, List.mem_singleton.mp hv, he₅⟩, rfl, fun z => by k_allIn, rfl⟩, S₅⟩
  · rintro R₃ ms₃ own₃ s₂ le₃ ⟨vs, n1, tl, hlen, hvs, rfl, hput, rfl⟩ S₃
    have hlp := hps.length
    rw [prm_length] at hlp
    obtain ⟨R₄, le₄, hra, S₄⟩ := S₃.freeze (d := ra) (by k_upd)
    have hx₄ := le₄ _ _ (le₃ _ _ hx₂)
    clear S₃ S₂ S9
    repeat' (first | walk_at "w")
    refine x_comp F rfl rfl (by decide) (fun _ => rfl) ?_
    repeat' (first | walk_at "w")
    rename St _ _ _ _ _ _ => S9
    refine x_compL ok'.handled S9 hra (by omega) (by decide) rfl rfl F (fun i R₅ ys own₅ => own₅ = [(dx, _)] ∧ ∀ d ∈ ys, ∃ a, d = .ref a ∧ R₅ a = some (tupO [])) ⟨rfl, fun _ h => by cases h⟩ ?_ ?_
    · rintro C₁ env₁ i v R₅ ys own₅ s₅ F₁ hi hvi le₅ ⟨rfl, hys⟩ hyl S₅
      obtain ⟨a5, rfl, ha5⟩ := hvs v (List.mem_of_getElem? hvi)
      have ha6 := le₅ _ _ (le₄ _ _ ha5)
      clear F S9
      repeat' (first | walk_at "w")
      rename_i b6 R₆ _ le₆ hb6 S9
      exact ⟨R₆, _, le₆, ⟨rfl, fun d hd => by
        rcases List.mem_append.mp hd with hd | hd
        · obtain ⟨a, e, r⟩ := hys d hd
          exact ⟨a, e, le₆ _ _ r⟩
        · exact ⟨b6, List.mem_singleton.mp hd, hb6⟩⟩, S9⟩
    · rintro D R₅ ys nn own₅ s₅ le₅ ⟨rfl, hys⟩ hyl S₅
      have hx₅ := le₅ _ _ hx₄
      clear S9
      repeat' (first | walk_at "w")
      rename DIs _ _ => D9
      rename St _ _ _ _ _ _ => S9
      rename_i dl R₆ _ le₆ hdl _ _ _
      obtain ⟨R', le', e', S8⟩ := S9.freeze (d := dx) (by k_upd)
      have hcount : ((vs.length : Int) - 1) = (n : Int) := by omega
      rw [hcount] at D9
      have l1 : Le R₁ R' := le₂.trans (le₃.trans (le₄.trans (le₅.trans (le₆.trans le'))))
      refine ret x R' _ (le.trans l1) ⟨dl, ys, o, _, ⟨dx, _, _, l1 _ _ hx, e', D9⟩, le' _ _ hdl, by omega, fun d hd => ?_⟩ (S₀.exitInit0 hC' S8 l1)
      obtain ⟨a, e, r⟩ := hys d hd
      exact ⟨a, e, le' _ _ (le₆ _ _ r)⟩
theorem x_neTne {prog : Program} {w : World} {A : Around} {E : Value → Shared → Prop} {s : Shared} {C : Cx} {R : PH} {ms : List (Str × Value)} {own : List (Addr × Obj)} {a b : Addr} {us : List Value} {ts : List Tk} {Q : Value → Shared → Prop} (S : St w C R ms own s) (ok : Ok A 9) (ha : s.heap.get? a = some (tupO us)) (hb : s.heap.get? b = some (tupO [])) (ra : ToksAt R us ts) (hne : ts ≠ []) (h : Q (.bool true) s) : wpAny (model prog w) A (compareOp .NotEq (.ref a) (.ref b)) Q E s :=
  x_neTup S ok ha hb ra (.nil (P := TokAt R)) (by rw [decide_eq_false hne]; exact h)
theorem prm_split {n : Nat} (h : 0 < n) : prm n = prm (n - 1) ++ [(9, (n : Int))] := by
  obtain ⟨m, rfl⟩ : ∃ m, n = m + 1 := ⟨n - 1, by omega⟩
  simp [prm, List.range_succ]; omega
theorem has_brace_spec {prog : Program} {w : World} {A : Around} {E : Value → Shared → Prop} {s : Shared} {C : Cx} {R : PH} {ms : List (Str × Value)} {own : List (Addr × Obj)}
   {x pa bo : Addr} {ps : List Value} {n : Nat} {l : Bool} {Q : Value → Shared → Prop} (S : St w C R ms own s) (ok : Ok A 10) (M : MacR R x pa bo l n) (hp : R pa = some (tupO ps)) (hps : ToksAt R ps (prm n))
   (ret : ∀ R' s', Le R R' → St w C R' ms own s' → Q (.bool false) s') :
   wpAny (model prog w) A (call (.ref 204) [.ref x]) Q E s := by
  have hsz := sizeLine_eq
  obtain ⟨dl, ds, o, t, I, hdl, hlen, hds⟩ := M
  by_cases hn : n = 0
  · subst hn
    cases hps
    k_dflt (refine' x_enter S [] ?h115 ?nd15 ?ho15 ?hcd15 ?hbind15 ?hms15 ?hloc15 ?hcell15 ?hco15 ?hgen15 ?hk15 ok ?h15 (binds := [(Str.ofString "self", .ref x)]) (ms₁ := [(Str.ofString "self", .ref x)]); (case h115 => (intro p hp; cases hp)); (case nd15 => simp); (case ho15 => k_is); (case hcd15 => k_is); (case hbind15 => exact BindsTo.of_eq rfl); (case hms15 => exact rfl); (case hloc15 => exact locs rfl); (case hcell15 => decide); (case hco15 => rfl); (case hgen15 => rfl); (case hk15 => rfl))
    intro C' A' env s₁ hC' F ok' S₁
    conv at F in (pSc _) => whnf
    dsimp only at F
    conv in (pB _) => whnf
    repeat' (first | walk_at "w")
    rename St _ _ _ _ _ _ => S9
    rename Le _ _ => le9
    exact ret _ _ le9 (S.exit0 hC' S9 le9)
  · have hne : prm n ≠ [] := by rw [prm_split (by omega)]; simp
    obtain ⟨qs, v, rfl, ha, hv⟩ : ∃ qs v, ps = qs ++ [v] ∧ ToksAt R qs (prm (n - 1)) ∧ TokAt R v (9, (n : Int)) := by
      rw [prm_split (by omega)] at hps
      have h2 := hps.rev
      rw [List.reverse_append] at h2
      generalize hq : ps.reverse = q at h2
      cases h2 with
      | @cons wl _ wr _ hl hr =>
        refine ⟨wr.reverse, wl, ?_, by simpa using hr.rev, hl⟩
        have := congrArg List.reverse hq
        rw [List.reverse_reverse, List.reverse_cons] at this
        exact this
    obtain ⟨a1, ta1, tb1, rfl, hr1⟩ := hv
    k_dflt (refine' x_enter S [] ?h116 ?nd16 ?ho16 ?hcd16 ?hbind16 ?hms16 ?hloc16 ?hcell16 ?hco16 ?hgen16 ?hk16 ok ?h16 (binds := [(Str.ofString "self", .ref x)]) (ms₁ := [(Str.ofString "self", .ref x)]); (case h116 => (intro p hp; cases hp)); (case nd16 => simp); (case ho16 => k_is); (case hcd16 => k_is); (case hbind16 => exact BindsTo.of_eq rfl); (case hms16 => exact rfl); (case hloc16 => exact locs rfl); (case hcell16 => decide); (case hco16 => rfl); (case hgen16 => rfl); (case hk16 => rfl))
    intro C' A' env s₁ hC' F ok' S₁
    conv at F in (pSc _) => whnf
    dsimp only at F
    conv in (pB _) => whnf
    repeat' (first | ((rename St _ _ _ _ _ _ => S0); (with_reducible refine' x_neTne S0 (ok'.mono (by omega)) ?a ?b ?c hne ?_); (case a => k_inst); (case b => k_inst); (case c => exact ToksAt.le hps (by assumption))) | walk_at "w")
    all_goals (try (exfalso; omega))
    rename St _ _ _ _ _ _ => S9
    rename Le _ _ => le9
    exact ret _ _ le9 (S.exit0 hC' S9 le9)
theorem seqIndex_zero (n : Nat) : seqIndex? 0 (n + 1) = some 0 := by
  unfold seqIndex?
  simp
theorem x_itemT0 {prog : Program} {w : World} {A : Around} {E : Value → Shared → Prop} {s : Shared} {value slice : Expr} {l : Addr} {vs : List Value} {u : Tok} {v : Value} {Q : Value → Shared → Prop} (e : s.heap.get? l = some (tupO (v :: vs)))
    (hs : subscripted slice false (.ref l) (.int 0 u) = operate [.ref l, .int 0 u] (getItem (.ref l) (.int 0 u))) (h : Q v s) : wpAny (model prog w) A (subscriptTail value slice (.ref l) (.int 0 u)) Q E s :=
  x_itemT e (by decide) (by decide) (j := 0) (by rw [List.length_cons]; exact seqIndex_zero _) (by simp) hs h
def GivR (R : PH) : List Value → List (List Tk) → Prop := All2 fun v ts => ∃ b ws, v = .ref b ∧ R b = some (tupO ws) ∧ ToksAt R ws ts
theorem GivR.le {R R' : PH} {vs : List Value} {gs : List (List Tk)} (h : GivR R vs gs) (le : Le R R') : GivR R' vs gs := All2.imp h fun _ _ ⟨b, ws, e, r, t⟩ => ⟨b, ws, e, le _ _ r, t.le le⟩
inductive CallI (n : Nat) (cn : List Nat) (inn : Nat) (rest : List Tk) (a : T) (us : List Value) (v : Value) (x mx fa lr : Addr) (i : Nat) (R₃ : PH) (ms₃ : List (Str × Value)) (own₃ : List (Addr × Obj)) : Prop
  | mk (ai : T) (usi gvs : List Value) (dn : List (List Tk)) (n1 n2 : Nat) (tl : List (Str × Value)) (h1 : ai.wf cn inn true) (h2 : ai.rows.length + i = n) (h3 : ToksAt R₃ usi (ai.toks ++ rest)) (h4 : dn ++ ai.rows.map T.toks = a.rows.map T.toks) (h5 : GivR R₃ gvs dn) (h6 : usi.length ≤ us.length) (h7 : gvs.length = i) (h8 : (∀ t ∈ ai.toks ++ rest, t ≠ (0, 40))) (h9 : ms₃ = (Str.ofString "par", v) :: (Str.ofString "feed", .ref x) :: (Str.ofString "macro", .ref mx) :: (Str.ofString "found", .ref fa) :: tl) (h10 : (∀ z, PutM (Str.ofString "delimiter") z ((Str.ofString "par", v) :: (Str.ofString "feed", .ref x) :: (Str.ofString "macro", .ref mx) :: (Str.ofString "found", .ref fa) :: tl) [(Str.ofString "par", v), (Str.ofString "feed", .ref x), (Str.ofString "macro", .ref mx), (Str.ofString "found", .ref fa), (Str.ofString "delimiter", z)])) (h11 : own₃ = [(fa, lstO gvs n1), (lr, lstO usi.reverse n2)])
theorem arguments_spec {prog : Program} {w : World} {A : Around} {E : Value → Shared → Prop} {s : Shared} {C : Cx} {R : PH} {ms : List (Str × Value)} {own : List (Addr × Obj)}
   {x mx lr pa bo : Addr} {ps us : List Value} {n k inn : Nat} {l : Bool} {v : Value} {a : T} {cn : List Nat} {rest : List Tk} {f : Obj → List (Addr × Obj)} {Q : Value → Shared → Prop} (S : St w C R ms own s) (ok : Ok A 16) (M : MacR R mx pa bo l n) (hp : R pa = some (tupO ps)) (hps : ToksAt R ps (prm n))
   (I : FeedR R x lr) (U : OwnF lr (lstO us.reverse k) own f) (hz : us.length < 1000000) (ha : a.wf cn inn true) (hn : a.rows.length = n) (hn2 : n ≤ 2) (hus : ToksAt R us (a.toks ++ rest)) (hv : TokAt R v (0, 40)) (hne : ∀ t ∈ a.toks ++ rest, t ≠ (0, 40))
   (ret : ∀ ga gvs us' n' n2 R' s', Le R R' → GivR R' gvs (a.rows.map T.toks) → ToksAt R' us' rest → us'.length ≤ us.length → St w C R' ms ((ga, lstO gvs n2) :: f (lstO us'.reverse n')) s' → Q (.ref ga) s') :
   wpAny (model prog w) A (call (.ref 260) [.ref mx, .ref x, v]) Q E s := by
  have hsz := sizeLine_eq
  have M0 := M
  obtain ⟨dl, ds, o, t, IM, hdl, hlen, hds⟩ := M
  cases ds with
  | nil => simp at hlen
  | cons d0 ds =>
  obtain ⟨a0, rfl, ha0⟩ := hds d0 (.head _)
  k_dflt (refine' x_enter S [(lr, lstO us.reverse k)] ?h117 ?nd17 ?ho17 ?hcd17 ?hbind17 ?hms17 ?hloc17 ?hcell17 ?hco17 ?hgen17 ?hk17 ok ?h17 (binds := [(Str.ofString "macro", .ref mx), (Str.ofString "feed", .ref x), (Str.ofString "par", v)]) (ms₁ := [(Str.ofString "par", v), (Str.ofString "feed", .ref x), (Str.ofString "macro", .ref mx)]); (case h117 => (intro p hp; rw [List.mem_singleton.mp hp]; exact U.mem)); (case nd17 => simp); (case ho17 => k_is); (case hcd17 => k_is); (case hbind17 => exact BindsTo.of_eq rfl); (case hms17 => exact rfl); (case hloc17 => exact locs rfl); (case hcell17 => decide); (case hco17 => rfl); (case hgen17 => rfl); (case hk17 => rfl))
  intro C' A' env s₁ hC' F ok' S₁
  conv at F in (pSc _) => whnf
  dsimp only at F
  conv in (pB _) => whnf
  repeat' (first | ((with_reducible refine' x_itemT0 ?e ?hs ?_); (case e => k_inst); (case hs => with_unfolding_all rfl)) | walk_at "w")
  rename St _ _ _ _ _ _ => S9
  refine x_forTup ok'.handled S9 ha0 (fun _ _ => rfl) F (fun i R₁ ms₁ own₁ => R = R₁ ∧ own₁ = _ ∧ ms₁ = _) ⟨rfl, rfl, rfl⟩ ?_ ?_
  · intro C₁ i t R₁ ms₁ own₁ s₁ F₁ bk hi
    exact absurd hi (by simp)
  · rintro R₁ ms₁ own₁ s₂ le ⟨rfl, rfl, rfl⟩ S₃
    clear le S9
    repeat' (first | walk_at "slT" | walk_at "w")
    rename_i fa _ _ _ _ _ b R₂ _ le₂ hb S₃
    have hb : R₂ b = some (tupO ds) := hb
    have hdl' : ds.length = n := by simpa using hlen
    have M₂ := M0.le le₂
    have I₂ := I.le le₂
    have hv₂ := hv.le le₂
    refine x_forTup ok'.handled S₃ hb (fun _ _ => rfl) F (CallI n cn inn rest a us v x mx fa lr) ⟨a, us, [], [], _, _, [], ha, by omega, hus.le le₂, rfl, .nil, Nat.le_refl _, rfl, hne, rfl, fun z => by k_allIn, rfl⟩ ?_ ?_
    · rintro C₁ i dv R₃ ms₃ own₃ s₂ F₁ bk hi hvi le₃ ⟨ai, usi, gvs, dn, n1, n2, tl, hai, hrl, husi, hdn, hgv, hlu, hgl, hnei, rfl, hput, rfl⟩ S₄
      obtain ⟨ad, rfl, had⟩ := hds dv (.tail _ (List.mem_of_getElem? hvi))
      have had := le₃ _ _ (le₂ _ _ had)
      cases ai with
      | nil => exfalso; simp [T.rows] at hrl; omega
      | leaf => exact hai.elim
      | call => exact hai.elim
      | row fT rT =>
        have e : (T.row fT rT).toks ++ rest = (1, 123) :: (fT.toks ++ (2, 125) :: (rT.toks ++ rest)) := by simp [T.toks]
        rw [e] at husi hnei
        cases husi with
        | @cons u1 _ usj _ hu1 husj =>
        have hrl2 : rT.rows.length + (i + 1) = n := by simp [T.rows] at hrl; omega
        have I₃ := I₂.le le₃
        have M₃ := M₂.le le₃
        have hv₃ := hv₂.le le₃
        have hg := T.grp_row fT rT hai.1 (rT.toks ++ rest)
        have hlu2 : usj.length < us.length := by simp at hlu; omega
        obtain ⟨dl3, ds3, o3, t3, IM3, _⟩ := M₃
        refine wpAny_assign_Name (x_store S₄ F₁ rfl (hput _) fun s₃ S₅ => ?_)
        clear S₄ S₃ F IM
        repeat' (first | walk_at "w" | ((with_reducible show wpAny _ _ (call (.ref 253) _) _ _ _); (rename St _ _ _ _ _ _ => S0); (refine argument_spec S0 (ok'.mono (by omega)) I₃ (by k_updF) (by omega) had husj hu1 hv₃ (fun t ht => hnei t (.tail _ ht)) hg ?_); clear S0; intro _ _ _ _ _ _ _ _ _ _ _ _ _))
        rename St _ _ _ _ _ _ => S9
        rename_i b9 ws9 us9 _ R9 _ le9 hb9 hw9 hu9 hl9 _ _
        exact ⟨R9, _, _, le9, ⟨rT, us9, gvs ++ [.ref b9], dn ++ [fT.toks], _, _, _, hai.2, hrl2, hu9, by rw [← hdn]; simp [T.rows], All2.snoc (GivR.le hgv le9) ⟨b9, ws9, rfl, hb9, hw9⟩, by omega, by simp [hgl], fun t ht => hnei t (.tail _ (List.mem_append_right _ (.tail _ ht))), rfl, fun z => by k_allIn, rfl⟩, S9⟩
    · rintro R₃ ms₃ own₃ s₂ le₃ ⟨ai, usi, gvs, dn, n1, n2, tl, hai, hrl, husi, hdn, hgv, hlu, hgl, hnei, rfl, hput, rfl⟩ S₄
      have M₃ := M₂.le le₃
      have hp₃ := le₃ _ _ (le₂ _ _ hp)
      have hps₃ := (hps.le le₂).le le₃
      have hr0 : ai.rows = [] := List.length_eq_zero_iff.mp (by omega)
      have hai0 : ai.toks = [] := by
        cases ai with
        | nil => rfl
        | leaf => exact hai.elim
        | call => exact hai.elim
        | row => simp [T.rows] at hr0
      rw [hr0, List.map_nil, List.append_nil] at hdn
      rw [hai0, List.nil_append] at husi
      subst hdn
      obtain ⟨dl3, ds3, o3, t3, IM3, _⟩ := id M₃
      clear S₃ IM
      repeat' (first | walk_at "w" | ((with_reducible show wpAny _ _ (call (.ref 204) _) _ _ _); (rename St _ _ _ _ _ _ => S0); (refine has_brace_spec S0 (ok'.mono (by omega)) M₃ hp₃ hps₃ ?_); clear S0; intro _ _ _ _))
      rename St _ _ _ _ _ _ => S9
      rename Le _ _ => le9
      have nd := S9.nd
      have le8 := le₂.trans (le₃.trans le9)
      exact ret _ _ _ _ _ _ _ le8 (GivR.le hgv le9) (ToksAt.le husi le9) hlu (S.exit1N U hC' S9 (.tail _ (.head _)) (.head _) (by simp at nd; exact nd) le8)
theorem fillT_take {g : List (List Tk)} {ts : List Tk} {i : Nat} {t : Tk} (h : ts[i]? = some t) : fillT g (ts.take (i + 1)) = fillT g (ts.take i) ++ (if t.1 = 5 then (g[(t.2 - 1).toNat]?).getD [] else [t]) := by
  have : ts.take (i + 1) = ts.take i ++ [t] := by
    rw [List.take_add_one, h]; rfl
  rw [this, fillT_append]
  simp [fillT]
theorem fillT_le (g : List (List Tk)) (ts : List Tk) (i : Nat) : (fillT g (ts.take i)).length ≤ (fillT g ts).length := by
  conv => rhs; rw [← List.take_append_drop i ts, fillT_append]
  simp
theorem fillT_len {g : List (List Tk)} {K : Nat} (hK : 1 ≤ K) (hg : ∀ x ∈ g, x.length ≤ K) : ∀ ts : List Tk, (fillT g ts).length ≤ ts.length * K
  | [] => by simp [fillT]
  | t :: r => by
    have ih := fillT_len hK hg r
    simp only [fillT, List.length_append, List.length_cons]
    have : (if t.1 = 5 then (g[(t.2 - 1).toNat]?).getD [] else [t]).length ≤ K := by
      split
      · cases e : g[(t.2 - 1).toNat]? with
        | none => simp
        | some x => exact hg x (List.mem_of_getElem? e)
      · simpa using hK
    rw [Nat.add_mul]; omega
theorem T.toks_par {cn : List Nat} {inn : Nat} (t : T) (b : Bool) (h : t.wf cn inn b) : ∀ u ∈ t.toks, u.1 = 5 → 1 ≤ u.2 ∧ u.2 ≤ inn := by
  induction t generalizing b with
  | nil => intro u hu; simp [T.toks] at hu
  | leaf s c r ih =>
    cases b with
    | true => exact h.elim
    | false =>
      intro u hu
      rcases List.mem_cons.mp hu with rfl | hu
      · intro e
        rcases h.1 with h1 | h1
        · rw [if_pos h1.1] at e; simp at e
        · rw [if_neg (by omega)]; exact h1.2
      · exact ih false h.2 u hu
  | call m a r iha ih =>
    cases b with
    | true => exact h.elim
    | false =>
      intro u hu
      rcases List.mem_cons.mp hu with rfl | hu
      · intro e; simp at e
      · rcases List.mem_append.mp hu with hu | hu
        · exact iha true h.2.1 u hu
        · exact ih false h.2.2 u hu
  | row f r ihf ih =>
    cases b with
    | false => exact h.elim
    | true =>
      intro u hu
      rcases List.mem_cons.mp hu with rfl | hu
      · intro e; simp at e
      · rcases List.mem_append.mp hu with hu | hu
        · exact ihf false h.1 u hu
        · rcases List.mem_cons.mp hu with rfl | hu
          · intro e; simp at e
          · exact ih true h.2 u hu
inductive FillI (R : PH) (gs : List (List Tk)) (bt : List Tk) (ga mx fa : Addr) (i : Nat) (R₃ : PH) (ms₃ : List (Str × Value)) (own₃ : List (Addr × Obj)) : Prop
  | mk (ws : List Value) (n1 : Nat) (tl : List (Str × Value)) (h1 : R = R₃) (h2 : ToksAt R ws (fillT gs (bt.take i))) (h3 : ms₃ = (Str.ofString "given", .ref ga) :: (Str.ofString "macro", .ref mx) :: (Str.ofString "found", .ref fa) :: tl) (h4 : (∀ z, PutM (Str.ofString "token") z ((Str.ofString "given", .ref ga) :: (Str.ofString "macro", .ref mx) :: (Str.ofString "found", .ref fa) :: tl) [(Str.ofString "given", .ref ga), (Str.ofString "macro", .ref mx), (Str.ofString "found", .ref fa), (Str.ofString "token", z)])) (h5 : own₃ = [(fa, lstO ws n1)])
theorem filled_spec {prog : Program} {w : World} {A : Around} {E : Value → Shared → Prop} {s : Shared} {C : Cx} {R : PH} {ms : List (Str × Value)} {own : List (Addr × Obj)}
   {mx pa bo ga : Addr} {bs gvs : List Value} {bt : List Tk} {gs : List (List Tk)} {n n2 : Nat} {l : Bool} {Q : Value → Shared → Prop} (S : St w C R ms own s) (ok : Ok A 2) (M : MacR R mx pa bo l n) (hb : R bo = some (tupO bs)) (hbs : ToksAt R bs bt)
   (hg : R ga = some (lstO gvs n2)) (hgv : GivR R gvs gs) (hpar : ∀ t ∈ bt, t.1 = 5 → 1 ≤ t.2 ∧ t.2 ≤ gs.length) (hz : (fillT gs bt).length ≤ 1000000) (hz2 : gs.length ≤ 1000)
   (ret : ∀ a ws n3 s', ToksAt R ws (fillT gs bt) → St w C R ms ((a, lstO ws n3) :: own) s' → Q (.ref a) s') :
   wpAny (model prog w) A (call (.ref 267) [.ref mx, .ref ga]) Q E s := by
  have hsz := sizeLine_eq
  have hgl := All2.length hgv
  obtain ⟨dl, ds, o, t, IM, _⟩ := M
  k_dflt (refine' x_enter S [] ?h118 ?nd18 ?ho18 ?hcd18 ?hbind18 ?hms18 ?hloc18 ?hcell18 ?hco18 ?hgen18 ?hk18 ok ?h18 (binds := [(Str.ofString "macro", .ref mx), (Str.ofString "given", .ref ga)]) (ms₁ := [(Str.ofString "given", .ref ga), (Str.ofString "macro", .ref mx)]); (case h118 => (intro p hp; cases hp)); (case nd18 => simp); (case ho18 => k_is); (case hcd18 => k_is); (case hbind18 => exact BindsTo.of_eq rfl); (case hms18 => exact rfl); (case hloc18 => exact locs rfl); (case hcell18 => decide); (case hco18 => rfl); (case hgen18 => rfl); (case hk18 => rfl))
  intro C' A' env s₁ hC' F ok' S₁
  conv at F in (pSc _) => whnf
  dsimp only at F
  conv in (pB _) => whnf
  repeat' (first | walk_at "w")
  rename_i fa _ _ _ S9
  refine x_forTup ok'.handled S9 hb (fun _ _ => rfl) F (FillI R gs bt ga mx fa) ⟨[], _, [], rfl, .nil, rfl, fun z => by k_allIn, rfl⟩ ?_ ?_
  · rintro C₁ i v R₃ ms₃ own₃ s₂ F₁ bk hi hvi le ⟨ws, n1, tl, rfl, hws, rfl, hput, rfl⟩ S₃
    clear le S9 F
    obtain ⟨tk, hti, hvt⟩ := hbs.get hvi
    have hpk := hpar tk (List.mem_of_getElem? hti)
    have hfill := fillT_take (g := gs) hti
    have hle := fillT_le gs bt (i + 1)
    have hwl := hws.length
    have hvt' := hvt
    obtain ⟨a1, ta1, tb1, rfl, hr1⟩ := hvt
    refine wpAny_assign_Name (x_store S₃ F₁ rfl (hput _) fun s₃ S₄ => ?_)
    clear S₃
    by_cases h5 : tk.1 = 5
    · obtain ⟨p1, p2⟩ := hpk h5
      have hlt : (tk.2 - 1).toNat < gs.length := by omega
      obtain ⟨v, hgi, b, us, rfl, hrb, hus⟩ := All2.get' hgv (List.getElem?_eq_getElem hlt)
      rw [if_pos h5, List.getElem?_eq_getElem hlt, Option.getD_some] at hfill
      have hul := hus.length
      rw [hfill, List.length_append] at hle
      have hsz2 : ws.length + us.length ≤ sizeLine := by omega
      repeat' (first | walk_at "w")
      all_goals (try (exfalso; omega))
      rename St _ _ _ _ _ _ => S9
      exact ⟨R, _, _, Le.rfl', ⟨_, _, _, rfl, by rw [hfill]; exact All2.append hws hus, rfl, fun z => by k_allIn, rfl⟩, S9⟩
    · rw [if_neg h5] at hfill
      rw [hfill, List.length_append] at hle
      repeat' (first | walk_at "w")
      all_goals (try (exfalso; omega))
      rename St _ _ _ _ _ _ => S9
      exact ⟨R, _, _, Le.rfl', ⟨_, _, _, rfl, by rw [hfill]; exact All2.snoc hws hvt', rfl, fun z => by k_allIn, rfl⟩, S9⟩
  · rintro R₃ ms₃ own₃ s₂ le ⟨ws, n1, tl, rfl, hws, rfl, hput, rfl⟩ S₃
    clear le S9
    have hbl := hbs.length
    rw [List.take_of_length_le (by omega)] at hws
    repeat' (first | walk_at "w")
    rename St _ _ _ _ _ _ => S9
    exact ret _ _ _ _ hws (S.exitN hC' S9 (.head _) Le.rfl')
theorem call_spec {prog : Program} {w : World} {A : Around} {E : Value → Shared → Prop} {s : Shared} {C : Cx} {R : PH} {ms : List (Str × Value)} {own : List (Addr × Obj)}
   {x mx lr pa bo : Addr} {ps us bs : List Value} {n k : Nat} {l : Bool} {v : Value} {a b : T} {cn cnb : List Nat} {inn : Nat} {rest : List Tk} {f : Obj → List (Addr × Obj)} {Q : Value → Shared → Prop} (S : St w C R ms own s) (ok : Ok A 17) (M : MacR R mx pa bo l n) (hp : R pa = some (tupO ps)) (hps : ToksAt R ps (prm n))
   (hb : R bo = some (tupO bs)) (hbs : ToksAt R bs b.toks) (hbw : b.wf cnb n false)
   (I : FeedR R x lr) (U : OwnF lr (lstO us.reverse k) own f) (hz : us.length < 1000000) (ha : a.wf cn inn true) (hn : a.rows.length = n) (hn2 : n ≤ 2) (hus : ToksAt R us (a.toks ++ rest)) (hv : TokAt R v (0, 40)) (hne : ∀ t ∈ a.toks ++ rest, t ≠ (0, 40))
   (hz2 : (b.sub a.rows).toks.length ≤ 1000000)
   (ret : ∀ r ws us' n' n2 R' s', Le R R' → ToksAt R' ws (b.sub a.rows).toks → ToksAt R' us' rest → us'.length ≤ us.length → St w C R' ms ((r, lstO ws n2) :: f (lstO us'.reverse n')) s' → Q (.ref r) s') :
   wpAny (model prog w) A (call (.ref 274) [.ref mx, .ref x, v]) Q E s := by
  have hsz := sizeLine_eq
  have hfill := T.fill a.rows b false hbw
  k_dflt (refine' x_enter S [(lr, lstO us.reverse k)] ?h119 ?nd19 ?ho19 ?hcd19 ?hbind19 ?hms19 ?hloc19 ?hcell19 ?hco19 ?hgen19 ?hk19 ok ?h19 (binds := [(Str.ofString "macro", .ref mx), (Str.ofString "feed", .ref x), (Str.ofString "par", v)]) (ms₁ := [(Str.ofString "par", v), (Str.ofString "feed", .ref x), (Str.ofString "macro", .ref mx)]); (case h119 => (intro p hp; rw [List.mem_singleton.mp hp]; exact U.mem)); (case nd19 => simp); (case ho19 => k_is); (case hcd19 => k_is); (case hbind19 => exact BindsTo.of_eq rfl); (case hms19 => exact rfl); (case hloc19 => exact locs rfl); (case hcell19 => decide); (case hco19 => rfl); (case hgen19 => rfl); (case hk19 => rfl))
  intro C' A' env s₁ hC' F ok' S₁
  conv at F in (pSc _) => whnf
  dsimp only at F
  conv in (pB _) => whnf
  repeat' (first | walk_at "w" | ((with_reducible show wpAny _ _ (call (.ref 260) _) _ _ _); (rename St _ _ _ _ _ _ => S0); (refine arguments_spec S0 (ok'.mono (by omega)) M hp hps I (by k_updF) hz ha hn hn2 hus hv hne ?_); clear S0; intro _ _ _ _ _ _ _ _ _ _ _ _))
  rename St _ _ _ _ _ _ => S9
  rename_i ga gvs us' n' n2 R₁ _ le₁ hgv hus' hl _
  obtain ⟨R₂, le₂, hga, S₂⟩ := S9.freeze (d := ga) (by k_upd)
  have l2 := le₁.trans le₂
  clear S9
  refine filled_spec S₂ (ok'.mono (by omega)) (M.le l2) (l2 _ _ hb) (hbs.le l2) hga (GivR.le hgv le₂) (fun t ht h5 => by rw [List.length_map, hn]; exact T.toks_par b false hbw t ht h5) (by rw [hfill]; exact hz2) (by rw [List.length_map]; omega) fun r ws n3 s₃ hws S₃ => ?_
  rw [hfill] at hws
  clear S₂
  repeat' (first | walk_at "w")
  rename St _ _ _ _ _ _ => S9
  have nd := S9.nd
  exact ret _ _ _ _ _ _ _ l2 hws (ToksAt.le hus' le₂) hl (S.exit1N U hC' S9 (.tail _ (.head _)) (.head _) (by simp at nd; exact nd) l2)
/-- the loop of _law_replaced, over forests -/
def run (bs : List T) : Nat → T → List Tk → Nat → Option (List Tk × Bool)
  | 0, _, _, _ => none
  | _ + 1, .nil, fd, _ => some (fd, true)
  | k + 1, .leaf _ c r, fd, sp => run bs k r (fd ++ [(11, c)]) sp
  | k + 1, .call m a r, fd, sp => if 400 < sp ∨ 60 < (a.toks ++ r.toks).length then some (fd, false) else
      run bs k ((((bs[m]?).getD .nil).sub a.rows).app r) fd (sp + (a.toks ++ r.toks).length + (((bs[m]?).getD .nil).sub a.rows).toks.length)
  | _ + 1, .row _ _, _, _ => none
def MacAt (R : PH) (v : Value) (d : Nat × T) : Prop := ∃ x pa bo ps bs l, v = .ref x ∧ MacR R x pa bo l d.1 ∧ R pa = some (tupO ps) ∧ ToksAt R ps (prm d.1) ∧ R bo = some (tupO bs) ∧ ToksAt R bs d.2.toks
theorem MacAt.le {R R' : PH} {v : Value} {d : Nat × T} (h : MacAt R v d) (le : Le R R') : MacAt R' v d := by
  obtain ⟨x, pa, bo, ps, bs, l, e, M, h1, h2, h3, h4⟩ := h
  exact ⟨x, pa, bo, ps, bs, l, e, M.le le, le _ _ h1, h2.le le, le _ _ h3, h4.le le⟩
def DefsOk (ds : List (Nat × T)) : Prop := ds.length ≤ 30 ∧ ∀ d ∈ ds, d.2.wf (ds.map (·.1)) d.1 false ∧ d.1 ≤ 2 ∧ d.2.toks.length ≤ 300
theorem rows_toks_le {cn : List Nat} {inn : Nat} (a : T) (h : a.wf cn inn true) : ∀ f ∈ a.rows, f.toks.length ≤ a.toks.length := by
  induction a with
  | nil => intro f hf; simp [T.rows] at hf
  | leaf => exact h.elim
  | call => exact h.elim
  | row f r _ ih =>
    intro x hx
    rcases List.mem_cons.mp hx with rfl | hx
    · simp [T.toks]; omega
    · have := ih h.2 x hx
      simp [T.toks]; omega
theorem sub_len {cn cn' : List Nat} {inn inn' : Nat} (b a : T) (hb : b.wf cn inn false) (ha : a.wf cn' inn' true) (h1 : b.toks.length ≤ 300) (h2 : a.toks.length ≤ 60) : (b.sub a.rows).toks.length ≤ 18300 := by
  rw [← T.fill a.rows b false hb]
  have := fillT_len (g := a.rows.map T.toks) (K := 61) (by decide) (fun x hx => by
    obtain ⟨f, hf, rfl⟩ := List.mem_map.mp hx
    have := rows_toks_le a ha f hf
    omega) b.toks
  have h3 : b.toks.length * 61 ≤ 300 * 61 := Nat.mul_le_mul_right _ h1
  omega
def NxtAt (R : PH) (tv : Value) (us : List Value) (ts : List Tk) : Prop := (ts = [] ∧ tv = .none ∧ us = []) ∨ ∃ tk tks, ts = tk :: tks ∧ TokAt R tv tk ∧ ToksAt R us tks
theorem feed_next2_spec {prog : Program} {w : World} {A : Around} {E : Value → Shared → Prop} {s : Shared} {C : Cx} {R : PH} {ms : List (Str × Value)} {own : List (Addr × Obj)}
   {x lr : Addr} {us : List Value} {ts : List Tk} {n : Nat} {f : Obj → List (Addr × Obj)} {Q : Value → Shared → Prop} (S : St w C R ms own s) (ok : Ok A 1) (I : FeedR R x lr) (U : OwnF lr (lstO us.reverse n) own f) (hz : us.length ≤ 1000000) (hus : ToksAt R us ts)
   (ret : ∀ u us' n' s', NxtAt R u us' ts → us'.length ≤ us.length → St w C R ms (f (lstO us'.reverse n')) s' → Q u s') :
   wpAny (model prog w) A (call (.ref 148) [.ref x]) Q E s := by
  refine feed_next_spec S ok I U hz (fun e s' S' => ?_) (fun u us' n' s' e S' => ?_)
  · subst e
    cases hus
    exact ret _ [] n _ (.inl ⟨rfl, rfl, rfl⟩) (Nat.le_refl _) (by rw [U.same]; exact S')
  · subst e
    cases hus with
    | @cons _ tk _ tks h1 h2 => exact ret _ _ _ _ (.inr ⟨tk, tks, rfl, h1, h2⟩) (by simp) S'
inductive ReplI (ds : List (Nat × T)) (Fd : List Tk) (e : Bool) (N0 : Nat) (tl ml fa x lr : Addr) (k : Nat) (R₃ : PH) (ms₃ : List (Str × Value)) (own₃ : List (Addr × Obj)) : Prop
  | mk (t : T) (tv : Value) (us ws : List Value) (fd : List Tk) (sp : Nat) (spI : Int) (tsp : Tok) (m1 m2 : Nat) (tls tlA tlB : List (Str × Value)) (h1 : spI = (sp : Int)) (h2 : t.wf (ds.map (·.1)) 0 false) (h3 : run (ds.map (·.2)) k t fd sp = some (Fd, e)) (h4 : NxtAt R₃ tv us t.toks) (h5 : ToksAt R₃ ws fd) (h6 : fd.length + t.toks.length ≤ N0 + sp) (h7 : sp ≤ 20000) (h8 : (∀ z, PutM (Str.ofString "waiting") z tls ((Str.ofString "waiting", z) :: tlA))) (h9 : (∀ z, PutM (Str.ofString "told") z tlA ((Str.ofString "told", z) :: tlB))) (h10 : (∀ z, PutM (Str.ofString "one") z tlB [(Str.ofString "one", z)])) (h11 : ms₃ = (Str.ofString "tokens", .ref tl) :: (Str.ofString "macros", .ref ml) :: (Str.ofString "spent", .int spI tsp) :: (Str.ofString "found", .ref fa) :: (Str.ofString "feed", .ref x) :: (Str.ofString "token", tv) :: tls) (h12 : own₃ = [(fa, lstO ws m1), (lr, lstO us.reverse m2)])
inductive ReplJ (R10 : PH) (tl ml fa x a1 rr lr : Addr) (spI : Int) (us ws9 us9 ws : List Value) (m1 : Nat) (i : Nat) (R₅ : PH) (ms₅ : List (Str × Value)) (own₅ : List (Addr × Obj)) : Prop
  | mk (t8 t9 : Tok) (n5 : Nat) (tl5 : List (Str × Value)) (h1 : R10 = R₅) (h2 : (∀ z, PutM (Str.ofString "one") z tl5 [(Str.ofString "one", z)])) (h3 : ms₅ = (Str.ofString "tokens", .ref tl) :: (Str.ofString "macros", .ref ml) :: (Str.ofString "spent", .int (spI + us.length + ws9.length) t9) :: (Str.ofString "found", .ref fa) :: (Str.ofString "feed", .ref x) :: (Str.ofString "token", .ref a1) :: (Str.ofString "waiting", .int us.length t8) :: (Str.ofString "told", .ref rr) :: tl5) (h4 : own₅ = [(fa, lstO ws m1), (lr, lstO ((ws9.reverse.take i).reverse ++ us9).reverse n5)])
theorem replaced_spec {prog : Program} {w : World} {A : Around} {E : Value → Shared → Prop} {s : Shared} {C : Cx} {R : PH} {ms : List (Str × Value)} {own : List (Addr × Obj)}
   {ml tl : Addr} {mvs vs : List Value} {n1 n2 : Nat} {ds : List (Nat × T)} {t : T} {N0 k0 : Nat} {Fd : List Tk} {e : Bool} {Q : Value → Shared → Prop} (S : St w C R ms own s) (ok : Ok A 20) (hml : R ml = some (lstO mvs n1)) (hmv : All2 (MacAt R) mvs ds) (hds : DefsOk ds)
   (htl : R tl = some (lstO vs n2)) (hvs : ToksAt R vs t.toks) (ht : t.wf (ds.map (·.1)) 0 false) (hN : t.toks.length ≤ N0) (hN0 : N0 ≤ 100000) (hrun : run (ds.map (·.2)) k0 t [] 0 = some (Fd, e))
   (ret : ∀ a ws fa n3 R' s', Le R R' → R' a = some (tupO [.ref fa, .bool e]) → ToksAt R' ws Fd → ws.length ≤ 200000 → St w C R' ms ((fa, lstO ws n3) :: own) s' → Q (.ref a) s') :
   wpAny (model prog w) A (call (.ref 313) [.ref ml, .ref tl]) Q E s := by
  have hsz := sizeLine_eq
  have hok := T.toks_ok (cn := ds.map (·.1)) (by rw [List.length_map]; have := hds.1; omega) t false ht
  have hvl := hvs.length
  k_dflt (refine' x_enter S [] ?h120 ?nd20 ?ho20 ?hcd20 ?hbind20 ?hms20 ?hloc20 ?hcell20 ?hco20 ?hgen20 ?hk20 ok ?h20 (binds := [(Str.ofString "macros", .ref ml), (Str.ofString "tokens", .ref tl)]) (ms₁ := [(Str.ofString "tokens", .ref tl), (Str.ofString "macros", .ref ml)]); (case h120 => (intro p hp; cases hp)); (case nd20 => simp); (case ho20 => k_is); (case hcd20 => k_is); (case hbind20 => exact BindsTo.of_eq rfl); (case hms20 => exact rfl); (case hloc20 => exact locs rfl); (case hcell20 => decide); (case hco20 => rfl); (case hgen20 => rfl); (case hk20 => rfl))
  intro C' A' env s₁ hC' F ok' S₁
  conv at F in (pSc _) => whnf
  dsimp only at F
  conv in (pB _) => whnf
  refine wpAny_execs_cons (x_sw3 (a := Str.ofString "feed") (b := Str.ofString "found") (c := Str.ofString "spent") ok'.handled rfl ?hw ?_)
  case hw =>
    delta swappedStores
    have kk : env.kindOf = fun x => env.scope.names.lookup x := rfl
    rw [F.n] at kk
    rw [kk, F.blk]
    rfl
  repeat' (first | walk_at "w" | ((with_reducible show wpAny _ _ (call (.ref 179) _) _ _ _); (rename St _ _ _ _ _ _ => S0); (refine feed_new_spec S0 (ok'.mono (by omega)) htl hvs (fun u hu => (hok u hu).1) (by omega) ?_); clear S0; intro _ _ _ _ _ _ _ _))
  rename_i x lr n' R₁ _ le₁ hfe fa _ tsp _ ft R₂ _ le₂ hft S9
  refine ⟨_, _, _, _, _, _, _, _, rfl, S9, S9.kR _ _ hft, fun s₂ S₂ => ?_⟩
  clear S9
  have I := hfe.le le₂
  obtain ⟨lo, II, hlo⟩ := id I
  have hvs₂ := hvs.le (le₁.trans le₂)
  have le12 := le₁.trans le₂
  repeat' (first | walk_at "w" | ((with_reducible show wpAny _ _ (call (.ref 148) _) _ _ _); (rename St _ _ _ _ _ _ => S0); (refine feed_next2_spec S0 (ok'.mono (by omega)) I (by k_updF) (by omega) hvs₂ ?_); clear S0; intro _ _ _ _ _ _ _))
  rename_i tv us n3 _ hnx hul _ S9
  refine x_while S9 (ReplI ds Fd e N0 tl ml fa x lr) k0
     ⟨t, tv, us, [], [], 0, 0, tsp, 0, n3, [], [], [], rfl, ht, hrun, hnx, .nil, by simpa using hN, by omega, fun z => .nil, fun z => .nil, fun z => .nil, rfl, rfl⟩ ?_
  rintro k R₃ ms₃ own₃ s₃ le₃ ⟨t, tv, us, ws, fd, sp, spI, tsp, m1, m2, tls, tlA, tlB, hspI, htw, hrk, hnx, hws, hsz1, hsp, hpW, hpT, hpO, rfl, rfl⟩ S₃
  have I₃ := I.le le₃
  obtain ⟨lo, II, hlo⟩ := id I₃
  have l3 := le12.trans le₃
  have hwl := hws.length
  clear S9 hul
  cases t with
  | row => exact htw.elim
  | nil =>
    obtain ⟨_, rfl, rfl⟩ | ⟨_, _, e0, _⟩ := hnx
    · cases k with
      | zero => cases hrk
      | succ k =>
        simp only [run, Option.some.injEq, Prod.mk.injEq] at hrk
        obtain ⟨rfl, rfl⟩ := hrk
        repeat' (first | walk_at "w")
        rename St _ _ _ _ _ _ => S9
        rename Le _ _ => le9
        rename_i hr9
        exact ret _ _ _ _ _ _ (l3.trans le9) hr9 (hws.le le9) (by omega) (S.exitN hC' S9 (.head _) (l3.trans le9))
    · cases e0
  | leaf sk c r =>
    obtain ⟨e0, _⟩ | ⟨tk, tks, e0, htv, husr⟩ := hnx
    · cases e0
    · cases k with
      | zero => cases hrk
      | succ k =>
        have hs0 : sk = 0 := by have := htw.1; omega
        subst hs0
        have e1 : (T.leaf 0 c r).toks = (11, c) :: r.toks := by simp [T.toks]
        rw [e1] at e0 hsz1
        cases e0
        have hrk' : run (ds.map (·.2)) k r (fd ++ [(11, c)]) sp = some (Fd, e) := hrk
        have hul := husr.length
        simp only [List.length_cons] at hsz1
        have htv' := htv
        obtain ⟨a1, ta1, tb1, rfl, hr1⟩ := htv'
        repeat' (first | walk_at "w" | ((with_reducible show wpAny _ _ (call (.ref 148) _) _ _ _); (rename St _ _ _ _ _ _ => S0); (refine feed_next2_spec S0 (ok'.mono (by omega)) I₃ (by k_updF) (by omega) husr ?_); clear S0; intro _ _ _ _ _ _ _))
        rename St _ _ _ _ _ _ => S9
        rename_i u9 us9 n9 _ hnx9 hl9 _
        exact ⟨R₃, _, _, Le.rfl', ⟨k, by omega, r, u9, us9, _, fd ++ [(11, c)], sp, spI, tsp, _, _, tls, tlA, tlB, hspI, htw.2, hrk', hnx9, All2.snoc hws htv, by simp; omega, hsp, hpW, hpT, hpO, rfl, rfl⟩, S9⟩
  | call m a r =>
    obtain ⟨e0, _⟩ | ⟨tk, tks, e0, htv, husr⟩ := hnx
    · cases e0
    cases k with
    | zero => cases hrk
    | succ k =>
    have e1 : (T.call m a r).toks = (0, (m : Int)) :: (a.toks ++ r.toks) := rfl
    rw [e1] at e0 hsz1
    cases e0
    have hul := husr.length
    simp only [List.length_cons] at hsz1
    obtain ⟨a1, ta1, tb1, rfl, hr1⟩ := htv
    dsimp only at hr1
    obtain ⟨d, hd, hda⟩ : ∃ d, ds[m]? = some d ∧ a.rows.length = d.1 := by
      have := htw.1
      rw [List.getElem?_map] at this
      obtain ⟨d, h1, h2⟩ := Option.map_eq_some_iff.mp this
      exact ⟨d, h1, h2.symm⟩
    obtain ⟨mv, hmvi, hmac⟩ := All2.get' hmv hd
    obtain ⟨mx, pa, bo, ps, bs, l, rfl, M, hp, hps, hb, hbs⟩ := hmac.le l3
    have hdk := hds.2 d (List.mem_of_getElem? hd)
    have hbd : (((ds.map (·.2))[m]?).getD .nil) = d.2 := by rw [List.getElem?_map, hd]; rfl
    have hml₃ := l3 _ _ hml
    have hmlt : m < 30 := by have := (List.getElem?_eq_some_iff.mp hd).1; have := hds.1; omega
    have hmx : mvs[Int.toNat (m : Int)]? = some (.ref mx) := hmvi
    have hne : ∀ t ∈ a.toks ++ r.toks, t ≠ (0, 40) := fun u hu => (T.toks_ok (cn := ds.map (·.1)) (by rw [List.length_map]; have := hds.1; omega) _ false htw u (by rw [e1]; exact List.mem_cons_of_mem _ hu)).2
    simp only [run, hbd] at hrk
    by_cases hstop : 400 < sp ∨ 60 < (a.toks ++ r.toks).length
    · rw [if_pos hstop] at hrk
      cases hrk
      repeat' (first | ((with_reducible show wpAny _ _ (storeName _ _ _) _ _ _); (rename St _ _ _ _ _ _ => S0); (refine x_store S0 (by assumption) rfl (by repeat' (first | exact PutM.hit | exact PutM.nil | exact hpW _ | exact hpT _ | exact hpO _ | decide | refine' PutM.miss ?_ ?_)) ?_); clear S0; intro _ _) | walk_at "w" | ((with_reducible show wpAny _ _ (call (.ref 169) _) _ _ _); (rename St _ _ _ _ _ _ => S0); (refine feed_left_spec (us := us) S0 (ok'.mono (by omega)) I₃ (by k_updF) (by omega) ?_); clear S0; intro _ _ _))
      all_goals (try (exfalso; omega))
      all_goals (rename St _ _ _ _ _ _ => S9)
      all_goals (rename Le _ _ => le9)
      all_goals (rename_i hr9)
      all_goals exact ret _ _ _ _ _ _ (l3.trans le9) hr9 (hws.le le9) (by omega) (S.exitN hC' S9 (by walk_at "mem") (l3.trans le9))
    · rw [if_neg hstop] at hrk
      have hal : a.toks.length ≤ 60 := by rw [List.length_append] at hstop; omega
      have hsl := sub_len d.2 a hdk.1 htw.2.1 hdk.2.2 hal
      repeat' (first | ((with_reducible show wpAny _ _ (storeName _ _ _) _ _ _); (rename St _ _ _ _ _ _ => S0); (refine x_store S0 (by assumption) rfl (by repeat' (first | exact PutM.hit | exact PutM.nil | exact hpW _ | exact hpT _ | exact hpO _ | decide | refine' PutM.miss ?_ ?_)) ?_); clear S0; intro _ _) | walk_at "slL" | walk_at "w" | ((with_reducible show wpAny _ _ (call (.ref 169) _) _ _ _); (rename St _ _ _ _ _ _ => S0); (refine feed_left_spec (us := us) S0 (ok'.mono (by omega)) I₃ (by k_updF) (by omega) ?_); clear S0; intro _ _ _) | ((with_reducible show wpAny _ _ (call (.ref 274) _) _ _ _); (rename St _ _ _ _ _ _ => S0); (refine call_spec S0 (ok'.mono (by omega)) M hp hps hb hbs hdk.1 I₃ (by k_updF) (by omega) htw.2.1 hda hdk.2.1 husr S0.par hne (by omega) ?_); clear S0; intro rr ws9 us9 n9 n9b R9 _ le9 hws9 hus9 hl9 _; have hwl9 := All2.length hws9; have hul9 := All2.length hus9))
      all_goals (try (exfalso; omega))
      rename St _ _ _ _ _ _ => S9
      rename_i q _
      obtain ⟨R10, le10, hq, S10⟩ := S9.freeze (d := q) (by k_upd)
      have S11 := S10.drop1.drop1
      clear S9 S10
      have I11 := (I₃.le le9).le le10
      obtain ⟨lo1, II1, hlo1⟩ := id I11
      have hsw : ((d.2.sub a.rows).wf (ds.map (·.1)) 0 false) := T.wf_sub (fun _ _ h => h) a.rows (T.wf_rows a htw.2.1) d.2 false hdk.1
      have hsok := T.toks_ok (cn := ds.map (·.1)) (by rw [List.length_map]; have := hds.1; omega) _ false hsw
      have hwsR := All2.rev (ToksAt.le hws9 le10)
      refine x_forList ok'.handled S11 hq (.inl fun _ _ => rfl) F (ReplJ R10 tl ml fa x a1 rr lr spI us ws9 us9 ws m1) ⟨_, _, _, tlB, rfl, hpO, rfl, rfl⟩ ?_ ?_
      · rintro C₁ i v R₅ ms₅ own₅ s₅ F₁ bk hi hvi le₅ ⟨t8, t9, n5, tl5, rfl, hpO5, rfl, rfl⟩ S₅
        obtain ⟨tk, hti, hvt⟩ := All2.get hwsR hvi
        have hokt := (hsok tk (List.mem_reverse.mp (List.mem_of_getElem? hti))).1
        have hszb : ((ws9.reverse.take i).reverse ++ us9).length ≤ 1000000 := by
          rw [List.length_append, List.length_reverse, List.length_take, List.length_reverse]; omega
        have hnext : (ws9.reverse.take (i + 1)).reverse ++ us9 = v :: ((ws9.reverse.take i).reverse ++ us9) := by
          rw [List.take_add_one, hvi, List.reverse_append]; rfl
        clear le₅ F S11
        refine wpAny_assign_Name (x_store S₅ F₁ rfl (by repeat' (first | exact PutM.hit | exact hpO5 _ | decide | refine' PutM.miss ?_ ?_)) fun s₆ S₆ => ?_)
        clear S₅
        repeat' (first | walk_at "w" | ((with_reducible show wpAny _ _ (call (.ref 155) _) _ _ _); (rename St _ _ _ _ _ _ => S0); (refine feed_back_spec S0 (ok'.mono (by omega)) I11 (by k_updF) hszb hvt hokt ?_); clear S0; intro _ _ _))
        rename St _ _ _ _ _ _ => S9
        rw [← hnext] at S9
        exact ⟨R10, _, _, Le.rfl', ⟨t8, t9, _, _, rfl, fun z => by k_allIn, rfl, rfl⟩, S9⟩
      · rintro R₅ ms₅ own₅ s₅ le₅ ⟨t8, t9, n5, tl5, rfl, hpO5, rfl, rfl⟩ S₅
        clear le₅ S11
        rw [List.take_of_length_le (Nat.le_refl _), List.reverse_reverse] at S₅
        have husN : ToksAt R10 (ws9 ++ us9) ((d.2.sub a.rows).app r).toks := by
          rw [T.toks_app]; exact All2.append (ToksAt.le hws9 le10) (ToksAt.le hus9 le10)
        repeat' (first | walk_at "w" | ((with_reducible show wpAny _ _ (call (.ref 148) _) _ _ _); (rename St _ _ _ _ _ _ => S0); (refine feed_next2_spec S0 (ok'.mono (by omega)) I11 (by k_updF) (by rw [List.length_append]; omega) husN ?_); clear S0; intro _ _ _ _ _ _ _))
        rename St _ _ _ _ _ _ => S9
        rename_i u9 us10 n10 _ hnx9 hl10 _
        exact ⟨R10, _, _, le9.trans le10, ⟨k, by omega, _, u9, us10, _, fd, sp + (a.toks ++ r.toks).length + (d.2.sub a.rows).toks.length, _, _, _, _, _, _, _, by rw [hspI, hul, hwl9]; simp, T.wf_app _ _ hsw htw.2.2, hrk, hnx9, (hws.le le9).le le10, by rw [T.toks_app]; simp only [List.length_append] at *; omega, by omega, fun z => .hit, fun z => .hit, hpO5, rfl, rfl⟩, S9⟩
theorem St.kO' {w : World} {C : Cx} {R : PH} {ms : List (Str × Value)} {own : List (Addr × Obj)} {s : Shared} (S : St w C R ms own s) {a : Addr} {o : Obj} (h : (a, o) ∈ own) : s.heap.get? a = some o := S.kO _ h
local macro_rules | `(tactic| walk_at "memO") => `(tactic| first | exact List.Mem.head _ | (refine List.Mem.tail _ ?_; walk_at "memO"))
local macro_rules | `(tactic| walk_at "ownL") => `(tactic| (refine' St.kO' ?S ?m; (case S => assumption); (case m => walk_at "memO")))
local macro_rules | `(tactic| walk_at "add") => `(tactic| ((rename St _ _ _ _ _ _ => S0); (with_reducible refine' x_addL S0 ?e1 ?e2 ?hz ?_); (case e1 => walk_at "ownL"); (case e2 => walk_at "ownL"); (case hz => walk_at "sz"); clear S0; intro _ _ _))
local macro_rules | `(tactic| k_inst) => `(tactic| first | assumption | walk_at "ownL" | (refine' St.kR ?S _ _ ?b; (case S => assumption); (case b => walk_at "R")))
local macro_rules | `(tactic| walk_at "sub") => `(tactic| first | exact List.Sublist.refl _ | exact List.nil_sublist _ | exact List.Sublist.cons_cons _ (by walk_at "sub") | exact List.Sublist.cons _ (by walk_at "sub"))
inductive FoAt (R : PH) : List Value → T → Prop
  | nil : FoAt R [] .nil
  | leaf {a e : Addr} {s c : Int} {t1 t2 : Tok} {n : Nat} {vs : List Value} {r : T} : R a = some (tupO [.int s t1, .int c t2, .ref e]) → R e = some (lstO [] n) → FoAt R vs r → FoAt R (.ref a :: vs) (.leaf s c r)
  | call {a e : Addr} {m : Nat} {t1 t2 : Tok} {n : Nat} {ws vs : List Value} {as r : T} : R a = some (tupO [.int 2 t1, .int (m : Int) t2, .ref e]) → R e = some (lstO ws n) → FoAt R ws as → FoAt R vs r → FoAt R (.ref a :: vs) (.call m as r)
  | row {e : Addr} {n : Nat} {ws vs : List Value} {f r : T} : R e = some (lstO ws n) → FoAt R ws f → FoAt R vs r → FoAt R (.ref e :: vs) (.row f r)
theorem FoAt.le {R R' : PH} (le : Le R R') {vs : List Value} {t : T} (h : FoAt R vs t) : FoAt R' vs t := by
  induction h with
  | nil => exact .nil
  | leaf a b _ ih => exact .leaf (le _ _ a) (le _ _ b) ih
  | call a b _ _ ih1 ih2 => exact .call (le _ _ a) (le _ _ b) ih1 ih2
  | row a _ _ ih1 ih2 => exact .row (le _ _ a) ih1 ih2
theorem FoAt.len {R : PH} {vs : List Value} {t : T} (h : FoAt R vs t) : vs.length ≤ t.toks.length := by
  induction h with
  | nil => simp
  | leaf _ _ _ ih => simp [T.toks]; omega
  | call _ _ _ _ _ ih => simp [T.toks]; omega
  | row _ _ _ _ ih => simp [T.toks]; omega
theorem FoAt.refs {R : PH} {vs : List Value} {t : T} (h : FoAt R vs t) : ∀ v ∈ vs, ∃ a, v = .ref a := by
  induction h with
  | nil => intro v hv; cases hv
  | leaf _ _ _ ih => intro v hv; rcases List.mem_cons.mp hv with rfl | hv; exact ⟨_, rfl⟩; exact ih v hv
  | call _ _ _ _ _ ih => intro v hv; rcases List.mem_cons.mp hv with rfl | hv; exact ⟨_, rfl⟩; exact ih v hv
  | row _ _ _ _ ih => intro v hv; rcases List.mem_cons.mp hv with rfl | hv; exact ⟨_, rfl⟩; exact ih v hv
def T.nest : T → Nat
  | .nil => 0
  | .leaf _ _ r => r.nest
  | .call _ a r => max a.nest r.nest
  | .row f r => max (f.nest + 1) r.nest
theorem drop_of_get {vs : List Value} {i : Nat} {v : Value} (h : vs[i]? = some v) : vs.drop i = v :: vs.drop (i + 1) := by
  have hi := (List.getElem?_eq_some_iff.mp h)
  obtain ⟨h1, h2⟩ := hi
  rw [List.drop_eq_getElem_cons h1, h2]
inductive ToksI (vs : List Value) (cn : List Nat) (inn k : Nat) (t : T) (l fa : Addr) (i : Nat) (R₃ : PH) (ms₃ : List (Str × Value)) (own₃ : List (Addr × Obj)) : Prop
  | mk (ti : T) (ws : List Value) (dn : List Tk) (n1 : Nat) (tls tlA tlB tlC : List (Str × Value)) (h1 : FoAt R₃ (vs.drop i) ti) (h2 : ti.wf cn inn false) (h3 : ti.nest ≤ k) (h4 : dn ++ ti.toks = t.toks) (h5 : ToksAt R₃ ws dn) (h6 : (∀ z, PutM (Str.ofString "sort") z tls ((Str.ofString "sort", z) :: tlA))) (h7 : (∀ z, PutM (Str.ofString "code") z tlA ((Str.ofString "code", z) :: tlB))) (h8 : (∀ z, PutM (Str.ofString "rows") z tlB ((Str.ofString "rows", z) :: tlC))) (h9 : (∀ z, PutM (Str.ofString "row") z tlC [(Str.ofString "row", z)])) (h10 : ms₃ = (Str.ofString "trees", .ref l) :: (Str.ofString "found", .ref fa) ::  tls) (h11 : own₃ = [(fa, lstO ws n1)])
inductive ToksJ (wr : List Value) (cn : List Nat) (inn k : Nat) (m : Nat) (as : T) (dn : List Tk) (l fa e : Addr) (t1 t2 : Tok) (j : Nat) (R₄ : PH) (ms₄ : List (Str × Value)) (own₄ : List (Addr × Obj)) : Prop
  | mk (tj : T) (wsj : List Value) (dj : List Tk) (n4 : Nat) (tlr : List (Str × Value)) (h1 : FoAt R₄ (wr.drop j) tj) (h2 : tj.wf cn inn true) (h3 : tj.nest ≤ k) (h4 : dj ++ tj.toks = dn ++ (0, (m : Int)) :: as.toks) (h5 : ToksAt R₄ wsj dj) (h6 : (∀ z, PutM (Str.ofString "row") z tlr [(Str.ofString "row", z)])) (h7 : ms₄ = (Str.ofString "trees", .ref l) :: (Str.ofString "found", .ref fa) :: (Str.ofString "sort", .int 2 t1) :: (Str.ofString "code", .int (m : Int) t2) :: (Str.ofString "rows", .ref e) ::  tlr) (h8 : own₄ = [(fa, lstO wsj n4)])
theorem tokens_spec : ∀ (k : Nat) {prog : Program} {w : World} {A : Around} {E : Value → Shared → Prop} {s : Shared} {C : Cx} {R : PH} {ms : List (Str × Value)} {own : List (Addr × Obj)}
   {l : Addr} {vs : List Value} {n : Nat} {t : T} {cn : List Nat} {inn : Nat} {Q : Value → Shared → Prop} (_ : St w C R ms own s) (_ : Ok A (k + 2)) (_ : R l = some (lstO vs n)) (_ : FoAt R vs t) (_ : t.wf cn inn false) (_ : t.nest ≤ k) (_ : t.toks.length ≤ 100000)
   (_ : ∀ a ws n' R' s', Le R R' → ToksAt R' ws t.toks → St w C R' ms ((a, lstO ws n') :: own) s' → Q (.ref a) s'),
   wpAny (model prog w) A (call (.ref 301) [.ref l]) Q E s := by
  intro k
  induction k using Nat.strongRecOn with
  | _ k IH =>
  intro prog w A E s C R ms own l vs n t cn inn Q S ok hl hf hw hk hz ret
  have hsz := sizeLine_eq
  k_dflt (refine' x_enter S [] ?h121 ?nd21 ?ho21 ?hcd21 ?hbind21 ?hms21 ?hloc21 ?hcell21 ?hco21 ?hgen21 ?hk21 ok ?h21 (binds := [(Str.ofString "trees", .ref l)]) (ms₁ := [(Str.ofString "trees", .ref l)]); (case h121 => (intro p hp; cases hp)); (case nd21 => simp); (case ho21 => k_is); (case hcd21 => k_is); (case hbind21 => exact BindsTo.of_eq rfl); (case hms21 => exact rfl); (case hloc21 => exact locs rfl); (case hcell21 => decide); (case hco21 => rfl); (case hgen21 => rfl); (case hk21 => rfl))
  intro C' A' env s₁ hC' F ok' S₁
  conv at F in (pSc _) => whnf
  dsimp only at F
  conv in (pB _) => whnf
  repeat' (first | walk_at "w")
  rename_i fa _ _ S9
  refine x_forList ok'.handled S9 hl (.inr ⟨⟨_, _, _, rfl⟩, hf.refs⟩) F (ToksI vs cn inn k t l fa) ⟨t, [], [], _, [], [], [], [], hf, hw, hk, rfl, .nil, fun z => .nil, fun z => .nil, fun z => .nil, fun z => .nil, rfl, rfl⟩ ?_ ?_
  · rintro C₁ i v R₃ ms₃ own₃ s₂ F₁ bk hi hvi le₃ ⟨ti, ws, dn, n1, tls, tlA, tlB, tlC, hfi, hwi, hki, hdn, hws, hp1, hp2, hp3, hp4, rfl, rfl⟩ S₃
    rw [drop_of_get hvi] at hfi
    have hwl := hws.length
    have hdl := congrArg List.length hdn
    rw [List.length_append] at hdl
    clear S9 F
    cases hfi with
    | row => exact hwi.elim
    | @leaf a e sk c t1 t2 ne _ r hra hre hfr =>
      rcases hwi.1 with ⟨rfl, hc1, hc2⟩ | ⟨rfl, hc1, hc2⟩
      · have e1 : (T.leaf 0 c r).toks = (11, c) :: r.toks := by simp [T.toks]
        rw [e1] at hdn hdl
        simp only [List.length_cons] at hdl
        repeat' (first | ((with_reducible show wpAny _ _ (storeName _ _ _) _ _ _); (rename St _ _ _ _ _ _ => S0); (refine x_store S0 (by assumption) rfl (by repeat' (first | exact PutM.hit | exact PutM.nil | exact hp1 _ | exact hp2 _ | exact hp3 _ | exact hp4 _ | decide | refine' PutM.miss ?_ ?_)) ?_); clear S0; intro _ _) | walk_at "w")
        all_goals (try (exfalso; omega))
        rename St _ _ _ _ _ _ => S9
        rename_i b9 R9 _ le9 hb9 _
        exact ⟨R9, _, _, le9, ⟨r, _, dn ++ [(11, c)], _, _, _, _, _, FoAt.le le9 hfr, hwi.2, by simpa [T.nest] using hki, by simpa using hdn, All2.snoc (hws.le le9) ⟨b9, _, _, rfl, hb9⟩, fun z => .hit, fun z => .hit, fun z => .hit, hp4, rfl, rfl⟩, S9⟩
      · have e1 : (T.leaf 1 c r).toks = (5, c) :: r.toks := by simp [T.toks]
        rw [e1] at hdn hdl
        simp only [List.length_cons] at hdl
        repeat' (first | ((with_reducible show wpAny _ _ (storeName _ _ _) _ _ _); (rename St _ _ _ _ _ _ => S0); (refine x_store S0 (by assumption) rfl (by repeat' (first | exact PutM.hit | exact PutM.nil | exact hp1 _ | exact hp2 _ | exact hp3 _ | exact hp4 _ | decide | refine' PutM.miss ?_ ?_)) ?_); clear S0; intro _ _) | walk_at "w")
        all_goals (try (exfalso; omega))
        rename St _ _ _ _ _ _ => S9
        rename_i b9 R9 _ le9 hb9 _
        exact ⟨R9, _, _, le9, ⟨r, _, dn ++ [(5, c)], _, _, _, _, _, FoAt.le le9 hfr, hwi.2, by simpa [T.nest] using hki, by simpa using hdn, All2.snoc (hws.le le9) ⟨b9, _, _, rfl, hb9⟩, fun z => .hit, fun z => .hit, fun z => .hit, hp4, rfl, rfl⟩, S9⟩
    | @call a e m t1 t2 ne wr _ as r hra hre hfa hfr =>
      have e1 : (T.call m as r).toks = (0, (m : Int)) :: (as.toks ++ r.toks) := rfl
      rw [e1] at hdn hdl
      simp only [List.length_cons, List.length_append] at hdl
      have hka : as.nest ≤ k := by have : max as.nest r.nest ≤ k := hki; omega
      have hkr : r.nest ≤ k := by have : max as.nest r.nest ≤ k := hki; omega
      have hfl := hfa.len
      repeat' (first | ((with_reducible show wpAny _ _ (storeName _ _ _) _ _ _); (rename St _ _ _ _ _ _ => S0); (refine x_store S0 (by assumption) rfl (by repeat' (first | exact PutM.hit | exact PutM.nil | exact hp1 _ | exact hp2 _ | exact hp3 _ | exact hp4 _ | decide | refine' PutM.miss ?_ ?_)) ?_); clear S0; intro _ _) | walk_at "w")
      all_goals (try (exfalso; omega))
      rename St _ _ _ _ _ _ => S9
      rename_i b9 R9 _ le9 hb9 _
      refine x_forList ok'.handled S9 (le9 _ _ hre) (.inl fun _ _ => rfl) F₁ (ToksJ wr cn inn k m as dn l fa e t1 t2) ⟨as, _, dn ++ [(0, (m : Int))], _, tlC, FoAt.le le9 hfa, hwi.2.1, hka, by simp, All2.snoc (hws.le le9) ⟨b9, _, _, rfl, hb9⟩, hp4, rfl, rfl⟩ ?_ ?_
      · rintro C₂ j v R₄ ms₄ own₄ s₄ F₂ bk2 hj hvj le₄ ⟨tj, wsj, dj, n4, tlr, hfj, hwj, hkj, hdj, hwsj, hp5, rfl, rfl⟩ S₄
        rw [drop_of_get hvj] at hfj
        have hwlj := hwsj.length
        have hdlj := congrArg List.length hdj
        simp only [List.length_append, List.length_cons] at hdlj
        clear S9 F₁
        cases hfj with
        | leaf => exact hwj.elim
        | call => exact hwj.elim
        | @row e2 n2 ws2 _ fT rT hre2 hfr2 hrr2 =>
          have e2' : (T.row fT rT).toks = (1, 123) :: (fT.toks ++ (2, 125) :: rT.toks) := rfl
          rw [e2'] at hdj hdlj
          simp only [List.length_append, List.length_cons] at hdlj
          have hfk : fT.nest < k := by have : max (fT.nest + 1) rT.nest ≤ k := hkj; omega
          have hrk : rT.nest ≤ k := by have : max (fT.nest + 1) rT.nest ≤ k := hkj; omega
          refine wpAny_assign_Name (x_store S₄ F₂ rfl (by repeat' (first | exact PutM.hit | exact hp5 _ | decide | refine' PutM.miss ?_ ?_)) fun s₅ S₅ => ?_)
          clear S₄
          repeat' (first | ((with_reducible show wpAny _ _ (call (.ref 301) _) _ _ _); (rename St _ _ _ _ _ _ => S0); (refine IH fT.nest hfk S0 (ok'.mono (by omega)) (Le.up hre2 (by k_ownIn)) (FoAt.le (by k_ownIn) hfr2) hwj.1 (Nat.le_refl _) (by omega) ?_); clear S0; intro ra wsr nr Rr _ ler hwsr _; have hwlr := All2.length hwsr) | walk_at "add" | walk_at "w")
          rename St _ _ _ _ _ _ => S9
          refine ⟨_, _, _, ?_, ⟨rT, _, dj ++ ([(1, 123)] ++ fT.toks ++ [(2, 125)]), _, _, FoAt.le ?_ hrr2, hwj.2, hrk, by rw [← hdj]; simp, All2.append (ToksAt.le hwsj ?_) (All2.append (All2.append (.cons ?_ .nil) (ToksAt.le hwsr ?_)) (.cons ?_ .nil)), fun z => by k_allIn, rfl, rfl⟩, S9.drop1.drop1.drop1.drop1.drop1⟩
          all_goals first | exact ⟨_, _, _, rfl, by walk_at "R"⟩ | k_ownIn
      · rintro R₄ ms₄ own₄ s₄ le₄ ⟨tj, wsj, dj, n4, tlr, hfj, hwj, hkj, hdj, hwsj, hp5, rfl, rfl⟩ S₄
        rw [List.drop_of_length_le (Nat.le_refl _)] at hfj
        cases hfj
        rw [show T.nil.toks = [] from rfl, List.append_nil] at hdj
        clear S9
        repeat' (first | walk_at "w")
        rename St _ _ _ _ _ _ => S9
        exact ⟨_, _, _, le9.trans le₄, ⟨r, _, dj, _, _, _, _, _, FoAt.le (le9.trans le₄) hfr, hwi.2.2, hkr, by rw [hdj, ← hdn]; simp, hwsj, fun z => .hit, fun z => .hit, fun z => .hit, hp5, rfl, rfl⟩, S9⟩
  · rintro R₃ ms₃ own₃ s₂ le₃ ⟨ti, ws, dn, n1, tls, tlA, tlB, tlC, hfi, hwi, hki, hdn, hws, hp1, hp2, hp3, hp4, rfl, rfl⟩ S₃
    rw [List.drop_of_length_le (Nat.le_refl _)] at hfi
    cases hfi
    rw [show T.nil.toks = [] from rfl, List.append_nil] at hdn
    subst hdn
    clear S9
    repeat' (first | walk_at "w")
    rename St _ _ _ _ _ _ => S9
    exact ret _ _ _ _ _ le₃ hws (S.exitN hC' S9 (.head _) le₃)
theorem sw_comp {env : Env} {C : Cx} {names : List (Str × NameKind)} {cl : List (Str × Addr)} (F : Fra env C names cl) {elt : Expr} {gens : List Comprehension} {scope : Scope} {pos py : Pos} {y : Str} {line : Nat} (hy : names.lookup y = some .local)
    (h : (py.line == pos.line && !(scope.names.any fun (n, k) => n == y && (k == .local || k == .cell))) = true) : swapsWith (.ListComp elt gens scope pos) (some (.Name y py)) line env = pure true := by
  unfold swapsWith
  simp only [F.blk, F.kind hy]
  show pure ((true && true && (py.line == pos.line) && !(scope.names.any fun (n, k) => n == y && (k == .local || k == .cell)))) = pure true
  rw [Bool.true_and, Bool.true_and, h]
def Fix (mac : Mac) (ds : List (Nat × T)) : Prop := ∀ (m : Nat) (d : Nat × T), ds[m]? = some d → ∀ args, mac m args = d.2.ev mac args
def BodR (R : PH) : List Value → List (Nat × T) → Prop := All2 fun v d => ∃ a ws n, v = .ref a ∧ R a = some (lstO ws n) ∧ FoAt R ws d.2
theorem BodR.le {R R' : PH} (le : Le R R') {vs : List Value} {ds : List (Nat × T)} (h : BodR R vs ds) : BodR R' vs ds := All2.imp h fun _ _ ⟨a, ws, n, e, r, f⟩ => ⟨a, ws, n, e, le _ _ r, f.le le⟩
def GivL (R : PH) : List Value → List (List Tk) → Prop := All2 fun v ts => ∃ b ws n, v = .ref b ∧ R b = some (lstO ws n) ∧ ToksAt R ws ts
theorem GivL.le {R R' : PH} (le : Le R R') {vs : List Value} {gs : List (List Tk)} (h : GivL R vs gs) : GivL R' vs gs := All2.imp h fun _ _ ⟨b, ws, n, e, r, t⟩ => ⟨b, ws, n, e, le _ _ r, t.le le⟩
/-- each body calls macros told before it only, and is not deep -/
def DefsLow (ds : List (Nat × T)) : Prop := ∀ (m : Nat) (d : Nat × T), ds[m]? = some d → d.2.wf ((ds.map (·.1)).take m) d.1 false ∧ d.2.nest ≤ 3 ∧ d.2.toks.length ≤ 300 ∧ d.1 ≤ 2
theorem take_app_l {α : Type} (n : Nat) (a b : List α) : (a.take n ++ b).take n = (a ++ b).take n := by
  rw [List.take_append, List.take_append, List.take_take, List.length_take, Nat.min_self]
  by_cases h : n ≤ a.length
  · rw [Nat.min_eq_left h, Nat.sub_self, Nat.sub_eq_zero_of_le h]
  · rw [Nat.min_eq_right (by omega)]
theorem take_app_r {α : Type} (n : Nat) (a b : List α) : (a ++ b.take n).take n = (a ++ b).take n := by
  rw [List.take_append, List.take_append, List.take_take, Nat.min_eq_left (Nat.sub_le _ _)]
theorem x_compLU2 {prog : Program} {w : World} {A : Around} {E : Value → Shared → Prop} {s : Shared} {env : Env} {C : Cx} {R : PH} {ms : List (Str × Value)} {own : List (Addr × Obj)} {names : List (Str × NameKind)} {cl : List (Str × Addr)} {elt iter : Expr} {x : Str} {px : Pos} {scope : Scope} {cl' : List (Str × Addr)} {pos : Pos} {l : Addr} {vs : List Value} {n : Nat} {y : Str} {py : Pos} {Qn : Shared → Prop} {msf : Value → List (Str × Value)} (hh : A.handled = none) (S : St w C R ms own s) (hl : R l = some (lstO vs n)) (hsz : vs.length ≤ sizeLine)
    (hcell : ∀ y ∈ scope.names, y.2 ≠ .cell) (hkind : scope.kind = .function) (hx : scope.names.lookup x = some .local) (F : Fra env C names cl)
    (Inv : Nat → PH → List Value → List (Addr × Obj) → Prop) (h0 : Inv 0 R [] own)
    (turn : ∀ C₁ env₁ (i : Nat) v R₁ ys own₁ s₁, Fra env₁ C₁ (relN scope.names names) cl' → i < vs.length → vs[i]? = some v → Le R R₁ → Inv i R₁ ys own₁ → ys.length = i → St w C₁ R₁ [(x, v)] own₁ s₁ →
      wpAny (model prog w) A (eval elt env₁) (CompT w C₁ R₁ [(x, v)] ys (Inv (i + 1))) NoE s₁)
    (hy : names.lookup y = some .local) (hput : ∀ v, PutM y v ms (msf v)) (done : ∀ D R₁ ys nn own₁ s₁, Le R R₁ → Inv vs.length R₁ ys own₁ → ys.length = vs.length → St w C R₁ (msf (.ref D)) ((D, lstO ys nn) :: own₁) s₁ → Qn s₁) :
    wpAny (model prog w) A (pyIter (.ref l)) (fun it s₂ => wpAny (model prog w) A (newList []) (fun acc s₃ => wpAny (model prog w) A (newFunctionEnv scope env.globals cl' [] env.qual none .none (some env)) (fun cenv s₄ =>
      codeAny (model prog w) A (.compStart (.ListComp elt [⟨.Name x px, iter, [], 0⟩] scope pos) 0 it acc { cenv with scope := relabel scope env }) (compPost (model prog w) A E (some (assign (.Name y py) env)) (fun _ s' => Qn s') acc cenv.locals) s₄) E s₃) E s₂) E s :=
  x_compLU (Q := fun _ s => Qn s) hh S hl hsz hcell hkind hx F Inv h0 turn hy hput done
inductive WorkI (vs : List Value) (ds : List (Nat × T)) (gs : List (List Tk)) (K inn k : Nat) (t : T) (rI : Int) (l rl : Addr) (nr : Nat) (i : Nat) (R₆ : PH) (ms₆ : List (Str × Value)) (own₆ : List (Addr × Obj)) : Prop
  | mk (ti : T) (fa : Addr) (ws : List Value) (fd : List Tk) (rJ : Int) (trJ : Tok) (n1 : Nat) (tls tlA tlB tlC : List (Str × Value)) (h1 : FoAt R₆ (vs.drop i) ti) (h2 : ti.wf ((ds.map (·.1)).take K) inn false) (h3 : 4 * K + ti.nest ≤ k) (h4 : ToksAt R₆ ws fd) (h5 : fd.length ≤ 200) (h6 : rJ ≤ rI) (h7 : ti.toks.length ≤ 100000) (h8 : (0 ≤ rJ → ∀ mac gf, Fix mac ds → gs = gf.map (List.take 200) → (fd ++ ti.ev mac gf).take 200 = (t.ev mac gf).take 200)) (h9 : (∀ z, PutM (Str.ofString "sort") z tls ((Str.ofString "sort", z) :: tlA))) (h10 : (∀ z, PutM (Str.ofString "code") z tlA ((Str.ofString "code", z) :: tlB))) (h11 : (∀ z, PutM (Str.ofString "rows") z tlB ((Str.ofString "rows", z) :: tlC))) (h12 : (∀ z, PutM (Str.ofString "inner") z tlC [(Str.ofString "inner", z)])) (h13 : ms₆ = (Str.ofString "trees", .ref l) :: (Str.ofString "found", .ref fa) :: tls) (h14 : own₆ = [(fa, lstO ws n1), (rl, lstO [.int rJ trJ] nr)])
inductive WorkJ (wr ws : List Value) (ds : List (Nat × T)) (gs : List (List Tk)) (K inn k : Nat) (as : T) (rJ : Int) (fa rl : Addr) (n1 nr : Nat) (j : Nat) (R₇ : PH) (ys : List Value) (own₇ : List (Addr × Obj)) : Prop
  | mk (tj : T) (gd : List (List Tk)) (rj : Int) (trj : Tok) (h1 : FoAt R₇ (wr.drop j) tj) (h2 : tj.wf ((ds.map (·.1)).take K) inn true) (h3 : 4 * K + tj.nest ≤ k) (h4 : tj.toks.length ≤ 100000) (h5 : GivL R₇ ys gd) (h6 : (∀ g ∈ gd, g.length ≤ 200)) (h7 : gd.length + tj.rows.length = as.rows.length) (h8 : rj ≤ rJ - 1) (h9 : (0 ≤ rj → ∀ mac gf, Fix mac ds → gs = gf.map (List.take 200) → gd ++ (tj.evR mac gf).map (List.take 200) = (as.evR mac gf).map (List.take 200))) (h10 : own₇ = [(fa, lstO ws n1), (rl, lstO [.int rj trj] nr)])
theorem worked_spec : ∀ (k : Nat) {prog : Program} {w : World} {A : Around} {E : Value → Shared → Prop} {s : Shared} {C : Cx} {R : PH} {ms : List (Str × Value)} {own : List (Addr × Obj)}
   {l gl bl rl : Addr} {vs gvs bvs : List Value} {n ng nb nr K inn : Nat} {rI : Int} {tr : Tok} {t : T} {gs : List (List Tk)} {ds : List (Nat × T)} {f : Obj → List (Addr × Obj)} {Q : Value → Shared → Prop} (_ : St w C R ms own s) (_ : Ok A (k + 2)) (_ : R l = some (lstO vs n)) (_ : FoAt R vs t)
   (_ : R gl = some (lstO gvs ng)) (_ : GivL R gvs gs) (_ : ∀ g ∈ gs, g.length ≤ 200) (_ : inn ≤ gs.length) (_ : R bl = some (lstO bvs nb)) (_ : BodR R bvs ds) (_ : DefsLow ds) (_ : ds.length ≤ 30) (_ : OwnF rl (lstO [.int rI tr] nr) own f)
   (_ : t.wf ((ds.map (·.1)).take K) inn false) (_ : 4 * K + t.nest ≤ k) (_ : inn ≤ 2) (_ : t.toks.length ≤ 100000)
   (_ : ∀ a ws n' (rJ : Int) tr' (fd : List Tk) R' s', Le R R' → ToksAt R' ws fd → fd.length ≤ 200 → rJ ≤ rI → (0 ≤ rJ → ∀ mac gf, Fix mac ds → gs = gf.map (List.take 200) → fd = (t.ev mac gf).take 200) →
     St w C R' ms ((a, lstO ws n') :: f (lstO [.int rJ tr'] nr)) s' → Q (.ref a) s'),
   wpAny (model prog w) A (call (.ref 306) [.ref l, .ref gl, .ref bl, .ref rl]) Q E s := by
  intro k
  induction k using Nat.strongRecOn with
  | _ k IH =>
  intro prog w A E s C R ms own l gl bl rl vs gvs bvs n ng nb nr K inn rI tr t gs ds f Q S ok hl hf hgl hgv hg200 hinn hbl hbv hlow hdl U hw hk hi2 hz ret
  have hsz := sizeLine_eq
  have h1 : ∀ p ∈ [(rl, lstO [.int rI tr] nr)], p ∈ own := by intro p hp; rw [List.mem_singleton.mp hp]; exact U.mem
  k_dflt (refine' x_enterC S [(rl, lstO [.int rI tr] nr)] h1 (by simp) ?ho ?hcd ?hbind ?hms ?hkind ?hco ?hgen ?hk ok ?h (binds := [(Str.ofString "trees", .ref l), (Str.ofString "given", .ref gl), (Str.ofString "bodies", .ref bl), (Str.ofString "room", .ref rl)]) (ms₁ := [(Str.ofString "trees", .ref l)]); (case ho => k_is); (case hcd => k_is); (case hbind => exact rfl); (case hms => exact rfl); (case hkind => (intro L x hx; simp only [List.mem_cons, List.not_mem_nil, or_false] at hx; rcases hx with rfl | rfl | rfl | rfl <;> first | exact .inl rfl | exact .inr ⟨rfl, rfl⟩)); (case hco => rfl); (case hgen => rfl); (case hk => rfl))
  intro C' A' env L cs s₁ hC' hL hcs F ok' ob hob hobh hlt S₁
  conv at F in (pSc _) => whnf
  conv at hcs in (pSc _) => whnf
  conv at hob in (pSc _) => whnf
  dsimp only at F hcs hob
  conv in (pB _) => whnf
  have hcs' : cs = [(Str.ofString "room", L + 1 + 1 + 1), (Str.ofString "bodies", L + 1 + 1), (Str.ofString "given", L + 1)] := hcs.trans rfl
  subst hcs'
  have og : (ob (L + 1)).data = .cell (some (.ref gl)) := hob (Str.ofString "given") (L + 1) rfl
  have obd : (ob (L + 1 + 1)).data = .cell (some (.ref bl)) := hob (Str.ofString "bodies") (L + 1 + 1) rfl
  have orm : (ob (L + 1 + 1 + 1)).data = .cell (some (.ref rl)) := hob (Str.ofString "room") (L + 1 + 1 + 1) rfl
  have hg := hobh (Str.ofString "given") (L + 1) rfl
  have hb := hobh (Str.ofString "bodies") (L + 1 + 1) rfl
  have hr := hobh (Str.ofString "room") (L + 1 + 1 + 1) rfl
  have S₂ := S.adopt hC' h1 S₁ [(L + 1, ob (L + 1)), (L + 1 + 1, ob (L + 1 + 1)), (L + 1 + 1 + 1, ob (L + 1 + 1 + 1))] (by
    intro p hp
    simp only [List.mem_cons, List.not_mem_nil, or_false] at hp
    rcases hp with rfl | rfl | rfl
    · exact ⟨hg, by omega⟩
    · exact ⟨hb, by omega⟩
    · exact ⟨hr, by omega⟩) (by simp)
  obtain ⟨R₃, le₃, cg, S₃⟩ := S₂.freeze .head
  obtain ⟨R₄, le₄, cb, S₄⟩ := S₃.freeze .head
  obtain ⟨R₅, le₅, cr, S₅⟩ := S₄.freeze .head
  have l5 : Le R R₅ := le₃.trans (le₄.trans le₅)
  have cG : CellAt R₅ (L + 1) (.ref gl) := ⟨_, le₅ _ _ (le₄ _ _ cg), og⟩
  have cB : CellAt R₅ (L + 1 + 1) (.ref bl) := ⟨_, le₅ _ _ cb, obd⟩
  have cR : CellAt R₅ (L + 1 + 1 + 1) (.ref rl) := ⟨_, cr, orm⟩
  have hl5 := l5 _ _ hl
  have hgl5 := l5 _ _ hgl
  have hbl5 := l5 _ _ hbl
  have hf5 := hf.le l5
  have hgv5 := hgv.le l5
  have hbv5 := hbv.le l5
  clear S₁ S₂ S₃ S₄ hob hobh hlt og obd orm hg hb hr cg cb cr le₃ le₄ le₅
  change St w C' R₅ [(Str.ofString "trees", Value.ref l)] [(rl, lstO [Value.int rI tr] nr)] s₁ at S₅
  repeat' (first | walk_at "w")
  rename_i fa _ _ S9
  refine x_forList ok'.handled S9 hl5 (.inr ⟨⟨_, _, _, rfl⟩, hf.refs⟩) F (WorkI vs ds gs K inn k t rI l rl nr) ⟨t, fa, [], [], rI, tr, _, [], [], [], [], hf5, hw, hk, .nil, by simp, Int.le_refl _, hz, fun _ mac gf _ _ => by simp, fun z => .nil, fun z => .nil, fun z => .nil, fun z => .nil, rfl, rfl⟩ ?_ ?_
  · rintro C₁ i v R₆ ms₆ own₆ s₆ F₁ bk hi hvi le₆ ⟨ti, fa, ws, fd, rJ, trJ, n1, tls, tlA, tlB, tlC, hfi, hwi, hki, hws, hfd, hrJ, hzi, hsem, hp1, hp2, hp3, hp4, rfl, rfl⟩ S₆
    rw [drop_of_get hvi] at hfi
    have hwl := hws.length
    clear S9 F
    cases hfi with
    | row => exact hwi.elim
    | @leaf a e sk c t1 t2 ne _ r hra hre hfr =>
      have hzr : r.toks.length ≤ 100000 := by simp [T.toks] at hzi; omega
      rcases hwi.1 with ⟨rfl, hc1, hc2⟩ | ⟨rfl, hc1, hc2⟩
      · repeat' (first | ((with_reducible show wpAny _ _ (storeName _ _ _) _ _ _); (rename St _ _ _ _ _ _ => S0); (refine x_store S0 (by assumption) rfl (by repeat' (first | exact PutM.hit | exact PutM.nil | exact hp1 _ | exact hp2 _ | exact hp3 _ | exact hp4 _ | decide | refine' PutM.miss ?_ ?_)) ?_); clear S0; intro _ _) | walk_at "slL" | walk_at "w")
        all_goals (try (exfalso; omega))
        · rename St _ _ _ _ _ _ => S9
          have S8 := bk _ _ _ _ S9
          have nd := S8.nd
          exact ret _ _ _ _ _ fd _ _ (l5.trans le₆) hws hfd (by omega) (fun h0 => absurd h0 (by omega)) (S.exit1N U hC' S8 (.tail _ (.head _)) (.head _) (by simp at nd; exact nd) (l5.trans le₆))
        · rename St _ _ _ _ _ _ => S9
          rename_i b9 R9 _ le9 hb9 _ _ _ _ _ _
          refine ⟨R9, _, _, le9, ⟨r, _, _, (fd ++ [(11, c)]).take 200, _, _, _, _, _, _, _, FoAt.le le9 hfr, hwi.2, hki, All2.take (All2.snoc (hws.le le9) (show TokAt R9 (.ref b9) (11, c) from ⟨b9, _, _, rfl, hb9⟩)) 200, by rw [List.length_take]; omega, ?_, hzr, fun h0 mac gf hm hgf => ?_, fun z => .hit, fun z => .hit, fun z => .hit, hp4, rfl, rfl⟩, S9.swap2.drop1⟩
          · omega
          · rw [take_app_l, ← hsem (by omega) mac gf hm hgf]; simp [T.ev]
      · have hlt : (c - 1).toNat < gs.length := by omega
        have hgv6 := hgv5.le le₆
        obtain ⟨gv, hgi, gb, us, ng2, rfl, hrb, hus⟩ := All2.get' hgv6 (List.getElem?_eq_getElem hlt)
        have hul := hus.length
        have hg2 := hg200 _ (List.getElem_mem hlt)
        repeat' (first | ((with_reducible show wpAny _ _ (storeName _ _ _) _ _ _); (rename St _ _ _ _ _ _ => S0); (refine x_store S0 (by assumption) rfl (by repeat' (first | exact PutM.hit | exact PutM.nil | exact hp1 _ | exact hp2 _ | exact hp3 _ | exact hp4 _ | decide | refine' PutM.miss ?_ ?_)) ?_); clear S0; intro _ _) | walk_at "slL" | walk_at "w")
        all_goals (try (exfalso; omega))
        · rename St _ _ _ _ _ _ => S9
          have S8 := bk _ _ _ _ S9
          have nd := S8.nd
          exact ret _ _ _ _ _ fd _ _ (l5.trans le₆) hws hfd (by omega) (fun h0 => absurd h0 (by omega)) (S.exit1N U hC' S8 (.tail _ (.head _)) (.head _) (by simp at nd; exact nd) (l5.trans le₆))
        · rename St _ _ _ _ _ _ => S9
          refine ⟨R₆, _, _, Le.rfl', ⟨r, _, _, (fd ++ gs[(c - 1).toNat]).take 200, _, _, _, _, _, _, _, hfr, hwi.2, hki, All2.take (All2.append hws hus) 200, by rw [List.length_take]; omega, ?_, hzr, fun h0 mac gf hm hgf => ?_, fun z => .hit, fun z => .hit, fun z => .hit, hp4, rfl, rfl⟩, S9.swap2.drop1⟩
          · omega
          · rw [← hsem (by omega) mac gf hm hgf]
            have hlt2 : (c - 1).toNat < gf.length := by rw [hgf, List.length_map] at hlt; exact hlt
            have e1 : gs[(c - 1).toNat] = (gf[(c - 1).toNat]).take 200 := by subst hgf; simp
            have e2 : (T.leaf 1 c r).ev mac gf = gf[(c - 1).toNat] ++ r.ev mac gf := by
              show (if (1 : Int) = 0 then [(11, c)] else (gf[(c - 1).toNat]?).getD []) ++ r.ev mac gf = _
              rw [if_neg (by decide), List.getElem?_eq_getElem hlt2]; rfl
            rw [e1, take_app_r, take_app_l, e2, List.append_assoc]
    | @call a e m t1 t2 ne wr _ as r hra hre hfa hfr =>
      have hzr : r.toks.length ≤ 100000 := by simp [T.toks] at hzi; omega
      have hza : as.toks.length ≤ 100000 := by simp [T.toks] at hzi; omega
      have hka : 4 * K + as.nest ≤ k := by have : 4 * K + max as.nest r.nest ≤ k := hki; omega
      have hkr : 4 * K + r.nest ≤ k := by have : 4 * K + max as.nest r.nest ≤ k := hki; omega
      have hwl2 := hfa.len
      obtain ⟨d, hd, hda, hmK⟩ : ∃ d, ds[m]? = some d ∧ d.1 = as.rows.length ∧ m < K := by
        have h := hwi.1
        rw [List.getElem?_take] at h
        split at h
        · rw [List.getElem?_map] at h
          obtain ⟨d, h1, h2⟩ := Option.map_eq_some_iff.mp h
          exact ⟨d, h1, h2, by assumption⟩
        · cases h
      obtain ⟨bv, hbi, ba, bws, nb2, rfl, hrb, hfb⟩ := All2.get' (hbv5.le le₆) hd
      repeat' (first | ((with_reducible show wpAny _ _ (storeName _ _ _) _ _ _); (rename St _ _ _ _ _ _ => S0); (refine x_store S0 (by assumption) rfl (by repeat' (first | exact PutM.hit | exact PutM.nil | exact hp1 _ | exact hp2 _ | exact hp3 _ | exact hp4 _ | decide | refine' PutM.miss ?_ ?_)) ?_); clear S0; intro _ _) | walk_at "w")
      all_goals (try (exfalso; omega))
      · rename St _ _ _ _ _ _ => S9
        have S8 := bk _ _ _ _ S9
        have nd := S8.nd
        exact ret _ _ _ _ _ fd _ _ (l5.trans le₆) hws hfd (by omega) (fun h0 => absurd h0 (by omega)) (S.exit1N U hC' S8 (.tail _ (.head _)) (.head _) (by simp at nd; exact nd) (l5.trans le₆))
      · rename St _ _ _ _ _ _ => S9
        refine x_assignComp F₁ (sw_comp F₁ rfl rfl) rfl rfl (by decide) (fun _ => rfl) ?_
        repeat' (first | walk_at "w")
        rename St _ _ _ _ _ _ => S9
        refine x_compLU2 (y := Str.ofString "inner") (msf := fun z => (Str.ofString "trees", Value.ref l) :: (Str.ofString "found", Value.ref fa) :: (Str.ofString "sort", Value.int 2 t1) :: (Str.ofString "code", Value.int (m : Int) t2) :: (Str.ofString "rows", Value.ref e) :: [(Str.ofString "inner", z)]) ok'.handled S9 hre (by omega) (by decide) rfl rfl F₁ (WorkJ wr ws ds gs K inn k as rJ fa rl n1 nr)
           ⟨as, [], _, _, hfa, hwi.2.1, hka, hza, .nil, fun _ h => (by cases h), by simp, Int.le_refl _, fun _ mac gf _ _ => rfl, rfl⟩ ?_ rfl (fun z => by repeat' (first | exact PutM.hit | exact hp4 _ | decide | refine' PutM.miss ?_ ?_)) ?_
        · rintro C₂ env₂ j v R₇ ys own₇ s₇ F₂ hj hvj le₇ ⟨tj, gd, rj, trj, hfj, hwj, hkj, hzj, hgd, hgd2, hgl2, hrj, hsj, rfl⟩ hyl S₇
          rw [drop_of_get hvj] at hfj
          clear S9 F₁
          cases hfj with
          | leaf => exact hwj.elim
          | call => exact hwj.elim
          | @row e2 n2 ws2 _ fT rT hre2 hfr2 hrr2 =>
            have hzf : fT.toks.length ≤ 100000 := by simp [T.toks] at hzj; omega
            have hzr2 : rT.toks.length ≤ 100000 := by simp [T.toks] at hzj; omega
            have hfk : 4 * K + fT.nest < k := by have : 4 * K + max (fT.nest + 1) rT.nest ≤ k := hkj; omega
            have hrk : 4 * K + rT.nest ≤ k := by have : 4 * K + max (fT.nest + 1) rT.nest ≤ k := hkj; omega
            have hgl7 := le₇ _ _ (le₆ _ _ hgl5)
            have hbl7 := le₇ _ _ (le₆ _ _ hbl5)
            have hgv7 := GivL.le le₇ (GivL.le le₆ hgv5)
            have hbv7 := BodR.le le₇ (BodR.le le₆ hbv5)
            repeat' (first | walk_at "w" | ((with_reducible show wpAny _ _ (call (.ref 306) _) _ _ _); (rename St _ _ _ _ _ _ => S0); (refine IH (4 * K + fT.nest) hfk S0 (ok'.mono (by omega)) hre2 hfr2 hgl7 hgv7 hg200 hinn hbl7 hbv7 hlow hdl (by k_updF) hwj.1 (Nat.le_refl _) hi2 (by omega) ?_); clear S0; intro ra wsr nrr rJ2 tr2 gd2 R8 _ le8 hws8 hlen8 hr8 hsem8 _))
            rename St _ _ _ _ _ _ => S9
            obtain ⟨R9, le9, hra9, S10⟩ := S9.freeze (d := ra) (by k_upd)
            refine ⟨R9, _, le8.trans le9, ⟨rT, gd ++ [gd2], rJ2, tr2, FoAt.le (le8.trans le9) hrr2, hwj.2, hrk, hzr2, All2.snoc (GivL.le (le8.trans le9) hgd) ⟨ra, wsr, nrr, rfl, hra9, hws8.le le9⟩, ?_, ?_, by omega, ?_, rfl⟩, S10⟩
            · intro g hg
              rcases List.mem_append.mp hg with hg | hg
              · exact hgd2 g hg
              · rw [List.mem_singleton.mp hg]; exact hlen8
            · simp [T.rows] at hgl2 ⊢; omega
            · intro h0 mac gf hm hgf
              rw [← hsj (by omega) mac gf hm hgf, hsem8 h0 mac gf hm hgf]
              simp [T.evR]
        · rintro D R₇ ys nn own₇ s₇ le₇ ⟨tj, gd, rj, trj, hfj, hwj, hkj, hzj, hgd, hgd2, hgl2, hrj, hsj, rfl⟩ hyl S₇
          rw [List.drop_of_length_le (Nat.le_refl _)] at hfj
          cases hfj
          simp only [T.evR, List.map_nil, List.append_nil] at hsj
          simp only [T.rows, List.length_nil, Nat.add_zero] at hgl2
          obtain ⟨R8, le8, hD, S8⟩ := S₇.freeze .head
          have hlm := hlow m d hd
          have l68 := le₇.trans le8
          have hrb8 := l68 _ _ hrb
          have hfb8 := FoAt.le l68 hfb
          have hgd8 := GivL.le le8 hgd
          have hbl8 := l68 _ _ (le₆ _ _ hbl5)
          have hbv8 := BodR.le l68 (BodR.le le₆ hbv5)
          have hdg : d.1 ≤ gd.length := by omega
          have hmk : 4 * m + d.2.nest < k := by have := hlm.2.1; omega
          have hbm : bvs[Int.toNat (m : Int)]? = some (.ref ba) := hbi
          have hm30 : m < 30 := by have := (List.getElem?_eq_some_iff.mp hd).1; omega
          clear S₇ S9
          repeat' (first | ((with_reducible show wpAny _ _ (storeName _ _ _) _ _ _); (rename St _ _ _ _ _ _ => S0); (refine x_store S0 (by assumption) rfl (by repeat' (first | exact PutM.hit | exact PutM.nil | exact hp1 _ | exact hp2 _ | exact hp3 _ | exact hp4 _ | decide | refine' PutM.miss ?_ ?_)) ?_); clear S0; intro _ _) | walk_at "slL" | walk_at "w" | ((with_reducible show wpAny _ _ (call (.ref 306) _) _ _ _); (rename St _ _ _ _ _ _ => S0); (refine IH (4 * m + d.2.nest) hmk S0 (ok'.mono (by omega)) hrb8 hfb8 hD hgd8 hgd2 hdg hbl8 hbv8 hlow hdl (by k_updF) hlm.1 (Nat.le_refl _) hlm.2.2.2 (by omega) ?_); clear S0; intro ra wsr nrr rJ3 tr3 gd3 R9 _ le9 hws9 hlen9 hr9 hsem9 _; have hwl9 := All2.length hws9))
          rename St _ _ _ _ _ _ => S9
          refine ⟨R9, _, _, l68.trans le9, ⟨r, _, _, (fd ++ gd3).take 200, rJ3, tr3, _, _, _, _, _, FoAt.le (l68.trans le9) hfr, hwi.2.2, hkr, All2.take (All2.append (hws.le (l68.trans le9)) hws9) 200, by rw [List.length_take]; omega, ?_, hzr, fun h0 mac gf hm hgf => ?_, fun z => .hit, fun z => .hit, fun z => .hit, fun z => .hit, rfl, rfl⟩, S9.swap2.drop1.swap2.drop1⟩
          · omega
          · have e1 := hsem9 h0 mac (as.evR mac gf) hm (hsj (by omega) mac gf hm hgf)
            have e2 : (T.call m as r).ev mac gf = d.2.ev mac (as.evR mac gf) ++ r.ev mac gf := by
              show mac m (as.evR mac gf) ++ r.ev mac gf = _
              rw [hm m d hd]
            rw [← hsem (by omega) mac gf hm hgf, e1, take_app_r, take_app_l, e2, List.append_assoc]
  · rintro R₆ ms₆ own₆ s₆ le₆ ⟨ti, fa, ws, fd, rJ, trJ, n1, tls, tlA, tlB, tlC, hfi, hwi, hki, hws, hfd, hrJ, hzi, hsem, hp1, hp2, hp3, hp4, rfl, rfl⟩ S₆
    rw [List.drop_of_length_le (Nat.le_refl _)] at hfi
    cases hfi
    clear S9
    repeat' (first | walk_at "w")
    rename St _ _ _ _ _ _ => S9
    have nd := S9.nd
    refine ret _ _ _ _ _ fd _ _ (l5.trans le₆) hws hfd hrJ (fun h0 mac gf hm hgf => ?_) (S.exit1N U hC' S9 (.tail _ (.head _)) (.head _) (by simp at nd; exact nd) (l5.trans le₆))
    rw [← hsem h0 mac gf hm hgf]
    simp [T.ev, List.take_of_length_le hfd]
theorem pow90 : (10 : Int) ^ Int.toNat 90 = 1000000000000000000000000000000000000000000000000000000000000000000000000000000000000000000 := by decide
def LstR (R : PH) (l : Addr) (vs : List Value) (n : Nat) : Prop := ∃ o, R l = some o ∧ o.cls = .type "list" ∧ o.data = .seq vs.toArray n
theorem LstR.isL {R : PH} {l : Addr} {vs : List Value} {n : Nat} {h : Heap} (x : LstR R l vs n) (hk : ∀ b o, R b = some o → h.get? b = some o) : h.IsList l vs.toArray := let ⟨o, e, c, d⟩ := x; ⟨o, hk _ _ e, c, n, d⟩
theorem LstR.le {R R' : PH} {l : Addr} {vs : List Value} {n : Nat} (x : LstR R l vs n) (le : Le R R') : LstR R' l vs n := let ⟨o, e, c, d⟩ := x; ⟨o, le _ _ e, c, d⟩
theorem x_slUptoI {prog : Program} {w : World} {A : Around} {E : Value → Shared → Prop} {s : Shared} {C : Cx} {R : PH} {ms : List (Str × Value)} {own : List (Addr × Obj)} {l : Addr} {vs : List Value} {n : Nat} {b : Int} {t : Tok} {Q : Value → Shared → Prop} (S : St w C R ms own s) (ho : LstR R l vs n) (hb : 0 ≤ b) (hz : vs.length ≤ sizeLine)
    (h : ∀ a s', St w C R ms ((a, lstO (vs.take b.toNat) 0) :: own) s' → Q (.ref a) s') : SlK (model prog w) A "list" (.ref l) .none (.int b t) .none Q E s := by
  have e : slicePick vs.toArray none (some b) none = (vs.take b.toNat).toArray := by
    have := slicePick_upto' vs.toArray b.toNat
    rw [Int.toNat_of_nonneg hb] at this
    simpa using this
  have S₁ := (S.push (o := slcO .none (.int b t) .none) (tk := s.toks)).drop1
  have hl := ho.isL (h := s.heap.push (slcO .none (.int b t) .none)) fun b o e => Heap.get?_push_of_some _ (S.kR b o e)
  refine ⟨hl.typeIs (s := { s with heap := s.heap.push (slcO .none (.int b t) .none) }), wpAny_getItem_list_slice hl (Heap.IsSliceOf.new ..) .none (.int _ _) .none (by decide) ?_ (by simpa using hz)⟩
  rw [e]
  exact h _ _ (S₁.push (o := lstO (vs.take b.toNat) 0) (tk := s.toks))
theorem x_lenLI {prog : Program} {w : World} {A : Around} {E : Value → Shared → Prop} {s : Shared} {C : Cx} {R : PH} {ms : List (Str × Value)} {own : List (Addr × Obj)} {l : Addr} {vs : List Value} {n : Nat} {Q : Value → Shared → Prop} (S : St w C R ms own s) (hl : LstR R l vs n) (hz : vs.length ≤ sizeLine) (h : ∀ t s', St w C R ms own s' → Q (.int vs.length t) s') : wpAny (model prog w) A (call (.builtin "len") [.ref l]) Q E s := by
  refine PyProof.Rows.len_list (hl.isL S.kR) (by rw [List.size_toArray]; rw [sizeLine_eq] at hz; omega) ?_
  rw [List.size_toArray]
  exact h _ _ S.tok
theorem pool_spec {prog : Program} {w : World} {A : Around} {E : Value → Shared → Prop} {s : Shared} {C : Cx} {R : PH} {ms : List (Str × Value)} {own : List (Addr × Obj)}
   {l : Addr} {vs : List Value} {n : Nat} {Q : Value → Shared → Prop} (S : St w C R ms own s) (ok : Ok A 2) (hl : LstR R l vs n) (hv : ∀ v ∈ vs, ∃ i t, v = .int i t) (hz : vs.length ≤ 1000)
   (ret : ∀ a W tw t0 c tc R' s', Le R R' → 0 ≤ W → W < 10 ^ 90 → 0 ≤ c → c < 1000003 → St w C R' ms ((a, lstO [.int W tw, .int 0 t0, .int c tc] 0) :: own) s' → Q (.ref a) s') :
   wpAny (model prog w) A (call (.ref 282) [.ref l]) Q E s := by
  have hsz := sizeLine_eq
  k_dflt (refine' x_enter S [] ?h122 ?nd22 ?ho22 ?hcd22 ?hbind22 ?hms22 ?hloc22 ?hcell22 ?hco22 ?hgen22 ?hk22 ok ?h22 (binds := [(Str.ofString "script", .ref l)]) (ms₁ := [(Str.ofString "script", .ref l)]); (case h122 => (intro p hp; cases hp)); (case nd22 => simp); (case ho22 => k_is); (case hcd22 => k_is); (case hbind22 => exact BindsTo.of_eq rfl); (case hms22 => exact rfl); (case hloc22 => exact locs rfl); (case hcell22 => decide); (case hco22 => rfl); (case hgen22 => rfl); (case hk22 => rfl))
  intro C' A' env s₁ hC' F ok' S₁
  conv at F in (pSc _) => whnf
  dsimp only at F
  conv in (pB _) => whnf
  repeat' (first | ((rename St _ _ _ _ _ _ => S0); (with_reducible refine x_slUptoI S0 hl (by omega) (by omega) ?_); clear S0; intro _ _ _) | walk_at "slL" | walk_at "w")
  rename_i q _ S9
  obtain ⟨R₂, le₂, hq, S₂⟩ := S9.freeze (d := q) (by k_upd)
  have hpos : ∀ x : Int, 0 ≤ x.fmod (10 ^ Int.toNat 90) ∧ x.fmod (10 ^ Int.toNat 90) < 10 ^ Int.toNat 90 := fun x => ⟨Int.fmod_nonneg_of_pos _ (by rw [pow90]; decide), Int.fmod_lt_of_pos _ (by rw [pow90]; decide)⟩
  refine x_forList ok'.handled S₂ hq (.inl fun _ _ => rfl) F (fun i R₃ ms₃ own₃ => ∃ (W : Int) (tw : Tok) (tl : List (Str × Value)), 0 ≤ W ∧ W < 10 ^ Int.toNat 90 ∧ R₂ = R₃ ∧ own₃ = [] ∧ (∀ z, PutM (Str.ofString "cell") z tl [(Str.ofString "cell", z)]) ∧ ms₃ = (Str.ofString "script", .ref l) :: (Str.ofString "whole", .int W tw) :: tl) ⟨0, _, [], by decide, by rw [pow90]; decide, rfl, rfl, fun z => .nil, rfl⟩ ?_ ?_
  · rintro C₁ i v R₃ ms₃ own₃ s₃ F₁ bk hi hvi le₃ ⟨W, tw, tl, hW0, hW1, rfl, rfl, hpt, rfl⟩ S₃
    obtain ⟨c, tc, rfl⟩ := hv v (List.mem_of_mem_take (List.mem_of_getElem? hvi))
    clear le₃ S9 S₂ F
    refine wpAny_assign_Name (x_store S₃ F₁ rfl (by repeat' (first | exact PutM.hit | exact hpt _ | decide | refine' PutM.miss ?_ ?_)) fun s₄ S₄ => ?_)
    clear S₃
    repeat' (first | ((rename St _ _ _ _ _ _ => S0); (with_reducible refine x_mod S0 (by rw [pow90]; decide) ?_); clear S0; intro _ _ _) | walk_at "w")
    all_goals first
      | exact IntMulOk.of_right (intBits_le (n := 64) (by decide))
      | exact IntMulOk.of_left (intBits_le (n := 64) (by decide))
      | omega
      | (have h1 : Builtin.Int.intBits 10 ≤ 64 := intBits_le (by decide)
         omega)
      | skip
    rename St _ _ _ _ _ _ => S9
    exact ⟨_, _, _, Le.rfl', ⟨_, _, _, (hpos _).1, (hpos _).2, rfl, rfl, fun z => .hit, rfl⟩, S9⟩
  · rintro R₃ ms₃ own₃ s₃ le₃ ⟨W, tw, tl, hW0, hW1, rfl, rfl, hpt, rfl⟩ S₃
    clear le₃ S9 S₂
    repeat' (first | walk_at "w")
    rename St _ _ _ _ _ _ => S9
    exact ret _ W _ _ _ _ _ _ le₂ hW0 hW1 (Int.fmod_nonneg_of_pos _ (by decide)) (Int.fmod_lt_of_pos _ (by decide)) (S.exitN hC' (S9) (.head _) le₂)
theorem T.ev_congr {cn : List Nat} {inn : Nat} {mac mac' : Mac} (h : ∀ m, m < cn.length → ∀ args, mac m args = mac' m args) (g : List (List Tk)) (t : T) : (t.wf cn inn false → t.ev mac g = t.ev mac' g) ∧ (t.wf cn inn true → t.evR mac g = t.evR mac' g) := by
  induction t with
  | nil => simp [T.ev, T.evR]
  | leaf s c r ih => exact ⟨fun hw => by simp only [T.ev, ih.1 hw.2], fun hw => hw.elim⟩
  | call m a r iha ih =>
    refine ⟨fun hw => ?_, fun hw => hw.elim⟩
    have hm : m < cn.length := (List.getElem?_eq_some_iff.mp hw.1).1
    simp only [T.ev, iha.2 hw.2.1, ih.1 hw.2.2, h m hm]
  | row f r ihf ih => exact ⟨fun hw => hw.elim, fun hw => by simp only [T.evR, ihf.1 hw.1, ih.2 hw.2]⟩
theorem snoc_get {α : Type} {ds : List α} {d e : α} {m : Nat} (h : (ds ++ [d])[m]? = some e) : (m < ds.length ∧ ds[m]? = some e) ∨ (m = ds.length ∧ e = d) := by
  by_cases hm : m < ds.length
  · rw [List.getElem?_append_left hm] at h; exact .inl ⟨hm, h⟩
  · rw [List.getElem?_append_right (by omega)] at h
    have hlt := (List.getElem?_eq_some_iff.mp h).1
    simp only [List.length_singleton] at hlt
    have : m - ds.length = 0 := by omega
    rw [this] at h
    simp at h
    exact .inr ⟨by omega, h.symm⟩
theorem take_map_snoc {ds : List (Nat × T)} {d : Nat × T} {m : Nat} (h : m ≤ ds.length) : ((ds ++ [d]).map (·.1)).take m = (ds.map (·.1)).take m := by
  rw [List.map_append, List.take_append_of_le_length (by rw [List.length_map]; exact h)]
theorem DefsLow.init {ds : List (Nat × T)} {d : Nat × T} (h : DefsLow (ds ++ [d])) : DefsLow ds := by
  intro m e he
  have hm := (List.getElem?_eq_some_iff.mp he).1
  have := h m e (by rw [List.getElem?_append_left hm]; exact he)
  rw [take_map_snoc (by omega)] at this
  exact this
theorem DefsLow.snoc {ds : List (Nat × T)} {d : Nat × T} (h : DefsLow ds) (hd : d.2.wf (ds.map (·.1)) d.1 false ∧ d.2.nest ≤ 3 ∧ d.2.toks.length ≤ 300 ∧ d.1 ≤ 2) : DefsLow (ds ++ [d]) := by
  intro m e he
  rcases snoc_get he with ⟨hm, he⟩ | ⟨rfl, rfl⟩
  · rw [take_map_snoc (by omega)]; exact h m e he
  · rw [take_map_snoc (Nat.le_refl _), List.take_of_length_le (by simp)]; exact hd
theorem fix_snoc {ds : List (Nat × T)} {d : Nat × T} (h : DefsLow (ds ++ [d])) {mac : Mac} (hf : Fix mac ds) : ∃ mac', Fix mac' (ds ++ [d]) := by
  refine ⟨fun m args => if m = ds.length then d.2.ev mac args else mac m args, fun m e he args => ?_⟩
  have hw := h m e he
  have agree : ∀ k, k < (((ds ++ [d]).map (·.1)).take m).length → ∀ args, mac k args = (fun m args => if m = ds.length then d.2.ev mac args else mac m args) k args := fun k hk args => by
    have : k < ds.length := by
      rw [List.length_take] at hk
      rcases snoc_get he with ⟨hm, _⟩ | ⟨hm, _⟩ <;> omega
    show _ = if k = ds.length then _ else _
    rw [if_neg (by omega)]
  rw [← (T.ev_congr agree args e.2).1 hw.1]
  rcases snoc_get he with ⟨hm, he⟩ | ⟨rfl, rfl⟩
  · show (if m = ds.length then _ else _) = _
    rw [if_neg (by omega)]; exact hf m e he args
  · show (if ds.length = ds.length then _ else _) = _
    rw [if_pos rfl]
theorem fix_exists : ∀ (n : Nat) (ds : List (Nat × T)), ds.length = n → DefsLow ds → ∃ mac, Fix mac ds := by
  intro n
  induction n with
  | zero =>
    intro ds hl _
    rw [List.length_eq_zero_iff] at hl
    subst hl
    exact ⟨fun _ _ => [], fun m d h => by simp at h⟩
  | succ n ih =>
    intro ds hl h
    rcases List.eq_nil_or_concat ds with rfl | ⟨r, d, rfl⟩
    · simp at hl
    · rw [List.concat_eq_append] at h hl ⊢
      obtain ⟨mac, hf⟩ := ih r (by simpa using hl) h.init
      exact fix_snoc h hf
theorem DefsLow.ok {ds : List (Nat × T)} (h : DefsLow ds) (hl : ds.length ≤ 30) : DefsOk ds := by
  refine ⟨hl, fun d hd => ?_⟩
  obtain ⟨m, hm⟩ := List.getElem?_of_mem hd
  obtain ⟨h1, _, h3, h4⟩ := h m d hm
  refine ⟨T.wf_mono (Nat.le_refl _) (fun k n hk => ?_) d.2 false h1, h4, h3⟩
  rw [List.getElem?_take] at hk
  split at hk
  · exact hk
  · cases hk
/-- what is found is the begin of what all is worked out to -/
theorem run_prefix {ds : List (Nat × T)} (hl : ds.length ≤ 30) (hd : DefsLow ds) {mac : Mac} (hf : Fix mac ds) : ∀ (k : Nat) (t : T) (fd : List Tk) (sp : Nat) (F : List Tk) (e : Bool), t.wf (ds.map (·.1)) 0 false → run (ds.map (·.2)) k t fd sp = some (F, e) → ∃ rest, fd ++ t.ev mac [] = F ++ rest ∧ (e = true → rest = []) := by
  intro k
  induction k with
  | zero => intro t fd sp F e _ h; cases h
  | succ k ih =>
    intro t fd sp F e hw h
    cases t with
    | nil =>
      simp only [run, Option.some.injEq, Prod.mk.injEq] at h
      obtain ⟨rfl, rfl⟩ := h
      exact ⟨[], by simp [T.ev], fun _ => rfl⟩
    | leaf s c r =>
      have hs : s = 0 := by have := hw.1; omega
      subst hs
      obtain ⟨rest, h1, h2⟩ := ih r _ sp F e hw.2 h
      exact ⟨rest, by rw [← h1]; simp [T.ev], h2⟩
    | row => exact hw.elim
    | call m a r =>
      simp only [run] at h
      split at h
      · simp only [Option.some.injEq, Prod.mk.injEq] at h
        obtain ⟨rfl, rfl⟩ := h
        exact ⟨_, rfl, fun h => by cases h⟩
      · obtain ⟨d, hdm, hda⟩ : ∃ d, ds[m]? = some d ∧ a.rows.length = d.1 := by
          have := hw.1
          rw [List.getElem?_map] at this
          obtain ⟨d, h1, h2⟩ := Option.map_eq_some_iff.mp this
          exact ⟨d, h1, h2.symm⟩
        have hb : (((ds.map (·.2))[m]?).getD .nil) = d.2 := by rw [List.getElem?_map, hdm]; rfl
        rw [hb] at h
        have hdw := ((hd.ok hl).2 d (List.mem_of_getElem? hdm)).1
        have hsw : ((d.2.sub a.rows).wf (ds.map (·.1)) 0 false) := T.wf_sub (fun _ _ h => h) a.rows (T.wf_rows a hw.2.1) d.2 false hdw
        obtain ⟨rest, h1, h2⟩ := ih _ _ _ F e (T.wf_app _ _ hsw hw.2.2) h
        refine ⟨rest, ?_, h2⟩
        rw [← h1, T.ev_app mac [] _ _ hsw, (T.ev_sub mac (cn' := ds.map (·.1)) a.rows [] (T.wf_rows a hw.2.1) d.2).1 hdw, ← T.evR_rows mac [] a hw.2.1, ← hf m d hdm]
        rfl
/-- the loop ends -/
theorem run_ends {ds : List (Nat × T)} (hl : ds.length ≤ 30) (hd : DefsLow ds) (h0 : ∀ d ∈ ds, ∃ c r, d.2 = .leaf 0 c r) : ∀ (N n : Nat) (t : T) (fd : List Tk) (sp : Nat), 401 - sp ≤ N → t.toks.length ≤ n → t.wf (ds.map (·.1)) 0 false → ∃ k F e, run (ds.map (·.2)) k t fd sp = some (F, e) := by
  intro N
  induction N using Nat.strongRecOn with
  | _ N ihN =>
  intro n
  induction n with
  | zero =>
    intro t fd sp hN hn hw
    cases t with
    | nil => exact ⟨1, _, _, rfl⟩
    | leaf => simp [T.toks] at hn
    | call => simp [T.toks] at hn
    | row => exact hw.elim
  | succ n ihn =>
    intro t fd sp hN hn hw
    cases t with
    | nil => exact ⟨1, _, _, rfl⟩
    | leaf s c r =>
      obtain ⟨k, F, e, h⟩ := ihn r (fd ++ [(11, c)]) sp hN (by simp [T.toks] at hn; omega) hw.2
      exact ⟨k + 1, F, e, h⟩
    | row => exact hw.elim
    | call m a r =>
      by_cases hst : 400 < sp ∨ 60 < (a.toks ++ r.toks).length
      · exact ⟨1, fd, false, by simp only [run]; rw [if_pos hst]⟩
      · obtain ⟨d, hdm, hda⟩ : ∃ d, ds[m]? = some d ∧ a.rows.length = d.1 := by
          have := hw.1
          rw [List.getElem?_map] at this
          obtain ⟨d, h1, h2⟩ := Option.map_eq_some_iff.mp this
          exact ⟨d, h1, h2.symm⟩
        have hb : (((ds.map (·.2))[m]?).getD .nil) = d.2 := by rw [List.getElem?_map, hdm]; rfl
        have hdw := ((hd.ok hl).2 d (List.mem_of_getElem? hdm)).1
        have hsw : ((d.2.sub a.rows).wf (ds.map (·.1)) 0 false) := T.wf_sub (fun _ _ h => h) a.rows (T.wf_rows a hw.2.1) d.2 false hdw
        obtain ⟨c, q, hq⟩ := h0 d (List.mem_of_getElem? hdm)
        have hpos : 1 ≤ (d.2.sub a.rows).toks.length := by rw [hq]; simp [T.sub, T.toks]
        obtain ⟨k, F, e, h⟩ := ihN (401 - (sp + (a.toks ++ r.toks).length + (d.2.sub a.rows).toks.length)) (by omega) _ ((d.2.sub a.rows).app r) fd (sp + (a.toks ++ r.toks).length + (d.2.sub a.rows).toks.length) (Nat.le_refl _) (Nat.le_refl _) (T.wf_app _ _ hsw hw.2.2)
        refine ⟨k + 1, F, e, ?_⟩
        simp only [run, hb]
        rw [if_neg hst]; exact h
/-- the law's own comparison -/
theorem found_due {F rest due : List Tk} {e : Bool} (h : due = (F ++ rest).take 200) (he : e = true → rest = []) : F.take 200 = due.take F.length ∧ (e = true → F.take 200 = due) := by
  subst h
  refine ⟨?_, fun h => ?_⟩
  · rw [List.take_take, Nat.min_comm, ← List.take_take, List.take_left']
    rfl
  · rw [he h, List.append_nil]
def eM : Nat → Nat
  | 0 => 2
  | j + 1 => 2 + 2 * (1 + 3 * eM j)
def eP : Nat → Nat
  | 0 => 1
  | j + 1 => 1 + 2 * (2 + 3 * eP j)
theorem eM_ge (j : Nat) : 2 ≤ eM j := by cases j <;> simp [eM] <;> omega
theorem eP_ge (j : Nat) : 1 ≤ eP j := by cases j <;> simp [eP]
theorem FoAt.app {R : PH} {vs us : List Value} {t u : T} (h : FoAt R vs t) (h2 : FoAt R us u) : FoAt R (vs ++ us) (t.app u) := by
  induction h with
  | nil => exact h2
  | leaf a b _ ih => exact .leaf a b ih
  | call a b c _ _ ih => exact .call a b c ih
  | row a b _ _ ih => exact .row a b ih
theorem T.nest_app (t u : T) : (t.app u).nest = max t.nest u.nest := by
  induction t <;> simp [T.app, T.nest, *] <;> omega
theorem T.rows_app {cn : List Nat} {inn : Nat} (t u : T) (h : t.wf cn inn true) : (t.app u).rows = t.rows ++ u.rows := by
  induction t with
  | nil => rfl
  | leaf => exact h.elim
  | call => exact h.elim
  | row f r _ ih => simp [T.app, T.rows, ih h.2]
theorem T.wf_appR {cn : List Nat} {inn : Nat} (t u : T) (h : t.wf cn inn true) (hu : u.wf cn inn true) : (t.app u).wf cn inn true := by
  induction t with
  | nil => exact hu
  | leaf => exact h.elim
  | call => exact h.elim
  | row f r _ ih => exact ⟨h.1, ih h.2⟩
def CntR (cvs : List Value) (cn : List Nat) : Prop := All2 (fun v (k : Nat) => ∃ t, v = .int (k : Int) t) cvs cn
inductive TreeI (cn : List Nat) (inn : Nat) (j : Nat) (b c moI : Int) (tc tmo : Tok) (fa src : Addr) (n : Nat) (i : Nat) (R₈ : PH) (ms₈ : List (Str × Value)) (own₈ : List (Addr × Obj)) : Prop
  | mk (ti : T) (ws : List Value) (x y : Int) (tx ty : Tok) (n1 : Nat) (tls tlA tlB : List (Str × Value)) (h1 : FoAt R₈ ws ti) (h2 : ti.wf cn inn false) (h3 : ti.nest ≤ j) (h4 : ti.toks.length ≤ i * eP j) (h5 : ws.length = i) (h6 : 0 ≤ x) (h7 : x < 10 ^ 90) (h8 : 0 ≤ y) (h9 : y ≤ b + (1 + i * eM j : Nat)) (h10 : (∀ z, PutM (Str.ofString "k") z tls ((Str.ofString "k", z) :: tlA))) (h11 : (∀ z, PutM (Str.ofString "way") z tlA ((Str.ofString "way", z) :: tlB))) (h12 : (∀ z, PutM (Str.ofString "macro") z tlB [(Str.ofString "macro", z)])) (h13 : ms₈ = (Str.ofString "most", .int moI tmo) :: (Str.ofString "found", .ref fa) :: tls) (h14 : own₈ = [(fa, lstO ws n1), (src, lstO [.int x tx, .int y ty, .int c tc] n)])
inductive TreeJ (cn : List Nat) (inn : Nat) (j1 : Nat) (b9 c : Int) (tc : Tok) (fa src : Addr) (n : Nat) (ws : List Value) (n1 : Nat) (i2 : Nat) (R₁₀ : PH) (ys : List Value) (own₁₀ : List (Addr × Obj)) : Prop
  | mk (rT : T) (x2 y2 : Int) (tx2 ty2 : Tok) (h1 : FoAt R₁₀ ys rT) (h2 : rT.wf cn inn true) (h3 : rT.rows.length = i2) (h4 : rT.nest ≤ j1 + 1) (h5 : rT.toks.length ≤ i2 * (2 + 3 * eP j1)) (h6 : 0 ≤ x2) (h7 : x2 < 10 ^ 90) (h8 : 0 ≤ y2) (h9 : y2 ≤ b9 + (i2 * (1 + 3 * eM j1) : Nat)) (h10 : own₁₀ = [(fa, lstO ws n1), (src, lstO [.int x2 tx2, .int y2 ty2, .int c tc] n)])
theorem trees_spec : ∀ (j : Nat) {prog : Program} {w : World} {A : Around} {E : Value → Shared → Prop} {s : Shared} {C : Cx} {R : PH} {ms : List (Str × Value)} {own : List (Addr × Obj)}
   {src cnt : Addr} {a b c inI lvI moI : Int} {ta tb tc tin tlv tmo : Tok} {n nc inn : Nat} {cvs : List Value} {cn : List Nat} {f : Obj → List (Addr × Obj)} {Q : Value → Shared → Prop} (_ : St w C R ms own s) (_ : Ok A (j + 4))
   (_ : OwnF src (lstO [.int a ta, .int b tb, .int c tc] n) own f) (_ : C.G cnt = some (lstO cvs nc) ∨ ((cnt, lstO cvs nc) ∈ own ∧ cnt ≠ src)) (_ : CntR cvs cn) (_ : ∀ k ∈ cn, k ≤ 2) (_ : cn.length ≤ 30)
   (_ : lvI = 2 - (j : Int)) (_ : j ≤ 2) (_ : inI = (inn : Int)) (_ : inn ≤ 2) (_ : 0 ≤ moI) (_ : moI ≤ 3) (_ : 0 ≤ a) (_ : a < 10 ^ 90) (_ : 0 ≤ b) (_ : b + (1 + 3 * eM j : Nat) < 10 ^ 9) (_ : 0 ≤ c) (_ : c < 1000003)
   (_ : ∀ l ws n' t a' b' ta' tb' R' s', Le R R' → FoAt R' ws t → t.wf cn inn false → t.nest ≤ j → t.toks.length ≤ 3 * eP j → 0 ≤ a' → a' < 10 ^ 90 → 0 ≤ b' → b' ≤ b + (1 + 3 * eM j : Nat) → St w C R' ms ((l, lstO ws n') :: f (lstO [.int a' ta', .int b' tb', .int c tc] n)) s' → Q (.ref l) s'),
   wpAny (model prog w) A (call (.ref 294) [.ref src, .ref cnt, .int inI tin, .int lvI tlv, .int moI tmo]) Q E s := by
  intro j
  induction j using Nat.strongRecOn with
  | _ j IH =>
  intro prog w A E s C R ms own src cnt a b c inI lvI moI ta tb tc tin tlv tmo n nc inn cvs cn f Q S ok U hcnt hcv hc2 hcl hlv hj2 hin hin2 hmo0 hmo3 ha0 ha1 hb0 hb1 hc0 hc1 ret
  have hsz := sizeLine_eq
  have hcvl := All2.length hcv
  have hM2 := eM_ge j
  have hP1 := eP_ge j
  have h1 : ∀ p ∈ [(src, lstO [.int a ta, .int b tb, .int c tc] n)], p ∈ own := by intro p hp; rw [List.mem_singleton.mp hp]; exact U.mem
  k_dflt (refine' x_enterC S [(src, lstO [.int a ta, .int b tb, .int c tc] n)] h1 (by simp) ?ho ?hcd ?hbind ?hms ?hkind ?hco ?hgen ?hk ok ?h (binds := [(Str.ofString "source", .ref src), (Str.ofString "counts", .ref cnt), (Str.ofString "inner", .int inI tin), (Str.ofString "level", .int lvI tlv), (Str.ofString "most", .int moI tmo)]) (ms₁ := [(Str.ofString "most", .int moI tmo)]); (case ho => k_is); (case hcd => k_is); (case hbind => exact rfl); (case hms => exact rfl); (case hkind => (intro L x hx; simp only [List.mem_cons, List.not_mem_nil, or_false] at hx; rcases hx with rfl | rfl | rfl | rfl | rfl <;> first | exact .inl rfl | exact .inr ⟨rfl, rfl⟩)); (case hco => rfl); (case hgen => rfl); (case hk => rfl))
  intro C' A' env L cs s₁ hC' hL hcs F ok' ob hob hobh hlt S₁
  conv at F in (pSc _) => whnf
  conv at hcs in (pSc _) => whnf
  conv at hob in (pSc _) => whnf
  dsimp only at F hcs hob
  conv in (pB _) => whnf
  have hcs' : cs = [(Str.ofString "level", L + 1 + 1 + 1 + 1), (Str.ofString "inner", L + 1 + 1 + 1), (Str.ofString "counts", L + 1 + 1), (Str.ofString "source", L + 1)] := hcs.trans rfl
  subst hcs'
  have o1 : (ob (L + 1)).data = .cell (some (.ref src)) := hob (Str.ofString "source") (L + 1) rfl
  have o2 : (ob (L + 1 + 1)).data = .cell (some (.ref cnt)) := hob (Str.ofString "counts") (L + 1 + 1) rfl
  have o3 : (ob (L + 1 + 1 + 1)).data = .cell (some (.int inI tin)) := hob (Str.ofString "inner") (L + 1 + 1 + 1) rfl
  have o4 : (ob (L + 1 + 1 + 1 + 1)).data = .cell (some (.int lvI tlv)) := hob (Str.ofString "level") (L + 1 + 1 + 1 + 1) rfl
  have g1 := hobh (Str.ofString "source") (L + 1) rfl
  have g2 := hobh (Str.ofString "counts") (L + 1 + 1) rfl
  have g3 := hobh (Str.ofString "inner") (L + 1 + 1 + 1) rfl
  have g4 := hobh (Str.ofString "level") (L + 1 + 1 + 1 + 1) rfl
  have S₂ := S.adopt hC' h1 S₁ [(L + 1, ob (L + 1)), (L + 1 + 1, ob (L + 1 + 1)), (L + 1 + 1 + 1, ob (L + 1 + 1 + 1)), (L + 1 + 1 + 1 + 1, ob (L + 1 + 1 + 1 + 1))] (by
    intro p hp
    simp only [List.mem_cons, List.not_mem_nil, or_false] at hp
    rcases hp with rfl | rfl | rfl | rfl
    · exact ⟨g1, by omega⟩
    · exact ⟨g2, by omega⟩
    · exact ⟨g3, by omega⟩
    · exact ⟨g4, by omega⟩) (by simp)
  obtain ⟨R₃, le₃, c1, S₃⟩ := S₂.freeze .head
  obtain ⟨R₄, le₄, c2, S₄⟩ := S₃.freeze .head
  obtain ⟨R₅, le₅, c3, S₅⟩ := S₄.freeze .head
  obtain ⟨R₆, le₆, c4, S₆⟩ := S₅.freeze .head
  have l6 : Le R R₆ := le₃.trans (le₄.trans (le₅.trans le₆))
  have cS : CellAt R₆ (L + 1) (.ref src) := ⟨_, le₆ _ _ (le₅ _ _ (le₄ _ _ c1)), o1⟩
  have cC : CellAt R₆ (L + 1 + 1) (.ref cnt) := ⟨_, le₆ _ _ (le₅ _ _ c2), o2⟩
  have cI : CellAt R₆ (L + 1 + 1 + 1) (.int inI tin) := ⟨_, le₆ _ _ c3, o3⟩
  have cL : CellAt R₆ (L + 1 + 1 + 1 + 1) (.int lvI tlv) := ⟨_, c4, o4⟩
  have hG : C'.G cnt = some (lstO cvs nc) := by
    rw [hC']
    rcases hcnt with h | ⟨h, hne⟩
    · refine into_G (fun p hp q => ?_) (S.dGR _ _ h) (S.kG _ _ h)
      rw [List.mem_singleton.mp hp] at q
      have := S.GO _ U.mem
      rw [show src = cnt from q, h] at this; cases this
    · refine into_G (fun p hp q => ?_) (S.RO _ h) (S.kO _ h)
      rw [List.mem_singleton.mp hp] at q
      exact hne q.symm
  have hcget : ∀ d : Int, 0 ≤ d → d < cn.length → ∃ (k : Nat) (tk : Tok), cvs[d.toNat]? = some (.int (k : Int) tk) ∧ cn[d.toNat]? = some k ∧ k ≤ 2 := fun d h0 h2 => by
    have hlt : d.toNat < cn.length := by omega
    obtain ⟨v, hv, tk, rfl⟩ := All2.get' hcv (List.getElem?_eq_getElem hlt)
    exact ⟨_, tk, hv, List.getElem?_eq_getElem hlt, hc2 _ (List.getElem_mem hlt)⟩
  clear S₁ S₂ S₃ S₄ S₅ hob hobh hlt o1 o2 o3 o4 g1 g2 g3 g4 c1 c2 c3 c4 le₃ le₄ le₅ le₆
  change St w C' R₆ [(Str.ofString "most", .int moI tmo)] [(src, lstO [.int a ta, .int b tb, .int c tc] n)] s₁ at S₆
  have hb9 : b + 1 < 10 ^ 9 := by omega
  repeat' (first | walk_at "w" | ((with_reducible show wpAny _ _ (call (.ref 289) _) _ _ _); (rename St _ _ _ _ _ _ => S0); (refine take_spec S0 (ok'.mono (by omega)) (by k_updF) (by assumption) (by assumption) (by assumption) (by omega) hc0 hc1 (by omega) (by omega) ?_); clear S0; intro d9 t9 _ a9 b9 ta9 tb9 hd0 hd1 ha0 ha1 hb0 hb1 _))
  rename St _ _ _ _ _ _ => S9
  rename_i fa _ _ _ _ _ _ _ rg t0 t1 R₇ _ le₇ hrg
  refine x_forRng ok'.handled S9 hrg (by decide) (by omega) (fun _ _ => rfl) F (TreeI cn inn j b c moI tc tmo fa src n)
    ⟨.nil, [], a9, b9, ta9, tb9, _, [], [], [], .nil, by simp [T.wf], by simp [T.nest], by simp [T.toks], rfl, ha0, ha1, hb0, by simpa using hb1, fun z => .nil, fun z => .nil, fun z => .nil, rfl, rfl⟩ ?_ ?_
  · rintro C₁ i tk R₈ ms₈ own₈ s₈ F₁ bk hkk hi le₈ ⟨ti, ws, x, y, tx, ty, n1, tls, tlA, tlB, hfi, hwi, hni, hti, hwsl, hx0, hx1, hy0, hy1, hp1, hp2, hp3, rfl, rfl⟩ S₈
    have hG₁ := hkk _ _ hG
    have hi3 : i < 3 := by omega
    have hmulM : (i + 1) * eM j ≤ 3 * eM j := Nat.mul_le_mul_right _ (by omega)
    have hsM : (i + 1) * eM j = i * eM j + eM j := Nat.succ_mul _ _
    have hsP : (i + 1) * eP j = i * eP j + eP j := Nat.succ_mul _ _
    clear S9 F
    clear ha0 ha1 hb0 hb1
    refine wpAny_assign_Name ?_
    repeat' (first | ((with_reducible show wpAny _ _ (storeName _ _ _) _ _ _); (rename St _ _ _ _ _ _ => S0); (refine x_store S0 (by assumption) rfl (by repeat' (first | exact PutM.hit | exact PutM.nil | exact hp1 _ | exact hp2 _ | exact hp3 _ | decide | refine' PutM.miss ?_ ?_)) ?_); clear S0; intro _ _) | ((with_reducible show wpAny _ _ (call (.builtin "len") [.ref _]) _ _ _); (rename St _ _ _ _ _ _ => S0); (refine x_lenL S0 (S0.kG _ _ hG₁) (by omega) ?_); clear S0; intro _ _ _) | walk_at "w" | ((with_reducible show wpAny _ _ (call (.ref 289) _) _ _ _); (rename St _ _ _ _ _ _ => S0); (refine take_spec S0 (ok'.mono (by omega)) (by k_updF) (by assumption) (by assumption) (by assumption) (by omega) hc0 hc1 (by omega) (by omega) ?_); clear S0; intro d9 t9 _ a9 b9 ta9 tb9 hd0 hd1 ha0 ha1 hb0 hb1 _))
    all_goals (try (exfalso; omega))
    all_goals first
      | (rename St _ _ _ _ _ _ => S9
         rename_i e8 _ b8 R9 _ le9 hb8 _
         have hb7 : ∃ t1 t2, R9 b8 = some (tupO [.int 1 t1, .int (1 + d9) t2, .ref e8]) := ⟨_, _, by with_reducible exact hb8⟩
         obtain ⟨_, _, hb7⟩ := hb7
         obtain ⟨R10, le10, he8, S10⟩ := S9.freeze (d := e8) (by k_upd)
         refine ⟨R10, _, _, le9.trans le10, ⟨ti.app (.leaf 1 (1 + d9) .nil), _, a9, b9, _, _, _, _, _, _, FoAt.app (FoAt.le (le9.trans le10) hfi) (.leaf (le10 _ _ hb7) he8 .nil), T.wf_app _ _ hwi ⟨.inr ⟨rfl, by omega, by omega⟩, trivial⟩, ?_, ?_, ?_, ha0, ha1, hb0, ?_, fun z => .hit, fun z => .hit, hp3, rfl, rfl⟩, S10⟩
         · rw [T.nest_app]; simp [T.nest]; exact hni
         · rw [T.toks_app, hsP]; simp [T.toks]; omega
         · simp [hwsl]
         · omega)
      | (rename St _ _ _ _ _ _ => S9
         rename_i e8 _ b8 R9 _ le9 hb8 _
         have hb7 : ∃ t1 t2, R9 b8 = some (tupO [.int 0 t1, .int (97 + d9) t2, .ref e8]) := ⟨_, _, by with_reducible exact hb8⟩
         obtain ⟨_, _, hb7⟩ := hb7
         obtain ⟨R10, le10, he8, S10⟩ := S9.freeze (d := e8) (by k_upd)
         refine ⟨R10, _, _, le9.trans le10, ⟨ti.app (.leaf 0 (97 + d9) .nil), _, a9, b9, _, _, _, _, _, _, FoAt.app (FoAt.le (le9.trans le10) hfi) (.leaf (le10 _ _ hb7) he8 .nil), T.wf_app _ _ hwi ⟨.inl ⟨rfl, by omega, by omega⟩, trivial⟩, ?_, ?_, ?_, ha0, ha1, hb0, ?_, fun z => .hit, fun z => .hit, hp3, rfl, rfl⟩, S10⟩
         · rw [T.nest_app]; simp [T.nest]; exact hni
         · rw [T.toks_app, hsP]; simp [T.toks]; omega
         · simp [hwsl]
         · omega)
      | skip
    all_goals
      obtain ⟨m, rfl⟩ : ∃ m : Nat, d9 = (m : Int) := ⟨d9.toNat, by omega⟩
      obtain ⟨k9, tk9, hcv9, hcn9, hk9⟩ := hcget (m : Int) hd0 (by omega)
      obtain ⟨j1, rfl⟩ : ∃ j1, j = j1 + 1 := ⟨j - 1, by omega⟩
      have heM : eM (j1 + 1) = 2 + 2 * (1 + 3 * eM j1) := rfl
      have heP : eP (j1 + 1) = 1 + 2 * (2 + 3 * eP j1) := rfl
      refine x_comp F₁ rfl rfl (by decide) (fun _ => rfl) ?_
      repeat' (first | ((rename St _ _ _ _ _ _ => S0); (with_reducible refine x_itemL (S0.kG _ _ hG₁) (by omega) (by omega) hcv9 (by with_unfolding_all rfl) ?_)) | walk_at "w")
      rename St _ _ _ _ _ _ => S9
      rename_i rg2 _ _ R9 _ le9 hrg2
      refine x_compR ok'.handled S9 hrg2 (by decide) (by omega) (by decide) rfl rfl F₁ (TreeJ cn inn j1 b9 c tc fa src n ws n1) ⟨.nil, _, _, _, _, .nil, by simp [T.wf], rfl, by simp [T.nest], by simp [T.toks], ha0, ha1, hb0, by simp, rfl⟩ ?_ ?_
      · rintro C₂ env₂ i2 v R₁₀ ys own₁₀ s₁₀ F₂ hkk2 hi2 ⟨tv, rfl⟩ le₁₀ ⟨rT, x2, y2, tx2, ty2, hfr, hwr, hrl, hnr, htr, hx20, hx21, hy20, hy21, rfl⟩ hyl S₁₀
        have hG₂ := hkk2 _ _ hG₁
        have hi22 : i2 < 2 := by omega
        have hmul2 : (i2 + 1) * (1 + 3 * eM j1) ≤ 2 * (1 + 3 * eM j1) := Nat.mul_le_mul_right _ (by omega)
        have hs2 : (i2 + 1) * (1 + 3 * eM j1) = i2 * (1 + 3 * eM j1) + (1 + 3 * eM j1) := Nat.succ_mul _ _
        have hsP2 : (i2 + 1) * (2 + 3 * eP j1) = i2 * (2 + 3 * eP j1) + (2 + 3 * eP j1) := Nat.succ_mul _ _
        clear S9 F₁
        clear ha0 ha1 hb0
        repeat' (first | walk_at "w" | ((with_reducible show wpAny _ _ (call (.ref 294) _) _ _ _); (rename St _ _ _ _ _ _ => S0); (refine IH j1 (by omega) S0 (ok'.mono (by omega)) (by k_updF) (.inl hG₂) hcv hc2 hcl (by omega) (by omega) hin hin2 (by omega) (by omega) hx20 hx21 hy20 (by omega) hc0 hc1 ?_); clear S0; intro l8 ws8 n8 t8 a8 b8 ta8 tb8 R8 _ le8 hf8 hw8 hn8 ht8 ha8 ha8b hb8 hb8b _))
        rename St _ _ _ _ _ _ => S9
        obtain ⟨R11, le11, hl11, S11⟩ := S9.freeze (d := l8) (by k_upd)
        refine ⟨R11, _, le8.trans le11, ⟨rT.app (.row t8 .nil), a8, b8, _, _, FoAt.app (FoAt.le (le8.trans le11) hfr) (.row hl11 (FoAt.le le11 hf8) .nil), T.wf_appR _ _ hwr ⟨hw8, by simp [T.wf]⟩, ?_, ?_, ?_, ha8, ha8b, hb8, ?_, rfl⟩, S11⟩
        · rw [T.rows_app _ _ hwr]; simp [T.rows, hrl]
        · rw [T.nest_app]; simp [T.nest]; omega
        · rw [T.toks_app, hsP2]; simp [T.toks]; omega
        · omega
      · rintro D R₁₀ ys nn own₁₀ s₁₀ le₁₀ ⟨rT, x2, y2, tx2, ty2, hfr, hwr, hrl, hnr, htr, hx20, hx21, hy20, hy21, rfl⟩ hyl S₁₀
        obtain ⟨R11, le11, hD, S11⟩ := S₁₀.freeze .head
        have hk2 : ((k9 : Int) - 0).toNat = k9 := by omega
        rw [hk2] at hrl htr hy21
        have hmul2 : k9 * (1 + 3 * eM j1) ≤ 2 * (1 + 3 * eM j1) := Nat.mul_le_mul_right _ hk9
        have hmulP2 : k9 * (2 + 3 * eP j1) ≤ 2 * (2 + 3 * eP j1) := Nat.mul_le_mul_right _ hk9
        clear S₁₀ S9
        repeat' (first | walk_at "w")
        rename St _ _ _ _ _ _ => S9
        rename_i b8 R12 _ le12 hb8 _
        have l12 := le9.trans (le₁₀.trans (le11.trans le12))
        refine ⟨R12, _, _, l12, ⟨ti.app (.call m rT .nil), _, x2, y2, _, _, _, _, _, _, FoAt.app (FoAt.le l12 hfi) (.call hb8 (le12 _ _ hD) (FoAt.le (le11.trans le12) hfr) .nil), T.wf_app _ _ hwi ⟨by rw [hrl]; exact hcn9, hwr, trivial⟩, ?_, ?_, ?_, hx20, hx21, hy20, ?_, fun z => .hit, fun z => .hit, fun z => .hit, rfl, rfl⟩, S9⟩
        · rw [T.nest_app]; simp [T.nest]; omega
        · rw [T.toks_app, hsP]; simp [T.toks]; omega
        · simp [hwsl]
        · omega
  · rintro R₈ ms₈ own₈ s₈ le₈ ⟨ti, ws, x, y, tx, ty, n1, tls, tlA, tlB, hfi, hwi, hni, hti, hwsl, hx0, hx1, hy0, hy1, hp1, hp2, hp3, rfl, rfl⟩ S₈
    have hi3 : (d9 - 0).toNat ≤ 3 := by omega
    have hmulM : (d9 - 0).toNat * eM j ≤ 3 * eM j := Nat.mul_le_mul_right _ hi3
    have hmulP : (d9 - 0).toNat * eP j ≤ 3 * eP j := Nat.mul_le_mul_right _ hi3
    clear S9
    repeat' (first | walk_at "w")
    rename St _ _ _ _ _ _ => S9
    have nd := S9.nd
    exact ret fa ws n1 ti x y tx ty _ _ ((l6.trans le₇).trans le₈) hfi hwi hni (by omega) hx0 hx1 hy0 (by omega) (S.exit1N U hC' S9 (.tail _ (.head _)) (.head _) (by simp at nd; exact nd) ((l6.trans le₇).trans le₈))
section
variable {prog : Program} {w : World} {A : Around} {E : Value → Shared → Prop} {s : Shared} {env : Env}
  {C : Cx} {R : PH} {ms : List (Str × Value)} {own : List (Addr × Obj)} {names : List (Str × NameKind)} {cl : List (Str × Addr)}
theorem St.addMany (S : St w C R ms own s) {h' : Heap} {tk : Nat} (ds : List (Addr × Obj)) (hk : ∀ b o, s.heap.get? b = some o → h'.get? b = some o) (hd : ∀ p ∈ ds, s.heap.get? p.1 = none ∧ h'.get? p.1 = some p.2) (nd : (ds.map (·.1)).Nodup) :
    St w C R ms (ds ++ own) { s with heap := h', toks := tk } := by
  have S' := S.moved (tk := tk) hk
  exact { S' with
    kO := fun p hp => by rcases List.mem_append.mp hp with hp | hp; exact (hd p hp).2; exact S'.kO p hp
    GO := fun p hp => by rcases List.mem_append.mp hp with hp | hp; exact (S.fresh (hd p hp).1).1; exact S.GO p hp
    RO := fun p hp => by rcases List.mem_append.mp hp with hp | hp; exact (S.fresh (hd p hp).1).2.1; exact S.RO p hp
    LO := fun p hp => by rcases List.mem_append.mp hp with hp | hp; exact (S.fresh (hd p hp).1).2.2.1; exact S.LO p hp
    nd := by
      rw [List.map_append, List.nodup_append]
      refine ⟨nd, S.nd, fun a ha b hb e => ?_⟩
      obtain ⟨q, hq, e1⟩ := List.mem_map.mp ha
      obtain ⟨p, hp, e2⟩ := List.mem_map.mp hb
      exact (S.fresh (hd q hq).1).2.2.2 p hp (by rw [e2, ← e, e1]) }
theorem St.updMany {ds ds' : List (Addr × Obj)} (S : St w C R ms (ds ++ own) s) {h' : Heap} {tk : Nat} (hm : ds'.map (·.1) = ds.map (·.1)) (hk : ∀ b o, b ∉ ds.map (·.1) → s.heap.get? b = some o → h'.get? b = some o) (hd : ∀ p ∈ ds', h'.get? p.1 = some p.2) :
    St w C R ms (ds' ++ own) { s with heap := h', toks := tk } := by
  have nd := S.nd
  rw [List.map_append, List.nodup_append] at nd
  have inD : ∀ b, b ∈ ds.map (·.1) → ∃ o, (b, o) ∈ ds ++ own := fun b hb => by
    obtain ⟨p, hp, e⟩ := List.mem_map.mp hb
    exact ⟨p.2, List.mem_append_left _ (by rw [← e]; exact hp)⟩
  have nG : ∀ b o, C.G b = some o → b ∉ ds.map (·.1) := fun b o e q => by
    obtain ⟨o', h⟩ := inD b q
    rw [S.GO _ h] at e; cases e
  have nR : ∀ b o, R b = some o → b ∉ ds.map (·.1) := fun b o e q => by
    obtain ⟨o', h⟩ := inD b q
    rw [S.RO _ h] at e; cases e
  have nO : ∀ p ∈ own, p.1 ∉ ds.map (·.1) := fun p hp q => nd.2.2 _ q _ (List.mem_map.mpr ⟨p, hp, rfl⟩) rfl
  obtain ⟨oL, esL, epL, eL, rL⟩ := S.ns
  have nL : C.L ∉ ds.map (·.1) := fun q => by
    obtain ⟨o', h⟩ := inD _ q
    exact S.LO _ h rfl
  have old : ∀ p ∈ ds', ∃ o, (p.1, o) ∈ ds ++ own := fun p hp => inD _ (hm ▸ List.mem_map.mpr ⟨p, hp, rfl⟩)
  exact { S with
    ns := ⟨oL, esL, epL, hk _ _ nL eL, rL⟩
    kG := fun b o e => hk _ _ (nG b o e) (S.kG b o e)
    kR := fun b o e => hk _ _ (nR b o e) (S.kR b o e)
    kO := fun p hp => by rcases List.mem_append.mp hp with hp | hp; exact hd p hp; exact hk _ _ (nO p hp) (S.kO p (List.mem_append_right _ hp))
    GO := fun p hp => by
      rcases List.mem_append.mp hp with hp | hp
      · obtain ⟨o, h⟩ := old p hp; exact S.GO (p.1, o) h
      · exact S.GO p (List.mem_append_right _ hp)
    RO := fun p hp => by
      rcases List.mem_append.mp hp with hp | hp
      · obtain ⟨o, h⟩ := old p hp; exact S.RO (p.1, o) h
      · exact S.RO p (List.mem_append_right _ hp)
    LO := fun p hp => by
      rcases List.mem_append.mp hp with hp | hp
      · obtain ⟨o, h⟩ := old p hp; exact S.LO (p.1, o) h
      · exact S.LO p (List.mem_append_right _ hp)
    nd := by rw [List.map_append, hm, ← List.map_append]; exact S.nd
    gens := S.gens, drawn := S.drawn, os := S.os }
theorem St.lostMany {ds : List (Addr × Obj)} (S : St w C R ms (ds ++ own) s) {h' : Heap} {tk : Nat} (hk : ∀ b o, b ∉ ds.map (·.1) → s.heap.get? b = some o → h'.get? b = some o) : St w C R ms own { s with heap := h', toks := tk } := by
  have nd := S.nd
  rw [List.map_append, List.nodup_append] at nd
  have inD : ∀ b, b ∈ ds.map (·.1) → ∃ o, (b, o) ∈ ds ++ own := fun b hb => by
    obtain ⟨p, hp, e⟩ := List.mem_map.mp hb
    exact ⟨p.2, List.mem_append_left _ (by rw [← e]; exact hp)⟩
  have nG : ∀ b o, C.G b = some o → b ∉ ds.map (·.1) := fun b o e q => by
    obtain ⟨o', h⟩ := inD b q
    rw [S.GO _ h] at e; cases e
  have nR : ∀ b o, R b = some o → b ∉ ds.map (·.1) := fun b o e q => by
    obtain ⟨o', h⟩ := inD b q
    rw [S.RO _ h] at e; cases e
  have nO : ∀ p ∈ own, p.1 ∉ ds.map (·.1) := fun p hp q => nd.2.2 _ q _ (List.mem_map.mpr ⟨p, hp, rfl⟩) rfl
  obtain ⟨oL, esL, epL, eL, rL⟩ := S.ns
  have nL : C.L ∉ ds.map (·.1) := fun q => by
    obtain ⟨o', h⟩ := inD _ q
    exact S.LO _ h rfl
  have S' := S.sub (List.sublist_append_right ds own)
  exact { S' with
    ns := ⟨oL, esL, epL, hk _ _ nL eL, rL⟩
    kG := fun b o e => hk _ _ (nG b o e) (S.kG b o e)
    kR := fun b o e => hk _ _ (nR b o e) (S.kR b o e)
    kO := fun p hp => hk _ _ (nO p hp) (S'.kO p hp)
    gens := S.gens, drawn := S.drawn, os := S.os }
/-- many out of sight -/
def Cx.hidM (C : Cx) : List (Addr × Obj) → Cx
  | [] => C
  | p :: r => (C.hid p.1 p.2).hidM r
theorem St.hideM : ∀ (ds : List (Addr × Obj)) {C : Cx}, St w C R ms (ds ++ own) s → St w (C.hidM ds) R ms own s
  | [], _, S => S
  | _ :: r, _, S => St.hideM r S.hide
theorem St.unhideM : ∀ (ds : List (Addr × Obj)) {C : Cx} {R : PH} {ms : List (Str × Value)} {own : List (Addr × Obj)} {s : Shared}, (∀ p ∈ ds, C.G p.1 = none) → (ds.map (·.1)).Nodup → St w (C.hidM ds) R ms own s → St w C R ms (ds ++ own) s
  | [], _, _, _, _, _, _, _, S => S
  | p :: r, C, R, ms, own, s, hg, nd, S => by
    rw [List.map_cons, List.nodup_cons] at nd
    refine St.unhide (hg p (.head _)) (St.unhideM r (fun q hq => ?_) nd.2 S)
    rw [hid_ne (fun e => nd.1 (List.mem_map.mpr ⟨q, hq, e⟩))]
    exact hg q (.tail _ hq)
theorem Fra.hidM : ∀ (ds : List (Addr × Obj)) {C : Cx}, Fra env C names cl → Fra env (C.hidM ds) names cl
  | [], _, F => F
  | _ :: r, _, F => Fra.hidM r F.hid
theorem zap (I l1 l2 : Nat) (h1 : l1 < I) (h2 : l2 < I) : ZipApart (I + 4) (I + 2) (I + 3) I (I + 1) l1 l2 := by
  constructor <;> (refine neN ?_; omega)
theorem nd5 (B : Nat) : [B + 4, B + 3, B, B + 1, B + 2].Nodup := by simp
theorem nd4 (B : Nat) : [B + 4, B + 3, B, B + 1].Nodup := by simp
theorem x_forZip {elts : List Expr} {k} {tpos : Pos} {body : List Stmt} {l1 l2 : Addr} {xs ys : List Value} {n1 n2 : Nat} {Q : Flow → Shared → Prop} (hh : A.handled = none) (S : St w C R ms own s) (h1 : R l1 = some (lstO xs n1)) (h2 : R l2 = some (lstO ys n2)) (hlen : xs.length = ys.length)
    (hn : (assignEach elts env).length = 2) (hstar : (assignEach elts env).findIdx? (·.1) = none)
    (F : Fra env C names cl) (Inv : Nat → PH → List (Str × Value) → List (Addr × Obj) → Prop) (h0 : ∀ R', Le R R' → Inv 0 R' ms own)
    (turn : ∀ C₁ i x y R₁ ms₁ own₁ s₁, Fra env C₁ names cl → (∀ R₂ ms₂ own₂ s₂, St w C₁ R₂ ms₂ own₂ s₂ → St w C R₂ ms₂ own₂ s₂) → i < xs.length → xs[i]? = some x → ys[i]? = some y → Le R R₁ → Inv i R₁ ms₁ own₁ → St w C₁ R₁ ms₁ own₁ s₁ →
      wpAny (model prog w) A (assignInOrder ((assignEach elts env).map (·.2)) [x, y]) (fun _ s₂ => wpAny (model prog w) A (execs body env) (LoopQ (Turned w C₁ R₁ (Inv (i + 1))) Q) NoE s₂) NoE s₁)
    (done : ∀ R₁ ms₁ own₁ s₁, Le R R₁ → Inv xs.length R₁ ms₁ own₁ → St w C R₁ ms₁ own₁ s₁ → Q .next s₁) :
    wpAny (model prog w) A (call (.type "zip") [.ref l1, .ref l2]) (fun xv s₁ => wpAny (model prog w) A (pyIter xv) (fun it s₂ => codeAny (model prog w) A (.forLoop (.Tuple elts k tpos) it body [] env) (fun r s' => match r with | .ok f => Q f s' | .error e => cameBackBy (model prog w) A env E e s') s₂) E s₁) E s := by
  have hl1 := isL_of (S.kR _ _ h1)
  have hl2 := isL_of (S.kR _ _ h2)
  refine call_zip_2 hl1 hl2 fun h' hz hTI hTO hi1 hi2 hsz hk => ?_
  refine wpAny_pyIter_zip hz ?_
  have lt1 : l1 < s.heap.objs.size := Heap.lt_size (S.kR _ _ h1)
  have lt2 : l2 < s.heap.objs.size := Heap.lt_size (S.kR _ _ h2)
  have D : ZipApart (s.heap.objs.size + 4) (s.heap.objs.size + 2) (s.heap.objs.size + 3) s.heap.objs.size (s.heap.objs.size + 1) l1 l2 := zap _ _ _ lt1 lt2
  have fr : ∀ j, s.heap.get? (s.heap.objs.size + j) = none := fun j => by
    cases e : s.heap.get? (s.heap.objs.size + j) with
    | none => rfl
    | some o => exact absurd (Heap.lt_size e) (Nat.not_lt.mpr (Nat.le_add_right _ _))
  have W := (WalksT.zip2 (prog := prog) (w := w) hh _ _ _ _ _ _ _ D xs.toArray ys.toArray)
  have hmin : min xs.toArray.size ys.toArray.size = xs.length := by simp [hlen]
  rw [hmin] at W
  obtain ⟨o1, ho1, hc1, hd1⟩ := id hi1
  obtain ⟨o2, ho2, hc2, hd2⟩ := id hi2
  generalize hB : s.heap.objs.size = B at *
  have S₁ := S.addMany (tk := s.toks) [(B + 4, _), (B + 3, _), (B, o1), (B + 1, o2), (B + 2, _)] hk (fun p hp => by
    simp only [List.mem_cons, List.not_mem_nil, or_false] at hp
    rcases hp with rfl | rfl | rfl | rfl | rfl
    · exact ⟨fr 4, hz⟩
    · exact ⟨fr 3, hTO⟩
    · exact ⟨by simpa using fr 0, ho1⟩
    · exact ⟨fr 1, ho2⟩
    · exact ⟨fr 2, hTI⟩) (nd5 B)
  obtain ⟨R₀, le₀, hRT, S₂⟩ := S₁.freeze (d := B + 2) (.tail (.tail (.tail (.tail .head))))
  have hR1 := le₀ _ _ h1
  have hR2 := le₀ _ _ h2
  have st0 : IsZip h' (B + 4) (B + 2) (B + 3) Value.none ∧ IsPair h' (B + 2) (Value.ref B) (Value.ref (B + 1)) ∧ (∃ a b, IsPair h' (B + 3) a b) ∧ h'.IsListIter B l1 0 ∧ h'.IsListIter (B + 1) l2 0 ∧ h'.IsList l1 xs.toArray ∧ h'.IsList l2 ys.toArray := ⟨hz, hTI, ⟨_, _, hTO⟩, hi1, hi2, hl1.at fun o e => hk _ o e, hl2.at fun o e => hk _ o e⟩
  have ndw : ([B + 4, B + 3, B, B + 1] : List Addr).Nodup := nd4 B
  have frm : ∀ (i : Nat) (h : Heap) (R₁ : PH) ms₁ own₁ (s₁ : Shared) (ds : List (Addr × Obj)), Le R₀ R₁ → (IsZip h (B + 4) (B + 2) (B + 3) Value.none ∧ IsPair h (B + 2) (Value.ref B) (Value.ref (B + 1)) ∧ (∃ a b, IsPair h (B + 3) a b) ∧ h.IsListIter B l1 i ∧ h.IsListIter (B + 1) l2 i ∧ h.IsList l1 xs.toArray ∧ h.IsList l2 ys.toArray) →
      ds.map (·.1) = [B + 4, B + 3, B, B + 1] → (∀ p ∈ ds, h.get? p.1 = some p.2) → (∀ b o, R₀ b = some o → h.get? b = some o) → St w C R₁ ms₁ (ds ++ own₁) s₁ →
      (IsZip s₁.heap (B + 4) (B + 2) (B + 3) Value.none ∧ IsPair s₁.heap (B + 2) (Value.ref B) (Value.ref (B + 1)) ∧ (∃ a b, IsPair s₁.heap (B + 3) a b) ∧ s₁.heap.IsListIter B l1 i ∧ s₁.heap.IsListIter (B + 1) l2 i ∧ s₁.heap.IsList l1 xs.toArray ∧ s₁.heap.IsList l2 ys.toArray) := by
    intro i h R₁ ms₁ own₁ s₁ ds le st hm hd hR S₁
    refine W.frame i _ _ st fun b hb ob e => ?_
    have inD : b ∈ ds.map (·.1) → s₁.heap.get? b = some ob := fun hb => by
      obtain ⟨p, hp, e1⟩ := List.mem_map.mp hb
      have e2 := hd p hp
      have e3 := S₁.kO p (List.mem_append_left _ hp)
      rw [show p.1 = b from e1] at e2 e3
      rw [e] at e2
      rw [e3, ← e2]
    have inR : ∀ o', R₀ b = some o' → s₁.heap.get? b = some ob := fun o' e1 => by
      have e2 := hR _ _ e1
      rw [e] at e2
      rw [S₁.kR _ _ (le _ _ e1), ← e2]
    simp only [List.mem_cons, List.not_mem_nil, or_false] at hb
    rcases hb with rfl | rfl | rfl | rfl | rfl | rfl | rfl
    · exact inD (by rw [hm]; simp)
    · exact inR _ hRT
    · exact inD (by rw [hm]; simp)
    · exact inD (by rw [hm]; simp)
    · exact inD (by rw [hm]; simp)
    · exact inR _ hR1
    · exact inR _ hR2
  refine codeAny_forLoop_any (fun kk s' => ∃ (i : Nat) (R₁ : PH) (ms₁ : List (Str × Value)) (own₁ ds : List (Addr × Obj)), ds.map (·.1) = [B + 4, B + 3, B, B + 1] ∧ kk = xs.length - i ∧ i ≤ xs.length ∧ Le R₀ R₁ ∧ Inv i R₁ ms₁ own₁ ∧ (IsZip s'.heap (B + 4) (B + 2) (B + 3) Value.none ∧ IsPair s'.heap (B + 2) (Value.ref B) (Value.ref (B + 1)) ∧ (∃ a b, IsPair s'.heap (B + 3) a b) ∧ s'.heap.IsListIter B l1 i ∧ s'.heap.IsListIter (B + 1) l2 i ∧ s'.heap.IsList l1 xs.toArray ∧ s'.heap.IsList l2 ys.toArray) ∧ St w C R₁ ms₁ (ds ++ own₁) s') ?_ xs.length
    ⟨0, R₀, ms, own, [(B + 4, _), (B + 3, _), (B, o1), (B + 1, o2)], rfl, rfl, Nat.zero_le _, Le.rfl', h0 _ le₀, st0, S₂⟩
  rintro kk s' ⟨i, R₁, ms₁, own₁, ds, hds, rfl, hi, le, inv, st, S₁⟩
  by_cases hlt : i < xs.length
  · refine W.item i s' _ _ hlt st fun T vals h' tk hP hTs hT hMid hkeep => ?_
    obtain ⟨x, y, hx, hy, rfl⟩ := hP
    dsimp only
    refine W.go elts k tpos i T _ _ _ hMid fun h'' st' hkeep' => ?_
    have hTw := W.apart i T h' hMid
    obtain ⟨z1, z2, ⟨a, b, z3⟩, ⟨q1, hq1, _⟩, ⟨q2, hq2, _⟩, _⟩ := id st'
    have S₂ : St w C R₁ ms₁ ([(B + 4, _), (B + 3, _), (B, q1), (B + 1, q2)] ++ own₁) { s' with heap := h'', toks := tk } := S₁.updMany (tk := tk) (ds' := [(B + 4, _), (B + 3, _), (B, q1), (B + 1, q2)]) (by rw [hds]; rfl) (fun b o hb e => hkeep' b o (by rw [hds] at hb; exact hb) (hkeep b o (by rw [hds] at hb; exact hb) e)) (fun p hp => by
      simp only [List.mem_cons, List.not_mem_nil, or_false] at hp
      rcases hp with rfl | rfl | rfl | rfl
      · exact z1
      · exact z3
      · exact hq1
      · exact hq2)
    have hTup : IsTup h'' T #[x, y] := by
      obtain ⟨oT, e1, e2, nT, e3⟩ := hT
      exact ⟨oT, hkeep' _ _ hTw e1, e2, nT, e3⟩
    refine assign_Tuple_tuple hh hTup (by simpa using hn) hstar fun h3 he => ?_
    have he' : ∀ b o, h''.get? b = some o → h3.get? b = some o := fun b o e => he b o (Nat.ne_of_lt (Heap.lt_size e)) e
    have S₃ := S₂.moved (tk := tk) he'
    have st3 := W.frame (i + 1) h'' h3 st' fun b _ o e => he' b o e
    have gz : ∀ p ∈ ([(B + 4, _), (B + 3, _), (B, q1), (B + 1, q2)] : List (Addr × Obj)), C.G p.1 = none := fun p hp => S₃.GO p (List.mem_append_left _ hp)
    refine wpAny_mono (turn _ i x y R₁ ms₁ own₁ _ (Fra.hidM _ F) (fun R₂ ms₂ own₂ s₂ S₄ => (St.unhideM _ gz ndw S₄).sub (List.sublist_append_right _ _)) hlt (by simpa using hx) (by simpa using hy) (le₀.trans le) inv (St.hideM _ S₃)) (fun _ s₂ h₂ => ?_) fun _ _ e => e.elim
    refine wpAny_mono h₂ (fun f s₃ h₃ => ?_) fun _ _ e => e.elim
    cases f with
    | brk => exact h₃.elim
    | ret v => exact h₃
    | _ =>
      obtain ⟨R₂, ms₂, own₂, le₂, inv₂, S₄⟩ := h₃
      have S₅ := St.unhideM _ gz ndw S₄
      exact ⟨xs.length - (i + 1), by omega, i + 1, R₂, ms₂, own₂, _, rfl, rfl, hlt, le.trans le₂, inv₂, frm (i + 1) h3 R₂ ms₂ own₂ _ _ (le.trans le₂) st3 rfl (fun p hp => S₃.kO p (List.mem_append_left _ hp)) (fun b o e => S₃.kR b o (le _ _ e)) S₅, S₅⟩
  · have : i = xs.length := by omega
    subst this
    refine W.done _ _ _ st fun h' tk hkeep => ?_
    exact wpAny_execs_nil (done R₁ ms₁ own₁ _ (le₀.trans le) inv (S₁.lostMany fun b o hb e => hkeep b o (by rw [hds] at hb; exact hb) e))
end
theorem x_neLstF {prog : Program} {w : World} {A : Around} {E : Value → Shared → Prop} {s : Shared} {C : Cx} {R : PH} {ms : List (Str × Value)} {own : List (Addr × Obj)} {a b : Addr} {us vs : List Value} {n m : Nat} {ts ts' : List Tk} {Q : Value → Shared → Prop} (S : St w C R ms own s) (ok : Ok A 9) (ha : s.heap.get? a = some (lstO us n)) (hb : s.heap.get? b = some (lstO vs m)) (ra : ToksAt R us ts) (rb : ToksAt R vs ts') (e : ts = ts') (h : Q (.bool false) s) : wpAny (model prog w) A (compareOp .NotEq (.ref a) (.ref b)) Q E s :=
  x_neLst S ok ha hb ra rb (by rw [decide_eq_true e]; exact h)
theorem x_neTupF {prog : Program} {w : World} {A : Around} {E : Value → Shared → Prop} {s : Shared} {C : Cx} {R : PH} {ms : List (Str × Value)} {own : List (Addr × Obj)} {a b : Addr} {us vs : List Value} {ts : List Tk} {Q : Value → Shared → Prop} (S : St w C R ms own s) (ok : Ok A 9) (ha : s.heap.get? a = some (tupO us)) (hb : s.heap.get? b = some (tupO vs)) (ra : ToksAt R us ts) (rb : ToksAt R vs ts) (h : Q (.bool false) s) : wpAny (model prog w) A (compareOp .NotEq (.ref a) (.ref b)) Q E s :=
  x_neTup S ok ha hb ra rb (by rw [decide_eq_true rfl]; exact h)
theorem All2.split1 {α β : Type} {P : α → β → Prop} {as : List α} {b : β} {bs : List β} (h : All2 P as (bs ++ [b])) : ∃ as' a, as = as' ++ [a] ∧ All2 P as' bs ∧ P a b := by
  have h2 := h.rev
  rw [List.reverse_append] at h2
  generalize hq : as.reverse = q at h2
  cases h2 with
  | @cons wl _ wr _ hl hr =>
    refine ⟨wr.reverse, wl, ?_, by simpa using hr.rev, hl⟩
    have := congrArg List.reverse hq
    rw [List.reverse_reverse, List.reverse_cons] at this
    exact this
theorem prm_succ (i : Nat) : prm (i + 1) = prm i ++ [(9, 1 + (i : Int))] := by simp [prm, List.range_succ]
theorem x_joinS {prog : Program} {w : World} {A : Around} {E : Value → Shared → Prop} {s : Shared} {C : Cx} {R : PH} {ms : List (Str × Value)} {own : List (Addr × Obj)} {st : Stmt} {rest : List Stmt} {env : Env} {Q : Flow → Shared → Prop} (S : St w C R ms own s)
    (h : ∀ K : Flow → Shared → Prop, (∀ s', St w C R ms own s' → K .next s') → wpAny (model prog w) A (exec st env) K E s) (tail : ∀ s', St w C R ms own s' → wpAny (model prog w) A (execs rest env) Q E s') : wpAny (model prog w) A (execs (st :: rest) env) Q E s :=
  x_cons (h _ fun s' S' => tail s' S')
inductive ProgI (N : Nat) (b c : Int) (tc tr : Tok) (ba ma ca src : Addr) (n : Nat) (i : Nat) (R₈ : PH) (ms₈ : List (Str × Value)) (own₈ : List (Addr × Obj)) : Prop
  | mk (ds : List (Nat × T)) (cvs bvs mvs : List Value) (x y : Int) (tx ty : Tok) (nc nb nm : Nat) (tls tlA tlB : List (Str × Value)) (h1 : ds.length = i) (h2 : CntR cvs (ds.map (·.1))) (h3 : BodR R₈ bvs ds) (h4 : All2 (MacAt R₈) mvs ds) (h5 : DefsLow ds) (h6 : (∀ d ∈ ds, ∃ c r, d.2 = .leaf 0 c r)) (h7 : 0 ≤ x) (h8 : x < 10 ^ 90) (h9 : 0 ≤ y) (h10 : y ≤ b + (i * 303 : Nat)) (h11 : (∀ z, PutM (Str.ofString "k") z tls ((Str.ofString "k", z) :: tlA))) (h12 : (∀ z, PutM (Str.ofString "inner") z tlA ((Str.ofString "inner", z) :: tlB))) (h13 : (∀ z, PutM (Str.ofString "body") z tlB [(Str.ofString "body", z)])) (h14 : (i = 0 ∨ ∃ v1 v2 v3, tls = [(Str.ofString "k", v1), (Str.ofString "inner", v2), (Str.ofString "body", v3)])) (h15 : ms₈ = (Str.ofString "rounds", .int (N : Int) tr) :: (Str.ofString "bodies", .ref ba) :: (Str.ofString "macros", .ref ma) :: tls) (h16 : own₈ = [(ma, lstO mvs nm), (ba, lstO bvs nb), (ca, lstO cvs nc), (src, lstO [.int x tx, .int y ty, .int c tc] n)])
inductive ProgJ (ds : List (Nat × T)) (dl : Nat × T) (cvs1 bvs mvs : List Value) (tv1 tc : Tok) (y c : Int) (ma ba ca src : Addr) (nm nb nc n : Nat) (i2 : Nat) (R₁₀ : PH) (ys : List Value) (own₁₀ : List (Addr × Obj)) : Prop
  | mk (rT : T) (x2 y2 : Int) (tx2 ty2 : Tok) (h1 : FoAt R₁₀ ys rT) (h2 : rT.wf (ds.map (·.1)) 0 true) (h3 : rT.rows.length = i2) (h4 : rT.nest ≤ 2) (h5 : rT.toks.length ≤ i2 * 35) (h6 : 0 ≤ x2) (h7 : x2 < 10 ^ 90) (h8 : 0 ≤ y2) (h9 : y2 ≤ y + (i2 * 49 : Nat)) (h10 : own₁₀ = [(ma, lstO mvs nm), (ba, lstO bvs nb), (ca, lstO (cvs1 ++ [.int (dl.1 : Int) tv1]) nc), (src, lstO [.int x2 tx2, .int y2 ty2, .int c tc] n)])
theorem program_spec {prog : Program} {w : World} {A : Around} {E : Value → Shared → Prop} {s : Shared} {C : Cx} {R : PH} {ms : List (Str × Value)} {own : List (Addr × Obj)}
   {src : Addr} {a b c : Int} {ta tb tc tr : Tok} {n N : Nat} {f : Obj → List (Addr × Obj)} {Q : Value → Shared → Prop} (S : St w C R ms own s) (ok : Ok A 200)
   (U : OwnF src (lstO [.int a ta, .int b tb, .int c tc] n) own f) (ha0 : 0 ≤ a) (ha1 : a < 10 ^ 90) (hb0 : 0 ≤ b) (hb1 : b ≤ 1000) (hc0 : 0 ≤ c) (hc1 : c < 1000003) (hN1 : 1 ≤ N) (hN2 : N ≤ 10)
   (ret : ∀ R' s' o', Le R R' → St w C R' ms (f o') s' → Q (.bool true) s') :
   wpAny (model prog w) A (call (.ref 318) [.ref src, .int (N : Int) tr]) Q E s := by
  have hsz := sizeLine_eq
  have h1 : ∀ p ∈ [(src, lstO [.int a ta, .int b tb, .int c tc] n)], p ∈ own := by intro p hp; rw [List.mem_singleton.mp hp]; exact U.mem
  k_dflt (refine' x_enterC S [(src, lstO [.int a ta, .int b tb, .int c tc] n)] h1 (by simp) ?ho ?hcd ?hbind ?hms ?hkind ?hco ?hgen ?hk ok ?h (binds := [(Str.ofString "source", .ref src), (Str.ofString "rounds", .int (N : Int) tr)]) (ms₁ := [(Str.ofString "rounds", .int (N : Int) tr)]); (case ho => k_is); (case hcd => k_is); (case hbind => exact rfl); (case hms => exact rfl); (case hkind => (intro L x hx; simp only [List.mem_cons, List.not_mem_nil, or_false] at hx; rcases hx with rfl | rfl <;> first | exact .inl rfl | exact .inr ⟨rfl, rfl⟩)); (case hco => rfl); (case hgen => rfl); (case hk => rfl))
  intro C' A' env L cs s₁ hC' hL hcs F ok' ob hob hobh hlt S₁
  conv at F in (pSc _) => whnf
  conv at hcs in (pSc _) => whnf
  conv at hob in (pSc _) => whnf
  dsimp only at F hcs hob
  conv in (pB _) => whnf
  have hcs' : cs = [(Str.ofString "counts", L + 1 + 1), (Str.ofString "source", L + 1)] := hcs.trans rfl
  subst hcs'
  have o1 : (ob (L + 1)).data = .cell (some (.ref src)) := hob (Str.ofString "source") (L + 1) rfl
  have o2 : (ob (L + 1 + 1)).data = .cell none := hob (Str.ofString "counts") (L + 1 + 1) rfl
  have g1 := hobh (Str.ofString "source") (L + 1) rfl
  have g2 := hobh (Str.ofString "counts") (L + 1 + 1) rfl
  have S₂ := S.adopt hC' h1 S₁ [(L + 1, ob (L + 1)), (L + 1 + 1, ob (L + 1 + 1))] (by
    intro p hp
    simp only [List.mem_cons, List.not_mem_nil, or_false] at hp
    rcases hp with rfl | rfl
    · exact ⟨g1, by omega⟩
    · exact ⟨g2, by omega⟩) (by simp)
  obtain ⟨R₃, le₃, c1, S₃⟩ := S₂.freeze .head
  have cS : CellAt R₃ (L + 1) (.ref src) := ⟨_, c1, o1⟩
  clear S₁ S₂ hob hobh hlt o1 g1 g2 c1
  change St w C' R₃ [(Str.ofString "rounds", .int (N : Int) tr)] [(L + 1 + 1, ob (L + 1 + 1)), (src, lstO [.int a ta, .int b tb, .int c tc] n)] s₁ at S₃
  refine wpAny_execs_cons (Assign_Tuple ?_ rfl ?hw)
  case hw =>
    delta swappedStores
    have kk : env.kindOf = fun x => env.scope.names.lookup x := rfl
    rw [F.n] at kk
    rw [kk, F.blk]
    rfl
  repeat' (first | ((with_reducible show wpAny _ _ (storeName _ (Str.ofString "counts") _) _ _ _); (rename St _ _ _ _ _ _ => S0); (refine x_storeC S0 (by assumption) rfl rfl (by k_updF) o2 ?_); clear S0; intro oC _ hoC _) | walk_at "w")
  rename St _ _ _ _ _ _ => S9
  rename_i ca _ ba _ ma _ _ R₄ _ le₄ _ _ _ _ _ rg _ _ R₅ _ le₅ hrg
  obtain ⟨R₆, le₆, c2, S₆⟩ := S9.freeze (d := L + 1 + 1) (by k_upd)
  have cC : CellAt R₆ (L + 1 + 1) (.ref ca) := ⟨_, c2, hoC⟩
  have hcs : ca ≠ src := fun e => by
    have := S9.nd
    subst e
    simp at this
  have heM : eM 2 = 100 := rfl
  have heP : eP 2 = 71 := rfl
  have lall : Le R R₆ := le₃.trans (le₄.trans (le₅.trans le₆))
  have cS6 : CellAt R₆ (L + 1) (.ref src) := cS.le (le₄.trans (le₅.trans le₆))
  clear S9 c2 hoC o2 cS
  have hrg6 := le₆ _ _ hrg
  clear hrg le₃ le₄ le₅ le₆
  refine x_forRng ok'.handled S₆ hrg6 (by decide) (by omega) (fun _ _ => rfl) F (ProgI N b c tc tr ba ma ca src n)
    ⟨[], [], [], [], a, b, ta, tb, _, _, _, [], [], [], rfl, .nil, .nil, .nil, (fun m d h => by simp at h), (fun d h => by cases h), ha0, ha1, hb0, by simp, fun z => .nil, fun z => .nil, fun z => .nil, .inl rfl, rfl, rfl⟩ ?_ ?_
  · rintro C₁ i tk R₈ ms₈ own₈ s₈ F₁ bk hkk hi le₈ ⟨ds, cvs, bvs, mvs, x, y, tx, ty, nc, nb, nm, tls, tlA, tlB, hdl, hcv, hbv, hmv, hlow, hlf, hx0, hx1, hy0, hy1, hp1, hp2, hp3, _, rfl, rfl⟩ S₈
    have hi10 : i < 10 := by omega
    have hc2 : ∀ k ∈ ds.map (·.1), k ≤ 2 := fun k hk => by
      obtain ⟨d, hd, rfl⟩ := List.mem_map.mp hk
      obtain ⟨m, hm⟩ := List.getElem?_of_mem hd
      exact (hlow m d hm).2.2.2
    have hcl : (ds.map (·.1)).length ≤ 30 := by rw [List.length_map]; omega
    have hcl2 := All2.length hcv
    have hbl2 := All2.length hbv
    have hml2 := All2.length hmv
    rw [List.length_map] at hcl2
    clear F S₆
    clear ha0 ha1 hb0
    refine wpAny_assign_Name ?_
    repeat' (first | ((with_reducible show wpAny _ _ (storeName _ _ _) _ _ _); (rename St _ _ _ _ _ _ => S0); (refine x_store S0 (by assumption) rfl (by repeat' (first | exact PutM.hit | exact PutM.nil | exact hp1 _ | exact hp2 _ | exact hp3 _ | decide | refine' PutM.miss ?_ ?_)) ?_); clear S0; intro _ _) | walk_at "w" | walk_at "add" | ((with_reducible show wpAny _ _ (call (.ref 289) _) _ _ _); (rename St _ _ _ _ _ _ => S0); (refine take_spec S0 (ok'.mono (by omega)) (by k_updF) (by assumption) (by assumption) (by assumption) (by omega) hc0 hc1 (by omega) (by omega) ?_); clear S0; intro d9 t9 _ a9 b9 ta9 tb9 hd0 hd1 ha0 ha1 hb0 hb1 _) | ((with_reducible show wpAny _ _ (call (.ref 294) _) _ _ _); (rename St _ _ _ _ _ _ => S0); (refine trees_spec 2 (inn := d9.toNat) S0 (ok'.mono (by omega)) (by k_updF) (.inr ⟨by walk_at "memO", hcs⟩) hcv hc2 hcl rfl (by omega) (by omega) (by omega) (by omega) (by omega) ha0 ha1 hb0 (by simp only [heM]; omega) hc0 hc1 ?_); clear S0; intro l8 ws8 n8 t8 x8 y8 tx8 ty8 R8 _ le8 hf8 hw8 hn8 ht8 hx8 hx8b hy8 hy8b _; simp only [heM] at hy8b; simp only [heP] at ht8; have hwl8 := FoAt.len hf8))
    obtain ⟨m9, rfl⟩ : ∃ m : Nat, d9 = (m : Int) := ⟨d9.toNat, by omega⟩
    rw [Int.toNat_natCast] at hw8
    rename St _ _ _ _ _ _ => S9
    rename_i eA _ tA R7 _ le7 htA l1 _ _ _ _ _ _ bd _ _ _ _
    obtain ⟨R9, le9, hbd, S10⟩ := S9.freeze .head
    obtain ⟨R10, le10, heA, S11⟩ := S10.freeze (d := eA) (.tail (.tail .head))
    have S12 := S11.drop1.drop1
    clear S9 S10 S11
    have hbd11 := le10 _ _ hbd
    have hfB : FoAt R10 ([.ref tA] ++ ws8) (T.leaf 0 (65 + (0 + (i : Int))) t8) := .leaf (le10 _ _ (le9 _ _ (le8 _ _ htA))) heA (FoAt.le (le9.trans le10) hf8)
    have hwB : (T.leaf 0 (65 + (0 + (i : Int))) t8).wf (ds.map (·.1)) m9 false := ⟨.inl ⟨rfl, by omega, by omega⟩, hw8⟩
    have hnB : (T.leaf 0 (65 + (0 + (i : Int))) t8).nest ≤ 3 := by show t8.nest ≤ 3; omega
    have hzB : (T.leaf 0 (65 + (0 + (i : Int))) t8).toks.length ≤ 214 := by simp [T.toks]; omega
    have l10 : Le R₈ R10 := le7.trans (le8.trans (le9.trans le10))
    have cS10 := cS6.le (le₈.trans l10)
    have cC10 := cC.le (le₈.trans l10)
    clear le7 le8 le9 le10 htA hbd heA hf8 le₈
    refine x_comp F₁ rfl rfl (by decide) (fun _ => rfl) ?_
    repeat' (first | walk_at "w")
    rename St _ _ _ _ _ _ => S9
    rename_i rg2 _ _ R11 _ le11 hrg2
    refine x_compR ok'.handled S9 hrg2 (by decide) (by omega) (by decide) rfl rfl F₁ (fun i2 R₁₂ ys own₁₂ => ToksAt R₁₂ ys (prm i2) ∧ own₁₂ = [(ma, lstO mvs nm), (ba, lstO (bvs ++ [.ref bd]) (nb + 1)), (ca, lstO (cvs ++ [.int (m9 : Int) t9]) (nc + 1)), (src, lstO [.int x8 tx8, .int y8 ty8, .int c tc] n)]) ⟨.nil, rfl⟩ ?_ ?_
    · rintro C₂ env₂ i2 v R₁₂ ys own₁₂ s₁₂ F₂ hkk2 hi2 ⟨tv, rfl⟩ le₁₂ ⟨hys, rfl⟩ hyl S₁₃
      clear S9 F₁
      repeat' (first | walk_at "w")
      rename St _ _ _ _ _ _ => S9
      rename_i b8 R13 _ le13 hb8
      exact ⟨R13, _, le13, ⟨by rw [prm_succ]; exact All2.snoc (ToksAt.le hys le13) ⟨b8, _, _, rfl, by rw [show (1 : Int) + ((0 : Int) + (i2 : Int)) = 1 + (i2 : Int) by omega] at hb8; exact hb8⟩, rfl⟩, S9⟩
    · rintro D R₁₂ ys nn own₁₂ s₁₂ le₁₂ ⟨hys, rfl⟩ hyl S₁₃
      have e9 : ((m9 : Int) - 0).toNat = m9 := by omega
      rw [e9] at hys
      have hysl := All2.length hys
      rw [prm_length] at hysl
      clear S9
      repeat' (first | walk_at "w" | ((with_reducible show wpAny _ _ (call (.ref 289) _) _ _ _); (rename St _ _ _ _ _ _ => S0); (refine take_spec S0 (ok'.mono (by omega)) (by k_updF) (by assumption) (by assumption) (by assumption) (by omega) hc0 hc1 (by omega) (by omega) ?_); clear S0; intro d7 t7 _ a7 b7 ta7 tb7 _ _ ha7 ha7b hb7 hb7b _) | ((with_reducible show wpAny _ _ (call (.ref 301) _) _ _ _); (rename St _ _ _ _ _ _ => S0); (refine tokens_spec 3 S0 (ok'.mono (by omega)) (Le.up hbd11 (by k_ownIn)) (FoAt.le (by k_ownIn) hfB) hwB hnB (by omega) ?_); clear S0; intro lt wst nt Rt _ leT hwst _; have hwtl := All2.length hwst) | ((with_reducible show wpAny _ _ (call (.ref 214) _) _ _ _); (rename St _ _ _ _ _ _ => S0); (refine macro_spec (n := m9) S0 (ok'.mono (by omega)) (by walk_at "R") (ToksAt.le hys (by k_ownIn)) (by omega) (by walk_at "R") (.inl rfl) ?_); clear S0; intro xm Rm _ lem hMm _))
      rename St _ _ _ _ _ _ => S9
      rename_i paA R13 _ le13 hpa _ boA R14 _ le14 hbo _ _ _ _ _ _ _ _ _
      have lF : Le R₁₂ Rm := le13.trans (leT.trans (le14.trans lem))
      have lG : Le R10 Rm := le11.trans (le₁₂.trans lF)
      have lA : Le R₈ Rm := l10.trans lG
      refine ⟨Rm, _, _, lA, ⟨ds ++ [(m9, T.leaf 0 (65 + (0 + (i : Int))) t8)], cvs ++ [.int (m9 : Int) t9], bvs ++ [.ref bd], mvs ++ [.ref xm], a7, b7, _, _, _, _, _, _, _, _, by simp [hdl], ?_, All2.snoc (BodR.le lA hbv) ⟨bd, _, _, rfl, lG _ _ hbd11, FoAt.le lG hfB⟩, All2.snoc (hmv.imp fun _ _ h => MacAt.le h lA) ⟨xm, paA, boA, ys, wst, _, rfl, hMm, (leT.trans (le14.trans lem)) _ _ hpa, ToksAt.le hys lF, lem _ _ hbo, ToksAt.le hwst (le14.trans lem)⟩, hlow.snoc ⟨hwB, hnB, Nat.le_trans hzB (by decide), by show m9 ≤ 2; omega⟩, ?_, ha7, ha7b, hb7, ?_, fun z => .hit, fun z => .hit, fun z => .hit, .inr ⟨_, _, _, rfl⟩, rfl, rfl⟩, S9.drop1.drop1⟩
      · rw [List.map_append]; exact All2.snoc hcv ⟨t9, rfl⟩
      · intro d hd
        rcases List.mem_append.mp hd with hd | hd
        · exact hlf d hd
        · rw [List.mem_singleton.mp hd]; exact ⟨_, _, rfl⟩
      · omega
  · rintro R₈ ms₈ own₈ s₈ le₈ ⟨ds, cvs, bvs, mvs, x, y, tx, ty, nc, nb, nm, tls, tlA, tlB, hdl, hcv, hbv, hmv, hlow, hlf, hx0, hx1, hy0, hy1, hp1, hp2, hp3, htl, rfl, rfl⟩ S₈
    have hdN : ds.length = N := by omega
    obtain ⟨v1, v2, v3, rfl⟩ : ∃ v1 v2 v3, tls = [(Str.ofString "k", v1), (Str.ofString "inner", v2), (Str.ofString "body", v3)] := by
      rcases htl with h | h
      · omega
      · exact h
    clear htl hp1 hp2 hp3 hdl S₆
    have hc2 : ∀ k ∈ ds.map (·.1), k ≤ 2 := fun k hk => by
      obtain ⟨d, hd, rfl⟩ := List.mem_map.mp hk
      obtain ⟨m, hm⟩ := List.getElem?_of_mem hd
      exact (hlow m d hm).2.2.2
    have hcl : (ds.map (·.1)).length ≤ 30 := by rw [List.length_map]; omega
    have hbl2 := All2.length hbv
    have hml2 := All2.length hmv
    have heM1 : eM 1 = 16 := rfl
    have heP1 : eP 1 = 11 := rfl
    obtain ⟨ds1, dl, hds⟩ : ∃ ds1 dl, ds = ds1 ++ [dl] := by
      rcases List.eq_nil_or_concat ds with h | ⟨r, d, h⟩
      · rw [h] at hdN; simp at hdN; omega
      · exact ⟨r, d, by rw [h, List.concat_eq_append]⟩
    have hdl1 : ds1.length + 1 = N := by rw [hds] at hdN; simpa using hdN
    have hdm : ds[N - 1]? = some dl := by rw [hds, List.getElem?_append_right (by omega)]; simp [show N - 1 - ds1.length = 0 by omega]
    obtain ⟨cvs1, v0, hcvs, _, tv1, hv0⟩ : ∃ as' a, cvs = as' ++ [a] ∧ CntR as' (ds1.map (·.1)) ∧ ∃ t, a = .int (dl.1 : Int) t := All2.split1 (by rw [hds, List.map_append] at hcv; exact hcv)
    have hdl2 : dl.1 ≤ 2 := (hlow _ _ hdm).2.2.2
    subst hv0
    subst hcvs
    clear hds
    repeat' (first | walk_at "w")
    refine x_comp F rfl rfl (by decide) (fun _ => rfl) ?_
    repeat' (first | walk_at "w")
    rename St _ _ _ _ _ _ => S9
    rename_i rg2 _ _ R9 _ le9 hrg2
    refine x_compR ok'.handled S9 hrg2 (by decide) (by omega) (by decide) rfl rfl F (ProgJ ds dl cvs1 bvs mvs tv1 tc y c ma ba ca src nm nb nc n) ⟨.nil, x, y, tx, ty, .nil, by simp [T.wf], rfl, by simp [T.nest], by simp [T.toks], hx0, hx1, hy0, by simp, rfl⟩ ?_ ?_
    · rintro C₂ env₂ i2 v R₁₀ ys own₁₀ s₁₀ F₂ hkk2 hi2 ⟨tv, rfl⟩ le₁₀ ⟨rT, x2, y2, tx2, ty2, hfr, hwr, hrl, hnr, htr, hx20, hx21, hy20, hy21, rfl⟩ hyl S₁₀
      clear S9 F
      clear ha0 ha1 hb0
      repeat' (first | walk_at "w" | ((with_reducible show wpAny _ _ (call (.ref 294) _) _ _ _); (rename St _ _ _ _ _ _ => S0); (refine trees_spec 1 (inn := 0) S0 (ok'.mono (by omega)) (by k_updF) (.inr ⟨by walk_at "memO", hcs⟩) hcv hc2 hcl rfl (by omega) rfl (by omega) (by omega) (by omega) hx20 hx21 hy20 (by simp only [heM1]; omega) hc0 hc1 ?_); clear S0; intro l8 ws8 n8 t8 x8 y8 tx8 ty8 R8 _ le8 hf8 hw8 hn8 ht8 hx8 hx8b hy8 hy8b _; simp only [heM1] at hy8b; simp only [heP1] at ht8))
      rename St _ _ _ _ _ _ => S9
      obtain ⟨R11, le11, hl11, S11⟩ := S9.freeze (d := l8) (by k_upd)
      refine ⟨R11, _, le8.trans le11, ⟨rT.app (.row t8 .nil), x8, y8, _, _, FoAt.app (FoAt.le (le8.trans le11) hfr) (.row hl11 (FoAt.le le11 hf8) .nil), T.wf_appR _ _ hwr ⟨hw8, by simp [T.wf]⟩, ?_, ?_, ?_, hx8, hx8b, hy8, ?_, rfl⟩, S11⟩
      · rw [T.rows_app _ _ hwr]; simp [T.rows, hrl]
      · rw [T.nest_app]; simp [T.nest]; omega
      · rw [T.toks_app]; simp [T.toks]; omega
      · omega
    · rintro D R₁₀ ys nn own₁₀ s₁₀ le₁₀ ⟨rT, x2, y2, tx2, ty2, hfr, hwr, hrl, hnr, htr, hx20, hx21, hy20, hy21, rfl⟩ hyl S₁₀
      obtain ⟨R11, le11, hD, S11⟩ := S₁₀.freeze .head
      clear S₁₀ S9
      clear ha0 ha1 hb0
      repeat' (first | walk_at "w" | walk_at "add" | ((with_reducible show wpAny _ _ (call (.ref 294) _) _ _ _); (rename St _ _ _ _ _ _ => S0); (refine trees_spec 2 (inn := 0) S0 (ok'.mono (by omega)) (by k_updF) (.inr ⟨by walk_at "memO", hcs⟩) hcv hc2 hcl rfl (by omega) rfl (by omega) (by omega) (by omega) hx20 hx21 hy20 (by simp only [heM]; omega) hc0 hc1 ?_); clear S0; intro l8 ws8 n8 t8 x8 y8 tx8 ty8 R8 _ le8 hf8 hw8 hn8 ht8 hx8 hx8b hy8 hy8b _; simp only [heM] at hy8b; simp only [heP] at ht8; have hwl8 := FoAt.len hf8))
      rename St _ _ _ _ _ _ => S9
      rename_i tA R7 _ le7 htA l1 _ _ _ _ _ _ _ _ trl _ _
      obtain ⟨R12, le12, htrl, S12⟩ := S9.freeze .head
      obtain ⟨R13, le13, hma, S13⟩ := S12.drop1.drop1.freeze .head
      obtain ⟨R14, le14, hba, S14⟩ := S13.freeze .head
      clear S9 S12 S13
      have hNm : ((N : Int) - 1) = ((N - 1 : Nat) : Int) := by omega
      rw [hNm] at htA
      have l8 : Le R8 R14 := le12.trans (le13.trans le14)
      have l7 : Le R7 R14 := le8.trans l8
      have l11 : Le R11 R14 := le7.trans l7
      have l10 : Le R₁₀ R14 := le11.trans l11
      have lz : Le R₈ R14 := le9.trans (le₁₀.trans l10)
      have htrl4 := le14 _ _ (le13 _ _ htrl)
      have hma4 := le14 _ _ hma
      have hfT : FoAt R14 ([.ref tA] ++ ws8) (T.call (N - 1) rT t8) := .call (l7 _ _ htA) (l11 _ _ hD) (FoAt.le l10 hfr) (FoAt.le l8 hf8)
      have hrl2 : rT.rows.length = dl.1 := by omega
      have hwT : (T.call (N - 1) rT t8).wf (ds.map (·.1)) 0 false := ⟨by rw [List.getElem?_map, hdm, hrl2]; rfl, hwr, hw8⟩
      have hnT : (T.call (N - 1) rT t8).nest ≤ 2 := by show max rT.nest t8.nest ≤ 2; omega
      have hdd : ((dl.1 : Int) - 0).toNat = dl.1 := by omega
      rw [hdd] at htr
      have hzT : (T.call (N - 1) rT t8).toks.length ≤ 284 := by simp [T.toks]; omega
      have hbv4 := BodR.le lz hbv
      have hmv4 : All2 (MacAt R14) mvs ds := hmv.imp fun _ _ h => MacAt.le h lz
      obtain ⟨mac, hfix⟩ := fix_exists _ ds rfl hlow
      obtain ⟨k0, Fd, e, hrun⟩ := run_ends (ds := ds) (by omega) hlow hlf 401 _ (T.call (N - 1) rT t8) [] 0 (by omega) (Nat.le_refl _) hwT
      obtain ⟨rest, hpre, hend⟩ := run_prefix (by omega) hlow hfix _ _ _ _ _ _ hwT hrun
      have lB : Le R R14 := lall.trans (le₈.trans lz)
      clear le7 le8 le9 le11 le12 le13 le14 le₈ le₁₀ l7 l8 l10 l11 hD htA hf8 htrl hma hfr hmv hbv
      refine tokens_spec 2 S14 (ok'.mono (by omega)) htrl4 hfT hwT hnT (by omega) fun lt wst nt Rt s4 leT hwst S15 => ?_
      clear S14
      repeat' (first | walk_at "w")
      rename St _ _ _ _ _ _ => S9
      obtain ⟨R16, le16, hlt, S16⟩ := S9.freeze .head
      have l16 := leT.trans le16
      clear S9
      refine replaced_spec S16 (ok'.mono (by omega)) (l16 _ _ hma4) (hmv4.imp fun _ _ h => MacAt.le h l16) (hlow.ok (by omega)) hlt (ToksAt.le hwst le16) hwT hzT (by omega) hrun fun ax wsF fa n3 R17 s5 le17 hax hwsF hwsl S17 => ?_
      clear S16
      repeat' (first | walk_at "w")
      rename St _ _ _ _ _ _ => S9
      rename_i rm _ _ ge _
      obtain ⟨R18, le18, hge, S18⟩ := S9.freeze .head
      have l18 := l16.trans (le17.trans le18)
      clear S9
      refine worked_spec (4 * N + (T.call (N - 1) rT t8).nest) (gs := []) (inn := 0) (K := N) S18 (ok'.mono (by omega)) (l18 _ _ htrl4) (FoAt.le l18 hfT) hge .nil (fun g hg => by cases hg) (by simp) (l18 _ _ hba) (BodR.le l18 hbv4) hlow (by omega) .head (by rw [List.take_of_length_le (by rw [List.length_map]; omega)]; exact hwT) (Nat.le_refl _) (by omega) (by omega) fun du wsD n4 rJ trJ fdd R19 s6 le19 hwsD hfdl hrJ hsemD S19 => ?_
      have hcmp : 0 ≤ rJ → Fd.take 200 = fdd.take Fd.length ∧ (e = true → Fd.take 200 = fdd) := fun h0 => by
        refine found_due (rest := rest) ?_ hend
        rw [hsemD h0 mac [] hfix rfl, ← hpre]; rfl
      have hF9 := ToksAt.le (ToksAt.le hwsF le18) le19
      have hD9 := hwsD
      have hFl := All2.length hwsF
      have hDl := All2.length hwsD
      have heq1 : 0 ≤ rJ → Fd.take (Int.toNat 200) = fdd.take (Int.toNat (wsF.length : Int)) := fun h0 => by
        have := (hcmp h0).1
        rw [hFl]; exact this
      clear S18
      have hmv9 : All2 (MacAt R19) mvs ds := hmv4.imp fun _ _ h => MacAt.le h (l18.trans le19)
      have hbv9 := BodR.le (l18.trans le19) hbv4
      have hma9 := le19 _ _ (l18 _ _ hma4)
      have hba9 := le19 _ _ (l18 _ _ hba)
      have lC : Le R R19 := lB.trans (l18.trans le19)
      clear hlt hge hax le16 le17 le18 le19 leT l16 l18 lB
      repeat' ((fail_if_success (with_reducible show wpAny _ _ (execs (.If _ _ _ _ :: _) _) _ _ _)); walk_at "w")
      rename St _ _ _ _ _ _ => S8
      refine x_joinS S8 (fun K kk => ?_) ?_
      · cases e with
        | false =>
          repeat' (first | walk_at "slL" | ((with_reducible show wpAny _ _ (compareOp .NotEq (.ref _) (.ref _)) _ _ _); (rename St _ _ _ _ _ _ => S0); (refine x_neLstF S0 (ok'.mono (by omega)) (by walk_at "ownL") (by walk_at "ownL") (All2.take hF9 _) (All2.take hD9 _) (heq1 (by assumption)) ?_)) | walk_at "w")
          all_goals (rename St _ _ _ _ _ _ => S9; first | exact kk _ S9 | exact kk _ S9.drop1 | exact kk _ S9.drop1.drop1 | exact kk _ S9.drop1.drop1.drop1)
        | true =>
          have heq2 : 0 ≤ rJ → Fd.take (Int.toNat 200) = fdd := fun h0 => (hcmp h0).2 rfl
          repeat' (first | walk_at "slL" | ((with_reducible show wpAny _ _ (compareOp .NotEq (.ref _) (.ref _)) _ _ _); (rename St _ _ _ _ _ _ => S0); (refine x_neLstF S0 (ok'.mono (by omega)) (by walk_at "ownL") (by walk_at "ownL") (All2.take hF9 _) (All2.take hD9 _) (heq1 (by assumption)) ?_)) | ((with_reducible show wpAny _ _ (compareOp .NotEq (.ref _) (.ref _)) _ _ _); (rename St _ _ _ _ _ _ => S0); (refine x_neLstF S0 (ok'.mono (by omega)) (by walk_at "ownL") (by walk_at "ownL") (All2.take hF9 _) hD9 (heq2 (by assumption)) ?_)) | walk_at "w")
          all_goals (rename St _ _ _ _ _ _ => S9; first | exact kk _ S9 | exact kk _ S9.drop1 | exact kk _ S9.drop1.drop1 | exact kk _ S9.drop1.drop1.drop1 | exact kk _ S9.drop1.drop1.drop1.drop1)
      · intro s9 S9
        clear S8
        repeat' (first | walk_at "w")
        rename St _ _ _ _ _ _ => S9
        refine x_forZip ok'.handled S9 hma9 hba9 (by omega) rfl rfl F (fun i R₂₀ ms₂₀ own₂₀ => ∃ (vb : Value) (tl : List (Str × Value)), (∀ z, PutM (Str.ofString "macro") z tl [(Str.ofString "macro", z)]) ∧ own₂₀ = _ ∧ ms₂₀ = (Str.ofString "rounds", Value.int (N : Int) tr) :: (Str.ofString "bodies", Value.ref ba) :: (Str.ofString "macros", Value.ref ma) :: (Str.ofString "k", v1) :: (Str.ofString "inner", v2) :: (Str.ofString "body", vb) :: (Str.ofString "trees", Value.ref trl) :: (Str.ofString "found", Value.ref fa) :: (Str.ofString "ended", Value.bool e) :: (Str.ofString "room", Value.ref rm) :: (Str.ofString "due", Value.ref du) :: tl) (fun R' _ => ⟨v3, [], fun z => .nil, rfl, rfl⟩) ?_ ?_
        · rintro C₁ i xv yv R₂₀ ms₂₀ own₂₀ s₂₀ F₁ bk hi hxi hyi le₂₀ ⟨vb, tl, hp1, rfl, rfl⟩ S₂₀
          obtain ⟨d, hdi, xx, pa, bo, ps, bs, l, rfl, M, hp, hps, hb, hbs⟩ := All2.get (hmv9.imp fun _ _ h => MacAt.le h le₂₀) hxi
          obtain ⟨d2, hdi2, fl, wl, nl, rfl, hfl, hfo⟩ := All2.get (BodR.le le₂₀ hbv9) hyi
          have hdd2 : d2 = d := by rw [hdi] at hdi2; exact (Option.some.inj hdi2).symm
          subst hdd2
          have hld := hlow _ _ hdi
          have hpl := All2.length hps
          have hbl := All2.length hbs
          rw [prm_length] at hpl
          obtain ⟨dl9, ds9, o9, t9, IM, _⟩ := M
          clear S9 F
          repeat' (first | ((with_reducible show wpAny _ _ (storeName _ _ _) _ _ _); (rename St _ _ _ _ _ _ => S0); (refine x_store S0 (by assumption) rfl (by repeat' (first | exact PutM.hit | exact PutM.nil | exact hp1 _ | decide | refine' PutM.miss ?_ ?_)) ?_); clear S0; intro _ _) | walk_at "w" | ((with_reducible show wpAny _ _ (call (.ref 301) _) _ _ _); (rename St _ _ _ _ _ _ => S0); (refine tokens_spec 3 S0 (ok'.mono (by omega)) (Le.up hfl (by k_ownIn)) (FoAt.le (by k_ownIn) hfo) hld.1 hld.2.1 (by omega) ?_); clear S0; intro lt wst nt Rt _ leT hwst _; have hwtl := All2.length hwst) | ((with_reducible show wpAny _ _ (compareOp .NotEq (.ref _) (.ref _)) _ _ _); (rename St _ _ _ _ _ _ => S0); (refine x_neTupF S0 (ok'.mono (by omega)) (by k_inst) (by k_inst) (ToksAt.le hbs (by k_ownIn)) (ToksAt.le hwst (by k_ownIn)) ?_)))
          all_goals (try (exfalso; omega))
          rename St _ _ _ _ _ _ => S9
          exact ⟨_, _, _, by k_ownIn, ⟨_, _, fun z => .hit, rfl, rfl⟩, S9.drop1⟩
        · rintro R₂₀ ms₂₀ own₂₀ s₂₀ le₂₀ ⟨vb, tl, hp1, rfl, rfl⟩ S₂₀
          clear S9
          repeat' (first | walk_at "w")
          rename St _ _ _ _ _ _ => S9
          exact ret _ _ _ (lC.trans le₂₀) (S.exit1 U hC' S9 (by walk_at "memO") (lC.trans le₂₀))
theorem reads_res {h : Heap} {a fa : Addr} {us : List Value} {n : Nat} {b : Bool} {ts : List Tk} {R : PH} (hk : ∀ b o, R b = some o → h.get? b = some o) (ha : h.get? a = some (tupO [.ref fa, .bool b])) (hf : h.get? fa = some (lstO us n)) (x : ToksAt R us ts) : ∃ as, Reads h (.ref a) (.tuple [.list (pyTks ts), .bool b]) as := by
  obtain ⟨as, r⟩ := reads_lst hk hf x
  exact ⟨_, .tuple ha rfl rfl (.cons r (.cons (.bool _) .nil))⟩
theorem shaped_res (ts : List Tk) (b : Bool) : PySem.SeqAt.shaped (.tuple [.list (pyTks ts), .bool b]) = true := by
  unfold PySem.SeqAt.shaped
  have h1 := depth_tks ts
  have h2 : PyData.depth (.tuple [.list (pyTks ts), .bool b]) ≤ 3 := by
    simp only [PyData.depth, PyData.depthAll]; omega
  simp only [PyData.canLay0, PyData.canLayAll0, canLay_tks, Bool.true_and, Bool.and_true]
  exact decide_eq_true (Nat.le_trans h2 (by decide))
theorem x_neResF {prog : Program} {w : World} {A : Around} {E : Value → Shared → Prop} {s : Shared} {C : Cx} {R : PH} {ms : List (Str × Value)} {own : List (Addr × Obj)} {a b fa fb : Addr} {us vs : List Value} {n m : Nat} {ts : List Tk} {e : Bool} {Q : Value → Shared → Prop} (S : St w C R ms own s) (ok : Ok A 9) (ha : s.heap.get? a = some (tupO [.ref fa, .bool e])) (hfa : s.heap.get? fa = some (lstO us n)) (ra : ToksAt R us ts)
    (hb : s.heap.get? b = some (tupO [.ref fb, .bool e])) (hfb : s.heap.get? fb = some (lstO vs m)) (rb : ToksAt R vs ts) (h : Q (.bool false) s) : wpAny (model prog w) A (compareOp .NotEq (.ref a) (.ref b)) Q E s := by
  obtain ⟨as, ra⟩ := reads_res S.kR ha hfa ra
  obtain ⟨bs, rb⟩ := reads_res S.kR hb hfb rb
  refine x_neD ok ra rb (shaped_res _ _) (shaped_res _ _) ?_
  have : PyData.eqv (.tuple [.list (pyTks ts), .bool e]) (.tuple [.list (pyTks ts), .bool e]) = true := by
    have h1 : PyData.eqvAll (pyTks ts) (pyTks ts) = true := by rw [eqv_tks]; simp
    simp [PyData.eqv, PyData.eqvAll, h1]
  rw [this]; exact h
theorem St.start {w : World} {hB : Heap} {s : Shared} {mg mb : Str → Option Value} {ms : List (Str × Value)} (X : (hd.heap_39 w.params).In hB) (g : hB.Ns mainGlobals mg) (b : hB.Ns builtinsNs mb) (bi : ∀ x : Str, x ≠ "__name__" → mb x = bootBuiltins x) (nl : hB.NoLimit) (F : Fr hB hB.objs.size s.heap (fun y => ms.lookup y)) :
    St w { hB := hB, mg := mg, mb := mb, G := fun _ => none, L := hB.objs.size, gens := s.gens, drawn := s.drawn, os := s.os } (fun b => hB.get? b) ms [] s where
  X := X
  g := g
  b := b
  bi := bi
  nolimit := nl
  base := fun _ _ e => e
  above := Nat.le_refl _
  ns := F.ns
  kG := fun _ _ e => by cases e
  kR := fun b o e => F.keep b o e
  kO := fun _ h => by cases h
  dGR := fun _ _ e => by cases e
  GL := rfl
  RL := heap_size_none hB
  GO := fun _ h => by cases h
  RO := fun _ h => by cases h
  LO := fun _ h => by cases h
  nd := by simp
  gens := rfl
  drawn := rfl
  os := rfl
theorem x_enter0 {prog : Program} {w : World} {A : Around} {E : Value → Shared → Prop} {s : Shared} {mg mb : Str → Option Value} {f : Addr} {name qual : Str} {params : Arguments} {body : List Stmt} {scope : Scope} {dV kV doc pm cdv ct oc : Value} {an od : Option Addr} {osl : Array (Option Value)} {args : List Value} {binds ms₁ : List (Str × Value)} {Q : Value → Shared → Prop}
    (K : (hd.heap_39 w.params).In s.heap) (g : s.heap.Ns mainGlobals mg) (b : s.heap.Ns builtinsNs mb) (bi : ∀ x : Str, x ≠ "__name__" → mb x = bootBuiltins x) (nl : s.heap.NoLimit)
    (ho : (hd.heap_39 w.params).lookup f = some ⟨oc, od, .func (fnOf name qual params body scope dV kV doc pm an cdv ct), osl⟩) (hcd : codeIn (hd.heap_39 w.params) cdv qual = true)
    (hbind : BindsTo s (fnOf name qual params body scope dV kV doc pm an cdv ct) ⟨args, []⟩ binds) (hms : binds.reverse = ms₁) (hloc : ∀ y ∈ binds, scope.names.lookup y.1 = some .local) (hcell : ∀ x ∈ scope.names, x.2 ≠ .cell)
    (hco : scope.isCoroutine = false) (hgen : scope.isGenerator = false) (hk : scope.kind = .function)
    {nm : Nat} (ok : Ok A (nm + 1)) (h : ∀ (C : Cx) A' env s₁, C.hB = s.heap → C.gens = s.gens → C.os = s.os → Fra env C scope.names [] → Ok A' nm → St w C (fun b => s.heap.get? b) ms₁ [] s₁ →
      wpAny (model prog w) A' (execs body env) (RetQ Q) NoE s₁) :
    wpAny (model prog w) A (call (.ref f) args) Q E s := by
  subst hms
  refine wpAny_call (codeAny_call_def (fd := fnOf name qual params body scope dV kV doc pm an cdv ct) (body := body) (binds := binds) ok.room (K _ _ ho) rfl nl (codeRec_of K hcd) rfl hbind hcell hloc (fun h₁ hns hk₁ => ?_) hco hgen hk)
  exact wpAny_mono (h _ _ _ _ rfl rfl rfl ⟨rfl, hk, rfl, rfl, rfl, rfl, by show (scope.kind == .module && _) = false; rw [hk]; rfl, by show (if scope.kind.isAnnotationScope then ScopeKind.function else scope.kind) = .function; rw [hk]; rfl⟩ (ok.deeper _) (St.start K g b bi nl ⟨hns, hk₁, Nat.le_refl _⟩)) (fun _ _ q => q) fun _ _ q => q.elim
theorem lst_of {h : Heap} {l : Addr} {vs : List Value} (x : h.IsList l vs.toArray) : ∃ n, LstR (fun b => h.get? b) l vs n := let ⟨o, e, c, n, d⟩ := x; ⟨n, o, e, c, d⟩
theorem ints_all {vs : List Value} {ns : List Int} (h : IntsAre vs ns) : ∀ v ∈ vs, ∃ i t, v = .int i t := by
  induction h with
  | nil => intro v hv; cases hv
  | cons n t _ ih =>
    intro v hv
    rcases List.mem_cons.mp hv with rfl | hv
    · exact ⟨_, _, rfl⟩
    · exact ih v hv
def twT : T := .leaf 1 1 (.leaf 0 45 (.leaf 1 1 .nil))
def teT : T := .call 0 (.row (.call 0 (.row (.leaf 0 97 .nil) .nil) .nil) .nil) .nil
theorem tw_ok : DefsOk [(1, twT)] := by
  refine ⟨by decide, fun d hd => ?_⟩
  rw [List.mem_singleton.mp hd]
  simp [twT, T.wf, T.toks]
theorem te_wf : teT.wf ([(1, twT)].map (·.1)) 0 false := by simp [teT, T.wf, T.rows]
theorem te_toks : teT.toks = [(0, 0), (1, 123), (0, 0), (1, 123), (11, 97), (2, 125), (2, 125)] := by rfl
theorem te_run : run ([(1, twT)].map (·.2)) 20 teT [] 0 = some ([(11, 97), (11, 45), (11, 97), (11, 45), (11, 97), (11, 45), (11, 97)], true) := by rfl
theorem law_spec {prog : Program} {w : World} {A : Around} {E : Value → Shared → Prop} {s : Shared} {mg mb : Str → Option Value} {l : Addr} {vs : List Value} {nL : Nat} {Q : Value → Shared → Prop}
    (K : (hd.heap_39 w.params).In s.heap) (g : s.heap.Ns mainGlobals mg) (b : s.heap.Ns builtinsNs mb) (bi : ∀ x : Str, x ≠ "__name__" → mb x = bootBuiltins x) (nl : s.heap.NoLimit) (ok : Ok A 301)
    (hLs : LstR (fun b => s.heap.get? b) l vs nL) (hIv : ∀ v ∈ vs, ∃ i t, v = .int i t) (hI63 : vs.length ≤ 63)
    (ret : ∀ C R ms own s', St w C R ms own s' → C.hB = s.heap → C.gens = s.gens → C.os = s.os → Q (.bool true) s') :
    wpAny (model prog w) A (call (.ref 325) [.ref l]) Q E s := by
  k_dflt (refine' x_enter0 K g b bi nl ?ho ?hcd ?hbind ?hms ?hloc ?hcell ?hco ?hgen ?hk ok ?h (binds := [(Str.ofString "script", .ref l)]) (ms₁ := [(Str.ofString "script", .ref l)]); (case ho => k_is); (case hcd => k_is); (case hbind => exact BindsTo.of_eq rfl); (case hms => exact rfl); (case hloc => exact locs rfl); (case hcell => decide); (case hco => rfl); (case hgen => rfl); (case hk => rfl))
  intro C A' env s₁ hBC hgC hoC F ok' S₁
  conv at F in (pSc _) => whnf
  dsimp only at F
  conv in (pB _) => whnf
  clear K g b bi nl
  repeat' (first | walk_at "w" | ((with_reducible show wpAny _ _ (call (.ref 214) _) _ _ _); (rename St _ _ _ _ _ _ => S0); (refine macro_spec (n := 1) S0 (ok'.mono (by omega)) (by walk_at "R") (.cons (show TokAt _ _ (9, 1) from ⟨_, _, _, rfl, by walk_at "R"⟩) .nil) (by omega) (by walk_at "R") (.inr ⟨rfl, rfl, rfl⟩) ?_); clear S0; intro xm Rm _ lem hMm _; have hMac : MacAt Rm (.ref xm) (1, twT) := ⟨xm, _, _, _, _, _, rfl, hMm, by walk_at "R", (show ToksAt _ _ [(9, 1)] from (.cons ⟨_, _, _, rfl, by walk_at "R"⟩ .nil)), by walk_at "R", (show ToksAt _ _ [(5, 1), (11, 45), (5, 1)] from (.cons ⟨_, _, _, rfl, by walk_at "R"⟩ (.cons ⟨_, _, _, rfl, by walk_at "R"⟩ (.cons ⟨_, _, _, rfl, by walk_at "R"⟩ .nil))))⟩))
  rename St _ _ _ _ _ _ => S9
  rename_i te _ _ tl _
  obtain ⟨R1, le1, hm, S1⟩ := S9.freeze .head
  obtain ⟨R2, le2, ht, S2⟩ := S1.freeze .head
  have hsz := sizeLine_eq
  clear S9 S1
  refine replaced_spec (ds := [(1, twT)]) (t := teT) (N0 := 7) (k0 := 20) S2 (ok'.mono (by omega)) (le2 _ _ hm) (.cons (MacAt.le hMac (by k_ownIn)) .nil) tw_ok ht (by rw [te_toks]; exact (.cons ⟨_, _, _, rfl, by walk_at "R"⟩ (.cons ⟨_, _, _, rfl, by walk_at "R"⟩ (.cons ⟨_, _, _, rfl, by walk_at "R"⟩ (.cons ⟨_, _, _, rfl, by walk_at "R"⟩ (.cons ⟨_, _, _, rfl, by walk_at "R"⟩ (.cons ⟨_, _, _, rfl, by walk_at "R"⟩ (.cons ⟨_, _, _, rfl, by walk_at "R"⟩ .nil)))))))) te_wf (by decide) (by decide) te_run fun ax wsF fa n3 R3 s3 le3 hax hwsF hl S3 => ?_
  clear S2
  repeat' (first | ((with_reducible show wpAny _ _ (compareOp .NotEq (.ref _) (.ref _)) _ _ _); (rename St _ _ _ _ _ _ => S0); (refine x_neResF S0 (ok'.mono (by omega)) (by k_inst) (by walk_at "ownL") (ToksAt.le hwsF (by k_ownIn)) (by k_inst) (by walk_at "ownL") (show ToksAt _ _ [(11, 97), (11, 45), (11, 97), (11, 45), (11, 97), (11, 45), (11, 97)] from (.cons ⟨_, _, _, rfl, by walk_at "R"⟩ (.cons ⟨_, _, _, rfl, by walk_at "R"⟩ (.cons ⟨_, _, _, rfl, by walk_at "R"⟩ (.cons ⟨_, _, _, rfl, by walk_at "R"⟩ (.cons ⟨_, _, _, rfl, by walk_at "R"⟩ (.cons ⟨_, _, _, rfl, by walk_at "R"⟩ (.cons ⟨_, _, _, rfl, by walk_at "R"⟩ .nil)))))))) ?_)) | ((with_reducible show wpAny _ _ (call (.builtin "len") [.ref _]) _ _ _); (rename St _ _ _ _ _ _ => S0); (refine x_lenLI S0 (LstR.le hLs (by k_ownIn)) (by omega) ?_); clear S0; intro _ _ _) | walk_at "w" | ((with_reducible show wpAny _ _ (call (.ref 282) _) _ _ _); (rename St _ _ _ _ _ _ => S0); (refine pool_spec S0 (ok'.mono (by omega)) (LstR.le hLs (by k_ownIn)) hIv (by omega) ?_); clear S0; intro sa W tw t0 c tc Rp _ lep hW0 hW1 hc0 hc1 _) | ((with_reducible show wpAny _ _ (call (.ref 289) _) _ _ _); (rename St _ _ _ _ _ _ => S0); (refine take_spec S0 (ok'.mono (by omega)) (by k_updF) hW0 hW1 (by decide) (by decide) hc0 hc1 (by omega) (by omega) ?_); clear S0; intro d9 t9 _ a9 b9 ta9 tb9 hd0 hd1 ha0 ha1 hb0 hb1 _))
  · rename St _ _ _ _ _ _ => S9
    obtain ⟨m, rfl⟩ : ∃ m : Nat, d9 = (m : Int) := ⟨d9.toNat, by omega⟩
    rw [show (2 : Int) + (m : Int) = ((2 + m : Nat) : Int) by omega]
    exact program_spec (N := 2 + m) S9 (ok'.mono (by omega)) .head ha0 ha1 hb0 (by omega) hc0 hc1 (by omega) (by omega) fun R' s' o' le S' => ret _ _ _ _ _ S' hBC hgC hoC
  · rename St _ _ _ _ _ _ => S9
    exact program_spec (N := 3) S9 (ok'.mono (by omega)) .head hW0 hW1 (by decide) (by decide) hc0 hc1 (by decide) (by decide) fun R' s' o' le S' => ret _ _ _ _ _ S' hBC hgC hoC
theorem g_law {w : World} : nsIn (hd.heap_39 w.params) mainGlobals (Str.ofString "law") = some (some (.ref 325)) := by k_is
theorem hp_said : OpenLaw.wellSaid PySem.Challenge.rw_sq0031_01 = true := by
  delta OpenLaw.wellSaid
  repeat' (with_reducible refine look_both ?_ ?_)
  all_goals (try delta OpenRow.wellSaid)
  repeat' (with_reducible refine look_both ?_ ?_)
  all_goals (try delta OpenRow.partSaid)
  repeat' (with_reducible refine look_both ?_ ?_)
  all_goals (try delta looksOpen)
  repeat' (with_reducible refine look_both ?_ ?_)
  all_goals decide +kernel
noncomputable def dL : DefRec := match defOf hp_q (Str.ofString "law") with | some d => d.1 | none => ⟨Str.ofString "law", ⟨[], [], none, [], [], none, []⟩, [], ⟨.function, [], false, false, []⟩, ⟨0, 0, 0, 0⟩⟩
theorem dL_def : defOf hp_q ((OpenLaw.row PySem.Challenge.rw_sq0031_01).name) = some (dL, []) := by kernel_rfl
theorem dL_the : (OpenLaw.row PySem.Challenge.rw_sq0031_01).prog.theDef ((OpenLaw.row PySem.Challenge.rw_sq0031_01).name) = some (dL.params, dL.body, dL.scope) := by kernel_rfl
theorem dL_kw : kwWritten? dL.params.kwonlyargs dL.params.kw_defaults = some [] := by kernel_rfl
theorem dL_name : dL.name = Str.ofString "law" := by kernel_rfl
theorem law_wit : (OpenRow.toRowW (OpenLaw.row PySem.Challenge.rw_sq0031_01)).promised := by
  w_witness2
theorem law_wr : (!(OpenLaw.row PySem.Challenge.rw_sq0031_01).writes || (OpenLaw.row PySem.Challenge.rw_sq0031_01).records.isEmpty) = true := by kernel_rfl
theorem law_ok : (chainsOk hp_q && opensWell (OpenLaw.row PySem.Challenge.rw_sq0031_01).prog && (frees (OpenRow.toRowW (OpenLaw.row PySem.Challenge.rw_sq0031_01)) && (OpenLaw.row PySem.Challenge.rw_sq0031_01).within.isEmpty)) = true := by kernel_rfl
theorem ref_inj {a b : Addr} (e : some (Value.ref a) = some (.ref b)) : b = a := by
  injection e with e; injection e with e; exact e.symm
theorem main : PySem.Challenge.rw_sq0031_01.Holds := by
  w_on
  refine holds_law hp_said fun said => ?_
  refine holds_open (q := hp_q) (loose := hp_lo) (Xt := hp_Xt) (XP := XL hp_q hp_lv) (Yf := Hook.obs hp_H) (Ya := Hook.val hp_H) (YP := Hook.says hp_H) (N := 6106) (d := dL) (kwd := []) hp_left (Hook.of hp_H) (Hook.keeps hp_H) (fun s e => xl_of s (Bool.and_eq_true_iff.mp e).1) XL.keeps dL_def dL_the dL_kw (fun s e => recFacts_of (Bool.and_eq_true_iff.mp e).2) law_wr said law_ok ⟨rfl, rfl, rfl, rfl, rfl, by decide +kernel⟩ law_wit ?hc
  intro w s₀ s₁ mg mb G Y fa o pm cd doc dV kV ho hd hcd hD hmg hg args vals as hpre hlay hrd hwl hlo
  have KX := kIn_of Y
  rw [dL_name] at hmg
  refine Ground.open G ?_
  intro T B D TE TW
  have h1 : mg (Str.ofString "law") = some (.ref 325) := mg_of (K := Mine.hd.heap_39 w.params) KX T.g (g_law (w := w))
  have hfa : fa = 325 := ref_inj (h1.symm.trans hmg)
  subst hfa
  clear h1 hmg B D TE TW ho hd hcd hD G Y
  wrow_args hpre hlay hrd hwl hlo
  rename IntsAre _ _ => IA
  rename Heap.IsList _ _ _ => hL
  rename ¬ _ => h63
  obtain ⟨nL, hLs⟩ := lst_of hL
  have hlen := IA.length
  refine law_spec KX T.g T.b T.builtins T.nolimit ⟨rfl, by decide, by decide⟩ hLs (ints_all IA) (by omega) fun C R ms own s' S9 hBC hgC hoC => ?_
  refine GoodW.toG ?_
  exact ⟨.inl ⟨.bool true, .bool true, [], rfl, fun _ => rfl, .bool true, by first | kernel_rfl | with_unfolding_all rfl | (simp [RowW.claim, OpenRow.toRowW, OpenLaw.row, WShape.has, WTm.holds, WTm.value]; done), fun _ => ⟨List.nodup_nil, fun _ h => by cases h⟩⟩, fun b o e => S9.kB b o (by rw [hBC]; exact e), S9.os.trans hoC, S9.gens.trans (hgC.trans hg)⟩
end Mine
theorem PySem.Challenge.cw_sq0031_01_holds : PySem.Challenge.rw_sq0031_01.Holds :=
  Mine.main
