import PyProof.Rows.All
import Wide.All
import OpenK.AllK
import Wide.FinOn
import KE.KSlice
import PyProof.Rows.ListMul
import PyProof.EnumMake
import PyProof.EnumStmt
import PyProof.EnumFor
import KE.KSuper
import KE.KSuperObj
import PySem.SetTable
import KE.KSortTup
import KE.KDictList
import KE.KDictSum
import OpenK.XOpen
import Lean
import PySem.Challenge.RW_qd0015_01
set_option Elab.async false
section SKf
open PySem PySem.W PySem.Calls PyProof.Rows
set_option maxRecDepth 100000
namespace Mine
-- the text's defs, by projection
noncomputable def stm (i : Nat) : Stmt := match PySem.Challenge.pw_qd0015_01.main.body[i]? with | some s => s | none => .Pass ⟨0, 0, 0, 0⟩
noncomputable def inC (s : Stmt) (j : Nat) : Stmt := match s with | .ClassDef _ _ _ b _ _ _ _ _ _ _ => (match b[j]? with | some s => s | none => .Pass ⟨0, 0, 0, 0⟩) | _ => .Pass ⟨0, 0, 0, 0⟩
noncomputable def parOf (s : Stmt) : Arguments := match s with | .FunctionDef _ a _ _ _ _ _ _ _ _ => a | _ => default
noncomputable def bodOf (s : Stmt) : List Stmt := match s with | .FunctionDef _ _ b _ _ _ _ _ _ _ => b | _ => []
noncomputable def scoOf (s : Stmt) : Scope := match s with | .FunctionDef _ _ _ _ _ _ c _ _ _ => c | _ => default
noncomputable abbrev sv (x : String) (t : Nat) : Value := .str (Str.ofString x) t
noncomputable abbrev en (P : Params) (x : String) (t : Nat) (v : Value) : DictEntry := ⟨PyData.keyHash P (Str.ofString x), .str (Str.ofString x) t, v⟩
noncomputable abbrev fno (n q : String) (s : Stmt) (clo : List (Str × Addr)) (doc pm cd ct : Value) : FuncData :=
  { name := Str.ofString n, qualname := Str.ofString q, params := parOf s, body := .stmts (bodOf s), scope := scoOf s, globals := mainGlobals, closure := clo, defaults := .none, kwdefaults := .none, doc := doc, pyModule := pm, annotations := none, code := cd, closureTuple := ct, builtins := builtinsNs }
/-- what lies behind the top, as far as the law reaches -/
noncomputable def KK (P : Params) : Frag := [
  (2, ⟨.none, none, .dict #[] 0, #[]⟩),
  (3, ⟨(.type "dict"), none, .dict #[en P "__name__" 165 (sv "law_qd0015_01" 613), en P "__doc__" 166 .none, en P "__package__" 167 .none, en P "__loader__" 168 (.builtin "__main__.__loader__#opaque"), en P "__spec__" 169 .none, en P "__annotations__" 170 (.ref 6), en P "__builtins__" 171 (.ref 4), en P "__file__" 173 (sv "/claim/cut.py" 172), en P "__cached__" 174 .none, en P "_wall" 193 (.ref 21), en P "least" 202 (.ref 28), en P "greatest" 209 (.ref 35), en P "next_from" 219 (.ref 42), en P "has" 227 (.ref 49), en P "has_domains" 228 (.ref 49), en P "up_to" 234 (.ref 54), en P "from_on" 240 (.ref 59), en P "without" 248 (.ref 66), en P "meet" 261 (.ref 73), en P "negation" 271 (.ref 80), en P "struck" 281 (.ref 87), en P "said_of" 290 (.ref 94), en P "Store" 484 (.ref 244), en P "Propagator" 539 (.ref 286), en P "Circuit" 612 (.ref 349), en P "_law_take" 623 (.ref 358), en P "_law_ranges" 632 (.ref 365), en P "_law_reached" 638 (.ref 370), en P "_law_rings" 644 (.ref 375), en P "_law_is_right" 650 (.ref 380), en P "law" 656 (.ref 385)] 31, #[]⟩),
  (41, ⟨(.type "code"), none, .fields #[(sv "next_from" 210), (sv "next_from" 211), (sv "/claim/cut.py" 212), (.int 9 0), (.int 2 0), (.int 0 0), (.int 0 0), (.int 3 0), (.ref 36), (.bool true), (.int 181 0), (.ref 37), .none, (.ref 38), (.ref 39), (.ref 40), (.int 217 0), (.int 9 0), (sv "/claim/cut.py" 218)], #[]⟩),
  (42, ⟨(.type "function"), none, .func (fno "next_from" "next_from" (stm 4) [] .none (sv "fdsolve.domains" 194) (.ref 41) .none), #[]⟩),
  (48, ⟨(.type "code"), none, .fields #[(sv "has" 220), (sv "has" 221), (sv "/claim/cut.py" 222), (.int 14 0), (.int 2 0), (.int 0 0), (.int 0 0), (.int 3 0), (.ref 43), (.bool true), (.int 181 0), (.ref 44), .none, (.ref 45), (.ref 46), (.ref 47), (.int 225 0), (.int 14 0), (sv "/claim/cut.py" 226)], #[]⟩),
  (49, ⟨(.type "function"), none, .func (fno "has" "has" (stm 5) [] .none (sv "fdsolve.domains" 194) (.ref 48) .none), #[]⟩),
  (53, ⟨(.type "code"), none, .fields #[(sv "up_to" 229), (sv "up_to" 230), (sv "/claim/cut.py" 231), (.int 17 0), (.int 2 0), (.int 0 0), (.int 0 0), (.int 3 0), (.ref 50), (.bool true), (.int 181 0), (.ref 51), .none, .none, .none, (.ref 52), (.int 232 0), (.int 17 0), (sv "/claim/cut.py" 233)], #[]⟩),
  (54, ⟨(.type "function"), none, .func (fno "up_to" "up_to" (stm 7) [] .none (sv "fdsolve.domains" 194) (.ref 53) .none), #[]⟩),
  (58, ⟨(.type "code"), none, .fields #[(sv "from_on" 235), (sv "from_on" 236), (sv "/claim/cut.py" 237), (.int 19 0), (.int 2 0), (.int 0 0), (.int 0 0), (.int 3 0), (.ref 55), (.bool true), (.int 181 0), (.ref 56), .none, .none, .none, (.ref 57), (.int 238 0), (.int 19 0), (sv "/claim/cut.py" 239)], #[]⟩),
  (59, ⟨(.type "function"), none, .func (fno "from_on" "from_on" (stm 8) [] .none (sv "fdsolve.domains" 194) (.ref 58) .none), #[]⟩),
  (65, ⟨(.type "code"), none, .fields #[(sv "without" 241), (sv "without" 242), (sv "/claim/cut.py" 243), (.int 21 0), (.int 2 0), (.int 0 0), (.int 0 0), (.int 3 0), (.ref 60), (.bool true), (.int 181 0), (.ref 61), .none, (.ref 62), (.ref 63), (.ref 64), (.int 246 0), (.int 21 0), (sv "/claim/cut.py" 247)], #[]⟩),
  (66, ⟨(.type "function"), none, .func (fno "without" "without" (stm 9) [] .none (sv "fdsolve.domains" 194) (.ref 65) .none), #[]⟩),
  (72, ⟨(.type "code"), none, .fields #[(sv "meet" 249), (sv "meet" 250), (sv "/claim/cut.py" 251), (.int 23 0), (.int 2 0), (.int 0 0), (.int 0 0), (.int 3 0), (.ref 67), (.bool true), (.int 181 0), (.ref 68), .none, (.ref 69), (.ref 70), (.ref 71), (.int 259 0), (.int 23 0), (sv "/claim/cut.py" 260)], #[]⟩),
  (73, ⟨(.type "function"), none, .func (fno "meet" "meet" (stm 10) [] .none (sv "fdsolve.domains" 194) (.ref 72) .none), #[]⟩),
  (79, ⟨(.type "code"), none, .fields #[(sv "negation" 262), (sv "negation" 263), (sv "/claim/cut.py" 264), (.int 34 0), (.int 1 0), (.int 0 0), (.int 0 0), (.int 3 0), (.ref 74), (.bool true), (.int 181 0), (.ref 75), .none, (.ref 76), (.ref 77), (.ref 78), (.int 269 0), (.int 34 0), (sv "/claim/cut.py" 270)], #[]⟩),
  (80, ⟨(.type "function"), none, .func (fno "negation" "negation" (stm 11) [] .none (sv "fdsolve.domains" 194) (.ref 79) .none), #[]⟩),
  (86, ⟨(.type "code"), none, .fields #[(sv "struck" 272), (sv "struck" 273), (sv "/claim/cut.py" 274), (.int 41 0), (.int 2 0), (.int 0 0), (.int 0 0), (.int 3 0), (.ref 81), (.bool true), (.int 181 0), (.ref 82), .none, (.ref 83), (.ref 84), (.ref 85), (.int 279 0), (.int 41 0), (sv "/claim/cut.py" 280)], #[]⟩),
  (87, ⟨(.type "function"), none, .func (fno "struck" "struck" (stm 12) [] .none (sv "fdsolve.domains" 194) (.ref 86) .none), #[]⟩),
  (93, ⟨(.type "code"), none, .fields #[(sv "said_of" 282), (sv "said_of" 283), (sv "/claim/cut.py" 284), (.int 48 0), (.int 2 0), (.int 0 0), (.int 0 0), (.int 3 0), (.ref 88), (.bool true), (.int 181 0), (.ref 89), .none, (.ref 90), (.ref 91), (.ref 92), (.int 288 0), (.int 48 0), (sv "/claim/cut.py" 289)], #[]⟩),
  (94, ⟨(.type "function"), none, .func (fno "said_of" "said_of" (stm 13) [] .none (sv "fdsolve.domains" 194) (.ref 93) .none), #[]⟩),
  (107, ⟨(.type "code"), none, .fields #[(sv "__init__" 305), (sv "Store.__init__" 306), (sv "/claim/cut.py" 307), (.int 56 0), (.int 1 0), (.int 0 0), (.int 0 0), (.int 3 0), (.ref 102), (.bool true), (.int 181 0), (.ref 103), .none, (.ref 104), (.ref 105), (.ref 106), (.int 309 0), (.int 56 0), (sv "/claim/cut.py" 310)], #[]⟩),
  (108, ⟨(.type "function"), none, .func (fno "__init__" "Store.__init__" (inC (stm 15) 0) [] .none (sv "fdsolve.store" 291) (.ref 107) .none), #[]⟩),
  (114, ⟨(.type "code"), none, .fields #[(sv "new_var" 312), (sv "Store.new_var" 313), (sv "/claim/cut.py" 314), (.int 66 0), (.int 2 0), (.int 0 0), (.int 0 0), (.int 3 0), (.ref 109), (.bool true), (.int 181 0), (.ref 110), .none, (.ref 111), (.ref 112), (.ref 113), (.int 317 0), (.int 66 0), (sv "/claim/cut.py" 318)], #[]⟩),
  (115, ⟨(.type "function"), none, .func (fno "new_var" "Store.new_var" (inC (stm 15) 1) [] .none (sv "fdsolve.store" 291) (.ref 114) .none), #[]⟩),
  (121, ⟨(.type "code"), none, .fields #[(sv "size" 320), (sv "Store.size" 321), (sv "/claim/cut.py" 322), (.int 73 0), (.int 1 0), (.int 0 0), (.int 0 0), (.int 3 0), (.ref 116), (.bool true), (.int 181 0), (.ref 117), .none, (.ref 118), (.ref 119), (.ref 120), (.int 324 0), (.int 73 0), (sv "/claim/cut.py" 325)], #[]⟩),
  (122, ⟨(.type "function"), none, .func (fno "size" "Store.size" (inC (stm 15) 2) [] .none (sv "fdsolve.store" 291) (.ref 121) .none), #[]⟩),
  (128, ⟨(.type "code"), none, .fields #[(sv "dom" 327), (sv "Store.dom" 328), (sv "/claim/cut.py" 329), (.int 76 0), (.int 2 0), (.int 0 0), (.int 0 0), (.int 3 0), (.ref 123), (.bool true), (.int 181 0), (.ref 124), .none, (.ref 125), (.ref 126), (.ref 127), (.int 332 0), (.int 76 0), (sv "/claim/cut.py" 333)], #[]⟩),
  (129, ⟨(.type "function"), none, .func (fno "dom" "Store.dom" (inC (stm 15) 3) [] .none (sv "fdsolve.store" 291) (.ref 128) .none), #[]⟩),
  (156, ⟨(.type "code"), none, .fields #[(sv "has" 359), (sv "Store.has" 360), (sv "/claim/cut.py" 361), (.int 88 0), (.int 3 0), (.int 0 0), (.int 0 0), (.int 3 0), (.ref 151), (.bool true), (.int 181 0), (.ref 152), .none, (.ref 153), (.ref 154), (.ref 155), (.int 365 0), (.int 88 0), (sv "/claim/cut.py" 366)], #[]⟩),
  (157, ⟨(.type "function"), none, .func (fno "has" "Store.has" (inC (stm 15) 7) [] .none (sv "fdsolve.store" 291) (.ref 156) .none), #[]⟩),
  (184, ⟨(.type "code"), none, .fields #[(sv "holds" 392), (sv "Store.holds" 393), (sv "/claim/cut.py" 394), (.int 100 0), (.int 2 0), (.int 0 0), (.int 0 0), (.int 3 0), (.ref 179), (.bool true), (.int 181 0), (.ref 180), .none, (.ref 181), (.ref 182), (.ref 183), (.int 397 0), (.int 100 0), (sv "/claim/cut.py" 398)], #[]⟩),
  (185, ⟨(.type "function"), none, .func (fno "holds" "Store.holds" (inC (stm 15) 11) [] .none (sv "fdsolve.store" 291) (.ref 184) .none), #[]⟩),
  (191, ⟨(.type "code"), none, .fields #[(sv "enter" 400), (sv "Store.enter" 401), (sv "/claim/cut.py" 402), (.int 103 0), (.int 4 0), (.int 0 0), (.int 0 0), (.int 3 0), (.ref 186), (.bool true), (.int 181 0), (.ref 187), .none, (.ref 188), (.ref 189), (.ref 190), (.int 410 0), (.int 103 0), (sv "/claim/cut.py" 411)], #[]⟩),
  (192, ⟨(.type "function"), none, .func (fno "enter" "Store.enter" (inC (stm 15) 12) [] .none (sv "fdsolve.store" 291) (.ref 191) .none), #[]⟩),
  (205, ⟨(.type "code"), none, .fields #[(sv "decide" 422), (sv "Store.decide" 423), (sv "/claim/cut.py" 424), (.int 119 0), (.int 2 0), (.int 0 0), (.int 0 0), (.int 3 0), (.ref 200), (.bool true), (.int 181 0), (.ref 201), .none, (.ref 202), (.ref 203), (.ref 204), (.int 427 0), (.int 119 0), (sv "/claim/cut.py" 428)], #[]⟩),
  (206, ⟨(.type "function"), none, .func (fno "decide" "Store.decide" (inC (stm 15) 14) [] .none (sv "fdsolve.store" 291) (.ref 205) .none), #[]⟩),
  (212, ⟨(.type "code"), none, .fields #[(sv "fail" 430), (sv "Store.fail" 431), (sv "/claim/cut.py" 432), (.int 122 0), (.int 2 0), (.int 0 0), (.int 0 0), (.int 3 0), (.ref 207), (.bool true), (.int 181 0), (.ref 208), .none, (.ref 209), (.ref 210), (.ref 211), (.int 435 0), (.int 122 0), (sv "/claim/cut.py" 436)], #[]⟩),
  (213, ⟨(.type "function"), none, .func (fno "fail" "Store.fail" (inC (stm 15) 15) [] .none (sv "fdsolve.store" 291) (.ref 212) .none), #[]⟩),
  (219, ⟨(.type "code"), none, .fields #[(sv "push" 438), (sv "Store.push" 439), (sv "/claim/cut.py" 440), (.int 127 0), (.int 1 0), (.int 0 0), (.int 0 0), (.int 3 0), (.ref 214), (.bool true), (.int 181 0), (.ref 215), .none, (.ref 216), (.ref 217), (.ref 218), (.int 442 0), (.int 127 0), (sv "/claim/cut.py" 443)], #[]⟩),
  (220, ⟨(.type "function"), none, .func (fno "push" "Store.push" (inC (stm 15) 16) [] .none (sv "fdsolve.store" 291) (.ref 219) .none), #[]⟩),
  (226, ⟨(.type "code"), none, .fields #[(sv "pop" 445), (sv "Store.pop" 446), (sv "/claim/cut.py" 447), (.int 130 0), (.int 2 0), (.int 0 0), (.int 0 0), (.int 3 0), (.ref 221), (.bool true), (.int 181 0), (.ref 222), .none, (.ref 223), (.ref 224), (.ref 225), (.int 452 0), (.int 130 0), (sv "/claim/cut.py" 453)], #[]⟩),
  (227, ⟨(.type "function"), none, .func (fno "pop" "Store.pop" (inC (stm 15) 17) [] .none (sv "fdsolve.store" 291) (.ref 226) .none), #[]⟩),
  (243, ⟨(.type "dict"), none, .dict #[en P "__module__" 300 (sv "fdsolve.store" 291), en P "__firstlineno__" 304 (.int 54 303), en P "__init__" 311 (.ref 108), en P "new_var" 319 (.ref 115), en P "size" 326 (.ref 122), en P "dom" 334 (.ref 129), en P "initial" 342 (.ref 136), en P "low" 350 (.ref 143), en P "high" 358 (.ref 150), en P "has" 367 (.ref 157), en P "is_fixed" 375 (.ref 164), en P "value" 383 (.ref 171), en P "width" 391 (.ref 178), en P "holds" 399 (.ref 185), en P "enter" 412 (.ref 192), en P "strike" 421 (.ref 199), en P "decide" 429 (.ref 206), en P "fail" 437 (.ref 213), en P "push" 444 (.ref 220), en P "pop" 454 (.ref 227), en P "depth" 461 (.ref 234), en P "changed" 468 (.ref 241), en P "__static_attributes__" 477 (.ref 242), en P "__dict__" 479 (.ref 245), en P "__weakref__" 481 (.ref 246), en P "__doc__" 482 .none] 4, #[]⟩),
  (244, ⟨(.type "type"), none, .cls { name := Str.ofString "Store", bases := [(.type "object")], mro := [(.ref 244), (.type "object")], ns := 243, qualname := Str.ofString "Store", hasDict := true, slotNames := [], subclasses := [], abstract := false, collection := none, hasDel := false }, #[none, none, some (sv "Store" 293), some (sv "Store" 301), some (.builtin "object.__new__"), some (.bool true)]⟩),
  (261, ⟨(.type "code"), none, .fields #[(sv "__init__" 497), (sv "Propagator.__init__" 498), (sv "/claim/cut.py" 499), (.int 149 0), (.int 3 0), (.int 0 0), (.int 0 0), (.int 3 0), (.ref 256), (.bool true), (.int 181 0), (.ref 257), .none, (.ref 258), (.ref 259), (.ref 260), (.int 503 0), (.int 149 0), (sv "/claim/cut.py" 504)], #[]⟩),
  (262, ⟨(.type "function"), none, .func (fno "__init__" "Propagator.__init__" (inC (stm 16) 0) [] .none (sv "fdsolve.store" 291) (.ref 261) .none), #[]⟩),
  (285, ⟨(.type "dict"), none, .dict #[en P "__module__" 492 (sv "fdsolve.store" 291), en P "__firstlineno__" 496 (.int 147 495), en P "__init__" 505 (.ref 262), en P "propagate" 513 (.ref 269), en P "check" 521 (.ref 276), en P "told" 528 (.ref 283), en P "__static_attributes__" 532 (.ref 284), en P "__dict__" 534 (.ref 287), en P "__weakref__" 536 (.ref 288), en P "__doc__" 537 .none] 4, #[]⟩),
  (286, ⟨(.type "type"), none, .cls { name := Str.ofString "Propagator", bases := [(.type "object")], mro := [(.ref 286), (.type "object")], ns := 285, qualname := Str.ofString "Propagator", hasDict := true, slotNames := [], subclasses := [(.ref 349)], abstract := false, collection := none, hasDel := false }, #[none, none, some (sv "Propagator" 485), some (sv "Propagator" 493), some (.builtin "object.__new__"), some (.bool true)]⟩),
  (294, ⟨(.type "cell"), none, .cell (some (.ref 349)), #[]⟩),
  (299, ⟨(.type "tuple"), none, .seq #[(.ref 294)] 0, #[]⟩),
  (305, ⟨(.type "code"), none, .fields #[(sv "__init__" 554), (sv "Circuit.__init__" 555), (sv "/claim/cut.py" 556), (.int 165 0), (.int 2 0), (.int 0 0), (.int 0 0), (.int 3 0), (.ref 300), (.bool true), (.int 181 0), (.ref 301), .none, (.ref 302), (.ref 303), (.ref 304), (.int 560 0), (.int 165 0), (sv "/claim/cut.py" 561)], #[]⟩),
  (306, ⟨(.type "function"), none, .func (fno "__init__" "Circuit.__init__" (inC (stm 18) 0) [(Str.ofString "__class__", 294)] .none (sv "fdsolve.order" 540) (.ref 305) (.ref 299)), #[]⟩),
  (331, ⟨(.type "code"), none, .fields #[(sv "reach" 587), (sv "Circuit.reach" 588), (sv "/claim/cut.py" 589), (.int 177 0), (.int 2 0), (.int 0 0), (.int 0 0), (.int 3 0), (.ref 328), (.bool true), (.int 181 0), (.ref 329), .none, .none, .none, (.ref 330), (.int 590 0), (.int 177 0), (sv "/claim/cut.py" 591)], #[]⟩),
  (332, ⟨(.type "function"), none, .func (fno "reach" "Circuit.reach" (inC (stm 18) 4) [] .none (sv "fdsolve.order" 540) (.ref 331) .none), #[]⟩),
  (348, ⟨(.type "dict"), none, .dict #[en P "__module__" 549 (sv "fdsolve.order" 540), en P "__firstlineno__" 553 (.int 163 552), en P "__init__" 562 (.ref 306), en P "propagate" 570 (.ref 313), en P "part" 578 (.ref 320), en P "open_rings" 586 (.ref 327), en P "reach" 592 (.ref 332), en P "check" 600 (.ref 339), en P "told" 607 (.ref 346), en P "__static_attributes__" 608 (.ref 347), en P "__doc__" 610 .none] 3, #[]⟩),
  (349, ⟨(.type "type"), none, .cls { name := Str.ofString "Circuit", bases := [(.ref 286)], mro := [(.ref 349), (.ref 286), (.type "object")], ns := 348, qualname := Str.ofString "Circuit", hasDict := true, slotNames := [], subclasses := [], abstract := false, collection := none, hasDel := false }, #[some (.ref 291), none, some (sv "Circuit" 542), some (sv "Circuit" 550), some (.builtin "object.__new__"), some (.bool true)]⟩),
  (357, ⟨(.type "code"), none, .fields #[(sv "_law_take" 615), (sv "_law_take" 616), (sv "/claim/cut.py" 617), (.int 194 0), (.int 2 0), (.int 0 0), (.int 0 0), (.int 3 0), (.ref 352), (.bool true), (.int 181 0), (.ref 353), .none, (.ref 354), (.ref 355), (.ref 356), (.int 621 0), (.int 194 0), (sv "/claim/cut.py" 622)], #[]⟩),
  (358, ⟨(.type "function"), none, .func (fno "_law_take" "_law_take" (stm 20) [] .none (sv "law_qd0015_01" 613) (.ref 357) .none), #[]⟩),
  (364, ⟨(.type "code"), none, .fields #[(sv "_law_ranges" 624), (sv "_law_ranges" 625), (sv "/claim/cut.py" 626), (.int 200 0), (.int 1 0), (.int 0 0), (.int 0 0), (.int 3 0), (.ref 359), (.bool true), (.int 181 0), (.ref 360), .none, (.ref 361), (.ref 362), (.ref 363), (.int 630 0), (.int 200 0), (sv "/claim/cut.py" 631)], #[]⟩),
  (365, ⟨(.type "function"), none, .func (fno "_law_ranges" "_law_ranges" (stm 21) [] .none (sv "law_qd0015_01" 613) (.ref 364) .none), #[]⟩),
  (369, ⟨(.type "code"), none, .fields #[(sv "_law_reached" 633), (sv "_law_reached" 634), (sv "/claim/cut.py" 635), (.int 208 0), (.int 2 0), (.int 0 0), (.int 0 0), (.int 3 0), (.ref 366), (.bool true), (.int 181 0), (.ref 367), .none, .none, .none, (.ref 368), (.int 636 0), (.int 208 0), (sv "/claim/cut.py" 637)], #[]⟩),
  (370, ⟨(.type "function"), none, .func (fno "_law_reached" "_law_reached" (stm 22) [] .none (sv "law_qd0015_01" 613) (.ref 369) .none), #[]⟩),
  (374, ⟨(.type "code"), none, .fields #[(sv "_law_rings" 639), (sv "_law_rings" 640), (sv "/claim/cut.py" 641), (.int 216 0), (.int 1 0), (.int 0 0), (.int 0 0), (.int 3 0), (.ref 371), (.bool true), (.int 181 0), (.ref 372), .none, .none, .none, (.ref 373), (.int 642 0), (.int 216 0), (sv "/claim/cut.py" 643)], #[]⟩),
  (375, ⟨(.type "function"), none, .func (fno "_law_rings" "_law_rings" (stm 23) [] .none (sv "law_qd0015_01" 613) (.ref 374) .none), #[]⟩),
  (379, ⟨(.type "code"), none, .fields #[(sv "_law_is_right" 645), (sv "_law_is_right" 646), (sv "/claim/cut.py" 647), (.int 227 0), (.int 4 0), (.int 0 0), (.int 0 0), (.int 3 0), (.ref 376), (.bool true), (.int 181 0), (.ref 377), .none, .none, .none, (.ref 378), (.int 648 0), (.int 227 0), (sv "/claim/cut.py" 649)], #[]⟩),
  (380, ⟨(.type "function"), none, .func (fno "_law_is_right" "_law_is_right" (stm 24) [] .none (sv "law_qd0015_01" 613) (.ref 379) .none), #[]⟩),
  (384, ⟨(.type "code"), none, .fields #[(sv "law" 651), (sv "law" 652), (sv "/claim/cut.py" 653), (.int 244 0), (.int 1 0), (.int 0 0), (.int 0 0), (.int 3 0), (.ref 381), (.bool true), (.int 181 0), (.ref 382), .none, .none, .none, (.ref 383), (.int 654 0), (.int 244 0), (sv "/claim/cut.py" 655)], #[]⟩),
  (385, ⟨(.type "function"), none, .func (fno "law" "law" (stm 25) [] .none (sv "law_qd0015_01" 613) (.ref 384) .none), #[]⟩)]
noncomputable def kas : List Addr := [2, 3, 41, 42, 48, 49, 53, 54, 58, 59, 65, 66, 72, 73, 79, 80, 86, 87, 93, 94, 107, 108, 114, 115, 121, 122, 128, 129, 156, 157, 184, 185, 191, 192, 205, 206, 212, 213, 219, 220, 226, 227, 243, 244, 261, 262, 285, 286, 294, 299, 305, 306, 331, 332, 348, 349, 357, 358, 364, 365, 369, 370, 374, 375, 379, 380, 384, 385]
theorem kas_of : ∀ P, kas = (KK P).map (·.1) := fun _ => rfl
end Mine
end SKf

section SEl
namespace Mine
theorem x01 {P0 P1 : Prop} {G : Prop} (h : P0 ∧ P1) (k : P0 → P1 → G) : G := k h.1 h.2
theorem x02 {P0 P1 P2 : Prop} {G : Prop} (h : P0 ∧ P1 ∧ P2) (k : P0 → P1 → P2 → G) : G := x01 h.2 (k h.1)
theorem x03 {P0 P1 P2 P3 : Prop} {G : Prop} (h : P0 ∧ P1 ∧ P2 ∧ P3) (k : P0 → P1 → P2 → P3 → G) : G := x02 h.2 (k h.1)
theorem x04 {P0 P1 P2 P3 P4 : Prop} {G : Prop} (h : P0 ∧ P1 ∧ P2 ∧ P3 ∧ P4) (k : P0 → P1 → P2 → P3 → P4 → G) : G := x03 h.2 (k h.1)
theorem x05 {P0 P1 P2 P3 P4 P5 : Prop} {G : Prop} (h : P0 ∧ P1 ∧ P2 ∧ P3 ∧ P4 ∧ P5) (k : P0 → P1 → P2 → P3 → P4 → P5 → G) : G := x04 h.2 (k h.1)
theorem x06 {P0 P1 P2 P3 P4 P5 P6 : Prop} {G : Prop} (h : P0 ∧ P1 ∧ P2 ∧ P3 ∧ P4 ∧ P5 ∧ P6) (k : P0 → P1 → P2 → P3 → P4 → P5 → P6 → G) : G := x05 h.2 (k h.1)
theorem x014 {P0 P1 P2 P3 P4 P5 P6 P7 P8 P9 P10 P11 P12 P13 P14 : Prop} {G : Prop} (h : P0 ∧ P1 ∧ P2 ∧ P3 ∧ P4 ∧ P5 ∧ P6 ∧ P7 ∧ P8 ∧ P9 ∧ P10 ∧ P11 ∧ P12 ∧ P13 ∧ P14) (k : P0 → P1 → P2 → P3 → P4 → P5 → P6 → P7 → P8 → P9 → P10 → P11 → P12 → P13 → P14 → G) : G := x06 h fun a b c d e f r => x06 r fun g i j l m n r => x02 r fun o p q => k a b c d e f g i j l m n o p q
theorem x10 {α : Type} {P0 : α → Prop} {G : Prop} (h : ∃ a, P0 a) (k : ∀ a, P0 a → G) : G := h.elim k
theorem x11 {α : Type} {P0 P1 : α → Prop} {G : Prop} (h : ∃ a, P0 a ∧ P1 a) (k : ∀ a, P0 a → P1 a → G) : G := h.elim fun a h => x01 h (k a)
theorem x12 {α : Type} {P0 P1 P2 : α → Prop} {G : Prop} (h : ∃ a, P0 a ∧ P1 a ∧ P2 a) (k : ∀ a, P0 a → P1 a → P2 a → G) : G := h.elim fun a h => x02 h (k a)
theorem x13 {α : Type} {P0 P1 P2 P3 : α → Prop} {G : Prop} (h : ∃ a, P0 a ∧ P1 a ∧ P2 a ∧ P3 a) (k : ∀ a, P0 a → P1 a → P2 a → P3 a → G) : G := h.elim fun a h => x03 h (k a)
theorem x14 {α : Type} {P0 P1 P2 P3 P4 : α → Prop} {G : Prop} (h : ∃ a, P0 a ∧ P1 a ∧ P2 a ∧ P3 a ∧ P4 a) (k : ∀ a, P0 a → P1 a → P2 a → P3 a → P4 a → G) : G := h.elim fun a h => x04 h (k a)
theorem x15 {α : Type} {P0 P1 P2 P3 P4 P5 : α → Prop} {G : Prop} (h : ∃ a, P0 a ∧ P1 a ∧ P2 a ∧ P3 a ∧ P4 a ∧ P5 a) (k : ∀ a, P0 a → P1 a → P2 a → P3 a → P4 a → P5 a → G) : G := h.elim fun a h => x05 h (k a)
theorem x20 {α β : Type} {P0 : α → β → Prop} {G : Prop} (h : ∃ a, ∃ b, P0 a b) (k : ∀ a b, P0 a b → G) : G := h.elim fun a h => x10 h (k a)
theorem x21 {α β : Type} {P0 P1 : α → β → Prop} {G : Prop} (h : ∃ a, ∃ b, P0 a b ∧ P1 a b) (k : ∀ a b, P0 a b → P1 a b → G) : G := h.elim fun a h => x11 h (k a)
theorem x22 {α β : Type} {P0 P1 P2 : α → β → Prop} {G : Prop} (h : ∃ a, ∃ b, P0 a b ∧ P1 a b ∧ P2 a b) (k : ∀ a b, P0 a b → P1 a b → P2 a b → G) : G := h.elim fun a h => x12 h (k a)
theorem x23 {α β : Type} {P0 P1 P2 P3 : α → β → Prop} {G : Prop} (h : ∃ a, ∃ b, P0 a b ∧ P1 a b ∧ P2 a b ∧ P3 a b) (k : ∀ a b, P0 a b → P1 a b → P2 a b → P3 a b → G) : G := h.elim fun a h => x13 h (k a)
theorem x24 {α β : Type} {P0 P1 P2 P3 P4 : α → β → Prop} {G : Prop} (h : ∃ a, ∃ b, P0 a b ∧ P1 a b ∧ P2 a b ∧ P3 a b ∧ P4 a b) (k : ∀ a b, P0 a b → P1 a b → P2 a b → P3 a b → P4 a b → G) : G := h.elim fun a h => x14 h (k a)
theorem x25 {α β : Type} {P0 P1 P2 P3 P4 P5 : α → β → Prop} {G : Prop} (h : ∃ a, ∃ b, P0 a b ∧ P1 a b ∧ P2 a b ∧ P3 a b ∧ P4 a b ∧ P5 a b) (k : ∀ a b, P0 a b → P1 a b → P2 a b → P3 a b → P4 a b → P5 a b → G) : G := h.elim fun a h => x15 h (k a)
theorem x30 {α β γ : Type} {P0 : α → β → γ → Prop} {G : Prop} (h : ∃ a, ∃ b, ∃ c, P0 a b c) (k : ∀ a b c, P0 a b c → G) : G := h.elim fun a h => x20 h (k a)
theorem x31 {α β γ : Type} {P0 P1 : α → β → γ → Prop} {G : Prop} (h : ∃ a, ∃ b, ∃ c, P0 a b c ∧ P1 a b c) (k : ∀ a b c, P0 a b c → P1 a b c → G) : G := h.elim fun a h => x21 h (k a)
theorem x32 {α β γ : Type} {P0 P1 P2 : α → β → γ → Prop} {G : Prop} (h : ∃ a, ∃ b, ∃ c, P0 a b c ∧ P1 a b c ∧ P2 a b c) (k : ∀ a b c, P0 a b c → P1 a b c → P2 a b c → G) : G := h.elim fun a h => x22 h (k a)
theorem x33 {α β γ : Type} {P0 P1 P2 P3 : α → β → γ → Prop} {G : Prop} (h : ∃ a, ∃ b, ∃ c, P0 a b c ∧ P1 a b c ∧ P2 a b c ∧ P3 a b c) (k : ∀ a b c, P0 a b c → P1 a b c → P2 a b c → P3 a b c → G) : G := h.elim fun a h => x23 h (k a)
theorem x34 {α β γ : Type} {P0 P1 P2 P3 P4 : α → β → γ → Prop} {G : Prop} (h : ∃ a, ∃ b, ∃ c, P0 a b c ∧ P1 a b c ∧ P2 a b c ∧ P3 a b c ∧ P4 a b c) (k : ∀ a b c, P0 a b c → P1 a b c → P2 a b c → P3 a b c → P4 a b c → G) : G := h.elim fun a h => x24 h (k a)
theorem x35 {α β γ : Type} {P0 P1 P2 P3 P4 P5 : α → β → γ → Prop} {G : Prop} (h : ∃ a, ∃ b, ∃ c, P0 a b c ∧ P1 a b c ∧ P2 a b c ∧ P3 a b c ∧ P4 a b c ∧ P5 a b c) (k : ∀ a b c, P0 a b c → P1 a b c → P2 a b c → P3 a b c → P4 a b c → P5 a b c → G) : G := h.elim fun a h => x25 h (k a)
theorem x40 {α β γ δ : Type} {P0 : α → β → γ → δ → Prop} {G : Prop} (h : ∃ a, ∃ b, ∃ c, ∃ d, P0 a b c d) (k : ∀ a b c d, P0 a b c d → G) : G := h.elim fun a h => x30 h (k a)
theorem x43 {α β γ δ : Type} {P0 P1 P2 P3 : α → β → γ → δ → Prop} {G : Prop} (h : ∃ a, ∃ b, ∃ c, ∃ d, P0 a b c d ∧ P1 a b c d ∧ P2 a b c d ∧ P3 a b c d) (k : ∀ a b c d, P0 a b c d → P1 a b c d → P2 a b c d → P3 a b c d → G) : G := h.elim fun a h => x33 h (k a)
theorem x44 {α β γ δ : Type} {P0 P1 P2 P3 P4 : α → β → γ → δ → Prop} {G : Prop} (h : ∃ a, ∃ b, ∃ c, ∃ d, P0 a b c d ∧ P1 a b c d ∧ P2 a b c d ∧ P3 a b c d ∧ P4 a b c d) (k : ∀ a b c d, P0 a b c d → P1 a b c d → P2 a b c d → P3 a b c d → P4 a b c d → G) : G := h.elim fun a h => x34 h (k a)
theorem x45 {α β γ δ : Type} {P0 P1 P2 P3 P4 P5 : α → β → γ → δ → Prop} {G : Prop} (h : ∃ a, ∃ b, ∃ c, ∃ d, P0 a b c d ∧ P1 a b c d ∧ P2 a b c d ∧ P3 a b c d ∧ P4 a b c d ∧ P5 a b c d) (k : ∀ a b c d, P0 a b c d → P1 a b c d → P2 a b c d → P3 a b c d → P4 a b c d → P5 a b c d → G) : G := h.elim fun a h => x35 h (k a)
end Mine
end SEl

section ST3
open PySem PySem.W PyProof.Rows
set_option maxRecDepth 100000
set_option maxHeartbeats 0
namespace Mine
noncomputable def vw : Program := { PySem.Challenge.pw_qd0015_01 with main := { PySem.Challenge.pw_qd0015_01.main with body := PySem.Challenge.pw_qd0015_01.main.body.drop 25 } }
noncomputable def lo : List Str := [Str.ofString "_wall", Str.ofString "least", Str.ofString "greatest", Str.ofString "next_from", Str.ofString "has", Str.ofString "has_domains", Str.ofString "up_to", Str.ofString "from_on", Str.ofString "without", Str.ofString "meet", Str.ofString "negation", Str.ofString "struck", Str.ofString "said_of", Str.ofString "Store", Str.ofString "Propagator", Str.ofString "Circuit", Str.ofString "_law_take", Str.ofString "_law_ranges", Str.ofString "_law_reached", Str.ofString "_law_rings", Str.ofString "_law_is_right"]
noncomputable abbrev HK : Hook := kHook KK kas kas_of
/-- the top's run over a tree of objects -/
noncomputable def topRunT (p : Program) (w : World) (m : Nat) (ann : Option Value) : Nat → SharedT → Thread → Option SharedT
  | 0, _, _ => none
  | n + 1, s, t => match through t with
    | true => some s
    | false => match stepOk m ann t with
      | false => none
      | true => match stepT (denote treeTable) p w s t with
        | some (s', t') => topRunT p w m ann n s' t'
        | none => none
theorem topRunT_of {p : Program} {w : World} {m : Nat} {ann : Option Value} (n : Nat) : ∀ (s : SharedT) (t : Thread) (r : SharedT), topRunT p w m ann n s t = some r → topRun treeTable p w m ann n s.abs t = some r.abs := by
  induction n with
  | zero => intro s t r h; cases h
  | succ n ih =>
    intro s t r h
    unfold topRunT at h
    unfold topRun
    cases ht : through t with
    | true => rw [ht] at h; cases h; rfl
    | false =>
      rw [ht] at h
      cases hk : stepOk m ann t with
      | false => rw [hk] at h; cases h
      | true =>
        rw [hk] at h
        cases hs : stepT (denote treeTable) p w s t with
        | none => rw [hs] at h; cases h
        | some q => rw [hs] at h; rw [stepT_spec hs]; exact ih _ _ _ h
theorem left_tree {p q : Program} {loose : List Str} {Xt : Shared → Bool} {α : Type} {Yf : Shared → α} {Ya : World → α} {N : Nat} {gs : Array GenState} {d : Drawn} {k : Nat} {H : Params → Heap} {T : World → BT} {n : Nat} {life : World → Life}
    (bo : ∀ w : World, (fencedOpening treeTable p w N).map (fun s => (s.heap, s.gens, s.drawn, s.toks)) = some (H w.params, gs, d, k))
    (hT : ∀ w, absHeap (T w) n (life w) = H w.params) (ok : ∀ w : World, ((H w.params).isNs mainGlobals && gs.size == 0) = true)
    (run : ∀ (w : World) (os : OsState), (topRunT p w (H w.params).objs.size ((H w.params).nsMap mainGlobals "__annotations__") N ⟨T w, n, life w, gs, d, k, os⟩ (topStub p)).map (fun s => (staticsOk (importedModules p.main.body) (H w.params) s.abs.heap && namesBound p s.abs.heap && gensDone s.abs && laidKept (H w.params) s.abs.heap,
      openSeen q loose (importedModules p.main.body) Xt true s.abs, Yf s.abs)) = some (true, openGood q loose, Ya w)) : LeftO p q loose Xt Yf Ya N := fun w => by
  refine x11 (Option.map_eq_some_iff.mp (bo w)) fun s e e' => ?_
  cases s with
  | mk h gs' d' k' os =>
    cases e'
    refine x11 (Option.map_eq_some_iff.mp (run w os)) fun r hr hq => ?_
    have ha : SharedT.abs ⟨T w, n, life w, gs', d', k', os⟩ = ⟨H w.params, gs', d', k', os⟩ := congrArg (fun h => (⟨h, gs', d', k', os⟩ : Shared)) (hT w)
    have hr := ha ▸ topRunT_of _ _ _ _ hr
    have t : topFrom treeTable p w N ⟨H w.params, gs', d', k', os⟩ = some r.abs := by
      unfold topFrom
      rw [ok w, hr]
      show (match staticsOk (importedModules p.main.body) (H w.params) r.abs.heap && namesBound p r.abs.heap && gensDone r.abs && laidKept (H w.params) r.abs.heap with | true => some r.abs | false => none) = _
      rw [(Prod.mk.inj hq).1]
    unfold openEnds
    rw [e]
    show (topFrom treeTable p w N _).map _ = _
    rw [t]
    exact congrArg some (Prod.mk.inj hq).2
noncomputable abbrev PG : Program := PySem.Challenge.pw_qd0015_01
noncomputable abbrev lk : Shared → Bool := fun s => xlAt vw [] s && recOk [] s
noncomputable def bt (w : World) : BT := ((boot_heap w.params).objs.toList.zipIdx).foldl (fun t p => t.ins p.2 p.1) .nil
theorem hl_run (w : World) (os : OsState) : (topRunT PG w (boot_heap w.params).objs.size ((boot_heap w.params).nsMap mainGlobals "__annotations__") 4488 ⟨bt w, 11, (boot_heap w.params).life, Array.mk [], boot_drawn, boot_toks, os⟩ (topStub PG)).map (fun s => (staticsOk (importedModules PG.main.body) (boot_heap w.params) s.abs.heap && namesBound PG s.abs.heap && gensDone s.abs && laidKept (boot_heap w.params) s.abs.heap,
    openSeen vw lo (importedModules PG.main.body) lk true s.abs, HK.obs s.abs)) = some (true, openGood vw lo, HK.val w) := by
  kernel_rfl
theorem hl : LeftO PG vw lo lk HK.obs HK.val 4488 :=
  left_tree (boot_open (by kernel_rfl) (by rfl) (fun s => by kernel_rfl)) (T := bt) (n := 11) (life := fun w => (boot_heap w.params).life) (fun w => by kernel_rfl) (fun w => by kernel_rfl) hl_run
end Mine
end ST3

section SLo
open PySem
namespace Mine
theorem toN0 (m : Nat) : ((m : Int) - 0).toNat = m := by omega
theorem lt0 {k m : Nat} (h : k < ((m : Int) - 0).toNat) : k < m := toN0 m ▸ h
theorem ge0 {m : Nat} : m ≤ ((m : Int) - 0).toNat := Nat.le_of_eq (toN0 m).symm
theorem line {a : Nat} (h : a ≤ 1000) : a ≤ sizeLine := Nat.le_trans h (by decide)
theorem line2 {k a : Nat} (h : a ≤ 1000) : min k a ≤ sizeLine := Nat.le_trans (Nat.min_le_right _ _) (line h)
theorem bits {a : Nat} (h : a ≤ 1000) : a < 2 ^ 62 := Nat.lt_of_le_of_lt h (by decide)
theorem bitsI {a : Nat} (h : a ≤ 1000) : (a : Int) < 2 ^ 62 := by omega
theorem bitsN {a : Nat} : -(2 ^ 62) ≤ (a : Int) := by omega
theorem natz {z : Int} (h : 0 ≤ z) : z = (z.toNat : Int) := (Int.toNat_of_nonneg h).symm
theorem natz1 {z : Int} {n : Nat} (h : 1 ≤ z ∧ z ≤ n) : z - 1 = ((z - 1).toNat : Int) := by omega
theorem natz2 {z : Int} {n : Nat} (h : 1 ≤ z ∧ z ≤ n) : (z - 1).toNat < n := by omega
end Mine
end SLo

section SLg
open PySem PySem.W PySem.Calls PyProof.Rows
set_option maxRecDepth 100000
namespace Mine

noncomputable abbrev Led := Addr → Option Obj
noncomputable def Led.put (g : Led) (a : Addr) (o : Obj) : Led := fun b => if b = a then some o else g b
theorem put_self (g : Led) (a : Addr) (o : Obj) : g.put a o a = some o := if_pos rfl
theorem put_ne (g : Led) {a b : Addr} (o : Obj) (h : b ≠ a) : g.put a o b = g b := if_neg h
noncomputable def Ext (g g' : Led) : Prop := ∀ a o, g a = some o → g' a = some o
theorem Ext.refl (g : Led) : Ext g g := fun _ _ e => e
theorem Ext.trans {a b c : Led} (x : Ext a b) (y : Ext b c) : Ext a c := fun _ _ e => y _ _ (x _ _ e)
theorem Ext.new {g : Led} {a : Addr} (o : Obj) (h : g a = none) : Ext g (g.put a o) := fun b o' e => by
  rw [put_ne]; exact e
  rintro rfl; rw [h] at e; cases e
theorem ne_of_none {g : Led} {a b : Addr} {o : Obj} (h : g a = none) (e : g b = some o) : b ≠ a := by
  rintro rfl; rw [h] at e; cases e
/-- the part of the heap that no step of the call turns -/
structure Fx (K : Frag) (h : Heap) : Prop where
  k : ∀ a o, K.lookup a = some o → a < 386 ∧ h.get? a = some o
  b : ∃ mb, h.Ns builtinsNs mb ∧ ∀ x : Str, x ≠ "__name__" → mb x = bootBuiltins x
  wit : ∃ o, K.lookup 385 = some o
  st : K.lookup cStatics = some ⟨.none, none, .dict #[] 0, #[]⟩
theorem Fx.in {K : Frag} {h : Heap} (x : Fx K h) : K.In h := fun a o e => (x.k a o e).2
theorem Fx.n {K : Frag} {h : Heap} (x : Fx K h) : 386 ≤ h.objs.size := let ⟨o, e⟩ := x.wit; Heap.lt_size (x.k _ _ e).2
theorem Fx.to {K : Frag} {h h' : Heap} (x : Fx K h) (k : ∀ a o, a < 386 → h.get? a = some o → h'.get? a = some o) : Fx K h' :=
  ⟨fun a o e => ⟨(x.k a o e).1, k _ _ (x.k a o e).1 (x.k a o e).2⟩, x11 x.b fun mb hm y => ⟨mb, x31 hm fun o es ep e r => ⟨o, es, ep, k _ _ (by decide) e, r⟩, y⟩, x.wit, x.st⟩
theorem Fx.lim {K : Frag} {h : Heap} (x : Fx K h) : h.NoLimit := ⟨fun _ => none, ⟨_, #[], 0, x.in _ _ x.st, rfl, fun _ he => by simp at he, fun _ => rfl⟩, rfl⟩

structure Rep (K : Frag) (g F : Led) (h : Heap) : Prop where
  own : ∀ a o, g a = some o → h.get? a = some o
  fr : ∀ a o, F a = some o → h.get? a = some o
  dj : ∀ a o, g a = some o → F a = none
  lowg : ∀ a o, g a = some o → 386 ≤ a
  lowf : True
  fx : Fx K h

theorem Rep.sub {K : Frag} {g g' F : Led} {h : Heap} (r : Rep K g F h) (e : Ext g' g) : Rep K g' F h :=
  ⟨fun a o x => r.own a o (e _ _ x), r.fr, fun a o x => r.dj a o (e _ _ x), fun a o x => r.lowg a o (e _ _ x), r.lowf, r.fx⟩
theorem Rep.free {K : Frag} {g F : Led} {h : Heap} (r : Rep K g F h) : g h.objs.size = none ∧ F h.objs.size = none := by
  constructor
  · cases e : g h.objs.size with
    | none => rfl
    | some o => exact absurd (Heap.lt_size (r.own _ _ e)) (Nat.lt_irrefl _)
  · cases e : F h.objs.size with
    | none => rfl
    | some o => exact absurd (Heap.lt_size (r.fr _ _ e)) (Nat.lt_irrefl _)
theorem Rep.push {K : Frag} {g F : Led} {h : Heap} (r : Rep K g F h) {o : Obj} (ho : o.isFreed = false) : Rep K (g.put h.objs.size o) F (h.push o) := by
  refine x01 r.free fun n1 n2 => ?_
  refine ⟨fun a o' e => ?_, fun a o' e => Heap.get?_push_of_some _ (r.fr _ _ e), fun a o' e => ?_, fun a o' e => ?_, r.lowf, r.fx.to (fun a o' _ e => Heap.get?_push_of_some _ e)⟩
  · by_cases q : a = h.objs.size
    · subst q; rw [put_self] at e; cases e; exact Heap.get?_push_size _ ho
    · rw [put_ne _ _ q] at e; exact Heap.get?_push_of_some _ (r.own _ _ e)
  · by_cases q : a = h.objs.size
    · subst q; exact n2
    · rw [put_ne _ _ q] at e; exact r.dj _ _ e
  · by_cases q : a = h.objs.size
    · subst q; exact r.fx.n
    · rw [put_ne _ _ q] at e; exact r.lowg _ _ e
/-- one known object is turned -/
theorem Rep.turn {K : Frag} {g F : Led} {h h' : Heap} (r : Rep K g F h) {a : Addr} {o o' : Obj} (e : g a = some o) (e' : h'.get? a = some o') (k : ∀ b x, b ≠ a → h.get? b = some x → h'.get? b = some x) : Rep K (g.put a o') F h' := by
  have la := r.lowg _ _ e
  refine ⟨fun b x y => ?_, fun b x y => k _ _ (fun q => ?_) (r.fr _ _ y), fun b x y => ?_, fun b x y => ?_, r.lowf, r.fx.to (fun b x l y => k _ _ (Nat.ne_of_lt (Nat.lt_of_lt_of_le l la)) y)⟩
  · by_cases q : b = a
    · subst q; rw [put_self] at y; cases y; exact e'
    · rw [put_ne _ _ q] at y; exact k _ _ q (r.own _ _ y)
  · subst q; rw [r.dj _ _ e] at y; cases y
  · by_cases q : b = a
    · subst q; exact r.dj _ _ e
    · rw [put_ne _ _ q] at y; exact r.dj _ _ y
  · by_cases q : b = a
    · subst q; exact la
    · rw [put_ne _ _ q] at y; exact r.lowg _ _ y
theorem Rep.keeps {K : Frag} {g F : Led} {h h' : Heap} (r : Rep K g F h) (k : ∀ b x, h.get? b = some x → h'.get? b = some x) : Rep K g F h' :=
  ⟨fun b x y => k _ _ (r.own _ _ y), fun b x y => k _ _ (r.fr _ _ y), r.dj, r.lowg, r.lowf, r.fx.to fun b x _ y => k _ _ y⟩

variable {prog : Program} {w : World} {K : Frag} {A : Around} {α β : Type}

/-- from a heap that bears g, the tree comes back without a raise, and what it gives is P's -/
noncomputable def Ev (prog : Program) (w : World) (K : Frag) (A : Around) {α : Type} (t : Sem α) (g : Led) (P : α → Led → Prop) : Prop :=
  ∀ (F : Led) (s : Shared) (Q : α → Shared → Prop) (E : Value → Shared → Prop), Rep K g F s.heap →
    (∀ a g' h' d tk, P a g' → Rep K g' F h' → Q a { s with heap := h', drawn := d, toks := tk }) → wpAny (model prog w) A t Q E s

theorem Ev.mono {t : Sem α} {g : Led} {P P' : α → Led → Prop} (x : Ev prog w K A t g P) (h : ∀ a g', P a g' → P' a g') : Ev prog w K A t g P' :=
  fun F s Q E r k => x F s Q E r fun a g' h' d tk p r' => k a g' h' d tk (h _ _ p) r'
/-- the frame at hand: the dict of its locals at L, its names' values -/
noncomputable abbrev Vars := List (Str × Option Value)
noncomputable def getv (vs : Vars) (x : Str) : Option Value := (vs.lookup x).bind id
structure FrOk (L : Addr) (vs : Vars) (g F : Led) (h : Heap) : Prop where
  ns : h.Ns L (getv vs)
  nd : (vs.map (·.1)).Nodup
  ng : g L = none
  nf : F L = none
  low : 386 ≤ L

noncomputable def EvF (prog : Program) (w : World) (K : Frag) (A : Around) (L : Addr) (vs : Vars) {α : Type} (t : Sem α) (g : Led) (P : α → Vars → Led → Prop) : Prop :=
  ∀ (F : Led) (s : Shared) (Q : α → Shared → Prop) (E : Value → Shared → Prop), Rep K g F s.heap → FrOk L vs g F s.heap →
    (∀ a vs' g' h' d tk, P a vs' g' → Rep K g' F h' → FrOk L vs' g' F h' → Q a { s with heap := h', drawn := d, toks := tk }) → wpAny (model prog w) A t Q E s

variable {L : Addr} {vs : Vars} {g : Led}
theorem EvF.mono {t : Sem α} {P P' : α → Vars → Led → Prop} (x : EvF prog w K A L vs t g P) (h : ∀ a vs' g', P a vs' g' → P' a vs' g') : EvF prog w K A L vs t g P' :=
  fun F s Q E r f k => x F s Q E r f fun a vs' g' h' d tk p r' f' => k a vs' g' h' d tk (h _ _ _ p) r' f'
theorem EvF.pure {a : α} {P : α → Vars → Led → Prop} (h : P a vs g) : EvF prog w K A L vs (pure a) g P := fun F s Q E r f k => wpAny_pure (k a vs g s.heap s.drawn s.toks h r f)
noncomputable abbrev kBind (prog : Program) (w : World) (K : Frag) (A : Around) (L : Addr) {α β : Type} (f : α → Sem β) (P : β → Vars → Led → Prop) : α → Vars → Led → Prop := fun a vs g => EvF prog w K A L vs (f a) g P
theorem EvF.bind {m : Sem α} {f : α → Sem β} {P : β → Vars → Led → Prop} (h : EvF prog w K A L vs m g (kBind prog w K A L f P)) : EvF prog w K A L vs (m >>= f) g P :=
  fun F s Q E r fr k => wpAny_bind (h F s _ E r fr fun a vs' g' h' d tk p r' fr' => p F _ Q E r' fr' fun b vs'' g'' h'' d' tk' q r'' fr'' => k b vs'' g'' h'' d' tk' q r'' fr'')
theorem EvF.eq {t t' : Sem α} {P : α → Vars → Led → Prop} (e : t = t') (h : EvF prog w K A L vs t' g P) : EvF prog w K A L vs t g P := e ▸ h
/-- a step that knows no frame, in a frame -/
theorem EvF.of {t : Sem α} {P : α → Vars → Led → Prop} (h : Ev prog w K A t g (fun a g' => P a vs g')) : EvF prog w K A L vs t g P := by
  intro F s Q E r f k
  refine x33 f.ns fun oL es ep hL hd hk hf => ?_
  have R : Rep K g (F.put L oL) s.heap := by
    refine ⟨r.own, fun a o e => ?_, fun a o e => ?_, r.lowg, trivial, r.fx⟩
    · by_cases q : a = L
      · subst q; rw [put_self] at e; cases e; exact hL
      · rw [put_ne _ _ q] at e; exact r.fr _ _ e
    · rw [put_ne]; exact r.dj _ _ e
      exact ne_of_none f.ng e
  refine h _ s Q E R fun a g' h' d tk p r' => k a vs g' h' d tk p ⟨r'.own, fun b o e => r'.fr b o ?_, fun b o e => ?_, r'.lowg, trivial, r'.fx⟩ ⟨⟨oL, es, ep, r'.fr _ _ (put_self ..), hd, hk, hf⟩, f.nd, ?_, f.nf, f.low⟩
  · rw [put_ne]; exact e
    exact ne_of_none f.nf e
  · have := r'.dj b o e
    by_cases q : b = L
    · subst q; exact f.nf
    · rw [put_ne _ _ q] at this; exact this
  · cases q : g' L with
    | none => rfl
    | some o => have := r'.dj L o q; rw [put_self] at this; cases this

/-- looking rules: the raw rule needs facts of the heap alone and turns nothing but the tokens -/
theorem Ev.look {t : Sem α} {P : α → Led → Prop} (h : ∀ F (s : Shared) Q E, Rep K g F s.heap → (∀ a d tk, P a g → Q a { s with drawn := d, toks := tk }) → wpAny (model prog w) A t Q E s) : Ev prog w K A t g P :=
  fun F s Q E r k => h F s Q E r fun a d tk p => k a g s.heap d tk p r

theorem EvF.holding {t : Sem α} {xs : List Value} {P : α → Vars → Led → Prop} (h : EvF prog w K A L vs t g P) : EvF prog w K A L vs (holding xs t) g P := fun F s Q E r f k => wpAny_holding (h F s Q E r f k)
theorem EvF.standAt {pos : Pos} {P : Unit → Vars → Led → Prop} (h : P () vs g) : EvF prog w K A L vs (standAt pos) g P := fun F s Q E r f k => wpAny_standAt (k () vs g s.heap s.drawn s.toks h r f)
theorem Ev.rule {tag : String} {P : Unit → Led → Prop} (h : P () g) : Ev prog w K A (rule tag) g P := fun F s Q E r k => wpAny_rule (k () g s.heap s.drawn s.toks h r)

end Mine
end SLg

section SLg2
open PySem PySem.W PySem.Calls PyProof.Rows
set_option maxRecDepth 100000
namespace Mine
variable {prog : Program} {w : World} {K : Frag} {A : Around} {α β : Type} {L : Addr} {vs : Vars} {g : Led} {env : Env}

-- raw rules that turn nothing but tokens, lifted
theorem EvF.tok {t : Sem α} {P : α → Vars → Led → Prop} (h : ∀ F (s : Shared) Q E, Rep K g F s.heap → FrOk L vs g F s.heap → (∀ a d tk, P a vs g → Q a { s with drawn := d, toks := tk }) → wpAny (model prog w) A t Q E s) : EvF prog w K A L vs t g P :=
  fun F s Q E r f k => h F s Q E r f fun a d tk p => k a vs g s.heap d tk p r f

theorem EvF.cint {i k pos} {P : Value → Vars → Led → Prop} (h : ∀ t, P (.int i t) vs g) : EvF prog w K A L vs (eval (.Constant (.int i) k pos) env) g P :=
  .tok fun F s Q E r f q => wpAny_Constant_int (q _ _ _ (h _))
theorem EvF.cstr {x : Str} {k pos} {P : Value → Vars → Led → Prop} (h : ∀ t, P (.str x t) vs g) : EvF prog w K A L vs (eval (.Constant (.str x) k pos) env) g P :=
  .tok fun F s Q E r f q => wpAny_Constant_str (q _ _ _ (h _))
theorem EvF.cbool {b k pos} {P : Value → Vars → Led → Prop} (h : P (.bool b) vs g) : EvF prog w K A L vs (eval (.Constant (.bool b) k pos) env) g P :=
  .tok fun F s Q E r f q => wpAny_Constant_bool (q _ s.drawn s.toks h)
theorem EvF.cnone {k pos} {P : Value → Vars → Led → Prop} (h : P .none vs g) : EvF prog w K A L vs (eval (.Constant .none k pos) env) g P :=
  .tok fun F s Q E r f q => wpAny_Constant_none (q _ s.drawn s.toks h)

theorem getv_of_mem {vs : Vars} {x : Str} {u : Option Value} (nd : (vs.map (·.1)).Nodup) (m : (x, u) ∈ vs) : getv vs x = u := by
  induction vs with
  | nil => exact nomatch m
  | cons p r ih =>
    rw [List.map_cons, List.nodup_cons] at nd
    rcases List.mem_cons.mp m with e | m
    · subst e; simp [getv]
    · have : x ≠ p.1 := fun q => nd.1 (q ▸ List.mem_map_of_mem (f := (·.1)) m)
      have ih := ih nd.2 m
      unfold getv at ih ⊢
      rw [List.lookup_cons, beq_eq_false_iff_ne.mpr this]; exact ih

/-- vs' is vs with x turned to v -/
inductive SetV (x : Str) (v : Value) : Vars → Vars → Prop
  | head {u r} : SetV x v ((x, u) :: r) ((x, some v) :: r)
  | tail {p r r'} : SetV x v r r' → SetV x v (p :: r) (p :: r')
theorem SetV.names {x : Str} {v : Value} {a b : Vars} (h : SetV x v a b) : b.map (·.1) = a.map (·.1) := by
  induction h with
  | head => rfl
  | tail _ ih => rw [List.map_cons, List.map_cons, ih]
theorem SetV.mem {x : Str} {v : Value} {a b : Vars} (h : SetV x v a b) : x ∈ a.map (·.1) := by
  induction h with
  | head => exact .head _
  | tail _ ih => exact .tail _ ih
theorem SetV.get {x : Str} {v : Value} {a b : Vars} (h : SetV x v a b) (nd : (a.map (·.1)).Nodup) : getv b = fun y => if y = x then some v else getv a y := by
  induction h with
  | head =>
    funext y
    unfold getv
    rw [List.lookup_cons, List.lookup_cons]
    by_cases q : y = x
    · subst q; simp
    · rw [beq_eq_false_iff_ne.mpr q, if_neg q]
  | @tail p r r' h ih =>
    rw [List.map_cons, List.nodup_cons] at nd
    have ih := ih nd.2
    funext y
    have i := congrFun ih y
    unfold getv at i ⊢
    rw [List.lookup_cons, List.lookup_cons]
    by_cases q : y = p.1
    · have : y ≠ x := fun e => nd.1 (q ▸ e ▸ h.mem)
      rw [q] at this ⊢
      simp [this]
    · rw [beq_eq_false_iff_ne.mpr q]; exact i

theorem EvF.loc {x : Str} {pos : Pos} {v : Value} {P : Value → Vars → Led → Prop} (hv : (x, some v) ∈ vs) (h : P v vs g)
    (hk : env.scope.kind = .function := by rfl) (hl : env.kindOf x = some .local := by rfl) (hL : env.locals = L := by rfl) (hd : (x == ("__debug__" : Str)) = false := by decide) :
    EvF prog w K A L vs (eval (.Name x pos) env) g P :=
  .tok fun F s Q E r f q => wpAny_Name (wpAny_loadName_local hk hl (by rw [hL]; exact f.ns) (getv_of_mem f.nd hv) (q _ s.drawn s.toks h)) hd

inductive At (g : Led) (a : Addr) (Φ : Obj → Prop) : Prop
  | mk (o : Obj) (h : g a = some o) (p : Φ o) : At g a Φ
theorem At.got {g : Led} {a : Addr} {Φ : Obj → Prop} (x : At g a Φ) : ∃ o, g a = some o := let ⟨o, y, _⟩ := x; ⟨o, y⟩
theorem At.ext {g g' : Led} {a : Addr} {Φ : Obj → Prop} (x : At g a Φ) (e : Ext g g') : At g' a Φ := let ⟨o, y, z⟩ := x; ⟨o, e _ _ y, z⟩
theorem At.put (g : Led) {a : Addr} {Φ : Obj → Prop} {o : Obj} (x : Φ o) : At (g.put a o) a Φ := ⟨o, put_self .., x⟩
theorem At.off {g : Led} {a b : Addr} {Φ : Obj → Prop} {o : Obj} (x : At g a Φ) (n : a ≠ b) : At (g.put b o) a Φ := let ⟨o', y, z⟩ := x; ⟨o', (put_ne _ _ n).trans y, z⟩
noncomputable def CellO (v : Option Value) (o : Obj) : Prop := o.data = .cell v
theorem EvF.cell {x : Str} {pos : Pos} {c : Addr} {v : Value} {P : Value → Vars → Led → Prop} (hg : At g c (CellO (some v))) (h : P v vs g)
    (hc : env.cells.lookup x = some c := by rfl) (hk : env.scope.kind = .function := by rfl) (hl : env.kindOf x = some .cell := by rfl) (hd : (x == ("__debug__" : Str)) = false := by decide) :
    EvF prog w K A L vs (eval (.Name x pos) env) g P :=
  .tok fun F s Q E r f q => wpAny_Name (wpAny_loadName_cell hk hl hc (let ⟨o, y, z⟩ := hg; ⟨o, r.own _ _ y, z⟩) (q _ s.drawn s.toks h)) hd

theorem loadGlobal_top {x : Str} {v : Value} {s : Shared} {Q : Value → Shared → Prop} {E : Value → Shared → Prop} (X : K.In s.heap) (hg : env.globals = mainGlobals) (e : nsIn K mainGlobals x = some (some v)) (h : Q v s) :
    wpAny (model prog w) A (loadGlobal env x) Q E s := by
  unfold loadGlobal
  rw [hg]
  exact wpAny_bind ((looks_nsIn X e).here (wpAny_pure h))
theorem loadGlobal_boot {x : Str} {v : Value} {s : Shared} {Q : Value → Shared → Prop} {E : Value → Shared → Prop} (X : Fx K s.heap) (hg : env.globals = mainGlobals) (hb : env.builtins = builtinsNs) (e : nsIn K mainGlobals x = some none) (hv : bootBuiltins x = some v) (hn : x ≠ "__name__") (h : Q v s) :
    wpAny (model prog w) A (loadGlobal env x) Q E s := by
  unfold loadGlobal
  rw [hg, hb]
  refine wpAny_bind ((looks_nsIn X.in e).here ?_)
  refine x11 X.b fun mb hN hm => ?_
  refine wpAny_bind (wpAny_nsGet hN ?_)
  rw [hm x hn, hv]; exact wpAny_pure h
theorem EvF.top {x : Str} {pos : Pos} {v : Value} {P : Value → Vars → Led → Prop} (e : nsIn K mainGlobals x = some (some v)) (h : P v vs g)
    (hk : env.scope.kind = .function := by rfl) (hl : env.kindOf x = some .globalImplicit := by rfl) (hG : env.globals = mainGlobals := by rfl) (hd : (x == ("__debug__" : Str)) = false := by decide) :
    EvF prog w K A L vs (eval (.Name x pos) env) g P :=
  .tok fun F s Q E r f q => Name_function_global hk hl (loadGlobal_top r.fx.in hG e (q _ s.drawn s.toks h)) hd
theorem EvF.boot {x : Str} {pos : Pos} {v : Value} {P : Value → Vars → Led → Prop} (e : nsIn K mainGlobals x = some none) (hv : bootBuiltins x = some v) (h : P v vs g)
    (hk : env.scope.kind = .function := by rfl) (hl : env.kindOf x = some .globalImplicit := by rfl) (hG : env.globals = mainGlobals := by rfl) (hB : env.builtins = builtinsNs := by rfl) (hn : x ≠ "__name__" := by decide) (hd : (x == ("__debug__" : Str)) = false := by decide) :
    EvF prog w K A L vs (eval (.Name x pos) env) g P :=
  .tok fun F s Q E r f q => Name_function_global hk hl (loadGlobal_boot r.fx hG hB e hv hn (q _ s.drawn s.toks h)) hd

-- storing a local
theorem EvF.store {x : Str} {v : Value} {vs' : Vars} {P : Unit → Vars → Led → Prop} (hs : SetV x v vs vs') (h : P () vs' g)
    (hk : env.scope.kind = .function := by rfl) (hl : env.kindOf x = some .local := by rfl) (hL : env.locals = L := by rfl) : EvF prog w K A L vs (storeName env x v) g P := by
  intro F s Q E r f k
  subst hL
  refine wpAny_storeName_local hl f.ns (fun h' hn hs' => ?_) (by rw [hk] <;> rfl)
  have kp : ∀ b x, b ≠ env.locals → s.heap.get? b = some x → h'.get? b = some x := fun b x n e => (hs'.2 b n).trans e
  have ne1 : ∀ {b o}, g b = some o → b ≠ env.locals := fun e => ne_of_none f.ng e
  have ne2 : ∀ {b o}, F b = some o → b ≠ env.locals := fun e => ne_of_none f.nf e
  refine k () vs' g h' s.drawn _ h ⟨fun a o e => kp _ _ (ne1 e) (r.own _ _ e), fun a o e => kp _ _ (ne2 e) (r.fr _ _ e), r.dj, r.lowg, r.lowf, r.fx.to (fun a o l e => kp _ _ (Nat.ne_of_lt (Nat.lt_of_lt_of_le l f.low)) e)⟩
    ⟨by rw [hs.get f.nd]; exact hn, by rw [hs.names]; exact f.nd, f.ng, f.nf, f.low⟩
theorem EvF.storeCell {x : Str} {v : Value} {c : Addr} {u : Option Value} {P : Unit → Vars → Led → Prop} (hg : At g c (CellO u)) (h : ∀ o, CellO (some v) o → P () vs (g.put c o))
    (hc : env.cells.lookup x = some c := by rfl) (hk : env.scope.kind = .function := by rfl) (hl : env.kindOf x = some .cell := by rfl) : EvF prog w K A L vs (storeName env x v) g P := by
  refine .of fun F s Q E r k => ?_
  obtain ⟨o, hg, hd⟩ := hg
  unfold storeName
  rw [hl]
  have e : (some NameKind.cell == some NameKind.globalImplicit) = false := rfl
  simp only [e, Bool.false_and, Bool.false_eq_true, if_false, hk]
  have e2 : (ScopeKind.function == ScopeKind.class) = false := rfl
  try simp only [e2, Bool.false_and, Bool.false_eq_true, if_false]
  refine wpAny_bind (wpAny_of_eq (a := c) (by unfold cellOf; rw [hc]) ?_)
  unfold cellSet
  have ho := r.own _ _ hg
  refine wpAny_bind (wpAny_load ho ?_)
  rw [hd]
  refine wpAny_update ho (k () _ _ s.drawn s.toks (h { o with data := .cell (some v) } rfl) (r.turn hg (Heap.get?_update_self _ ho rfl) (fun b x n y => Heap.get?_update_of_ne _ (Ne.symm n) y)))

theorem EvF.bindNm {x : Str} {v : Value} {P : Unit → Vars → Led → Prop} (h : EvF prog w K A L vs (storeName env x v) g P) : EvF prog w K A L vs (bindName env x v) g P :=
  fun F s Q E r f k => wpAny_bindName (h F s Q E r f k)
theorem EvF.assignName {x : Str} {pos : Pos} {v : Value} {P : Unit → Vars → Led → Prop} (h : EvF prog w K A L vs (storeName env x v) g P) : EvF prog w K A L vs (assign (.Name x pos) env v) g P :=
  fun F s Q E r f k => wpAny_assign_Name (h F s Q E r f k)

noncomputable abbrev kBin2 (prog : Program) (w : World) (K : Frag) (A : Around) (L : Addr) (op : Operator) (P : Value → Vars → Led → Prop) (a : Value) : Value → Vars → Led → Prop := fun b vs g => EvF prog w K A L vs (binaryOp op a b) g P
noncomputable abbrev kBin (prog : Program) (w : World) (K : Frag) (A : Around) (L : Addr) (op : Operator) (r : Expr) (env : Env) (P : Value → Vars → Led → Prop) : Value → Vars → Led → Prop := fun a vs g => EvF prog w K A L vs (eval r env) g (kBin2 prog w K A L op P a)
noncomputable abbrev kCmp2 (prog : Program) (w : World) (K : Frag) (A : Around) (L : Addr) (op : CmpOp) (P : Value → Vars → Led → Prop) (a : Value) : Value → Vars → Led → Prop := fun b vs g => EvF prog w K A L vs (compareOp op a b) g P
noncomputable abbrev kCmp (prog : Program) (w : World) (K : Frag) (A : Around) (L : Addr) (op : CmpOp) (r : Expr) (env : Env) (P : Value → Vars → Led → Prop) : Value → Vars → Led → Prop := fun a vs g => EvF prog w K A L vs (eval r env) g (kCmp2 prog w K A L op P a)
noncomputable abbrev kTruth (prog : Program) (w : World) (K : Frag) (A : Around) (L : Addr) (P : Bool → Vars → Led → Prop) : Value → Vars → Led → Prop := fun c vs g => EvF prog w K A L vs (truthy c) g P
noncomputable abbrev kNext (P : Flow → Vars → Led → Prop) : Unit → Vars → Led → Prop := fun _ => P .next
noncomputable abbrev kAsg (prog : Program) (w : World) (K : Frag) (A : Around) (L : Addr) (t : Expr) (env : Env) (P : Flow → Vars → Led → Prop) : Value → Vars → Led → Prop := fun v vs g => EvF prog w K A L vs (assign t env v) g (kNext P)
noncomputable abbrev kSetA (prog : Program) (w : World) (K : Frag) (A : Around) (L : Addr) (attr : Str) (v : Value) (P : Unit → Vars → Led → Prop) : Value → Vars → Led → Prop := fun o vs g => EvF prog w K A L vs (setAttr o attr v) g P
noncomputable abbrev kSetI2 (prog : Program) (w : World) (K : Frag) (A : Around) (L : Addr) (v : Value) (P : Unit → Vars → Led → Prop) (o : Value) : Value → Vars → Led → Prop := fun i vs g => EvF prog w K A L vs (setItem o i v) g P
noncomputable abbrev kSetI (prog : Program) (w : World) (K : Frag) (A : Around) (L : Addr) (i : Expr) (v : Value) (env : Env) (P : Unit → Vars → Led → Prop) : Value → Vars → Led → Prop := fun o vs g => EvF prog w K A L vs (eval i env) g (kSetI2 prog w K A L v P o)
noncomputable abbrev kDrop (P : Flow → Vars → Led → Prop) : Value → Vars → Led → Prop := fun _ => P .next
noncomputable abbrev kGetA (prog : Program) (w : World) (K : Frag) (A : Around) (L : Addr) (attr : Str) (P : Value → Vars → Led → Prop) : Value → Vars → Led → Prop := fun o vs g => EvF prog w K A L vs (getAttr o attr true) g P
-- expressions
theorem EvF.binOp {l op r pos} {P : Value → Vars → Led → Prop} (h : EvF prog w K A L vs (eval l env) g (kBin prog w K A L op r env P)) :
    EvF prog w K A L vs (eval (.BinOp l op r pos) env) g P :=
  fun F s Q E r f k => wpAny_BinOp (h F s _ E r f fun a vs' g' h' d tk p r' f' => p F _ _ E r' f' fun b vs'' g'' h'' d' tk' p' r'' f'' => p' F _ Q E r'' f'' k)
theorem EvF.compare {l op r pos} {P : Value → Vars → Led → Prop} (h : EvF prog w K A L vs (eval l env) g (kCmp prog w K A L op r env P))
    (hm : behindInMarks op r = false := by with_unfolding_all rfl) : EvF prog w K A L vs (eval (.Compare l [op] [r] pos) env) g P :=
  fun F s Q E r f k => wpAny_Compare1 (h F s _ E r f fun a vs' g' h' d tk p r' f' => p F _ _ E r' f' fun b vs'' g'' h'' d' tk' p' r'' f'' => p' F _ Q E r'' f'' k) hm
theorem EvF.test {l op r pos whole} {P : Bool → Vars → Led → Prop} (h : EvF prog w K A L vs (eval l env) g (kCmp prog w K A L op r env (kTruth prog w K A L P)))
    (hm : behindInMarks op r = false := by with_unfolding_all rfl) : EvF prog w K A L vs (isTrue (.Compare l [op] [r] pos) env whole) g P :=
  fun F s Q E r f k => wpAny_isTrue_Compare1 (h F s _ E r f fun a vs' g' h' d tk p r' f' => p F _ _ E r' f' fun b vs'' g'' h'' d' tk' p' r'' f'' => p' F _ _ E r'' f'' fun c vs₃ g₃ h₃ d₃ tk₃ p₃ r₃ f₃ => p₃ F _ Q E r₃ f₃ k) hm
theorem EvF.testNot {x pos whole} {P : Bool → Vars → Led → Prop} (h : EvF prog w K A L vs (isTrue x env (eval x env)) g fun b vs' g' => P (!b) vs' g') : EvF prog w K A L vs (isTrue (.UnaryOp .Not x pos) env whole) g P :=
  EvF.bind (h.mono fun b vs' g' p => EvF.pure p)
theorem EvF.testAnd {x y pos whole} {P : Bool → Vars → Led → Prop} (h : EvF prog w K A L vs (isTrue x env (eval x env)) g fun b vs' g' => match b with | false => P false vs' g' | true => EvF prog w K A L vs' (isTrue y env (eval y env)) g' P) :
    EvF prog w K A L vs (isTrue (.BoolOp .And [x, y] pos) env whole) g P := by
  refine EvF.bind (h.mono fun b vs' g' p => ?_)
  cases b with
  | false => exact EvF.pure p
  | true => exact EvF.bind (EvF.mono p fun b vs'' g'' q => by cases b <;> exact EvF.pure q)
theorem EvF.testOr {x y pos whole} {P : Bool → Vars → Led → Prop} (h : EvF prog w K A L vs (isTrue x env (eval x env)) g fun b vs' g' => match b with | true => P true vs' g' | false => EvF prog w K A L vs' (isTrue y env (eval y env)) g' P) :
    EvF prog w K A L vs (isTrue (.BoolOp .Or [x, y] pos) env whole) g P := by
  refine EvF.bind (h.mono fun b vs' g' p => ?_)
  cases b with
  | true => exact EvF.pure p
  | false => exact EvF.bind (EvF.mono p fun b vs'' g'' q => by cases b <;> exact EvF.pure q)
/-- a test that is no compare, and, or, not, if -/
theorem EvF.testVal {e : Expr} {whole : Sem Value} {P : Bool → Vars → Led → Prop} (h : EvF prog w K A L vs whole g (kTruth prog w K A L P))
    (he : isTrue e env whole = (do let v ← whole; PySem.standAt e.pos; PySem.holding [v] (truthy v)) := by rfl) : EvF prog w K A L vs (isTrue e env whole) g P :=
  .eq he (.bind (h.mono fun v vs' g' p => .bind (.standAt (.holding p))))
theorem EvF.truthyBool {b : Bool} {P : Bool → Vars → Led → Prop} (h : P b vs g) : EvF prog w K A L vs (truthy (.bool b)) g P := .tok fun F s Q E r f q => wpAny_truthy_bool (q _ s.drawn s.toks h)
theorem EvF.ifExp {t b o pos} {P : Value → Vars → Led → Prop} (h : EvF prog w K A L vs (isTrue t env (eval t env)) g fun c vs' g' => if c then EvF prog w K A L vs' (eval b env) g' P else EvF prog w K A L vs' (eval o env) g' P) :
    EvF prog w K A L vs (eval (.IfExp t b o pos) env) g P := by
  refine EvF.bind (h.mono fun c vs' g' p => ?_)
  cases c <;> exact p
/-- and, or as a value, of two -/
theorem EvF.orVal {x y pos} {P : Value → Vars → Led → Prop} (h : EvF prog w K A L vs (eval x env) g fun v vs' g' => EvF prog w K A L vs' (truthy v) g' fun t vs'' g'' => match t with | true => P v vs'' g'' | false => EvF prog w K A L vs'' (eval y env) g'' P) :
    EvF prog w K A L vs (eval (.BoolOp .Or [x, y] pos) env) g P := by
  refine EvF.bind (h.mono fun v vs' g' p => EvF.bind (EvF.standAt (EvF.bind (EvF.holding (EvF.mono p fun t vs'' g'' q => ?_)))))
  cases t with
  | true => exact EvF.pure q
  | false => exact q
theorem EvF.andVal {x y pos} {P : Value → Vars → Led → Prop} (h : EvF prog w K A L vs (eval x env) g fun v vs' g' => EvF prog w K A L vs' (truthy v) g' fun t vs'' g'' => match t with | false => P v vs'' g'' | true => EvF prog w K A L vs'' (eval y env) g'' P) :
    EvF prog w K A L vs (eval (.BoolOp .And [x, y] pos) env) g P := by
  refine EvF.bind (h.mono fun v vs' g' p => EvF.bind (EvF.standAt (EvF.bind (EvF.holding (EvF.mono p fun t vs'' g'' q => ?_)))))
  cases t with
  | false => exact EvF.pure q
  | true => exact q

-- statements
theorem EvF.nil {P : Flow → Vars → Led → Prop} (h : P .next vs g) : EvF prog w K A L vs (execs [] env) g P := EvF.pure h
theorem EvF.cons {st rest} {P : Flow → Vars → Led → Prop} (h : EvF prog w K A L vs (exec st env) g fun f vs' g' => match f with | .next => EvF prog w K A L vs' (execs rest env) g' P | f => P f vs' g') :
    EvF prog w K A L vs (execs (st :: rest) env) g P := by
  refine EvF.bind (h.mono fun f vs' g' p => ?_)
  cases f <;> first | exact p | exact EvF.pure p
noncomputable def notNext : Flow → Bool
  | .next => false
  | _ => true
theorem EvF.consQ {st rest} {P : Flow → Vars → Led → Prop} (h : ∀ Q : Flow → Vars → Led → Prop, (∀ vs' g', EvF prog w K A L vs' (execs rest env) g' P → Q .next vs' g') → (∀ fl vs' g', notNext fl = true → P fl vs' g' → Q fl vs' g') → EvF prog w K A L vs (exec st env) g Q) :
    EvF prog w K A L vs (execs (st :: rest) env) g P :=
  EvF.cons (h _ (fun _ _ x => x) (fun fl _ _ n p => by cases fl <;> first | exact p | cases n))
theorem EvF.ifS {test body orelse pos} {P : Flow → Vars → Led → Prop} (h : EvF prog w K A L vs (isTrue test env (eval test env)) g fun b vs' g' => if b then EvF prog w K A L vs' (execs body env) g' P else EvF prog w K A L vs' (execs orelse env) g' P) :
    EvF prog w K A L vs (exec (.If test body orelse pos) env) g P := by
  refine EvF.bind (EvF.standAt (EvF.bind (h.mono fun c vs' g' p => ?_)))
  cases c <;> exact p
theorem EvF.ret {e pos} {P : Flow → Vars → Led → Prop} (h : EvF prog w K A L vs (eval e env) g fun v => P (.ret v)) : EvF prog w K A L vs (exec (.Return (some e) pos) env) g P :=
  EvF.bind (EvF.standAt (EvF.bind (h.mono fun v vs' g' p => EvF.pure p)))
theorem EvF.cont {pos} {P : Flow → Vars → Led → Prop} (h : P .cont vs g) : EvF prog w K A L vs (exec (.Continue pos) env) g P := EvF.bind (EvF.standAt (EvF.pure h))
theorem EvF.exprS {e pos} {P : Flow → Vars → Led → Prop} (h : EvF prog w K A L vs (eval e env) g fun v vs' g' => EvF prog w K A L vs' (dropValue e pos v) g' P)
    (hi : interactive env = false := by rfl) (hs : swapsWith e none pos.line env = Pure.pure false := by rfl) : EvF prog w K A L vs (exec (.Expr e pos) env) g P :=
  .eq (exec_Expr env e pos hi hs) (.bind (.standAt (.bind h)))
theorem EvF.assignS {t value pos} {P : Flow → Vars → Led → Prop} (h : EvF prog w K A L vs (eval value env) g (kAsg prog w K A L t env P))
    (hs : swapsWithSole [t] value pos.line env = Pure.pure false := by rfl) (hw : swappedStores [t] value env = Pure.pure none := by rfl) (ht : (assignEach [t] env).map (·.2) = [assign t env] := by rfl) :
    EvF prog w K A L vs (exec (.Assign [t] value pos) env) g P := by
  have e : exec (.Assign [t] value pos) env = (do
      PySem.standAt pos
      if ← swapsWithSole [t] value pos.line env then do
        evalThenUse value env fun v => assignAll v ((assignEach [t] env).map (·.2))
        Pure.pure .next
      else do
        let v ← eval value env
        assignStores env v (← swappedStores [t] value env) ((assignEach [t] env).map (·.2))) := rfl
  rw [e, hs, hw, ht]
  refine .bind (.standAt (.bind (.pure ?_)))
  exact .bind (h.mono fun v vs' g' p => .bind (.pure (.bind (EvF.mono p fun _ vs'' g'' q => .pure q))))
theorem EvF.assignSwap {t value pos names} {P : Flow → Vars → Led → Prop}
    (h : EvF prog w K A L vs (eval value env) g fun v vs' g' => EvF prog w K A L vs' (unpackItems v names.length none) g' fun items vs'' g'' => EvF prog w K A L vs'' (assignInOrder (names.reverse.map fun n => bindName env n) items.reverse) g'' fun _ => P .next)
    (hw : swappedStores [t] value env = Pure.pure (some names) := by rfl) (hs : swapsWithSole [t] value pos.line env = Pure.pure false := by rfl) :
    EvF prog w K A L vs (exec (.Assign [t] value pos) env) g P := by
  have e : exec (.Assign [t] value pos) env = (do
      PySem.standAt pos
      if ← swapsWithSole [t] value pos.line env then do
        evalThenUse value env fun v => assignAll v ((assignEach [t] env).map (·.2))
        Pure.pure .next
      else do
        let v ← eval value env
        assignStores env v (← swappedStores [t] value env) ((assignEach [t] env).map (·.2))) := rfl
  rw [e, hs, hw]
  refine .bind (.standAt (.bind (.pure ?_)))
  refine .bind (h.mono fun v vs' g' p => .bind (.pure ?_))
  exact .bind (.of (Ev.rule (.bind (EvF.mono p fun items vs'' g'' q => .bind (EvF.mono q fun _ _ _ z => .pure z)))))

theorem EvF.release {xs ys : List Value} {P : Unit → Vars → Led → Prop} (h : P () vs g) : EvF prog w K A L vs (PySem.release xs ys) g P := fun F s Q E r f k Γ p _ => by
  rw [Sem.wp_release]; exact k () vs g s.heap s.drawn s.toks h r f
theorem EvF.operate {xs : List Value} {t : Sem Value} {P : Value → Vars → Led → Prop} (h : EvF prog w K A L vs t g P) : EvF prog w K A L vs (PySem.operate xs t) g P := fun F s Q E r f k Γ p hΓ => by
  rw [Sem.wp_operate]; exact h F s Q E r f k Γ p hΓ
theorem EvF.assignAttr {o attr pos} {v : Value} {P : Unit → Vars → Led → Prop} (h : EvF prog w K A L vs (eval o env) g (kSetA prog w K A L attr v P)) : EvF prog w K A L vs (assign (.Attribute o attr pos) env v) g P :=
  .bind (.holding (h.mono fun ov vs' g' p => .bind (.standAt (.bind (.holding (EvF.mono p fun _ _ _ q => .release q))))))
theorem EvF.assignSub {o i pos} {v : Value} {P : Unit → Vars → Led → Prop} (h : EvF prog w K A L vs (eval o env) g (kSetI prog w K A L i v env P)) :
    EvF prog w K A L vs (assign (.Subscript o i pos) env v) g P :=
  .bind (.holding (h.mono fun ov vs' g' p => .bind (.holding (EvF.mono p fun iv vs'' g'' q => .bind (.standAt (.bind (.holding (EvF.mono q fun _ _ _ z => .release z))))))))
theorem EvF.letGo {value : Expr} {o r : Value} {P : Unit → Vars → Led → Prop} (h : P () vs g) : EvF prog w K A L vs (letTemporaryGo value o r) g P :=
  .tok fun F s Q E r f q => wpAny_letTemporaryGo (q _ s.drawn s.toks h)
theorem EvF.drop {e : Expr} {pos : Pos} {v : Value} {P : Flow → Vars → Led → Prop} (h : P .next vs g) : EvF prog w K A L vs (dropValue e pos v) g P :=
  .tok fun F s Q E r f q => wpAny_dropValue (q _ s.drawn s.toks h)
/-- an expression as a statement -/
theorem EvF.exprD {e pos} {P : Flow → Vars → Led → Prop} (h : EvF prog w K A L vs (eval e env) g (kDrop P))
    (hi : interactive env = false := by with_unfolding_all rfl) (hs : swapsWith e none pos.line env = Pure.pure false := by with_unfolding_all rfl) : EvF prog w K A L vs (exec (.Expr e pos) env) g P :=
  .exprS (h.mono fun _ _ _ p => .drop p) hi hs

-- attributes
theorem EvF.attr {value attr pos} {P : Value → Vars → Led → Prop} (h : EvF prog w K A L vs (eval value env) g (kGetA prog w K A L attr P))
    (hb : attributeBase value attr env (eval value env) = eval value env := by rfl) : EvF prog w K A L vs (eval (.Attribute value attr pos) env) g P := by
  have e : eval (.Attribute value attr pos) env = (do
    let o ← attributeBase value attr env (eval value env)
    PySem.standAt pos.atName
    let r ← PySem.holding [o] (getAttr o attr true)
    letTemporaryGo value o r
    Pure.pure r) := rfl
  rw [e, hb]
  exact .bind (h.mono fun o vs' g' p => .bind (.standAt (.bind (.holding (EvF.mono p fun r vs'' g'' q => .bind (.letGo (.pure q)))))))

-- subscripts
noncomputable abbrev lstV (xs : List Value) (n : Nat) : Obj := { cls := .type "list", data := .seq xs.toArray n }
noncomputable abbrev tupV (xs : List Value) (n : Nat) : Obj := { cls := .type "tuple", data := .seq xs.toArray n }
noncomputable def LstO (xs : List Value) (o : Obj) : Prop := ∃ n, o = lstV xs n
noncomputable def TupO (xs : List Value) (o : Obj) : Prop := ∃ n, o = tupV xs n
theorem At.lst {g F : Led} {h : Heap} {a : Addr} {xs : List Value} (x : At g a (LstO xs)) (r : Rep K g F h) : h.IsList a xs.toArray := let ⟨o, y, n, d⟩ := x; ⟨o, r.own _ _ y, by rw [d], n, by rw [d]⟩
theorem At.tup {g F : Led} {h : Heap} {a : Addr} {xs : List Value} (x : At g a (TupO xs)) (r : Rep K g F h) : IsTup h a xs.toArray := let ⟨o, y, n, d⟩ := x; ⟨o, r.own _ _ y, by rw [d], n, by rw [d]⟩
theorem eval_sub (value slice : Expr) (pos : Pos) : eval (.Subscript value slice pos) env = (do
    let o ← eval value env
    let i ← PySem.holding [o] (eval slice env)
    PySem.standAt pos
    let r ← subscripted slice (← getitemInPython o) o i
    letTemporaryGo value o r
    Pure.pure r) := rfl
noncomputable abbrev kSub2 (prog : Program) (w : World) (K : Frag) (A : Around) (L : Addr) (P : Value → Vars → Led → Prop) (o : Value) : Value → Vars → Led → Prop := fun i vs g => ∃ T id a, o = .ref a ∧ At g a (fun ob => ob.cls = .type T) ∧ typeLookup (.type T) "__getitem__" = Pure.pure (some (.builtin id)) ∧ EvF prog w K A L vs (getItem o i) g P
noncomputable abbrev kSub (prog : Program) (w : World) (K : Frag) (A : Around) (L : Addr) (slice : Expr) (env : Env) (P : Value → Vars → Led → Prop) : Value → Vars → Led → Prop := fun o vs g => EvF prog w K A L vs (eval slice env) g (kSub2 prog w K A L P o)
theorem EvF.sub {value slice pos} {P : Value → Vars → Led → Prop} (h : EvF prog w K A L vs (eval value env) g (kSub prog w K A L slice env P)) :
    EvF prog w K A L vs (eval (.Subscript value slice pos) env) g P := by
  rw [eval_sub]
  refine .bind (h.mono fun o vs' g' p => .bind (.holding (EvF.mono p fun i vs'' g'' q => .bind (.standAt (.bind ?_)))))
  refine x33 q ?_; clear q; intro T id a z41 hT hl q; subst z41
  have fin : EvF prog w K A L vs'' (subscripted slice false (.ref a) i) g'' fun r vs₃ g₃ => EvF prog w K A L vs₃ (letTemporaryGo value (.ref a) r >>= fun _ => Pure.pure r) g₃ P := by
    have e : ∃ l, subscripted slice false (.ref a) i = PySem.operate l (getItem (.ref a) i) := by
      cases slice with
      | Slice x y z p => cases z <;> exact ⟨_, rfl⟩
      | _ => exact ⟨_, rfl⟩
    refine x10 e fun l e => ?_
    rw [e]
    exact .operate (q.mono fun r _ _ z => .bind (.letGo (.pure z)))
  refine .tok fun F s Q E r f k => ?_
  obtain ⟨ob, ho, hc⟩ := hT
  rw [getitemInPython_of_ne (by intro e; cases e)]
  exact wpAny_bind (wpAny_specialOf ⟨ob, r.own _ _ ho, hc⟩ hl (wpAny_pure (k false s.drawn s.toks (.bind fin))))
end Mine
end SLg2

section SLg3
open PySem PySem.W PySem.Calls PyProof.Rows
set_option maxRecDepth 100000
namespace Mine
variable {prog : Program} {w : World} {K : Frag} {A : Around} {α β : Type} {L : Addr} {vs : Vars} {g : Led} {env : Env}

noncomputable def KeepOk (K : Frag) (f : Value) : Prop := keepIn K f = true ∨ (∃ id, f = .builtin id) ∨ ∃ T, f = .type T
theorem KeepOk.looks {K : Frag} {f : Value} (x : KeepOk K f) {M : Model} : ∀ h, K.In h → ∃ k, (k = Keeper.frame ∨ k = Keeper.machine ∨ k = Keeper.boundFrame) ∧ Looks M h (keeperOf f) k := by
  intro h X
  rcases x with x | ⟨id, rfl⟩ | ⟨T, rfl⟩
  · refine x11 (looks_keep (M := M) x X) fun k a b => ?_
    exact ⟨k, a.imp id .inl, b⟩
  · exact ⟨_, .inr (.inl rfl), Looks.of_pure rfl⟩
  · exact ⟨_, .inr (.inl rfl), Looks.of_pure rfl⟩
theorem KeepOk.k {K : Frag} {f : Value} (x : keepIn K f = true) : KeepOk K f := .inl x
theorem KeepOk.b {K : Frag} {id : String} : KeepOk K (.builtin id) := .inr (.inl ⟨_, rfl⟩)
theorem KeepOk.t {K : Frag} {T : String} : KeepOk K (.type T) := .inr (.inr ⟨_, rfl⟩)

theorem EvF.args0 {pos : Pos} {P : List Value → Vars → Led → Prop} (h : P [] vs g) : EvF prog w K A L vs (spliced (backTo pos (starEach [] env))) g P := EvF.pure h
noncomputable abbrev kArg2 (P : List Value → Vars → Led → Prop) (v : Value) : List Value → Vars → Led → Prop := fun xs => P (v :: xs)
noncomputable abbrev kArg (prog : Program) (w : World) (K : Frag) (A : Around) (L : Addr) (rest : List Expr) (pos : Pos) (env : Env) (P : List Value → Vars → Led → Prop) : Value → Vars → Led → Prop := fun v vs g => EvF prog w K A L vs (spliced (backTo pos (starEach rest env))) g (kArg2 P v)
noncomputable abbrev kCall2 (prog : Program) (w : World) (K : Frag) (A : Around) (L : Addr) (P : Value → Vars → Led → Prop) (f : Value) : List Value → Vars → Led → Prop := fun xs vs g => EvF prog w K A L vs (PySem.call f xs []) g P
noncomputable abbrev kCall (prog : Program) (w : World) (K : Frag) (A : Around) (L : Addr) (es : List Expr) (pos : Pos) (env : Env) (P : Value → Vars → Led → Prop) : Value → Vars → Led → Prop := fun f vs g => KeepOk K f ∧ EvF prog w K A L vs (spliced (backTo pos (starEach es env))) g (kCall2 prog w K A L P f)
noncomputable abbrev kCall0 (prog : Program) (w : World) (K : Frag) (A : Around) (L : Addr) (P : Value → Vars → Led → Prop) : Value → Vars → Led → Prop := fun f vs g => KeepOk K f ∧ EvF prog w K A L vs (PySem.call f [] []) g P
noncomputable abbrev kMeth3 (prog : Program) (w : World) (K : Frag) (A : Around) (L : Addr) (P : Value → Vars → Led → Prop) (fx : Value × List Value) : List Value → Vars → Led → Prop := fun xs vs g => EvF prog w K A L vs (PySem.call fx.1 (fx.2 ++ xs) []) g P
noncomputable abbrev kMeth2 (prog : Program) (w : World) (K : Frag) (A : Around) (L : Addr) (es : List Expr) (pos : Pos) (env : Env) (P : Value → Vars → Led → Prop) : Value × List Value → Vars → Led → Prop := fun fx vs g => KeepOk K fx.1 ∧ EvF prog w K A L vs (spliced (backTo pos (starEach es env))) g (kMeth3 prog w K A L P fx)
noncomputable abbrev kMeth (prog : Program) (w : World) (K : Frag) (A : Around) (L : Addr) (name : Str) (pl : Sem Bool) (es : List Expr) (pos : Pos) (env : Env) (P : Value → Vars → Led → Prop) : Value → Vars → Led → Prop := fun ov vs g => EvF prog w K A L vs (getMethod ov name pl) g (kMeth2 prog w K A L es pos env P)
noncomputable abbrev kMeth02 (prog : Program) (w : World) (K : Frag) (A : Around) (L : Addr) (P : Value → Vars → Led → Prop) : Value × List Value → Vars → Led → Prop := fun fx vs g => KeepOk K fx.1 ∧ EvF prog w K A L vs (PySem.call fx.1 fx.2 []) g P
noncomputable abbrev kMeth0 (prog : Program) (w : World) (K : Frag) (A : Around) (L : Addr) (name : Str) (pl : Sem Bool) (P : Value → Vars → Led → Prop) : Value → Vars → Led → Prop := fun ov vs g => EvF prog w K A L vs (getMethod ov name pl) g (kMeth02 prog w K A L P)
theorem EvF.args1 {pos : Pos} {e : Expr} {rest : List Expr} {P : List Value → Vars → Led → Prop}
    (h : EvF prog w K A L vs (eval e env) g (kArg prog w K A L rest pos env P))
    (he : starEach (e :: rest) env = (false, eval e env) :: starEach rest env := by rfl) : EvF prog w K A L vs (spliced (backTo pos (starEach (e :: rest) env))) g P := by
  rw [he]
  show EvF prog w K A L vs (eval e env >>= fun v => (Pure.pure [v] : Sem (List Value)) >>= fun here => PySem.holding here (spliced (backTo pos (starEach rest env))) >>= fun r => Pure.pure (here ++ r)) g P
  exact .bind (h.mono fun v vs' g' p => .bind (.pure (.bind (.holding (EvF.mono p fun xs vs'' g'' q => .pure q)))))

/-- a call, behind its callee -/
theorem EvF.callWith {pos : Pos} {f : Value} {first : List Value} {e : Expr} {rest : List Expr} {P : Value → Vars → Led → Prop} (hk : KeepOk K f)
    (h : EvF prog w K A L vs (spliced (backTo pos (starEach (e :: rest) env))) g fun xs vs' g' => EvF prog w K A L vs' (PySem.call f (first ++ xs) []) g' P)
    (he : starEach (e :: rest) env = (false, eval e env) :: starEach rest env := by rfl) (hplain : (backTo pos (starEach rest env)).any (·.1) = false := by rfl) :
    EvF prog w K A L vs (PySem.callWith pos f first (backTo pos (starEach (e :: rest) env)) (backToKw pos (keywordEach [] env))) g P := by
  intro F s Q E r fr k
  have fin : wpAny (model prog w) A (spliced (backTo pos (starEach (e :: rest) env))) (fun xs s₁ => K.In s₁.heap ∧ wpAny (model prog w) A (PySem.call f (first ++ xs) []) Q E s₁) E s :=
    h F s _ E r fr fun xs vs' g' h' d tk p r' f' => ⟨r'.fx.in, p F _ Q E r' f' k⟩
  rw [he] at fin ⊢
  exact callWith_of (P := K.In) (by show ((false || (backTo pos (starEach rest env)).any (·.1)) || false) = false; rw [hplain]; rfl) hk.looks (evalArgs_plain fin)
theorem EvF.callWith0 {pos : Pos} {f : Value} {first : List Value} {P : Value → Vars → Led → Prop} (hk : KeepOk K f) (h : EvF prog w K A L vs (PySem.call f first []) g P) :
    EvF prog w K A L vs (PySem.callWith pos f first (backTo pos (starEach [] env)) (backToKw pos (keywordEach [] env))) g P := by
  intro F s Q E r fr k
  exact callWith_of (P := K.In) rfl hk.looks (evalArgs_nil3 ⟨r.fx.in, by rw [List.append_nil]; exact h F s Q E r fr k⟩)

theorem EvF.call {fe e : Expr} {rest : List Expr} {pos : Pos} {P : Value → Vars → Led → Prop}
    (h : EvF prog w K A L vs (eval fe env) g (kCall prog w K A L (e :: rest) pos env P))
    (he : starEach (e :: rest) env = (false, eval e env) :: starEach rest env := by rfl) (hplain : (backTo pos (starEach rest env)).any (·.1) = false := by rfl)
    (hq : eval (.Call fe (e :: rest) [] pos) env = (do PySem.callWith pos (← eval fe env) [] (backTo pos (starEach (e :: rest) env)) (backToKw pos (keywordEach [] env))) := by rfl) :
    EvF prog w K A L vs (eval (.Call fe (e :: rest) [] pos) env) g P := by
  rw [hq]
  exact .bind (h.mono fun f vs' g' p => .callWith p.1 p.2 he hplain)
theorem EvF.call0 {fe : Expr} {pos : Pos} {P : Value → Vars → Led → Prop}
    (h : EvF prog w K A L vs (eval fe env) g (kCall0 prog w K A L P))
    (hq : eval (.Call fe [] [] pos) env = (do PySem.callWith pos (← eval fe env) [] (backTo pos (starEach [] env)) (backToKw pos (keywordEach [] env))) := by rfl) :
    EvF prog w K A L vs (eval (.Call fe [] [] pos) env) g P := by
  rw [hq]
  exact .bind (h.mono fun f vs' g' p => .callWith0 p.1 p.2)

theorem EvF.meth {o : Expr} {name : Str} {e : Expr} {rest : List Expr} {apos pos : Pos} {pl : Sem Bool} {P : Value → Vars → Led → Prop}
    (h : EvF prog w K A L vs (eval o env) g (kMeth prog w K A L name pl (e :: rest) pos env P))
    (hn : starEach (e :: rest) env = (false, eval e env) :: starEach rest env := by rfl) (hplain : (backTo pos (starEach rest env)).any (·.1) = false := by rfl)
    (he : eval (.Call (.Attribute o name apos) (e :: rest) [] pos) env = (do
      let ov ← eval o env
      PySem.standAt apos.atName
      let (f, first) ← PySem.holding [ov] (getMethod ov name pl)
      PySem.callWith pos f first (backTo pos (starEach (e :: rest) env)) (backToKw pos (keywordEach [] env))) := by rfl) :
    EvF prog w K A L vs (eval (.Call (.Attribute o name apos) (e :: rest) [] pos) env) g P := by
  rw [he]
  exact .bind (h.mono fun ov vs' g' p => .bind (.standAt (.bind (.holding (EvF.mono p fun fx vs₁ g₁ q => .callWith q.1 q.2 hn hplain)))))
theorem EvF.meth0 {o : Expr} {name : Str} {apos pos : Pos} {pl : Sem Bool} {P : Value → Vars → Led → Prop}
    (h : EvF prog w K A L vs (eval o env) g (kMeth0 prog w K A L name pl P))
    (he : eval (.Call (.Attribute o name apos) [] [] pos) env = (do
      let ov ← eval o env
      PySem.standAt apos.atName
      let (f, first) ← PySem.holding [ov] (getMethod ov name pl)
      PySem.callWith pos f first (backTo pos (starEach [] env)) (backToKw pos (keywordEach [] env))) := by rfl) :
    EvF prog w K A L vs (eval (.Call (.Attribute o name apos) [] [] pos) env) g P := by
  rw [he]
  exact .bind (h.mono fun ov vs' g' p => .bind (.standAt (.bind (.holding (EvF.mono p fun fx vs₁ g₁ q => .callWith0 q.1 q.2)))))

-- a def of the text, called
noncomputable def cellsIn (fd : FuncData) (L : Addr) : List (Str × Addr) := cellsFrom (L + 1) fd.scope.names []
/-- a call as a code: what it gives back is P's -/
noncomputable def EvC (prog : Program) (w : World) (K : Frag) (A : Around) (c : Code) (g : Led) (P : Value → Led → Prop) : Prop :=
  ∀ (F : Led) (s : Shared) (R : Result → Shared → Prop), Rep K g F s.heap →
    (∀ v g' h' d tk, P v g' → Rep K g' F h' → R (.ok (.ret v)) { s with heap := h', drawn := d, toks := tk }) → codeAny (model prog w) A c R s
theorem EvC.mono {c : Code} {P P' : Value → Led → Prop} (x : EvC prog w K A c g P) (h : ∀ a g', P a g' → P' a g') : EvC prog w K A c g P' :=
  fun F s R r k => x F s R r fun a g' h' d tk p r' => k a g' h' d tk (h _ _ p) r'
theorem EvC.ev {f : Value} {xs : List Value} {P : Value → Led → Prop} (x : EvC prog w K A (.call f ⟨xs, []⟩) g P) : Ev prog w K A (PySem.call f xs []) g P :=
  fun F s Q E r k => wpAny_call (x F s _ r k)

/-- fd's body, run from its arguments, is what a call of it is -/
theorem EvC.def {f : Addr} {fd : FuncData} {oc : Value} {od : Option Addr} {osl : Array (Option Value)} {body : List Stmt} {xs : List Value} {binds : List (Str × Value)} {names : List Str} {P : Value → Led → Prop}
    (hroom : A.depth < recursionLimit) (hf : K.lookup f = some ⟨oc, od, .func fd, osl⟩) (hcd : codeIn K fd.code fd.qualname = true) (hbody : fd.body = .stmts body)
    (hbind : bindArgs fd ⟨xs, []⟩ = Pure.pure binds) (hclo : fd.closure = [])
    (hkind : (binds.all fun y => fd.scope.names.lookup y.1 == some .local || fd.scope.names.lookup y.1 == some .cell) = true)
    (hnames : (binds.all fun y => fd.scope.names.lookup y.1 == some .cell || names.contains y.1) = true) (hnd : names.Nodup)
    (h : ∀ L g₁, g L = none → Ext g g₁ → (∀ n c, (cellsIn fd L).lookup n = some c → g c = none ∧ At g₁ c (CellO (bindC (callEnvC fd L f).kindOf binds (fun _ => none) n))) →
      EvF prog w K (A.deeper (callEnvC fd L f)) L (names.map fun n => (n, bindL (callEnvC fd L f).kindOf binds (fun _ => none) n)) (execs body (callEnvC fd L f)) g₁
        (fun fl _ g' => P (match fl with | .ret v => v | _ => .none) g'))
    (hco : fd.scope.isCoroutine = false := by rfl) (hgen : fd.scope.isGenerator = false := by rfl) (hk : fd.scope.kind = .function := by rfl) :
    EvC prog w K A (.call (.ref f) ⟨xs, []⟩) g P := by
  intro F s R r k
  have X := r.fx.in
  have hlim : s.heap.NoLimit := r.fx.lim
  refine (codeAny_call_cells hroom (X _ _ hf) rfl hlim (codeRec_of X hcd) hbody hbind hclo (kindsX hkind _) (fun s₁ x => ?_) hco hgen hk)
  refine x21 x.done fun h₁ tk z21 kp => ?_; subst z21
  have hab : ∀ n c, (cellsIn fd s.heap.objs.size).lookup n = some c → s.heap.objs.size < c := fun n c hm => x.above n c (mem_of_lookup hm)
  have gn : ∀ {c : Addr}, s.heap.objs.size ≤ c → g c = none ∧ F c = none := fun {c} l => ⟨by
    cases e : g c with
    | none => rfl
    | some o => exact absurd (Heap.lt_size (r.own _ _ e)) (Nat.not_lt.mpr l), by
    cases e : F c with
    | none => rfl
    | some o => exact absurd (Heap.lt_size (r.fr _ _ e)) (Nat.not_lt.mpr l)⟩
  let cs := cellsIn fd s.heap.objs.size
  let g₁ : Led := fun a => if (cs.any fun p => p.2 == a && cs.lookup p.1 == some a) then h₁.get? a else g a
  have inC : ∀ a, (cs.any fun p => p.2 == a && cs.lookup p.1 == some a) = true → ∃ n, cs.lookup n = some a := fun a e => by
    refine x11 (List.any_eq_true.mp e) fun p _ q => ?_
    exact ⟨p.1, beq_iff_eq.mp (Bool.and_eq_true_iff.mp q).2⟩
  have toC : ∀ n a, cs.lookup n = some a → (cs.any fun p => p.2 == a && cs.lookup p.1 == some a) = true := fun n a e => by
    refine List.any_eq_true.mpr ⟨(n, a), mem_of_lookup e, ?_⟩
    simp [e]
  have kpg : ∀ a o, g a = some o → h₁.get? a = some o := fun a o e => kp _ _ (r.own _ _ e)
  have ext : Ext g g₁ := fun a o e => by
    show (if _ then _ else _) = _
    split
    · exact kpg _ _ e
    · exact e
  have hL : h₁.Ns s.heap.objs.size (bindL (callEnvC fd s.heap.objs.size f).kindOf binds fun _ => none) := x.toInCall.ns
  have RR : Rep K g₁ F h₁ := by
    refine ⟨fun a o e => ?_, fun a o e => kp _ _ (r.fr _ _ e), fun a o e => ?_, fun a o e => ?_, r.lowf, r.fx.to fun a o _ e => kp _ _ e⟩ <;> change (if _ then _ else _) = _ at e <;> split at e
    · exact e
    · exact kpg _ _ e
    · rename_i q; refine x10 (inC a q) fun n hn => ?_; exact (gn (Nat.le_of_lt (hab n a hn))).2
    · exact r.dj _ _ e
    · rename_i q; refine x10 (inC a q) fun n hn => ?_; exact Nat.le_trans r.fx.n (Nat.le_of_lt (hab n a hn))
    · exact r.lowg _ _ e
  have hcell : ∀ n c, cs.lookup n = some c → g c = none ∧ At g₁ c (CellO (bindC (callEnvC fd s.heap.objs.size f).kindOf binds (fun _ => none) n)) := fun n c hc => by
    refine ⟨(gn (Nat.le_of_lt (hab n c hc))).1, ?_⟩
    refine x11 (x.cell n c hc) fun o ho hd => ?_
    refine ⟨o, ?_, hd⟩
    show (if _ then _ else _) = _
    rw [if_pos (toC n c hc)]; exact ho
  have hgv : ∀ (kd : Str → Option NameKind) (bs : List (Str × Value)) (m : Str → Option Value) (y : Str), (∀ z ∈ bs, z.1 = y → kd y = some .local → False) → bindL kd bs m y = m y := by
    intro kd bs
    induction bs with
    | nil => intro m y _; rfl
    | cons z bs ih =>
      intro m y hz
      obtain ⟨n, v⟩ := z
      unfold bindL
      rw [ih _ _ fun z hz' => hz z (List.mem_cons_of_mem _ hz')]
      split
      · rename_i hl
        have : y ≠ n := fun e => hz (n, v) List.mem_cons_self e.symm (e ▸ hl)
        exact if_neg this
      · rfl
  have getv_map : ∀ (ns : List Str) (φ : Str → Option Value) (y : Str), getv (ns.map fun n => (n, φ n)) y = if ns.contains y then φ y else none := by
    intro ns φ
    induction ns with
    | nil => intro y; rfl
    | cons n ns ih =>
      intro y
      have := ih y
      unfold getv at this ⊢
      rw [List.map_cons, List.lookup_cons]
      by_cases q : y = n
      · subst q; simp
      · rw [beq_eq_false_iff_ne.mpr q, this]
        simp [q]
  refine wpAny_mono (h s.heap.objs.size g₁ (gn (Nat.le_refl _)).1 ext hcell F _ (fun fl s' => R (.ok (.ret (match fl with | .ret v => v | _ => .none))) s') (fun _ _ => False) RR ⟨?_, ?_, ?_, (gn (Nat.le_refl _)).2, r.fx.n⟩ fun fl vs' g' h' d tk' p r' f' => k _ _ _ _ _ p r') (fun _ _ x => x) (fun _ _ x => x.elim)
  · have e : getv (names.map fun n => (n, bindL (callEnvC fd s.heap.objs.size f).kindOf binds (fun _ => none) n)) = bindL (callEnvC fd s.heap.objs.size f).kindOf binds fun _ => none := by
      funext y
      rw [getv_map]
      split
      · rfl
      · rename_i hn
        refine (hgv (callEnvC fd s.heap.objs.size f).kindOf binds (fun _ => none) y fun z hz e hl => ?_).symm
        subst e
        have h1 := List.all_eq_true.mp hnames z hz
        rw [Bool.or_eq_true_iff] at h1
        rcases h1 with h1 | h1
        · have h2 : fd.scope.names.lookup z.1 = some .cell := beq_iff_eq.mp h1
          have h3 : fd.scope.names.lookup z.1 = some .local := hl
          rw [h2] at h3; cases h3
        · exact hn h1
    rw [e]; exact hL
  · rw [List.map_map]
    show (names.map fun n => n).Nodup
    rw [List.map_id']; exact hnd
  · show (if _ then _ else _) = none
    rw [if_neg]
    · exact (gn (Nat.le_refl _)).1
    · intro q
      refine x10 (inC _ q) fun n hn => ?_
      exact absurd (hab n _ hn) (Nat.lt_irrefl _)

end Mine
end SLg3

section SLg4
open PySem PySem.W PySem.Calls PyProof.Rows
set_option maxRecDepth 100000
namespace Mine
variable {prog : Program} {w : World} {K : Frag} {A : Around} {α β : Type} {L : Addr} {vs : Vars} {g : Led} {env : Env}

/-- an iterator I over n items, its own objects wr; fp what it reads -/
structure Itr (prog : Program) (w : World) (A : Around) (I : Addr) (fp wr : List Addr) (n : Nat) (Pv : Nat → Value → Prop) (St : Nat → Heap → Prop) (target : Expr) : Prop where
  W : Walks prog w A I fp wr n Pv St
  some : ∀ k h, St k h → ∀ b ∈ wr, (h.get? b).isSome = true
  go : ∀ k v (s : Shared) (Q : Unit → Shared → Prop) (E : Value → Shared → Prop), St k s.heap → Q () s → wpAny (model prog w) A (letOwnedTupleGo target (.ref I) v) Q E s

/-- the iterator's objects, hidden in the frame of what is not looked at -/
theorem Rep.hide {g F : Led} {h : Heap} (r : Rep K g F h) {wr : List Addr} (hw : ∀ b ∈ wr, g b = none ∧ F b = none ∧ 386 ≤ b) : Rep K g (fun b => if b ∈ wr then h.get? b else F b) h := by
  refine ⟨r.own, fun a o e => ?_, fun a o e => ?_, r.lowg, trivial, r.fx⟩
  · split at e
    · exact e
    · exact r.fr _ _ e
  · rw [if_neg (fun m => by rw [(hw a m).1] at e; cases e)]; exact r.dj _ _ e
theorem Rep.bare {g F : Led} {h h' : Heap} {wr : List Addr} (hw : ∀ b ∈ wr, F b = none ∧ (h.get? b).isSome = true) (r : Rep K g (fun b => if b ∈ wr then h.get? b else F b) h') (hF : True) :
    Rep K g F h' ∧ (∀ b ∈ wr, g b = none) ∧ ∀ b ∈ wr, ∀ o, h.get? b = some o → h'.get? b = some o := by
  refine ⟨⟨r.own, fun a o e => r.fr a o ?_, fun a o e => ?_, r.lowg, hF, r.fx⟩, fun b m => ?_, fun b m o e => r.fr b o (by rw [if_pos m]; exact e)⟩
  · rw [if_neg (fun m => by rw [(hw a m).1] at e; cases e)]; exact e
  · have := r.dj a o e
    split at this
    · rename_i m; exact (hw a m).1
    · exact this
  · cases q : g b with
    | none => rfl
    | some o =>
      have := r.dj b o q
      rw [if_pos m] at this
      have h2 := (hw b m).2
      rw [this] at h2; cases h2

/-- what a loop knows between its turns -/
structure Loop (K : Frag) (F : Led) (L : Addr) (wr : List Addr) (St : Nat → Heap → Prop) (Inv : Nat → Vars → Led → Prop) (k : Nat) (vs : Vars) (g : Led) (h : Heap) : Prop where
  r : Rep K g F h
  f : FrOk L vs g F h
  st : St k h
  inv : Inv k vs g
  wg : ∀ b ∈ wr, g b = none
  wf : ∀ b ∈ wr, F b = none ∧ 386 ≤ b ∧ b ≠ L

theorem Loop.next {F : Led} {wr : List Addr} {St : Nat → Heap → Prop} {Inv : Nat → Vars → Led → Prop} {k : Nat} {h h' : Heap} (x : Loop K F L wr St Inv k vs g h) (kp : ∀ b o, b ∉ wr → h.get? b = some o → h'.get? b = some o) : Rep K g F h' ∧ FrOk L vs g F h' := by
  have nL : L ∉ wr := fun m => (x.wf L m).2.2 rfl
  refine x31 x.f.ns fun oL es ep e d => ?_
  have eL := kp L oL nL e
  refine ⟨⟨fun a o e => kp _ _ (fun m => by rw [x.wg a m] at e; cases e) (x.r.own _ _ e), fun a o e => kp _ _ (fun m => by rw [(x.wf a m).1] at e; cases e) (x.r.fr _ _ e), x.r.dj, x.r.lowg, x.r.lowf,
    x.r.fx.to (fun a o l e => kp _ _ (fun m => absurd l (Nat.not_lt.mpr (x.wf a m).2.1)) e)⟩, ⟨⟨oL, es, ep, eL, d⟩, x.f.nd, x.f.ng, x.f.nf, x.f.low⟩⟩

section
variable {target : Expr} {I : Addr} {fp wr : List Addr} {n : Nat} {Pv : Nat → Value → Prop} {St : Nat → Heap → Prop}

/-- one item drawn, with the iterator hidden: what is said of a turn, said over the whole state -/
theorem Loop.turn {α : Type} {t : Sem α} {P : α → Vars → Led → Prop} {F : Led} {Inv : Nat → Vars → Led → Prop} {k : Nat} {h h' : Heap} (T : Itr prog w A I fp wr n Pv St target) (x : Loop K F L wr St Inv k vs g h)
    (kp : ∀ b o, b ∉ wr → h.get? b = some o → h'.get? b = some o) (st : St (k + 1) h') (ob : Addr → Obj) (hob : ∀ b ∈ fp, b ∉ wr → g b = some (ob b))
    (ht : EvF prog w K A L vs t g P) (s : Shared) (Q : α → Shared → Prop) (E : Value → Shared → Prop) (hs : s.heap = h')
    (kk : ∀ a vs' g' h'' d tk, P a vs' g' → ((∀ b ∈ fp, b ∉ wr → g' b = some (ob b)) → St (k + 1) h'') → Rep K g' F h'' → FrOk L vs' g' F h'' → (∀ b ∈ wr, g' b = none) → Q a { s with heap := h'', drawn := d, toks := tk }) :
    wpAny (model prog w) A t Q E s := by
  refine x01 (x.next kp) fun r1 f1 => ?_
  subst hs
  have hw := T.some _ _ st
  refine ht _ s Q E (r1.hide fun b m => ⟨x.wg b m, (x.wf b m).1, (x.wf b m).2.1⟩) ⟨f1.ns, f1.nd, f1.ng, ?_, f1.low⟩ fun a vs' g' h'' d tk p r' f' => ?_
  · rw [if_neg (fun m => (x.wf L m).2.2 rfl)]; exact f1.nf
  · refine x02 (Rep.bare (fun b m => ⟨(x.wf b m).1, hw b m⟩) r' x.r.lowf) fun r2 wg2 kw => ?_
    refine kk a vs' g' h'' d tk p (fun ho => T.W.frame _ _ _ st fun b m o e => ?_) r2 ⟨f'.ns, f'.nd, f'.ng, x.f.nf, f'.low⟩ wg2
    by_cases q : b ∈ wr
    · exact kw b q o e
    · have e1 := r1.own _ _ (hob b m q)
      rw [e1] at e; cases e
      exact r2.own _ _ (ho b m q)

theorem code_for {body orelse : List Stmt} {Inv : Nat → Vars → Led → Prop} {P : Flow → Vars → Led → Prop} (T : Itr prog w A I fp wr n Pv St target) (ob : Addr → Obj)
    (hob : ∀ k vs g, Inv k vs g → ∀ b ∈ fp, b ∉ wr → g b = some (ob b))
    (turn : ∀ k vs g v, k < n → Pv k v → Inv k vs g → EvF prog w K A L vs (assign target env v >>= fun _ => execs body env) g fun fl vs' g' => match fl with
      | .next | .cont => Inv (k + 1) vs' g'
      | .brk => P .next vs' g'
      | .ret v => P (.ret v) vs' g')
    (done : ∀ vs g, Inv n vs g → EvF prog w K A L vs (execs orelse env) g P)
    {F : Led} {s : Shared} {R : Result → Shared → Prop} (x : Loop K F L wr St Inv 0 vs g s.heap)
    (kk : ∀ fl vs' g' h' d tk, P fl vs' g' → Rep K g' F h' → FrOk L vs' g' F h' → R (.ok fl) { s with heap := h', drawn := d, toks := tk }) :
    codeAny (model prog w) A (.forLoop target (.ref I) body orelse env) R s := by
  refine codeAny_loop' rfl (fun m s' => ∃ k vs g h d tk, m = n - k ∧ k ≤ n ∧ s' = { s with heap := h, drawn := d, toks := tk } ∧ Loop K F L wr St Inv k vs g h) (fun m s' hI => ?_) n ⟨0, vs, g, s.heap, s.drawn, s.toks, rfl, Nat.zero_le _, rfl, x⟩
  refine x40 hI fun k vs g h z61 => ?_; clear hI; refine x23 z61 fun d tk z62 hk z63 x => ?_; clear z61; subst z62; subst z63
  show wpAny _ _ ((forTurn target (.ref I) body orelse env).onRaise (fun x => do noteFrame x env; theTreesLotGoes x)) _ _ _
  refine wpAny_noted ?_
  simp only [forTurn]
  refine wpAny_bind (wpAny_standAt (wpAny_bind (wpAny_onRaise ?_)))
  by_cases hlt : k < n
  · refine T.W.item k _ _ _ hlt x.st fun v h' tk' hv st' kp => ?_
    refine wpAny_bind (T.go (k + 1) v _ _ _ st' ?_)
    have main := fun Q E => x.turn (Q := Q) (E := E) T kp st' ob (hob k vs g x.inv) (turn k vs g v hlt hv x.inv) { s with heap := h', drawn := d, toks := tk' }
    have e : ∀ (K' : Flow → Sem Fin), (assign target env v >>= fun _ => execs body env >>= K') = ((assign target env v >>= fun _ => execs body env) >>= K') := fun K' => (LawfulMonad.bind_assoc _ _ _).symm
    rw [e]
    refine wpAny_bind (main _ _ rfl fun fl vs' g' h₂ d₂ tk₂ p st₂ r₂ f₂ wg₂ => ?_)
    have again : Inv (k + 1) vs' g' → ∃ m, m < n - k ∧ ∃ k' vs g h d tk, m = n - k' ∧ k' ≤ n ∧ ({ s with heap := h₂, drawn := d₂, toks := tk₂ } : Shared) = { s with heap := h, drawn := d, toks := tk } ∧ Loop K F L wr St Inv k' vs g h := fun q =>
      ⟨n - (k + 1), by omega, k + 1, vs', g', h₂, d₂, tk₂, rfl, hlt, rfl, r₂, f₂, st₂ (hob _ _ _ q), q, wg₂, x.wf⟩
    cases fl with
    | next => exact wpAny_pure (.inl ⟨rfl, again p⟩)
    | cont => exact wpAny_pure (.inl ⟨rfl, again p⟩)
    | brk => exact wpAny_pure (kk _ _ _ _ _ _ p r₂ f₂)
    | ret v => exact wpAny_pure (kk _ _ _ _ _ _ p r₂ f₂)
  · have hkn : k = n := by omega
    subst hkn
    refine T.W.done _ _ _ x.st fun h' tk' kp => ?_
    refine x01 (x.next kp) fun r1 f1 => ?_
    exact wpAny_pure (.inr ⟨rfl, codeAny_block (done vs g x.inv F _ _ _ r1 f1 fun fl vs' g' h'' d tk p r' f' => kk _ _ _ _ _ _ p r' f')⟩)
end

theorem letGo_of {T : String} {flds : Array Value} {I : Addr} {target : Expr} {v : Value} {s : Shared} {Q : Unit → Shared → Prop} {E : Value → Shared → Prop} {o : Obj} (ho : s.heap.get? I = some o) (hc : o.cls = .type T) (hd : o.data = .fields flds)
    (hT : (["enumerate", "zip", "dict_itemiterator", "dict_reverseitemiterator", "odict_iterator", "itertools.zip_longest", "itertools.pairwise"] : List String).contains T = false) (q : Q () s) : wpAny (model prog w) A (letOwnedTupleGo target (.ref I) v) Q E s := by
  unfold letOwnedTupleGo
  cases target <;> first | exact wpAny_pure q | skip
  all_goals
    cases v <;> first | exact wpAny_pure q | skip
    refine wpAny_bind (wpAny_load ho ?_)
    rw [hc, hd]
    dsimp only
    rw [hT]
    exact wpAny_pure q

/-- what may be drawn from: n items; cs are the objects that must stay as they are -/
inductive Src (g : Led) : Value → Nat → (Nat → Value → Prop) → List Addr → Prop
  | tup {a xs} : At g a (TupO xs) → Src g (.ref a) xs.length (fun k v => xs[k]? = some v) [a]
  | lst {a xs} : At g a (LstO xs) → Src g (.ref a) xs.length (fun k v => xs[k]? = some v) [a]
  | rng {r x y t u v} : g r = some { cls := .type "range", data := .fields #[.int x t, .int y u, .int 1 v] } → -(2 ^ 62) ≤ x → x < 2 ^ 62 → -(2 ^ 62) ≤ y → y < 2 ^ 62 → Src g (.ref r) (y - x).toNat (fun k v => ∃ t, v = .int (x + k) t) []

theorem Src.iter {g F : Led} {x : Value} {n : Nat} {Pv : Nat → Value → Prop} {cs : List Addr} (S : Src g x n Pv cs) (hh : A.handled = none) (target : Expr) {s : Shared} {Q : Value → Shared → Prop} {E : Value → Shared → Prop} (r : Rep K g F s.heap)
    (h : ∀ o St, o.isFreed = false → Itr prog w A s.heap.objs.size (s.heap.objs.size :: cs) [s.heap.objs.size] n Pv St target → St 0 (s.heap.push o) → Q (.ref s.heap.objs.size) { s with heap := s.heap.push o }) : wpAny (model prog w) A (pyIter x) Q E s := by
  cases S with
  | @tup a xs hx =>
    have hT : s.heap.IsTuple a xs.toArray := hx.tup r
    have ha : a ≠ s.heap.objs.size := by refine x11 hT fun o ho _ => ?_; clear hT; exact Nat.ne_of_lt (Heap.lt_size ho)
    have W := Walks.tuple (prog := prog) (w := w) hh s.heap.objs.size a ha xs.toArray
    rw [List.size_toArray] at W
    refine wpAny_pyIter_tuple hT (h _ (fun i h => h.IsTupleIter s.heap.objs.size a i ∧ h.IsTuple a xs.toArray) rfl ⟨(by simpa using W), fun k h' st b m => ?_, fun k v s' Q E st q => ?_⟩ ⟨⟨_, Heap.get?_push_size _ rfl, rfl, rfl⟩, ?_⟩)
    · rw [List.mem_singleton] at m; subst m
      refine x01 st fun z121 _ => ?_; clear st; refine x11 z121 fun o ho _ => ?_; clear z121; rw [ho]; rfl
    · refine x01 st fun z141 _ => ?_; clear st; refine x12 z141 fun o ho hc hd => ?_; clear z141
      exact letGo_of ho hc hd (by decide) q
    · refine x11 hT fun o ho rest => ?_; clear hT; exact ⟨o, Heap.get?_push_of_some _ ho, rest⟩
  | @lst a xs hx =>
    have hT : s.heap.IsList a xs.toArray := hx.lst r
    have ha : a ≠ s.heap.objs.size := by refine x11 hT fun o ho _ => ?_; clear hT; exact Nat.ne_of_lt (Heap.lt_size ho)
    have W := Walks.list (prog := prog) (w := w) hh s.heap.objs.size a ha xs.toArray
    rw [List.size_toArray] at W
    refine wpAny_pyIter_list hT (h _ (fun i h => h.IsListIter s.heap.objs.size a i ∧ h.IsList a xs.toArray) rfl ⟨(by simpa using W), fun k h' st b m => ?_, fun k v s' Q E st q => ?_⟩ ⟨⟨_, Heap.get?_push_size _ rfl, rfl, rfl⟩, ?_⟩)
    · rw [List.mem_singleton] at m; subst m
      refine x01 st fun z201 _ => ?_; clear st; refine x11 z201 fun o ho _ => ?_; clear z201; rw [ho]; rfl
    · refine x01 st fun z221 _ => ?_; clear st; refine x12 z221 fun o ho hc hd => ?_; clear z221
      exact letGo_of ho hc hd (by decide) q
    · refine x11 hT fun o ho rest => ?_; clear hT; exact ⟨o, Heap.get?_push_of_some _ ho, rest⟩
  | @rng rr x y t u v hr h1 h2 h3 h4 =>
    have W := Walks.range (prog := prog) (w := w) hh s.heap.objs.size x 1 (y - x).toNat
    have e1 : Builtin.Range.rangeSize x y 1 = ((y - x).toNat : Int) := by rw [rangeSize_one]; split <;> omega
    have W' : Walks prog w A s.heap.objs.size [s.heap.objs.size] [s.heap.objs.size] (y - x).toNat (fun k v => ∃ t, v = .int (x + k) t) (fun i h => IsRangeIter h s.heap.objs.size (x + (i : Nat) * 1) (((y - x).toNat : Int) - (i : Nat)) 1) := by
      simpa using W
    refine wpAny_pyIter_range (r.own _ _ hr) (small_one h1 h2 h3 h4) (h _ _ rfl ⟨W', fun k h' st b m => ?_, fun k v s' Q E st q => ?_⟩ ?_)
    · rw [List.mem_singleton] at m; subst m
      rw [show h'.get? s.heap.objs.size = _ from st]; rfl
    · exact letGo_of (show s'.heap.get? s.heap.objs.size = _ from st) rfl rfl (by decide) q
    · show (s.heap.push _).get? s.heap.objs.size = _
      rw [e1]
      have := Heap.get?_push_size s.heap (o := { cls := .type "range_iterator", data := .fields #[rawInt x, rawInt ((y - x).toNat : Int), rawInt 1] }) rfl
      simpa using this

inductive ForSpec (prog : Program) (w : World) (K : Frag) (A : Around) (L : Addr) (env : Env) (target : Expr) (body orelse : List Stmt) (P : Flow → Vars → Led → Prop) (x : Value) (vs' : Vars) (g' : Led) : Prop
  | mk (n : Nat) (Pv : Nat → Value → Prop) (cs : List Addr) (Inv : Nat → Vars → Led → Prop) (S : Src g' x n Pv cs) (h0 : Inv 0 vs' g') (hI : ∀ k vs g, Inv k vs g → ∀ b ∈ cs, ∀ o, g' b = some o → g b = some o)
    (turn : ∀ k vs g v, k < n → Pv k v → Inv k vs g → EvF prog w K A L vs (assign target env v >>= fun _ => execs body env) g fun fl vs' g' => match fl with
        | .next | .cont => Inv (k + 1) vs' g'
        | .brk => P .next vs' g'
        | .ret v => P (.ret v) vs' g')
    (done : ∀ vs g, Inv n vs g → EvF prog w K A L vs (execs orelse env) g P) : ForSpec prog w K A L env target body orelse P x vs' g'
theorem EvF.forS {target : Expr} {iter : Expr} {body orelse : List Stmt} {pos : Pos} {P : Flow → Vars → Led → Prop} (hh : A.handled = none)
    (h : EvF prog w K A L vs (eval iter env) g (ForSpec prog w K A L env target body orelse P))
    (hs : ∀ x, foldedSetIterable iter env x = Pure.pure x := by intro _; rfl) : EvF prog w K A L vs (exec (.For target iter body orelse pos) env) g P := by
  intro F s Q E r f k
  refine wpAny_For (h F s _ E r f fun x vs' g' h' d tk p r' f' => ?_) hs
  obtain ⟨n, Pv, cs, Inv, S, h0, hI, turn, done⟩ := p
  refine S.iter hh target (s := { s with heap := h', drawn := d, toks := tk }) r' fun o St hf T st => ?_
  have fr := r'.free
  have Lne : h'.objs.size ≠ L := fun e => by refine x31 f'.ns fun oL _ _ e' _ => ?_; exact Nat.lt_irrefl _ (e ▸ Heap.lt_size e')
  have r₁ : Rep K g' F (h'.push o) := r'.keeps fun b x e => Heap.get?_push_of_some _ e
  refine code_for T (fun b => (g' b).getD default) (fun k vs g i b m nm => ?_) turn done (s := { s with heap := h'.push o, drawn := d, toks := tk }) ⟨r₁, ⟨f'.ns.push _, f'.nd, f'.ng, f'.nf, f'.low⟩, st, h0, fun b m => ?_, fun b m => ?_⟩ fun fl vs' g' h' d tk p r' f' => k fl vs' g' h' d tk p r' f'
  · rcases List.mem_cons.mp m with e | m
    · exact absurd (e ▸ List.mem_singleton.mpr rfl) nm
    · have : ∃ o, g' b = some o := by
        cases S with
        | tup hx => rw [List.mem_singleton] at m; subst m; exact hx.got
        | lst hx => rw [List.mem_singleton] at m; subst m; exact hx.got
        | rng => cases m
      refine x10 this fun o ho => ?_; clear this
      rw [hI _ _ _ i b m o ho, ho]; rfl
  · rw [List.mem_singleton] at m; subst m; exact fr.1
  · rw [List.mem_singleton] at m; subst m; exact ⟨fr.2, r'.fx.n, Lne⟩
end Mine
end SLg4

section SLg5
open PySem PySem.W PySem.Calls PyProof.Rows
set_option maxRecDepth 100000
namespace Mine
variable {prog : Program} {w : World} {K : Frag} {A : Around} {α β : Type} {L : Addr} {vs : Vars} {g : Led} {env : Env}

noncomputable def tests (ifs : List Expr) (env : Env) : Sem Bool := forIn ifs true fun c r => if r = true then do let ok ← isTrue c env (eval c env); Pure.pure (ForInStep.yield ok) else Pure.pure (ForInStep.yield r)
theorem EvF.tests0 {P : Bool → Vars → Led → Prop} (h : P true vs g) : EvF prog w K A L vs (tests [] env) g P := EvF.pure h
theorem EvF.tests1 {c : Expr} {P : Bool → Vars → Led → Prop} (h : EvF prog w K A L vs (isTrue c env (eval c env)) g P) : EvF prog w K A L vs (tests [c] env) g P := by
  unfold tests
  simp only [List.forIn_cons, List.forIn_nil, if_true]
  exact .bind (.bind (h.mono fun b vs' g' p => .pure (.pure p)))

noncomputable def emit (elt : Expr) (acc : Value) (env : Env) : Sem Unit := do let _ ← PySem.call (.builtin "list.append") [acc, ← eval elt env]
noncomputable def deeper (e : Expr) (d : Nat) (iter : Expr) (acc : Value) (env : Env) : Sem Unit := do
  let x ← eval iter env
  PySem.standAt iter.pos
  let x ← foldedSetIterable iter env x
  let _ ← runOwn (.compStart e (d + 1) (← PySem.holding [x] (pyIter x)) acc env) env
noncomputable def levelOf (e : Expr) (d : Nat) (target iter : Expr) (ifs : List Expr) (inner : Sem Unit) (it acc : Value) (env : Env) : Sem Fin :=
  PySem.standAt iter.pos >>= fun _ => pyNext it >>= fun r => match r with
      | none => Pure.pure (.done .next)
      | some v => letOwnedTupleGo target it v >>= fun _ => assign target env v >>= fun _ => tests ifs env >>= fun ok =>
        if ok = true then inner >>= fun _ => again (.compLoop e d it acc env) else again (.compLoop e d it acc env)
theorem level1 (elt target iter : Expr) (ifs : List Expr) (scope : Scope) (pos : Pos) (it acc : Value) (env : Env) :
    compTurn (.ListComp elt [⟨target, iter, ifs, 0⟩] scope pos) 0 it acc env = levelOf (.ListComp elt [⟨target, iter, ifs, 0⟩] scope pos) 0 target iter ifs (emit elt acc env) it acc env := by rfl
theorem level2a (elt t1 i1 t2 i2 : Expr) (f1 f2 : List Expr) (scope : Scope) (pos : Pos) (it acc : Value) (env : Env) :
    compTurn (.ListComp elt [⟨t1, i1, f1, 0⟩, ⟨t2, i2, f2, 0⟩] scope pos) 0 it acc env = levelOf (.ListComp elt [⟨t1, i1, f1, 0⟩, ⟨t2, i2, f2, 0⟩] scope pos) 0 t1 i1 f1 (deeper (.ListComp elt [⟨t1, i1, f1, 0⟩, ⟨t2, i2, f2, 0⟩] scope pos) 0 i2 acc env) it acc env := by
  have e : compTurn (.ListComp elt [⟨t1, i1, f1, 0⟩, ⟨t2, i2, f2, 0⟩] scope pos) 0 it acc env = (PySem.standAt i1.pos >>= fun _ => pyNext it >>= fun r => match r with
      | none => Pure.pure (.done .next)
      | some v => letOwnedTupleGo t1 it v >>= fun _ => assign t1 env v >>= fun _ => tests f1 env >>= fun ok =>
        if ok = true then (eval i2 env >>= fun x => PySem.standAt i2.pos >>= fun _ => foldedSetIterable i2 env x >>= fun x => PySem.holding [x] (pyIter x) >>= fun it' =>
          runOwn (.compStart (.ListComp elt [⟨t1, i1, f1, 0⟩, ⟨t2, i2, f2, 0⟩] scope pos) 1 it' acc env) env >>= fun _ => again (.compLoop (.ListComp elt [⟨t1, i1, f1, 0⟩, ⟨t2, i2, f2, 0⟩] scope pos) 0 it acc env))
        else again (.compLoop (.ListComp elt [⟨t1, i1, f1, 0⟩, ⟨t2, i2, f2, 0⟩] scope pos) 0 it acc env)) := by rfl
  rw [e]
  unfold levelOf deeper
  simp only [LawfulMonad.bind_assoc, LawfulMonad.pure_bind]
theorem level2b (elt t1 i1 t2 i2 : Expr) (f1 f2 : List Expr) (scope : Scope) (pos : Pos) (it acc : Value) (env : Env) :
    compTurn (.ListComp elt [⟨t1, i1, f1, 0⟩, ⟨t2, i2, f2, 0⟩] scope pos) 1 it acc env = levelOf (.ListComp elt [⟨t1, i1, f1, 0⟩, ⟨t2, i2, f2, 0⟩] scope pos) 1 t2 i2 f2 (emit elt acc env) it acc env := by rfl

section
variable {target : Expr} {I : Addr} {fp wr : List Addr} {n : Nat} {Pv : Nat → Value → Prop} {St : Nat → Heap → Prop}
theorem code_comp {elt iter : Expr} {gens : List Comprehension} {scope : Scope} {pos : Pos} {d : Nat} {ifs : List Expr} {inner : Sem Unit} {acc : Value} {Inv : Nat → Vars → Led → Prop} {P : Vars → Led → Prop} (T : Itr prog w A I fp wr n Pv St target)
    (he : compTurn (.ListComp elt gens scope pos) d (.ref I) acc env = levelOf (.ListComp elt gens scope pos) d target iter ifs inner (.ref I) acc env) (ob : Addr → Obj)
    (hob : ∀ k vs g, Inv k vs g → ∀ b ∈ fp, b ∉ wr → g b = some (ob b))
    (turn : ∀ k vs g v, k < n → Pv k v → Inv k vs g → EvF prog w K A L vs (assign target env v >>= fun _ => tests ifs env >>= fun ok => if ok = true then inner else Pure.pure ()) g fun _ vs' g' => Inv (k + 1) vs' g')
    (done : ∀ vs g, Inv n vs g → P vs g)
    {F : Led} {s : Shared} {R : Result → Shared → Prop} (x : Loop K F L wr St Inv 0 vs g s.heap)
    (kk : ∀ vs' g' h' d tk, P vs' g' → Rep K g' F h' → FrOk L vs' g' F h' → R (.ok .next) { s with heap := h', drawn := d, toks := tk }) :
    codeAny (model prog w) A (.compLoop (.ListComp elt gens scope pos) d (.ref I) acc env) R s := by
  refine codeAny_loop rfl (fun m s' => ∃ k vs g h dr tk, m = n - k ∧ k ≤ n ∧ s' = { s with heap := h, drawn := dr, toks := tk } ∧ Loop K F L wr St Inv k vs g h) (fun m s' hI => ?_) n ⟨0, vs, g, s.heap, s.drawn, s.toks, rfl, Nat.zero_le _, rfl, x⟩
  refine x40 hI fun k vs g h z1 => ?_; clear hI; refine x23 z1 fun dr tk z2 hk z3 x => ?_; clear z1; subst z2; subst z3
  show wpAny _ _ ((compTurn (.ListComp elt gens scope pos) d (.ref I) acc env).onRaise (fun x => do noteFrame x env; theTreesLotGoes x)) _ _ _
  refine wpAny_noted ?_
  rw [he]
  unfold levelOf
  refine wpAny_bind (wpAny_standAt (wpAny_bind ?_))
  by_cases hlt : k < n
  · refine T.W.item k _ _ _ hlt x.st fun v h' tk' hv st' kp => ?_
    refine wpAny_bind (T.go (k + 1) v _ _ _ st' ?_)
    have main := fun Q E => x.turn (Q := Q) (E := E) T kp st' ob (hob k vs g x.inv) (turn k vs g v hlt hv x.inv) { s with heap := h', drawn := dr, toks := tk' }
    have e : (assign target env v >>= fun _ => tests ifs env >>= fun ok => if ok = true then inner >>= fun _ => again (.compLoop (.ListComp elt gens scope pos) d (.ref I) acc env) else again (.compLoop (.ListComp elt gens scope pos) d (.ref I) acc env)) =
        ((assign target env v >>= fun _ => tests ifs env >>= fun ok => if ok = true then inner else Pure.pure ()) >>= fun _ => again (.compLoop (.ListComp elt gens scope pos) d (.ref I) acc env)) := by
      rw [LawfulMonad.bind_assoc]
      congr 1; funext _
      rw [LawfulMonad.bind_assoc]
      congr 1; funext ok
      cases ok
      · simp
      · simp
    rw [e]
    refine wpAny_bind (main _ _ rfl fun _ vs' g' h₂ d₂ tk₂ p st₂ r₂ f₂ wg₂ => wpAny_pure ⟨rfl, n - (k + 1), by omega, k + 1, vs', g', h₂, d₂, tk₂, rfl, hlt, rfl, r₂, f₂, st₂ (hob _ _ _ p), p, wg₂, x.wf⟩)
  · have hkn : k = n := by omega
    subst hkn
    refine T.W.done _ _ _ x.st fun h' tk' kp => ?_
    refine x01 (x.next kp) fun r1 f1 => ?_
    exact wpAny_pure (kk _ _ _ _ _ (done vs g x.inv) r1 f1)

/-- from its start: the iterator asked again, or not -/
theorem code_compStart {elt : Expr} {gens : List Comprehension} {scope : Scope} {pos : Pos} {d : Nat} {acc : Value} (T : Itr prog w A I fp wr n Pv St target) {s : Shared} {R : Result → Shared → Prop} {k : Nat} (st : St k s.heap)
    (ha : ((gens)[d]?).elim false (·.is_async != 0) = false) (h : codeAny (model prog w) A (.compLoop (.ListComp elt gens scope pos) d (.ref I) acc env) R s) :
    codeAny (model prog w) A (.compStart (.ListComp elt gens scope pos) d (.ref I) acc env) R s := by
  refine codeAny_of_tree ?_
  show wpAny _ _ ((compStart (.ListComp elt gens scope pos) d (.ref I) acc env).onRaise (fun x => do noteFrame x env; standAt theWindowsPlace)) _ _ s
  refine wpAny_notedAt ?_
  unfold compStart
  have e : ((clausesOf (.ListComp elt gens scope pos))[d]?).elim false (·.is_async != 0) = false := ha
  rw [e]
  simp only [Bool.false_eq_true, if_false]
  refine wpAny_bind (wpAny_askSetting ?_)
  split
  · first
      | exact wpAny_bind (wpAny_pure (wpAny_pure (And.intro rfl h)))
      | exact wpAny_pure (And.intro rfl h)
  · refine wpAny_bind (wpAny_rule ?_)
    have fin : wpAny (model prog w) (A.under (.compStart (.ListComp elt gens scope pos) d (.ref I) acc env)) (pyIter (.ref I) >>= fun it => again (.compLoop (.ListComp elt gens scope pos) d it acc env))
        (fun fin s' => match fin with | .done f => R (.ok f) s' | .again c' => c'.quiet = true ∧ codeAny (model prog w) A c' R s') (notedBy (model prog w) (A.under (.compStart (.ListComp elt gens scope pos) d (.ref I) acc env)) env fun x s' => R (.error x) s') s :=
      wpAny_bind (T.W.self k _ _ _ st (wpAny_pure ⟨rfl, h⟩))
    split
    · exact wpAny_bind (wpAny_standAt fin)
    · exact fin
end

/-- the frame of an iterator just made -/
theorem Loop.start {F : Led} {h : Heap} {o : Obj} {cs : List Addr} {n : Nat} {Pv : Nat → Value → Prop} {x : Value} {St : Nat → Heap → Prop} {Inv : Nat → Vars → Led → Prop} (r : Rep K g F h) (f : FrOk L vs g F h) (st : St 0 (h.push o)) (i : Inv 0 vs g) :
    Loop K F L [h.objs.size] St Inv 0 vs g (h.push o) := by
  have fr := r.free
  have Lne : h.objs.size ≠ L := fun e => by refine x31 f.ns fun oL _ _ e' _ => ?_; exact Nat.lt_irrefl _ (e ▸ Heap.lt_size e')
  refine ⟨r.keeps fun b x e => Heap.get?_push_of_some _ e, ⟨f.ns.push _, f.nd, f.ng, f.nf, f.low⟩, st, i, fun b m => ?_, fun b m => ?_⟩
  · rw [List.mem_singleton] at m; subst m; exact fr.1
  · rw [List.mem_singleton] at m; subst m; exact ⟨fr.2, r.fx.n, Lne⟩
theorem Src.dom {x : Value} {n : Nat} {Pv : Nat → Value → Prop} {cs : List Addr} (S : Src g x n Pv cs) : ∀ b ∈ cs, ∃ o, g b = some o := fun b m => by
  cases S with
  | tup hx => rw [List.mem_singleton] at m; subst m; exact hx.got
  | lst hx => rw [List.mem_singleton] at m; subst m; exact hx.got
  | rng => cases m
theorem Src.hob {x : Value} {n : Nat} {Pv : Nat → Value → Prop} {cs : List Addr} (S : Src g x n Pv cs) {Inv : Nat → Vars → Led → Prop} (hI : ∀ k vs g', Inv k vs g' → ∀ b ∈ cs, ∀ o, g b = some o → g' b = some o) {I : Addr} :
    ∀ k vs g', Inv k vs g' → ∀ b ∈ (I :: cs), b ∉ [I] → g' b = some ((g b).getD default) := fun k vs g' i b m nm => by
  rcases List.mem_cons.mp m with e | m
  · exact absurd (e ▸ List.mem_singleton.mpr rfl) nm
  · refine x10 (S.dom b m) fun o ho => ?_
    rw [hI _ _ _ i b m o ho, ho]; rfl

/-- the inner of two clauses -/
theorem EvF.inner {elt t1 i1 t2 i2 : Expr} {f1 f2 : List Expr} {scope : Scope} {pos : Pos} {acc : Value} {P : Unit → Vars → Led → Prop} (hh : A.handled = none)
    (h : EvF prog w K A L vs (eval i2 env) g fun x vs' g' => ∃ n Pv cs, ∃ Inv : Nat → Vars → Led → Prop, Src g' x n Pv cs ∧ Inv 0 vs' g' ∧ (∀ k vs g, Inv k vs g → ∀ b ∈ cs, ∀ o, g' b = some o → g b = some o) ∧
      (∀ k vs g v, k < n → Pv k v → Inv k vs g → EvF prog w K A L vs (assign t2 env v >>= fun _ => tests f2 env >>= fun ok => if ok = true then emit elt acc env else Pure.pure ()) g fun _ vs' g' => Inv (k + 1) vs' g') ∧
      (∀ vs g, Inv n vs g → P () vs g))
    (hs : ∀ x, foldedSetIterable i2 env x = Pure.pure x := by intro _; rfl) :
    EvF prog w K A L vs (deeper (.ListComp elt [⟨t1, i1, f1, 0⟩, ⟨t2, i2, f2, 0⟩] scope pos) 0 i2 acc env) g P := by
  intro F s Q E r f k
  unfold deeper
  refine wpAny_bind (h F s _ E r f fun x vs' g' h' d tk p r' f' => wpAny_bind (wpAny_standAt (wpAny_bind (wpAny_of_eq (hs x) (wpAny_bind (wpAny_holding ?_))))))
  refine x44 p fun n Pv cs Inv S h0 hI turn done => ?_; clear p
  refine S.iter hh t2 (s := { s with heap := h', drawn := d, toks := tk }) r' fun o St hf T st => ?_
  refine wpAny_bind (wpAny_runOwn ?_)
  refine code_compStart T (k := 0) st (by rfl) ?_
  exact code_comp T (level2b ..) _ (S.hob hI) turn done (s := { s with heap := h'.push o, drawn := d, toks := tk }) (Loop.start (n := n) (Pv := Pv) (cs := cs) (x := x) r' f' st h0) fun vs'' g'' h'' d' tk' p r'' f'' => wpAny_pure (k () vs'' g'' h'' d' tk' p r'' f'')

theorem wpAny_newCompEnv {M : Model} {A : Around} {E : Value → Shared → Prop} {s : Shared} {scope : Scope} {globals builtins : Addr} {cl : List (Str × Addr)} {qual : Str} {outer : Env} {Q : Env → Shared → Prop}
    (h : Q (newEnv scope s.heap.objs.size globals (cellsFrom (s.heap.objs.size + 1) scope.names cl) qual none .none (some outer) builtins) { s with heap := pushCells (s.heap.push { cls := .type "dict", data := .dict #[] }) scope.names }) :
    wpAny M A (newFunctionEnv scope globals cl [] qual none .none (some outer) builtins) Q E s := by
  simp only [newFunctionEnv, Option.isSome_some, if_true]
  refine wpAny_bind (wpAny_alloc ?_)
  refine wpAny_bind (wpAny_layCells _ (fun name kind cells => by cases hkc : kind == NameKind.cell <;> simp [hkc]) _ _ _ _ ?_)
  rw [show ({ s with heap := s.heap.push { cls := .type "dict", data := .dict #[] } } : Shared).heap.objs.size = s.heap.objs.size + 1 from Heap.size_push ..]
  simp only [List.forIn_nil]
  exact wpAny_bind (wpAny_pure (wpAny_pure h))

theorem Rep.cells {g F : Led} {h h₁ : Heap} (r : Rep K g F h) (kp : ∀ b o, h.get? b = some o → h₁.get? b = some o) (cs : List (Str × Addr)) (cm : Str → Option Value)
    (hc : ∀ n c, cs.lookup n = some c → h.objs.size ≤ c ∧ h₁.IsCell c (cm n)) :
    ∃ g₁ : Led, Rep K g₁ F h₁ ∧ Ext g g₁ ∧ (∀ n c, cs.lookup n = some c → g c = none ∧ At g₁ c (CellO (cm n))) ∧ ∀ a o, g₁ a = some o → g a = some o ∨ ∃ n, cs.lookup n = some a := by
  have gn : ∀ {c : Addr}, h.objs.size ≤ c → g c = none ∧ F c = none := fun {c} l => ⟨by
    cases e : g c with
    | none => rfl
    | some o => exact absurd (Heap.lt_size (r.own _ _ e)) (Nat.not_lt.mpr l), by
    cases e : F c with
    | none => rfl
    | some o => exact absurd (Heap.lt_size (r.fr _ _ e)) (Nat.not_lt.mpr l)⟩
  let g₁ : Led := fun a => if (cs.any fun p => p.2 == a && cs.lookup p.1 == some a) then h₁.get? a else g a
  have inC : ∀ a, (cs.any fun p => p.2 == a && cs.lookup p.1 == some a) = true → ∃ n, cs.lookup n = some a := fun a e => by
    refine x11 (List.any_eq_true.mp e) fun p _ q => ?_
    exact ⟨p.1, beq_iff_eq.mp (Bool.and_eq_true_iff.mp q).2⟩
  have toC : ∀ n a, cs.lookup n = some a → (cs.any fun p => p.2 == a && cs.lookup p.1 == some a) = true := fun n a e => by
    refine List.any_eq_true.mpr ⟨(n, a), mem_of_lookup e, ?_⟩
    simp [e]
  have kpg : ∀ a o, g a = some o → h₁.get? a = some o := fun a o e => kp _ _ (r.own _ _ e)
  refine ⟨g₁, ⟨fun a o e => ?_, fun a o e => kp _ _ (r.fr _ _ e), fun a o e => ?_, fun a o e => ?_, r.lowf, r.fx.to fun a o _ e => kp _ _ e⟩, fun a o e => ?_, fun n c e => ?_, fun a o e => ?_⟩
  · change (if _ then _ else _) = _ at e
    split at e
    · exact e
    · exact kpg _ _ e
  · change (if _ then _ else _) = _ at e
    split at e
    · rename_i q; refine x10 (inC a q) fun n hn => ?_; exact (gn (hc n a hn).1).2
    · exact r.dj _ _ e
  · change (if _ then _ else _) = _ at e
    split at e
    · rename_i q; refine x10 (inC a q) fun n hn => ?_; exact Nat.le_trans r.fx.n (hc n a hn).1
    · exact r.lowg _ _ e
  · show (if _ then _ else _) = _
    split
    · exact kpg _ _ e
    · exact e
  · refine ⟨(gn (hc n c e).1).1, ?_⟩
    refine x11 ((hc n c e).2) fun o ho hd => ?_
    refine ⟨o, ?_, hd⟩
    show (if _ then _ else _) = _
    rw [if_pos (toC n c e)]; exact ho
  · change (if _ then _ else _) = _ at e
    split at e
    · rename_i q; exact .inr (inC a q)
    · exact .inl e

noncomputable def cenvOf (scope : Scope) (cl : List (Str × Addr)) (C : Addr) (env : Env) : Env :=
  { scope := relabel scope env, locals := C, globals := env.globals, cells := cellsFrom (C + 1) scope.names cl, qual := env.qual, func := none, code := env.code, frame := env.frame, builtins := env.builtins }
theorem getv_none (ns : List Str) : getv (ns.map fun n => (n, none)) = fun _ => none := by
  funext y
  induction ns with
  | nil => rfl
  | cons n ns ih =>
    unfold getv at ih ⊢
    rw [List.map_cons, List.lookup_cons]
    split
    · rfl
    · exact ih

noncomputable def DoneT (prog : Program) (w : World) (K : Frag) (A : Around) (L : Addr) (use : Option (Value → Sem Unit)) (P : Value → Vars → Led → Prop) (D : Addr) (vs : Vars) (g : Led) : Prop := match use with
  | none => P (.ref D) vs g
  | some u => EvF prog w K A L vs (u (.ref D)) g fun _ => P .none
/-- the comprehension's own frame, around its loop -/
theorem compCore {e : Expr} {scope : Scope} {cl : List (Str × Addr)} {use : Option (Value → Sem Unit)} {names : List Str} {F go : Led} {s : Shared} {it : Value} {wr : List Addr} {St : Nat → Heap → Prop} {P : Value → Vars → Led → Prop} {Q : Value → Shared → Prop} {E : Value → Shared → Prop}
    (hnd : names.Nodup) (r0 : Rep K go F s.heap) (f' : FrOk L vs go F s.heap) (hwr : ∀ b ∈ wr, @LT.lt Nat _ b s.heap.objs.size ∧ go b = none ∧ F b = none ∧ 386 ≤ b ∧ b ≠ L)
    (hst : ∀ h : Heap, (∀ b o, s.heap.get? b = some o → h.get? b = some o) → St 0 h)
    (p : ∀ D C g₁, go D = none → Ext go g₁ → At g₁ D (LstO []) → (∀ m c, (cellsFrom (C + 1) scope.names []).lookup m = some c → go c = none ∧ c ≠ D ∧ At g₁ c (CellO none)) →
      ∃ (Inv : Nat → Vars → Led → Prop) (n : Nat), Inv 0 (names.map fun n => (n, none)) g₁ ∧ (∀ vs₂ g, Inv n vs₂ g → DoneT prog w K A L use P D vs g) ∧
        ∀ (F' : Led) (s' : Shared) (R : Result → Shared → Prop), Loop K F' C wr St Inv 0 (names.map fun n => (n, none)) g₁ s'.heap → (∀ vs g h d tk, Inv n vs g → Rep K g F' h → FrOk C vs g F' h → R (.ok .next) { s' with heap := h, drawn := d, toks := tk }) →
          codeAny (model prog w) A (.compStart e 0 it (.ref D) (cenvOf scope cl C env)) R s')
    (k : ∀ v vs g h d tk, P v vs g → Rep K g F h → FrOk L vs g F h → Q v { s with heap := h, drawn := d, toks := tk }) :
    wpAny (model prog w) A (newList []) (fun acc s₃ => wpAny (model prog w) A (newFunctionEnv scope env.globals cl [] env.qual none .none (some env)) (fun cenv s₄ =>
      codeAny (model prog w) A (.compStart e 0 it acc { cenv with scope := relabel scope env }) (compPost (model prog w) A E use Q acc cenv.locals) s₄) E s₃) E s := by
  refine wpAny_newObj_type (wpAny_newCompEnv ?_)
  dsimp only
  generalize hh : s.heap = h' at *
  generalize hH2 : h'.push { cls := .type "list", data := .seq ([] : List Value).toArray } = H2
  have k2 : ∀ b x, h'.get? b = some x → H2.get? b = some x := fun b x e => hH2 ▸ Heap.get?_push_of_some _ e
  have s2 : H2.objs.size = h'.objs.size + 1 := by rw [← hH2, Heap.size_push]
  generalize hH3 : H2.push { cls := .type "dict", data := .dict #[] } = H3
  have k3 : ∀ b x, H2.get? b = some x → H3.get? b = some x := fun b x e => hH3 ▸ Heap.get?_push_of_some _ e
  have s3 : H3.objs.size = H2.objs.size + 1 := by rw [← hH3, Heap.size_push]
  generalize hH4 : pushCells H3 scope.names = H4
  have k4 : ∀ b x, H3.get? b = some x → H4.get? b = some x := fun b x e => hH4 ▸ pushCells_keeps _ _ _ _ e
  have gn : ∀ (c : Nat), h'.objs.size ≤ c → go c = none ∧ F c = none := fun c l => ⟨by
    cases e : go c with
    | none => rfl
    | some o => exact absurd (Heap.lt_size (r0.own _ _ e)) (Nat.not_lt.mpr l), by
    cases e : F c with
    | none => rfl
    | some o => exact absurd (Heap.lt_size (r0.fr _ _ e)) (Nat.not_lt.mpr l)⟩
  have iL : @LT.lt Nat _ L h'.objs.size := f'.ns.lt
  have l2 : h'.objs.size ≤ H2.objs.size := by rw [s2]; exact Nat.le_succ _
  -- the outer frame and the iterator, hidden
  refine x33 f'.ns fun oL es ep hL hLd hLk hLf => ?_
  have rL : Rep K go (F.put L oL) h' := by
    refine ⟨r0.own, fun a x e => ?_, fun a x e => ?_, r0.lowg, trivial, r0.fx⟩
    · by_cases q : a = L
      · subst q; rw [put_self] at e; cases e; exact hL
      · rw [put_ne _ _ q] at e; exact r0.fr _ _ e
    · rw [put_ne]; exact r0.dj _ _ e
      exact ne_of_none f'.ng e
  have r2 : Rep K (go.put h'.objs.size { cls := .type "list", data := .seq ([] : List Value).toArray }) (F.put L oL) H2 := hH2 ▸ rL.push rfl
  have hcells : ∀ (m : Str) (c : Nat), (cellsFrom (H2.objs.size + 1) scope.names []).lookup m = some c → H2.objs.size + 1 ≤ c ∧ H4.IsCell c none := fun m c e => by
    have ok := cellsFrom_ok scope.names H3 (H2.objs.size + 1) [] ⟨fun _ _ hm => (nomatch hm), List.Pairwise.nil⟩ (Nat.le_of_eq s3.symm)
    rw [← s3, hH4] at ok
    have := ok.empty m c (mem_of_lookup (s3 ▸ e))
    exact ⟨s3 ▸ this.2, this.1⟩
  refine x13 (Rep.cells r2 (fun b x e => k4 _ _ (k3 _ _ e)) _ (fun _ => none) fun m c e => ⟨Nat.le_of_succ_le (hcells m c e).1, (hcells m c e).2⟩) fun g₁ r4 e1 hc inv1 => ?_
  have hD : go h'.objs.size = none := (gn h'.objs.size (Nat.le_refl _)).1
  obtain ⟨Inv, n, h0, done, run⟩ := p h'.objs.size H2.objs.size g₁ hD ((Ext.new _ hD).trans e1) (At.ext (At.put go ⟨0, rfl⟩) e1) fun m c e => by
    have lc : @LT.lt Nat _ H2.objs.size c := (hcells m c e).1
    have lc := Nat.lt_of_le_of_lt l2 lc
    exact ⟨(gn c (Nat.le_of_lt lc)).1, Nat.ne_of_gt lc, (hc m c e).2⟩
  have nC : H4.Ns H2.objs.size fun _ => none := ((hH3 ▸ Heap.Ns.new H2 (.type "dict")).keeps k4)
  have noC : ∀ c : Nat, c ≠ h'.objs.size → c < H2.objs.size + 1 → go c = none → g₁ c = none := fun c l2 l3 q => by
    cases e : g₁ c with
    | none => rfl
    | some x =>
      exfalso
      rcases inv1 _ _ e with e | ⟨m, e⟩
      · rw [put_ne _ _ l2, q] at e; cases e
      · exact absurd (hcells m c e).1 (Nat.not_le.mpr l3)
  have nD2 : (H2.objs.size : Nat) ≠ h'.objs.size := s2 ▸ Nat.succ_ne_self _
  have LC : L ≠ H2.objs.size := fun q => Nat.lt_irrefl _ (Nat.lt_of_lt_of_le (q ▸ iL : @LT.lt Nat _ H2.objs.size h'.objs.size) l2)
  have FC : F H2.objs.size = none := (gn _ l2).2
  have lp : Loop K (F.put L oL) H2.objs.size wr St Inv 0 (names.map fun n => (n, none)) g₁ H4 := by
    refine ⟨r4, ⟨by rw [getv_none]; exact nC, by rw [List.map_map]; show (names.map fun n => n).Nodup; rw [List.map_id']; exact hnd, noC _ nD2 (Nat.lt_succ_self _) (gn _ l2).1, by rw [put_ne _ _ LC.symm]; exact FC, Nat.le_trans r0.fx.n l2⟩,
      hst _ fun b x e => k4 _ _ (k3 _ _ (k2 _ _ e)), h0, fun b m => ?_, fun b m => ?_⟩
    · refine x02 (hwr b m) fun l1 q1 _ => ?_
      exact noC b (Nat.ne_of_lt l1) (Nat.lt_succ_of_lt (Nat.lt_of_lt_of_le l1 l2)) q1
    · refine x04 (hwr b m) fun l1 _ q2 q3 q4 => ?_
      exact ⟨by rw [put_ne _ _ q4]; exact q2, q3, Nat.ne_of_lt (Nat.lt_of_lt_of_le l1 l2)⟩
  refine run (F.put L oL) { s with heap := H4 } _ lp fun vs'' g'' h'' d' tk' pp r'' f'' => ?_
  have pp := done _ _ pp
  have nL : F L = none := f'.nf
  refine x33 f''.ns fun oC esC epC hC hCd hCk hCf => ?_
  have rC : Rep K g'' (F.put H2.objs.size oC) h'' := by
    refine ⟨r''.own, fun b x e => ?_, fun b x e => ?_, r''.lowg, trivial, r''.fx⟩
    · by_cases q : b = H2.objs.size
      · subst q; rw [put_self] at e; cases e; exact hC
      · rw [put_ne _ _ q] at e
        exact r''.fr b x (by rw [put_ne _ _ (ne_of_none nL e)]; exact e)
    · have q := ne_of_none f''.ng e
      rw [put_ne _ _ q]
      have := r''.dj b x e
      by_cases q : b = L
      · subst q; exact nL
      · rw [put_ne _ _ q] at this; exact this
  have gL : g'' L = none := by
    cases q : g'' L with
    | none => rfl
    | some x => have := r''.dj L x q; rw [put_self] at this; cases this
  have fL : FrOk L vs g'' (F.put H2.objs.size oC) h'' := ⟨⟨oL, es, ep, r''.fr _ _ (put_self ..), hLd, hLk, hLf⟩, f'.nd, gL, by rw [put_ne _ _ LC]; exact nL, f'.low⟩
  have fin : ∀ v vs₄ g₄ h₄ d₄ tk₄, P v vs₄ g₄ → Rep K g₄ (F.put H2.objs.size oC) h₄ → FrOk L vs₄ g₄ (F.put H2.objs.size oC) h₄ → ∃ m, h₄.Ns H2.objs.size m ∧ ∀ h₃, Heap.SameBut H2.objs.size h₄ h₃ → Q v { s with heap := h₃, drawn := d₄, toks := tk₄ } := fun v vs₄ g₄ h₄ d₄ tk₄ p₄ r₄ f₄ => by
    refine ⟨_, ⟨oC, esC, epC, r₄.fr _ _ (put_self ..), hCd, hCk, hCf⟩, fun h₃ hs₃ => ?_⟩
    have k5 : ∀ b x, b ≠ H2.objs.size → h₄.get? b = some x → h₃.get? b = some x := fun b x n e => (hs₃.2 b n).trans e
    have g4 : g₄ H2.objs.size = none := by
      cases q : g₄ H2.objs.size with
      | none => rfl
      | some x => have := r₄.dj _ x q; rw [put_self] at this; cases this
    refine x31 f₄.ns fun o5 es5 ep5 h5 h5r => ?_
    refine k v vs₄ g₄ h₃ d₄ tk₄ p₄ ⟨fun b x e => k5 _ _ (ne_of_none g4 e) (r₄.own _ _ e), fun b x e => k5 _ _ (ne_of_none FC e) (r₄.fr b x (by rw [put_ne _ _ (ne_of_none FC e)]; exact e)), fun b x e => ?_, r₄.lowg, trivial,
      r₄.fx.to fun b x l e => k5 _ _ (fun q => by have := f''.low; subst q; exact absurd l (Nat.not_lt.mpr this)) e⟩ ⟨⟨o5, es5, ep5, k5 _ _ LC h5, h5r⟩, f₄.nd, f₄.ng, nL, f₄.low⟩
    have := r₄.dj b x e
    rw [put_ne _ _ (ne_of_none g4 e)] at this; exact this
  cases use with
  | none => exact fin _ vs g'' h'' d' tk' pp rC fL
  | some u => exact pp (F.put H2.objs.size oC) _ _ E rC fL fun _ vs₄ g₄ h₄ d₄ tk₄ p₄ r₄ f₄ => fin _ vs₄ g₄ h₄ d₄ tk₄ p₄ r₄ f₄
inductive CompS (prog : Program) (w : World) (K : Frag) (A : Around) (env : Env) (target : Expr) (ifs : List Expr) (inner : Env → Value → Sem Unit) (scope : Scope) (cl : List (Str × Addr)) (names : List Str) (Z : Addr → Vars → Led → Prop) (x : Value) (vs' : Vars) (g' : Led) : Prop
  | mk (n : Nat) (Pv : Nat → Value → Prop) (cs : List Addr) (S : Src g' x n Pv cs) (p : ∀ D C g₁, g' D = none → Ext g' g₁ → At g₁ D (LstO []) →
      (∀ m c, (cellsFrom (C + 1) scope.names []).lookup m = some c → g' c = none ∧ c ≠ D ∧ At g₁ c (CellO none)) →
      ∃ Inv : Nat → Vars → Led → Prop, Inv 0 (names.map fun n => (n, none)) g₁ ∧ (∀ k vs g, Inv k vs g → ∀ b ∈ cs, ∀ o, g' b = some o → g b = some o) ∧
      (∀ k vs g v, k < n → Pv k v → Inv k vs g → EvF prog w K A C vs (assign target (cenvOf scope cl C env) v >>= fun _ => tests ifs (cenvOf scope cl C env) >>= fun ok => if ok = true then inner (cenvOf scope cl C env) (.ref D) else Pure.pure ()) g fun _ vs' g' => Inv (k + 1) vs' g') ∧
      (∀ vs g, Inv n vs g → Z D vs' g)) : CompS prog w K A env target ifs inner scope cl names Z x vs' g'
theorem EvF.compG {elt : Expr} {gens rest : List Comprehension} {scope : Scope} {pos p0 : Pos} {target iter : Expr} {ifs : List Expr} {inner : Env → Value → Sem Unit} {cl : List (Str × Addr)} {use : Option (Value → Sem Unit)} {P : Value → Vars → Led → Prop} {names : List Str} (hh : A.handled = none)
    (he : ∀ it acc env, compTurn (.ListComp elt (⟨target, iter, ifs, 0⟩ :: rest) scope pos) 0 it acc env = levelOf (.ListComp elt (⟨target, iter, ifs, 0⟩ :: rest) scope pos) 0 target iter ifs (inner env acc) it acc env)
    (h : EvF prog w K A L vs (eval iter env) g (CompS prog w K A env target ifs inner scope cl names (DoneT prog w K A L use P)))
    (hclos : closureFor scope env = Pure.pure cl) (hnd : names.Nodup) (hkind : scope.kind = .function) (hnames : ∀ x ∈ scope.names, x.2 = .local → scope.names.lookup x.1 = some .local)
    (hs : ∀ x, foldedSetIterable iter env x = Pure.pure x) :
    EvF prog w K A L vs (comprehension (.ListComp elt (⟨target, iter, ifs, 0⟩ :: rest) scope pos) scope env p0 (newList []) false (eval iter env) use) g P := by
  intro F s Q E r f k
  refine wpAny_comprehension_free rfl hs hclos hkind hnames (h F s _ E r f fun x vs' g' h' d tk p r' f' => ?_)
  obtain ⟨n, Pv, cs, S, p⟩ := p
  refine S.iter hh target (s := { s with heap := h', drawn := d, toks := tk }) r' fun o St hf T st => ?_
  have Lne : L ≠ h'.objs.size := fun e => by refine x31 f'.ns fun oL _ _ e' _ => ?_; exact Nat.lt_irrefl _ (e ▸ Heap.lt_size e')
  refine compCore (s := { s with heap := h'.push o, drawn := d, toks := tk }) (wr := [h'.objs.size]) (St := St) hnd (r'.keeps fun b x e => Heap.get?_push_of_some _ e) ⟨f'.ns.push _, f'.nd, f'.ng, f'.nf, f'.low⟩ (fun b m => ?_) (fun h hk => ?_) (fun D C g₁ hD e1 oD hc => ?_) k
  · rw [List.mem_singleton] at m; subst m
    exact ⟨by show _ < (h'.push o).objs.size; rw [Heap.size_push]; exact Nat.lt_succ_self _, r'.free.1, r'.free.2, r'.fx.n, Lne.symm⟩
  · exact T.W.frame _ _ _ st fun b _ x e => hk b x e
  · refine x13 (p D C g₁ hD e1 oD hc) fun Inv h0 hI turn done => ?_
    exact ⟨Inv, n, h0, done, fun F' s' R lp kk => code_compStart T (k := 0) lp.st (by rfl) (code_comp T (he _ _ _) _ (S.hob hI) turn (fun _ _ i => i) lp kk)⟩
/-- y = [..], the name of a local on the comprehension's own line -/
theorem EvF.compToG {y : Str} {py spos : Pos} {elt : Expr} {gens : List Comprehension} {scope : Scope} {pos : Pos} {P : Flow → Vars → Led → Prop}
    (h : EvF prog w K A L vs (comprehension (.ListComp elt gens scope pos) scope env (firstIterPos gens pos) (newList []) (firstAsync gens) (firstIter gens env) (some (assign (.Name y py) env))) g fun _ => P .next)
    (hsw : swapsWith (.ListComp elt gens scope pos) (some (.Name y py)) spos.line env = Pure.pure true) :
    EvF prog w K A L vs (exec (.Assign [.Name y py] (.ListComp elt gens scope pos) spos) env) g P := by
  rw [show exec (.Assign [.Name y py] (.ListComp elt gens scope pos) spos) env = _ from exec_Assign_Name_used _ _ _ _ hsw]
  exact .bind (.standAt (.bind (.bind (EvF.mono h fun _ vs' g' p => .pure (.pure p)))))
theorem DoneT.to {y : Str} {py : Pos} {P : Flow → Vars → Led → Prop} {D : Addr} {vs vs' : Vars} (hset : SetV y (.ref D) vs vs') (h : P .next vs' g) (hk : env.scope.kind = .function) (hl : env.kindOf y = some .local) (hEL : env.locals = L) :
    DoneT prog w K A L (some (assign (.Name y py) env)) (fun _ => P .next) D vs g := EvF.assignName (EvF.store hset h hk hl hEL)
end Mine
end SLg5

section SLg6
open PySem PySem.W PySem.Calls PyProof.Rows
set_option maxRecDepth 100000
namespace Mine
variable {prog : Program} {w : World} {K : Frag} {A : Around} {α β : Type} {L : Addr} {vs : Vars} {g : Led} {env : Env}

/-- raw rules that turn tokens alone -/
theorem Ev.tok {t : Sem α} {P : α → Led → Prop} (h : ∀ (s : Shared) Q E, (∀ a d tk, P a g → Q a { s with drawn := d, toks := tk }) → wpAny (model prog w) A t Q E s) : Ev prog w K A t g P :=
  fun F s Q E r k => h s Q E fun a d tk p => k a g s.heap d tk p r
/-- raw rules that put things beside -/
theorem Ev.beside {t : Sem α} {P : α → Led → Prop} (h : ∀ F (s : Shared) Q E, Rep K g F s.heap → (∀ a h' d tk, (∀ b x, s.heap.get? b = some x → h'.get? b = some x) → P a g → Q a { s with heap := h', drawn := d, toks := tk }) → wpAny (model prog w) A t Q E s) : Ev prog w K A t g P :=
  fun F s Q E r k => h F s Q E r fun a h' d tk kp p => k a g h' d tk p (r.keeps kp)
/-- raw rules that make one object -/
theorem Ev.made {t : Sem Value} {o : Obj} {P : Value → Led → Prop} (ho : o.isFreed = false) (h : ∀ F (s : Shared) Q E, Rep K g F s.heap → (∀ d tk, Q (.ref s.heap.objs.size) { s with heap := s.heap.push o, drawn := d, toks := tk }) → wpAny (model prog w) A t Q E s)
    (p : ∀ a, g a = none → P (.ref a) (g.put a o)) : Ev prog w K A t g P :=
  fun F s Q E r k => h F s Q E r fun d tk => k _ _ _ d tk (p _ r.free.1) (r.push ho)

-- ints
section
variable {a b : Int} {t u : Tok}
theorem Ev.add {P : Value → Led → Prop} (h : ∀ t, P (.int (a + b) t) g) : Ev prog w K A (binaryOp .Add (.int a t) (.int b u)) g P := .tok fun s Q E k => add_int (k _ s.drawn _ (h _))
theorem Ev.subI {P : Value → Led → Prop} (h : ∀ t, P (.int (a - b) t) g) : Ev prog w K A (binaryOp .Sub (.int a t) (.int b u)) g P := .tok fun s Q E k => sub_int (k _ s.drawn _ (h _))
theorem Ev.mulI {P : Value → Led → Prop} (hm : IntMulOk a b) (h : ∀ t, P (.int (a * b) t) g) : Ev prog w K A (binaryOp .Mult (.int a t) (.int b u)) g P := .tok fun s Q E k => mul_int (k _ s.drawn _ (h _)) (hm := hm)
theorem Ev.modI {P : Value → Led → Prop} (hb : 0 < b) (h : ∀ t, P (.int (a % b) t) g) : Ev prog w K A (binaryOp .Mod (.int a t) (.int b u)) g P := .tok fun s Q E k => mod_int' (by lia) (by rw [Int.fmod_eq_emod_of_nonneg a (by lia)]; exact k _ s.drawn _ (h _))
theorem Ev.eqI {P : Value → Led → Prop} (h : P (.bool (a == b)) g) : Ev prog w K A (compareOp .Eq (.int a t) (.int b u)) g P := .tok fun s Q E k => eq_int (k _ s.drawn s.toks h)
theorem Ev.neI {P : Value → Led → Prop} (h : P (.bool (a != b)) g) : Ev prog w K A (compareOp .NotEq (.int a t) (.int b u)) g P := .tok fun s Q E k => ne_int (k _ s.drawn s.toks h)
theorem Ev.ltI {P : Value → Led → Prop} (h : P (.bool (decide (a < b))) g) : Ev prog w K A (compareOp .Lt (.int a t) (.int b u)) g P := .tok fun s Q E k => lt_int (k _ s.drawn s.toks h)
theorem Ev.leI {P : Value → Led → Prop} (h : P (.bool (decide (a ≤ b))) g) : Ev prog w K A (compareOp .LtE (.int a t) (.int b u)) g P := .tok fun s Q E k => le_int (k _ s.drawn s.toks h)
theorem Ev.gtI {P : Value → Led → Prop} (h : P (.bool (decide (a > b))) g) : Ev prog w K A (compareOp .Gt (.int a t) (.int b u)) g P := .tok fun s Q E k => gt_int (k _ s.drawn s.toks h)
theorem Ev.geI {P : Value → Led → Prop} (h : P (.bool (decide (a ≥ b))) g) : Ev prog w K A (compareOp .GtE (.int a t) (.int b u)) g P := .tok fun s Q E k => ge_int (k _ s.drawn s.toks h)
theorem Ev.max2 {P : Value → Led → Prop} (hh : A.handled = none) (h : ∀ t, P (.int (max a b) t) g) : Ev prog w K A (PySem.call (.builtin "max") [.int a t, .int b u] []) g P :=
  .beside fun F s Q E r k => max_two_ints hh fun h' tk kp => by
    split
    · rename_i q; exact k _ h' s.drawn tk kp (by have := h u; rwa [show max a b = b by lia] at this)
    · rename_i q; exact k _ h' s.drawn tk kp (by have := h t; rwa [show max a b = a by lia] at this)
theorem Ev.min2 {P : Value → Led → Prop} (hh : A.handled = none) (h : ∀ t, P (.int (min a b) t) g) : Ev prog w K A (PySem.call (.builtin "min") [.int a t, .int b u] []) g P :=
  .beside fun F s Q E r k => min_two_ints hh fun h' tk kp => by
    split
    · rename_i q; exact k _ h' s.drawn tk kp (by have := h u; rwa [show min a b = b by lia] at this)
    · rename_i q; exact k _ h' s.drawn tk kp (by have := h t; rwa [show min a b = a by lia] at this)
theorem Ev.eqNI {P : Value → Led → Prop} (h : P (.bool false) g) : Ev prog w K A (compareOp .Eq .none (.int a t)) g P := .tok fun s Q E k => PySem.EqNone.eq_none_int (k _ s.drawn s.toks h)
end

-- tuples and lists: making, reading
noncomputable abbrev kTup (P : Value → Vars → Led → Prop) : List Value → Vars → Led → Prop := fun xs vs g => xs.length ≤ sizeLine ∧ ∀ a, g a = none → P (.ref a) vs (g.put a (tupV xs 0))
noncomputable abbrev kLst (P : Value → Vars → Led → Prop) : List Value → Vars → Led → Prop := fun xs vs g => xs.length ≤ sizeLine ∧ ∀ a, g a = none → P (.ref a) vs (g.put a (lstV xs 0))
theorem EvF.tuple {elts : List Expr} {k : Nat} {pos : Pos} {P : Value → Vars → Led → Prop}
    (h : EvF prog w K A L vs (spliced (backTo pos (starEach elts env))) g (kTup P)) : EvF prog w K A L vs (eval (.Tuple elts k pos) env) g P := by
  rw [arm_eval_Tuple]
  exact .bind (.standAt (.bind (h.mono fun xs vs' g' p => .of (.made rfl (fun F s Q E r k => wpAny_newTuple (k s.drawn s.toks) p.1) p.2))))
theorem EvF.list {elts : List Expr} {pos : Pos} {P : Value → Vars → Led → Prop}
    (h : EvF prog w K A L vs (spliced (backTo pos (starEach elts env))) g (kLst P)) : EvF prog w K A L vs (eval (.List elts pos) env) g P := by
  rw [arm_eval_List]
  exact .bind (.standAt (.bind (h.mono fun xs vs' g' p => .of (.made rfl (fun F s Q E r k => wpAny_newList (k s.drawn s.toks) p.1) p.2))))
theorem Ev.tupAt {a : Addr} {xs : List Value} {i : Int} {t : Tok} {x : Value} {P : Value → Led → Prop} (ha : At g a (TupO xs)) (n : Nat) (hi : i = n) (hx : xs[n]? = some x) (hn : n < 2 ^ 62) (h : P x g) : Ev prog w K A (getItem (.ref a) (.int i t)) g P := by
  subst hi
  refine .look fun F s Q E r k => PyProof.Rows.getItem_tuple (ha.tup r) (by lia) (by lia) (j := n) ?_ (by simpa using hx) (k _ s.drawn s.toks h)
  have : n < xs.length := by
    rcases Nat.lt_or_ge n xs.length with l | l
    · exact l
    · rw [List.getElem?_eq_none l] at hx; cases hx
  unfold seqIndex?; simp; lia
theorem Ev.lstAt {a : Addr} {xs : List Value} {i : Int} {t : Tok} {x : Value} {P : Value → Led → Prop} (ha : At g a (LstO xs)) (n : Nat) (hi : i = n) (hx : xs[n]? = some x) (hn : n < 2 ^ 62) (h : P x g) : Ev prog w K A (getItem (.ref a) (.int i t)) g P := by
  subst hi
  exact .look fun F s Q E r k => wpAny_getItem_list (ha.lst r) (by lia) (by lia) (by simpa using hx) (k _ s.drawn s.toks h)
theorem Ev.lstLast {a : Addr} {xs : List Value} {t : Tok} {x : Value} {P : Value → Led → Prop} (ha : At g a (LstO xs)) (hx : xs.getLast? = some x) (h : P x g) : Ev prog w K A (getItem (.ref a) (.int (-1) t)) g P := by
  have hne : 0 < xs.length := by cases xs <;> simp_all
  refine .look fun F s Q E r k => wpAny_getItem_list_neg (ha.lst r) (by lia) (by simp; lia) (by lia) ?_ (k _ s.drawn s.toks h)
  rw [List.getLast?_eq_getElem?] at hx
  have : (-1 + (xs.toArray.size : Int)).toNat = xs.length - 1 := by simp; lia
  rw [this]; simpa using hx

-- unpacking of a tuple
theorem Ev.items {a : Addr} {xs : List Value} {n : Nat} {P : List Value → Led → Prop} (hh : A.handled = none) (ha : At g a (TupO xs)) (hn : n = xs.length) (h : P xs g) : Ev prog w K A (unpackItems (.ref a) n none) g P := by
  subst hn
  refine .beside fun F s Q E r k => ?_
  have := wpAny_unpackItems_tuple (prog := prog) (w := w) (A := A) (E := E) (s := s) (items := xs.toArray) (t := a) (Q := Q) hh (ha.tup r) fun h' e => k xs h' s.drawn s.toks (fun b x y => (e b x (Nat.ne_of_lt (Heap.lt_size y)) y)) h
  simpa using this
theorem EvF.unpack {elts : List Expr} {k : Nat} {pos : Pos} {a : Addr} {xs : List Value} {P : Unit → Vars → Led → Prop} (hh : A.handled = none) (ha : At g a (TupO xs)) (hn : (assignEach elts env).length = xs.length) (hs : (assignEach elts env).findIdx? (·.1) = none)
    (h : EvF prog w K A L vs (assignInOrder ((assignEach elts env).map (·.2)) xs) g P) : EvF prog w K A L vs (assign (.Tuple elts k pos) env (.ref a)) g P := by
  show EvF prog w K A L vs (PySem.standAt pos >>= fun _ => PySem.unpack (.ref a) (assignEach elts env)) g P
  refine .bind (.standAt ?_)
  unfold PySem.unpack
  rw [hs]
  exact .bind (.holding (.of (.items hh ha hn h)))
theorem EvF.order0 {P : Unit → Vars → Led → Prop} (h : P () vs g) : EvF prog w K A L vs (assignInOrder [] []) g P := .pure h
noncomputable abbrev kOrd (prog : Program) (w : World) (K : Frag) (A : Around) (L : Addr) (ts : List (Value → Sem Unit)) (xs : List Value) (P : Unit → Vars → Led → Prop) : Unit → Vars → Led → Prop := fun _ vs g => EvF prog w K A L vs (assignInOrder ts xs) g P
theorem EvF.order1 {t : Value → Sem Unit} {ts : List (Value → Sem Unit)} {x : Value} {xs : List Value} {P : Unit → Vars → Led → Prop}
    (h : EvF prog w K A L vs (t x) g (kOrd prog w K A L ts xs P)) : EvF prog w K A L vs (assignInOrder (t :: ts) (x :: xs)) g P :=
  .bind (.holding h)
end Mine
namespace Mine
variable {prog : Program} {w : World} {K : Frag} {A : Around} {α β : Type} {L : Addr} {vs : Vars} {g : Led} {env : Env}
/-- n calls deep there is room -/
structure Ok (A : Around) (n : Nat) : Prop where
  h : A.handled = none
  d : A.depth + n < recursionLimit
  u : A.units + 4 * n + 12 < cLine
theorem Ok.deeper {n : Nat} {env : Env} (x : Ok A (n + 1)) : Ok (A.deeper env) n := ⟨x.h, by show A.depth + 1 + n < _; have := x.d; lia, by show A.units + 3 + 4 * n + 12 < _; have := x.u; lia⟩
theorem Ok.le {n m : Nat} (x : Ok A n) (h : m ≤ n) : Ok A m := ⟨x.h, by have := x.d; lia, by have := x.u; lia⟩
theorem Ok.cl {n c : Nat} (x : Ok A n) (h : c ≤ 12 := by decide) : A.units + c < cLine := by have := x.u; lia
theorem EvC.defV {f : Addr} {fd : FuncData} {oc : Value} {od : Option Addr} {osl : Array (Option Value)} {s0 : Stmt} {srest : List Stmt} {xs : List Value} {P : Value → Led → Prop} {n : Nat} (ok : Ok A (n + 1)) (binds : List (Str × Value)) (names : List Str) (vs : Vars)
    (hf : K.lookup f = some ⟨oc, od, .func fd, osl⟩)
    (h : ∀ L g₁ A', Ok A' n → g L = none → Ext g g₁ → (∀ n c, (cellsIn fd L).lookup n = some c → g c = none ∧ At g₁ c (CellO (bindC (callEnvC fd L f).kindOf binds (fun _ => none) n))) →
      EvF prog w K A' L vs (execs (s0 :: srest) (callEnvC fd L f)) g₁ (fun fl _ g' => P (match fl with | .ret v => v | _ => .none) g'))
    (hcd : codeIn K fd.code fd.qualname = true := by rfl) (hbody : fd.body = .stmts (s0 :: srest) := by rfl)
    (hbind : bindArgs fd ⟨xs, []⟩ = Pure.pure binds := by rfl) (hclo : fd.closure = [] := by rfl)
    (hkind : (binds.all fun y => fd.scope.names.lookup y.1 == some .local || fd.scope.names.lookup y.1 == some .cell) = true := by rfl)
    (hnames : (binds.all fun y => fd.scope.names.lookup y.1 == some .cell || names.contains y.1) = true := by rfl) (hnd : names.Nodup := by decide)
    (hvs : (names.map fun n => (n, bindL (callEnvC fd 0 f).kindOf binds (fun _ => none) n)) = vs := by rfl)
    (hco : fd.scope.isCoroutine = false := by rfl) (hgen : fd.scope.isGenerator = false := by rfl) (hk : fd.scope.kind = .function := by rfl) :
    EvC prog w K A (.call (.ref f) ⟨xs, []⟩) g P := by
  subst hvs
  exact EvC.def (by have := ok.d; lia) hf hcd hbody hbind hclo hkind hnames hnd (fun L g₁ h1 h2 h3 => h L g₁ _ ok.deeper h1 h2 h3) hco hgen hk
theorem Ev.defV {f : Addr} {fd : FuncData} {oc : Value} {od : Option Addr} {osl : Array (Option Value)} {s0 : Stmt} {srest : List Stmt} {xs : List Value} {P : Value → Led → Prop} {n : Nat} (ok : Ok A (n + 1)) (binds : List (Str × Value)) (names : List Str) (vs : Vars)
    (hf : K.lookup f = some ⟨oc, od, .func fd, osl⟩)
    (h : ∀ L g₁ A', Ok A' n → g L = none → Ext g g₁ → (∀ n c, (cellsIn fd L).lookup n = some c → g c = none ∧ At g₁ c (CellO (bindC (callEnvC fd L f).kindOf binds (fun _ => none) n))) →
      EvF prog w K A' L vs (execs (s0 :: srest) (callEnvC fd L f)) g₁ (fun fl _ g' => P (match fl with | .ret v => v | _ => .none) g'))
    (hcd : codeIn K fd.code fd.qualname = true := by rfl) (hbody : fd.body = .stmts (s0 :: srest) := by rfl)
    (hbind : bindArgs fd ⟨xs, []⟩ = Pure.pure binds := by rfl) (hclo : fd.closure = [] := by rfl)
    (hkind : (binds.all fun y => fd.scope.names.lookup y.1 == some .local || fd.scope.names.lookup y.1 == some .cell) = true := by rfl)
    (hnames : (binds.all fun y => fd.scope.names.lookup y.1 == some .cell || names.contains y.1) = true := by rfl) (hnd : names.Nodup := by decide)
    (hvs : (names.map fun n => (n, bindL (callEnvC fd 0 f).kindOf binds (fun _ => none) n)) = vs := by rfl)
    (hco : fd.scope.isCoroutine = false := by rfl) (hgen : fd.scope.isGenerator = false := by rfl) (hk : fd.scope.kind = .function := by rfl) :
    Ev prog w K A (PySem.call (.ref f) xs []) g P := by
  exact (EvC.defV ok binds names vs hf h hcd hbody hbind hclo hkind hnames hnd hvs hco hgen hk).ev
end Mine

namespace Mine
theorem bv_max : bootBuiltins "max" = some (.builtin "max") := by kernel_rfl
theorem bv_min : bootBuiltins "min" = some (.builtin "min") := by kernel_rfl
theorem bv_len : bootBuiltins "len" = some (.builtin "len") := by kernel_rfl
theorem bv_sorted : bootBuiltins "sorted" = some (.builtin "sorted") := by kernel_rfl
theorem bv_range : bootBuiltins "range" = some (.type "range") := by kernel_rfl
theorem bv_tuple : bootBuiltins "tuple" = some (.type "tuple") := by kernel_rfl
theorem bv_list : bootBuiltins "list" = some (.type "list") := by kernel_rfl
theorem bv_set : bootBuiltins "set" = some (.type "set") := by kernel_rfl
theorem bv_int : bootBuiltins "int" = some (.type "int") := by kernel_rfl
theorem bv_enumerate : bootBuiltins "enumerate" = some (.type "enumerate") := by kernel_rfl
theorem bv_super : bootBuiltins "super" = some (.type "super") := by kernel_rfl
section
variable {prog : Program} {w : World} {K : Frag} {A : Around} {L : Addr} {vs : Vars} {g : Led} {a b : Int} {t u : Tok} {P : Value → Vars → Led → Prop}
theorem EvF.addI (h : ∀ t, P (.int (a + b) t) vs g) : EvF prog w K A L vs (binaryOp .Add (.int a t) (.int b u)) g P := .of (.add h)
theorem EvF.subI (h : ∀ t, P (.int (a - b) t) vs g) : EvF prog w K A L vs (binaryOp .Sub (.int a t) (.int b u)) g P := .of (.subI h)
theorem EvF.eqI (h : P (.bool (a == b)) vs g) : EvF prog w K A L vs (compareOp .Eq (.int a t) (.int b u)) g P := .of (.eqI h)
theorem EvF.neI (h : P (.bool (a != b)) vs g) : EvF prog w K A L vs (compareOp .NotEq (.int a t) (.int b u)) g P := .of (.neI h)
theorem EvF.ltI (h : P (.bool (decide (a < b))) vs g) : EvF prog w K A L vs (compareOp .Lt (.int a t) (.int b u)) g P := .of (.ltI h)
theorem EvF.leI (h : P (.bool (decide (a ≤ b))) vs g) : EvF prog w K A L vs (compareOp .LtE (.int a t) (.int b u)) g P := .of (.leI h)
theorem EvF.gtI (h : P (.bool (decide (a > b))) vs g) : EvF prog w K A L vs (compareOp .Gt (.int a t) (.int b u)) g P := .of (.gtI h)
theorem EvF.geI (h : P (.bool (decide (a ≥ b))) vs g) : EvF prog w K A L vs (compareOp .GtE (.int a t) (.int b u)) g P := .of (.geI h)
theorem EvF.max2 (hh : A.handled = none) (h : ∀ t, P (.int (max a b) t) vs g) : EvF prog w K A L vs (PySem.call (.builtin "max") [.int a t, .int b u] []) g P := .of (.max2 hh h)
theorem EvF.min2 (hh : A.handled = none) (h : ∀ t, P (.int (min a b) t) vs g) : EvF prog w K A L vs (PySem.call (.builtin "min") [.int a t, .int b u] []) g P := .of (.min2 hh h)
end
end Mine
end SLg6

section SLg7
open PySem PySem.W PySem.Calls PyProof.Rows
set_option maxRecDepth 100000
namespace Mine
variable {prog : Program} {w : World} {K : Frag} {A : Around} {α β : Type} {L : Addr} {vs : Vars} {g : Led} {env : Env}

noncomputable def Led.del (g : Led) (a : Addr) : Led := fun b => if b = a then none else g b
theorem del_self (g : Led) (a : Addr) : g.del a a = none := if_pos rfl
theorem del_ne (g : Led) {a b : Addr} (h : b ≠ a) : g.del a b = g b := if_neg h
theorem del_ext (g : Led) (a : Addr) : Ext (g.del a) g := fun b o e => by
  by_cases q : b = a
  · subst q; rw [del_self] at e; cases e
  · rw [del_ne _ q] at e; exact e
theorem del_put (g : Led) (a : Addr) (o : Obj) (h : g a = none) : (g.put a o).del a = g := by
  funext b
  by_cases q : b = a
  · subst q; rw [del_self, h]
  · rw [del_ne _ q, put_ne _ _ q]
theorem put_put (g : Led) (a : Addr) (o o' : Obj) : (g.put a o).put a o' = g.put a o' := by
  funext b
  by_cases q : b = a
  · subst q; rw [put_self, put_self]
  · rw [put_ne _ _ q, put_ne _ _ q, put_ne _ _ q]
theorem put_del {g : Led} {a : Addr} {o : Obj} (h : g a = some o) : (g.del a).put a o = g := by
  funext b
  by_cases q : b = a
  · subst q; rw [put_self, h]
  · rw [put_ne _ _ q, del_ne _ q]
theorem Ext.del {g e : Led} {a : Addr} (x : Ext g e) (h : g a = none) : Ext g (e.del a) := fun b o y => by
  rw [del_ne _ (ne_of_none h y)]; exact x _ _ y

theorem Rep.out {F : Led} {h : Heap} (r : Rep K g F h) {a : Addr} {o : Obj} (e : g a = some o) : Rep K (g.del a) (F.put a o) h := by
  refine ⟨(r.sub (del_ext g a)).own, fun b x y => ?_, fun b x y => ?_, (r.sub (del_ext g a)).lowg, trivial, r.fx⟩
  · by_cases q : b = a
    · subst q; rw [put_self] at y; cases y; exact r.own _ _ e
    · rw [put_ne _ _ q] at y; exact r.fr _ _ y
  · by_cases q : b = a
    · subst q; rw [del_self] at y; cases y
    · rw [put_ne _ _ q]; rw [del_ne _ q] at y; exact r.dj _ _ y
theorem Rep.back {F : Led} {h : Heap} {a : Addr} {o : Obj} (r : Rep K g (F.put a o) h) (f : F a = none) (la : 386 ≤ a) : g a = none ∧ Rep K (g.put a o) F h := by
  have ga : g a = none := by
    cases q : g a with
    | none => rfl
    | some x => have := r.dj _ _ q; rw [put_self] at this; cases this
  refine ⟨ga, fun b x y => ?_, fun b x y => r.fr b x ?_, fun b x y => ?_, fun b x y => ?_, trivial, r.fx⟩
  · by_cases q : b = a
    · subst q; rw [put_self] at y; cases y; exact r.fr _ _ (put_self ..)
    · rw [put_ne _ _ q] at y; exact r.own _ _ y
  · rw [put_ne]; exact y
    exact ne_of_none f y
  · by_cases q : b = a
    · subst q; exact f
    · rw [put_ne _ _ q] at y; have := r.dj _ _ y; rwa [put_ne _ _ q] at this
  · by_cases q : b = a
    · subst q; exact la
    · rw [put_ne _ _ q] at y; exact r.lowg _ _ y
/-- one object is left aside -/
theorem EvF.aside {t : Sem α} {P : α → Vars → Led → Prop} (a : Addr) {o : Obj} (e : g a = some o) (h : EvF prog w K A L vs t (g.del a) fun x vs' g' => g' a = none → P x vs' (g'.put a o)) : EvF prog w K A L vs t g P := by
  intro F s Q E r f k
  have la : L ≠ a := (ne_of_none f.ng e).symm
  have fa : F a = none := r.dj _ _ e
  refine h _ s Q E (r.out e) ⟨f.ns, f.nd, by rw [del_ne _ la]; exact f.ng, by rw [put_ne _ _ la]; exact f.nf, f.low⟩ fun x vs' g' h' d tk p r' f' => ?_
  refine x01 (r'.back fa (r.lowg _ _ e)) fun ga r₂ => ?_
  exact k x vs' _ h' d tk (p ga) r₂ ⟨f'.ns, f'.nd, by rw [put_ne _ _ la]; exact f'.ng, f.nf, f'.low⟩

theorem Ev.append {D : Addr} {xs : List Value} {v : Value} {P : Value → Led → Prop} (ha : At g D (LstO xs)) (hsz : xs.length ≤ sizeLine) (h : ∀ n, P .none (g.put D (lstV (xs ++ [v]) n))) : Ev prog w K A (PySem.call (.builtin "list.append") [.ref D, v] []) g P := by
  intro F s Q E r k
  obtain ⟨o, ho, n, rfl⟩ := ha
  refine wpAny_list_append_plain (items := xs.toArray) ⟨n, r.own _ _ ho⟩ (fun h' ⟨m, e⟩ sb => ?_) (by simpa using hsz)
  refine k _ _ h' s.drawn s.toks (h m) (r.turn ho ?_ (fun b x nb y => (sb.2 b nb).trans y))
  rw [e]; simp
theorem EvF.emit {elt : Expr} {acc : Value} {P : Unit → Vars → Led → Prop}
    (h : EvF prog w K A L vs (eval elt env) g fun v vs' g' => ∃ D xs, acc = .ref D ∧ At g' D (LstO xs) ∧ xs.length ≤ sizeLine ∧ ∀ n, P () vs' (g'.put D (lstV (xs ++ [v]) n))) : EvF prog w K A L vs (emit elt acc env) g P := by
  show EvF prog w K A L vs (eval elt env >>= fun v => PySem.call (.builtin "list.append") [acc, v] [] >>= fun _ => Pure.pure ()) g P
  refine .bind (h.mono fun v vs' g' p => .bind ?_)
  refine x23 p fun D xs z41 hD hs q => ?_; clear p; subst z41
  exact .of (.append hD hs fun n => .pure (q n))
inductive All2 {α β : Type} (R : α → β → Prop) : List α → List β → Prop
  | nil : All2 R [] []
  | cons {a b as bs} : R a b → All2 R as bs → All2 R (a :: as) (b :: bs)
theorem All2.len {R : α → β → Prop} {a : List α} {b : List β} (h : All2 R a b) : a.length = b.length := by
  induction h with
  | nil => rfl
  | cons _ _ ih => exact congrArg (· + 1) ih
theorem All2.at {R : α → β → Prop} {a : List α} {b : List β} {k : Nat} {y : β} (h : All2 R a b) : b[k]? = some y → ∃ x, a[k]? = some x ∧ R x y := by
  induction h generalizing k with
  | nil => exact fun e => nomatch e
  | cons r _ ih =>
    cases k with
    | zero => exact fun e => ⟨_, rfl, Option.some.inj e ▸ r⟩
    | succ k => exact ih
theorem All2.at' {R : α → β → Prop} {a : List α} {b : List β} {k : Nat} {x : α} (h : All2 R a b) : a[k]? = some x → ∃ y, b[k]? = some y ∧ R x y := by
  induction h generalizing k with
  | nil => exact fun e => nomatch e
  | cons r _ ih =>
    cases k with
    | zero => exact fun e => ⟨_, rfl, Option.some.inj e ▸ r⟩
    | succ k => exact ih
theorem All2.mono {R R' : α → β → Prop} (m : ∀ a b, R a b → R' a b) {a : List α} {b : List β} (h : All2 R a b) : All2 R' a b := by
  induction h with
  | nil => exact .nil
  | cons r _ ih => exact .cons (m _ _ r) ih
theorem All2.app {R : α → β → Prop} {a a' : List α} {b b' : List β} (h : All2 R a b) (h' : All2 R a' b') : All2 R (a ++ a') (b ++ b') := by
  induction h with
  | nil => exact h'
  | cons r _ ih => exact .cons r ih
theorem All2.snoc {R : α → β → Prop} {a : List α} {b : List β} {x : α} {y : β} (h : All2 R a b) (r : R x y) : All2 R (a ++ [x]) (b ++ [y]) := h.app (.cons r .nil)
theorem All2.taken {R : α → β → Prop} {a : List α} {b : List β} (n : Nat) (h : All2 R a b) : All2 R (a.take n) (b.take n) := by
  induction h generalizing n with
  | nil => cases n <;> exact .nil
  | cons r _ ih =>
    cases n with
    | zero => exact .nil
    | succ n => exact .cons r (ih n)
theorem All2.dropped {R : α → β → Prop} {a : List α} {b : List β} (n : Nat) (h : All2 R a b) : All2 R (a.drop n) (b.drop n) := by
  induction h generalizing n with
  | nil => cases n <;> exact .nil
  | cons r h ih =>
    cases n with
    | zero => exact .cons r h
    | succ n => exact ih n
theorem All2.setted {R : α → β → Prop} {x : α} {y : β} {a : List α} {b : List β} (i : Nat) (h : All2 R a b) (q : R x y) : All2 R (a.set i x) (b.set i y) := by
  induction h generalizing i with
  | nil => exact .nil
  | cons r h ih =>
    cases i with
    | zero => exact .cons q h
    | succ i => exact .cons r (ih i)

/-- one turn of a list that is built item by item -/
theorem stepL {γ : Type} {elt : Expr} {ifs : List Expr} {a : Sem Unit} {out : Nat → List γ} {R : Led → γ → Value → Prop} {J : Nat → Vars → Led → Prop} {T : Led → Led → Prop} {D : Addr} {k mD : Nat} {xs : List Value} {e : Led} (hoD : g D = some (lstV xs mD)) (ha : All2 (R e) (out k) xs) (hlen : (out k).length ≤ sizeLine) (tr : ∀ e e' b v, T e e' → R e b v → R e' b v)
    (h : EvF prog w K A L vs (a >>= fun _ => tests ifs env) (g.del D) fun okk vs' e' =>
        if okk then EvF prog w K A L vs' (eval elt env) e' fun v vs'' e'' => J (k + 1) vs'' e'' ∧ T e e'' ∧ ∃ b, out (k + 1) = out k ++ [b] ∧ R e'' b v else J (k + 1) vs' e' ∧ T e e' ∧ out (k + 1) = out k) :
    EvF prog w K A L vs (a >>= fun _ => tests ifs env >>= fun ok => if ok = true then Mine.emit elt (.ref D) env else Pure.pure ()) g fun _ vs' g' => ∃ xs, At g' D (LstO xs) ∧ All2 (R (g'.del D)) (out (k + 1)) xs ∧ J (k + 1) vs' (g'.del D) := by
  refine .eq (LawfulMonad.bind_assoc a (fun _ => tests ifs env) _).symm (.bind (EvF.aside D hoD (h.mono fun okk vs' e' q nD => ?_)))
  cases okk with
  | false =>
    refine x02 q fun j' t' o' => ?_; clear q
    refine .pure ⟨xs, ⟨_, put_self .., _, rfl⟩, ?_, ?_⟩
    · rw [del_put _ _ _ nD, o']; exact ha.mono fun _ _ r => tr _ _ _ _ t' r
    · rw [del_put _ _ _ nD]; exact j'
  | true =>
    refine EvF.emit (EvF.aside D (put_self ..) ?_)
    rw [del_put _ _ _ nD]
    refine EvF.mono q fun v' vs'' e'' q' nD' => ?_
    refine x02 q' fun j' t' z81 => ?_; clear q'; refine x11 z81 fun b o' rb => ?_; clear z81
    refine ⟨D, xs, rfl, ⟨_, put_self .., _, rfl⟩, by rw [← ha.len]; exact hlen, fun m => ?_⟩
    rw [put_put]
    refine ⟨xs ++ [v'], ⟨_, put_self .., _, rfl⟩, ?_, ?_⟩
    · rw [del_put _ _ _ nD', o']; exact (ha.mono fun _ _ r => tr _ _ _ _ t' r).snoc rb
    · rw [del_put _ _ _ nD']; exact j'
inductive LIn (prog : Program) (w : World) (K : Frag) (A : Around) (cenv : Env) (target elt : Expr) (ifs : List Expr) (names : List Str) {γ : Type} (n : Nat) (Pv : Nat → Value → Prop) (cs : List Addr) (out : Nat → List γ) (R : Led → γ → Value → Prop) (Z : Addr → Vars → Led → Prop) (vs' : Vars) (g' : Led) (C : Addr) (e : Led) : Prop
  | mk (J : Nat → Vars → Led → Prop) (T : Led → Led → Prop) (j0 : J 0 (names.map fun n => (n, none)) e) (jc : ∀ k vs e', J k vs e' → ∀ b ∈ cs, ∀ o, g' b = some o → e' b = some o) (tr : ∀ e e' b v, T e e' → R e b v → R e' b v)
    (turn : ∀ k v vs e, k < n → Pv k v → J k vs e → EvF prog w K A C vs (assign target cenv v >>= fun _ => tests ifs cenv) e fun okk vs' e' =>
        if okk then EvF prog w K A C vs' (eval elt cenv) e' fun v vs'' e'' => J (k + 1) vs'' e'' ∧ T e e'' ∧ ∃ b, out (k + 1) = out k ++ [b] ∧ R e'' b v else J (k + 1) vs' e' ∧ T e e' ∧ out (k + 1) = out k)
    (done : ∀ vs e xs D m, J n vs e → e D = none → All2 (R e) (out n) xs → Z D vs' (e.put D (lstV xs m))) : LIn prog w K A cenv target elt ifs names n Pv cs out R Z vs' g' C e
inductive LSpec (prog : Program) (w : World) (K : Frag) (A : Around) (env : Env) (target elt : Expr) (ifs : List Expr) (scope : Scope) (cl : List (Str × Addr)) (names : List Str) (γ : Type) (Z : Addr → Vars → Led → Prop) (x : Value) (vs' : Vars) (g' : Led) : Prop
  | mk (n : Nat) (Pv : Nat → Value → Prop) (cs : List Addr) (out : Nat → List γ) (R : Led → γ → Value → Prop) (S : Src g' x n Pv cs) (o0 : out 0 = []) (hlen : ∀ k, (out k).length ≤ sizeLine) (p : ∀ C e, Ext g' e →
      (∀ m c, (cellsFrom (C + 1) scope.names []).lookup m = some c → g' c = none ∧ At e c (CellO none)) → LIn prog w K A (cenvOf scope cl C env) target elt ifs names n Pv cs out R Z vs' g' C e) : LSpec prog w K A env target elt ifs scope cl names γ Z x vs' g'
theorem LSpec.mono {env : Env} {target elt : Expr} {ifs : List Expr} {scope : Scope} {cl : List (Str × Addr)} {names : List Str} {γ : Type} {Z Z' : Addr → Vars → Led → Prop} {x : Value} {vs' : Vars} {g' : Led} (m : ∀ D vs g, Z D vs g → Z' D vs g) : LSpec prog w K A env target elt ifs scope cl names γ Z x vs' g' → LSpec prog w K A env target elt ifs scope cl names γ Z' x vs' g'
  := fun z => by
  cases z with | mk n Pv cs out R S o0 hlen p =>
  refine .mk n Pv cs out R S o0 hlen fun C e x y => ?_
  cases p C e x y with | mk J T j0 jc tr turn done => exact .mk J T j0 jc tr turn fun vs e xs D m' j nD ha => m _ _ _ (done vs e xs D m' j nD ha)
/-- a list built item by item: one clause -/
theorem EvF.compLG {γ : Type} {elt : Expr} {scope : Scope} {pos p0 : Pos} {target iter : Expr} {ifs : List Expr} {cl : List (Str × Addr)} {use : Option (Value → Sem Unit)} {n₀ : Nat} {P : Value → Vars → Led → Prop} {names : List Str} (ok : Ok A n₀)
    (h : EvF prog w K A L vs (eval iter env) g (LSpec prog w K A env target elt ifs scope cl names γ (DoneT prog w K A L use P)))
    (hclos : closureFor scope env = Pure.pure cl) (hnd : names.Nodup) (hkind : scope.kind = .function) (hnames : ∀ x ∈ scope.names, x.2 = .local → scope.names.lookup x.1 = some .local)
    (hs : ∀ x, foldedSetIterable iter env x = Pure.pure x) :
    EvF prog w K A L vs (comprehension (.ListComp elt [⟨target, iter, ifs, 0⟩] scope pos) scope env p0 (newList []) false (eval iter env) use) g P := by
  refine EvF.compG (gens := []) (inner := fun env acc => Mine.emit elt acc env) ok.h (fun _ _ _ => level1 ..) (h.mono fun x vs' g' p => ?_) hclos hnd hkind hnames hs
  obtain ⟨n, Pv, cs, out, R, S, o0, hlen, p⟩ := p
  refine ⟨n, Pv, cs, S, fun D C g₁ hD e hL hc => ?_⟩
  obtain ⟨J, T, j0, jc, tr, turn, done⟩ := p C (g₁.del D) (e.del hD) fun m c q => ⟨(hc m c q).1, by
    obtain ⟨o, ho, hd⟩ := (hc m c q).2.2
    exact ⟨o, by rw [del_ne _ (hc m c q).2.1]; exact ho, hd⟩⟩
  refine ⟨fun k vs g => ∃ xs, At g D (LstO xs) ∧ All2 (R (g.del D)) (out k) xs ∧ J k vs (g.del D), ⟨[], hL, o0 ▸ .nil, j0⟩, fun k vs g i b m o ho => ?_, fun k vs g v hk hv i => ?_, fun vs g i => ?_⟩
  · refine x12 i fun xs _ _ j => ?_; clear i
    exact del_ext _ _ _ _ (jc _ _ _ j b m o ho)
  · refine x12 i fun xs z161 ha j => ?_; clear i; obtain ⟨oD, hoD, mD, rfl⟩ := z161
    exact stepL hoD ha (hlen k) tr (turn k v vs _ hk hv j)
  · refine x12 i fun xs z181 ha j => ?_; clear i; obtain ⟨oD, hoD, mD, rfl⟩ := z181
    have := done vs _ xs D mD j (del_self ..) ha
    rwa [put_del hoD] at this
theorem EvF.compL {γ : Type} {elt : Expr} {scope : Scope} {pos : Pos} {target iter : Expr} {ifs : List Expr} {cl : List (Str × Addr)} {n₀ : Nat} {P : Value → Vars → Led → Prop} (names : List Str) (ok : Ok A n₀)
    (h : EvF prog w K A L vs (eval iter env) g (LSpec prog w K A env target elt ifs scope cl names γ fun D => P (.ref D)))
    (hclos : closureFor scope env = Pure.pure cl := by rfl) (hnd : names.Nodup := by decide) (hkind : scope.kind = .function := by rfl) (hnames : ∀ x ∈ scope.names, x.2 = .local → scope.names.lookup x.1 = some .local := by decide)
    (hs : ∀ x, foldedSetIterable iter env x = Pure.pure x := by intro _; rfl) :
    EvF prog w K A L vs (eval (.ListComp elt [⟨target, iter, ifs, 0⟩] scope pos) env) g P :=
  EvF.compLG (use := none) ok h hclos hnd hkind hnames hs
theorem EvF.compLTo {γ : Type} {y : Str} {py spos : Pos} {elt : Expr} {scope : Scope} {pos : Pos} {target iter : Expr} {ifs : List Expr} {cl : List (Str × Addr)} {n₀ : Nat} {P : Flow → Vars → Led → Prop} (names : List Str) (ok : Ok A n₀)
    (h : EvF prog w K A L vs (eval iter env) g (LSpec prog w K A env target elt ifs scope cl names γ fun D vs g => ∃ vs'', SetV y (.ref D) vs vs'' ∧ P .next vs'' g))
    (hclos : closureFor scope env = Pure.pure cl := by rfl) (hnd : names.Nodup := by decide) (hkind : scope.kind = .function := by rfl) (hnames : ∀ x ∈ scope.names, x.2 = .local → scope.names.lookup x.1 = some .local := by decide)
    (hs : ∀ x, foldedSetIterable iter env x = Pure.pure x := by intro _; rfl)
    (hsw : swapsWith (.ListComp elt [⟨target, iter, ifs, 0⟩] scope pos) (some (.Name y py)) spos.line env = Pure.pure true := by rfl)
    (hk : env.scope.kind = .function := by rfl) (hl : env.kindOf y = some .local := by rfl) (hEL : env.locals = L := by rfl) :
    EvF prog w K A L vs (exec (.Assign [.Name y py] (.ListComp elt [⟨target, iter, ifs, 0⟩] scope pos) spos) env) g P :=
  EvF.compToG (EvF.compLG (use := some (assign (.Name y py) env)) ok (h.mono fun _ _ _ p => p.mono fun _ _ _ ⟨_, hset, q⟩ => DoneT.to hset q hk hl hEL) hclos hnd hkind hnames hs) hsw
end Mine
end SLg7

section SLg8
open PySem PySem.W PySem.Calls PyProof.Rows PySem.SeqAt
set_option maxRecDepth 100000
namespace Mine
variable {prog : Program} {w : World} {K : Frag} {A : Around} {α β : Type} {L : Addr} {vs : Vars} {g : Led} {env : Env}

-- what stands for what
noncomputable def IsI (i : Int) (v : Value) : Prop := ∃ t, v = .int i t
noncomputable def IsIS : Led → Int ⊕ Str → Value → Prop
  | _, .inl i, v => IsI i v
  | _, .inr x, v => ∃ t, v = .str x t
inductive Tp (R : Led → α → Value → Prop) (g : Led) (ps : List α) (v : Value) : Prop
  | mk (a : Addr) (xs : List Value) (e : v = .ref a) (h : At g a (TupO xs)) (r : All2 (R g) ps xs) : Tp R g ps v
inductive Ls (R : Led → α → Value → Prop) (g : Led) (ps : List α) (v : Value) : Prop
  | mk (a : Addr) (xs : List Value) (e : v = .ref a) (h : At g a (LstO xs)) (r : All2 (R g) ps xs) : Ls R g ps v
/-- all tuples stay -/
noncomputable def Kp (g g' : Led) : Prop := ∀ a o, g a = some o → (∃ xs, TupO xs o) → g' a = some o
theorem Ext.kp {g g' : Led} (e : Ext g g') : Kp g g' := fun a o h _ => e a o h
theorem Kp.refl (g : Led) : Kp g g := fun _ _ h _ => h
theorem Kp.trans {a b c : Led} (x : Kp a b) (y : Kp b c) : Kp a c := fun p o h q => y _ _ (x _ _ h q) q
theorem Kp.put {g : Led} {a : Addr} {o o' : Obj} (h : g a = some o) (n : ∀ xs, ¬ TupO xs o) : Kp g (g.put a o') := fun b x e q => by
  rw [put_ne]; exact e
  rintro rfl; rw [h] at e; cases e; exact q.elim n
theorem At.tkp {g g' : Led} {a : Addr} {xs : List Value} (x : At g a (TupO xs)) (k : Kp g g') : At g' a (TupO xs) := let ⟨o, ho, n, e⟩ := x; ⟨o, k _ _ ho ⟨xs, n, e⟩, n, e⟩
noncomputable def Stays (R : Led → α → Value → Prop) : Prop := ∀ (g g' : Led) (p : α) (v : Value), Kp g g' → R g p v → R g' p v
theorem Stays.go {R : Led → α → Value → Prop} (s : Stays R) {g g' : Led} {p : α} {v : Value} (x : R g p v) (e : Ext g g') : R g' p v := s g g' p v e.kp x
theorem Stays.kp {R : Led → α → Value → Prop} (s : Stays R) {g g' : Led} {p : α} {v : Value} (x : R g p v) (e : Kp g g') : R g' p v := s g g' p v e x
noncomputable def Func (R : Led → α → Value → Prop) : Prop := ∀ (g : Led) (p q : α) (v : Value), R g p v → R g q v → p = q
theorem Stays.is : Stays IsIS := fun g g' p v _ x => by cases p <;> exact x
theorem Stays.tup {R : Led → α → Value → Prop} (s : Stays R) : Stays (Tp R) := fun g g' p v e x => let ⟨a, xs, h1, h2, h3⟩ := x; ⟨a, xs, h1, h2.tkp e, h3.mono fun p v r => s g g' p v e r⟩
theorem Stays.all {R : Led → α → Value → Prop} (s : Stays R) {g g' : Led} {ps : List α} {xs : List Value} (x : All2 (R g) ps xs) (e : Kp g g') : All2 (R g') ps xs := x.mono fun p v r => s g g' p v e r
theorem Func.int : Func (fun _ => IsI) := fun _ p q v ⟨_, x⟩ ⟨_, y⟩ => by subst x; cases y; rfl
theorem Func.is : Func IsIS := fun g p q v x y => by
  cases p <;> cases q <;> (refine x10 x ?_; clear x; intro _ x) <;> (refine x10 y ?_; clear y; intro _ y) <;> subst x <;> cases y <;> rfl
theorem All2.func {R : α → β → Prop} (f : ∀ p q v, R p v → R q v → p = q) {ps qs : List α} {vs : List β} (h : All2 R ps vs) (h' : All2 R qs vs) : ps = qs := by
  induction h generalizing qs with
  | nil => cases h'; rfl
  | cons r _ ih => cases h' with | cons r' h' => rw [f _ _ _ r r', ih h']
theorem Func.tup {R : Led → α → Value → Prop} (f : Func R) : Func (Tp R) := fun g p q v ⟨a, xs, h1, h2, h3⟩ ⟨b, ys, k1, k2, k3⟩ => by
  rw [h1] at k1; cases k1
  obtain ⟨o, ho, n, rfl⟩ := h2
  obtain ⟨o', ho', n', e⟩ := k2
  rw [ho] at ho'; cases ho'
  have : xs = ys := by simpa [tupV] using congrArg (fun o : Obj => match o.data with | .seq x _ => x.toList | _ => []) e
  subst this
  exact h3.func (fun p q v => f g p q v) k3
theorem Func.lst {R : Led → α → Value → Prop} (f : Func R) : Func (Ls R) := fun g p q v ⟨a, xs, h1, h2, h3⟩ ⟨b, ys, k1, k2, k3⟩ => by
  rw [h1] at k1; cases k1
  obtain ⟨o, ho, n, rfl⟩ := h2
  obtain ⟨o', ho', n', e⟩ := k2
  rw [ho] at ho'; cases ho'
  have : xs = ys := by simpa [lstV] using congrArg (fun o : Obj => match o.data with | .seq x _ => x.toList | _ => []) e
  subst this
  exact h3.func (fun p q v => f g p q v) k3

noncomputable def EqOn [DecidableEq α] (n : Nat) (R : Led → α → Value → Prop) : Prop :=
  ∀ (g : Led) (p q : α) (x y : Value), R g p x → R g q y → ∀ (K : Frag) (F : Led) (s : Shared) (A : Around), Rep K g F s.heap → A.units + n < cLine → EqAt A s x y (decide (p = q))
theorem EqAt.cast {A : Around} {s : Shared} {x y : Value} {b c : Bool} (h : EqAt A s x y b) (e : b = c) : EqAt A s x y c := e ▸ h
theorem EqOn.int : EqOn 0 (fun _ => IsI) := fun g p q x y ⟨t, hx⟩ ⟨u, hy⟩ K F s A r n => by
  subst hx; subst hy
  exact EqAt.cast (EqAt.int_int p t q u) (by rw [Bool.eq_iff_iff]; simp)
theorem EqOn.is : EqOn 0 IsIS := fun g p q x y hx hy K F s A r u => by
  cases p <;> cases q <;> (refine x10 hx fun _ z121 => ?_; clear hx; subst z121) <;> (refine x10 hy fun _ z141 => ?_; clear hy; subst z141)
  · exact EqAt.cast (EqAt.int_int _ _ _ _) (by rw [Bool.eq_iff_iff]; simp)
  · exact EqAt.cast (EqAt.int_str _ _ _ _) (by rw [Bool.eq_iff_iff]; simp)
  · exact EqAt.cast (EqAt.str_int _ _ _ _) (by rw [Bool.eq_iff_iff]; simp)
  · exact EqAt.cast (EqAt.str_str _ _ _ _) (by rw [Bool.eq_iff_iff]; simp)
theorem EqOn.via [DecidableEq α] [DecidableEq β] {n : Nat} {R : Led → α → Value → Prop} (h : EqOn n R) (f : β → α) (inj : ∀ a b, f a = f b → a = b) : EqOn n (fun g b => R g (f b)) := fun g p q x y hx hy K F s A r u =>
  EqAt.cast (h g _ _ x y hx hy K F s A r u) (decide_eq_decide.mpr ⟨inj _ _, congrArg f⟩)
theorem all_range [DecidableEq α] {ps qs : List α} : ((List.range (min ps.length qs.length)).all (fun j => decide (ps[j]? = qs[j]?)) && ps.length == qs.length) = decide (ps = qs) := by
  rw [Bool.eq_iff_iff]
  simp only [Bool.and_eq_true, List.all_eq_true, List.mem_range, decide_eq_true_eq, beq_iff_eq]
  constructor
  · rintro ⟨h, e⟩
    refine List.ext_getElem? fun j => ?_
    rcases Nat.lt_or_ge j ps.length with l | l
    · exact h j (by lia)
    · rw [List.getElem?_eq_none l, List.getElem?_eq_none (by lia)]
  · rintro rfl; exact ⟨fun _ _ => rfl, rfl⟩
theorem All2.nth {R : α → β → Prop} {a : List α} {b : List β} {k : Nat} (h : All2 R a b) (l : k < b.length) : ∃ x, a[k]? = some x ∧ R x b[k] := h.at (List.getElem?_eq_getElem l)
theorem EqOn.each [DecidableEq α] {n : Nat} {R : Led → α → Value → Prop} (h : EqOn n R) {ps qs : List α} {xs ys : List Value} (hx : All2 (R g) ps xs) (hy : All2 (R g) qs ys) {F} {s : Shared} (r : Rep K g F s.heap) (u : A.units + n < cLine) :
    ∀ j (h1 : j < xs.toArray.size) (h2 : j < ys.toArray.size), EqAt A s xs.toArray[j] ys.toArray[j] (decide (ps[j]? = qs[j]?)) := fun j h1 h2 => by
  refine x11 (hx.nth (by simpa using h1)) fun p ep rp => ?_
  refine x11 (hy.nth (by simpa using h2)) fun q eq rq => ?_
  rw [ep, eq]
  exact EqAt.cast (h g _ _ _ _ rp rq _ _ _ _ r u) (decide_eq_decide.mpr ⟨congrArg some, Option.some.inj⟩)
theorem EqOn.tup [DecidableEq α] {n : Nat} {R : Led → α → Value → Prop} (h : EqOn n R) (f : Func R) : EqOn (n + 1) (Tp R) := fun g p q x y hx hy K F s A r u => by
  by_cases e : x = y
  · subst e
    rw [show decide (p = q) = true from decide_eq_true (f.tup _ _ _ _ hx hy)]
    exact EqAt.same _
  · obtain ⟨a, xs, rfl, hxs, ha⟩ := hx
    obtain ⟨b, ys, rfl, hys, hb⟩ := hy
    refine EqAt.of_refs (fun q => e (by rw [q])) ?_
    have := RcAt.tuples (A := A) (hxs.tup r) (hys.tup r) (by lia) (h.each ha hb r (by show A.units + 1 + n < _; lia))
    rw [← all_range, ha.len, hb.len]
    simpa using this
theorem EqOn.lst [DecidableEq α] {n : Nat} {R : Led → α → Value → Prop} (h : EqOn n R) (f : Func R) : EqOn (n + 1) (Ls R) := fun g p q x y hx hy K F s A r u => by
  by_cases e : x = y
  · subst e
    rw [show decide (p = q) = true from decide_eq_true (f.lst _ _ _ _ hx hy)]
    exact EqAt.same _
  · obtain ⟨a, xs, rfl, hxs, ha⟩ := hx
    obtain ⟨b, ys, rfl, hys, hb⟩ := hy
    refine EqAt.of_refs (fun q => e (by rw [q])) ?_
    rw [← all_range, ha.len, hb.len]
    by_cases l : xs.length = ys.length
    · have := RcAt.lists (A := A) (hxs.lst r) (hys.lst r) (by simpa using l) (by lia) (h.each ha hb r (by show A.units + 1 + n < _; lia))
      simpa [l] using this
    · have := RcAt.lists_lengths (A := A) (hxs.lst r) (hys.lst r) (by simpa using l) (by lia)
      have e2 : (xs.length == ys.length) = false := by simpa using l
      rw [e2, Bool.and_false]; exact this

section
variable {R : Led → α → Value → Prop} [DecidableEq α] {m : Nat} {ps qs : List α} {x y : Value} {P : Value → Led → Prop}
theorem Ev.eqTp (he : EqOn m R) (hx : Tp R g ps x) (hy : Tp R g qs y) (u : A.units + (m + 1) < cLine) (h : P (.bool (decide (ps = qs))) g) : Ev prog w K A (compareOp .Eq x y) g P := by
  obtain ⟨a, xs, rfl, hxs, ha⟩ := hx
  obtain ⟨b, ys, rfl, hys, hb⟩ := hy
  refine .look fun F s Q E r k => ?_
  refine RcAt.tuples (A := A) (hxs.tup r) (hys.tup r) (by lia) (he.each ha hb r (by show A.units + 1 + m < _; lia)) prog w E Q ?_
  rw [← all_range, ha.len, hb.len] at h
  simpa using k _ s.drawn s.toks h
theorem Ev.eqLs (he : EqOn m R) (hx : Ls R g ps x) (hy : Ls R g qs y) (u : A.units + (m + 1) < cLine) (h : P (.bool (decide (ps = qs))) g) : Ev prog w K A (compareOp .Eq x y) g P := by
  obtain ⟨a, xs, rfl, hxs, ha⟩ := hx
  obtain ⟨b, ys, rfl, hys, hb⟩ := hy
  refine .look fun F s Q E r k => ?_
  rw [← all_range, ha.len, hb.len] at h
  by_cases l : xs.length = ys.length
  · refine RcAt.lists (A := A) (hxs.lst r) (hys.lst r) (by simpa using l) (by lia) (he.each ha hb r (by show A.units + 1 + m < _; lia)) prog w E Q ?_
    have := k _ s.drawn s.toks h
    simpa [l] using this
  · refine RcAt.lists_lengths (A := A) (hxs.lst r) (hys.lst r) (by simpa using l) (by lia) prog w E Q ?_
    rw [show (xs.length == ys.length) = false by simpa using l, Bool.and_false] at h
    exact k _ s.drawn s.toks h
theorem Ev.neLs (he : EqOn m R) (hx : Ls R g ps x) (hy : Ls R g qs y) (u : A.units + (m + 1) < cLine) (h : P (.bool (!decide (ps = qs))) g) : Ev prog w K A (compareOp .NotEq x y) g P := by
  obtain ⟨a, xs, rfl, hxs, ha⟩ := hx
  obtain ⟨b, ys, rfl, hys, hb⟩ := hy
  refine .look fun F s Q E r k => ?_
  rw [← all_range, ha.len, hb.len] at h
  by_cases l : xs.length = ys.length
  · refine RcNeAt.lists (A := A) (hxs.lst r) (hys.lst r) (by simpa using l) (by lia) (he.each ha hb r (by show A.units + 1 + m < _; lia)) prog w E Q ?_
    have := k _ s.drawn s.toks h
    simpa [l] using this
  · refine RcNeAt.lists_lengths (A := A) (hxs.lst r) (hys.lst r) (by simpa using l) (by lia) prog w E Q ?_
    rw [show (xs.length == ys.length) = false by simpa using l, Bool.and_false] at h
    exact k _ s.drawn s.toks h
theorem All2.anyOf {R : α → Value → Prop} {p : α} {e : Value → Bool} {ps : List α} {xs : List Value} (h : All2 R ps xs) (he : ∀ q y, R q y → e y = decide (q = p)) : xs.any e = decide (p ∈ ps) := by
  induction h with
  | nil => exact (decide_eq_false (fun z => nomatch z)).symm
  | cons r _ ih =>
    rw [List.any_cons, ih, he _ _ r, Bool.eq_iff_iff]
    simp only [Bool.or_eq_true, decide_eq_true_eq, List.mem_cons]
    exact ⟨fun z => z.imp Eq.symm id, fun z => z.imp Eq.symm id⟩
open Classical in
theorem Ev.inLs {p : α} (he : EqOn m R) (f : Func R) (hx : Ls R g ps y) (hp : R g p x) (u : A.units + (m + 1) < cLine) (b : Bool) (hb : b = true ↔ p ∈ ps) (h : P (.bool (b)) g) : Ev prog w K A (compareOp .In x y) g P := by
  obtain ⟨l, ys, rfl, hys, hl⟩ := hx
  refine .look fun F s Q E r k => ?_
  have hbd : b = decide (p ∈ ps) := by rw [Bool.eq_iff_iff, hb, decide_eq_true_iff]
  subst hbd
  have key : ∀ q v, R g q v → (if h : ∃ q, R g q v then decide (h.choose = p) else false) = decide (q = p) := fun q v rq => by
    have h : ∃ q, R g q v := ⟨q, rq⟩
    rw [dif_pos h, f _ _ _ _ h.choose_spec rq]
  refine in_listAt (fun v => if h : ∃ q, R g q v then decide (h.choose = p) else false) (hys.lst r) (fun v hv => ?_) ?_
  · refine x10 (List.getElem_of_mem (by simpa using hv : v ∈ ys)) fun j z461 => ?_; obtain ⟨hj, rfl⟩ := z461
    refine x11 (hl.nth hj) fun q _ rq => ?_
    exact EqAt.cast (he _ _ _ _ _ rq hp _ _ _ _ r (by show A.units + 1 + m < _; lia)) (key q _ rq).symm
  · rw [List.any_toArray, hl.anyOf key]
    exact k _ s.drawn s.toks h
open Classical in
theorem Ev.notInLs {p : α} (he : EqOn m R) (f : Func R) (hx : Ls R g ps y) (hp : R g p x) (u : A.units + (m + 1) < cLine) (b : Bool) (hb : b = true ↔ p ∈ ps) (h : P (.bool (!b)) g) : Ev prog w K A (compareOp .NotIn x y) g P := by
  obtain ⟨l, ys, rfl, hys, hl⟩ := hx
  refine .look fun F s Q E r k => ?_
  have hbd : b = decide (p ∈ ps) := by rw [Bool.eq_iff_iff, hb, decide_eq_true_iff]
  subst hbd
  have key : ∀ q v, R g q v → (if h : ∃ q, R g q v then decide (h.choose = p) else false) = decide (q = p) := fun q v rq => by
    have h : ∃ q, R g q v := ⟨q, rq⟩
    rw [dif_pos h, f _ _ _ _ h.choose_spec rq]
  refine notIn_listAt (fun v => if h : ∃ q, R g q v then decide (h.choose = p) else false) (hys.lst r) (fun v hv => ?_) ?_
  · refine x10 (List.getElem_of_mem (by simpa using hv : v ∈ ys)) fun j z521 => ?_; obtain ⟨hj, rfl⟩ := z521
    refine x11 (hl.nth hj) fun q _ rq => ?_
    exact EqAt.cast (he _ _ _ _ _ rq hp _ _ _ _ r (by show A.units + 1 + m < _; lia)) (key q _ rq).symm
  · rw [List.any_toArray, hl.anyOf key]
    exact k _ s.drawn s.toks h
end

theorem Ev.addTp {R : Led → α → Value → Prop} (st : Stays R) {ps qs : List α} {x y : Value} {P : Value → Led → Prop} (hx : Tp R g ps x) (hy : Tp R g qs y) (hl : ps.length + qs.length ≤ sizeLine)
    (h : ∀ c g', Ext g g' → Tp R g' (ps ++ qs) c → P c g') : Ev prog w K A (binaryOp .Add x y) g P := by
  obtain ⟨a, xs, rfl, hxs, ha⟩ := hx
  obtain ⟨b, ys, rfl, hys, hb⟩ := hy
  obtain ⟨oa, ga, na, rfl⟩ := hxs
  obtain ⟨ob, gb, nb, rfl⟩ := hys
  cases xs with
  | nil =>
    cases ha
    exact .look fun G s Q E r k => concat_meets ⟨_, r.own _ _ ga, rfl⟩ ⟨_, r.own _ _ gb, rfl⟩ noFill_tuple_add seq_tuple_add F.slot_tuple_add F.entry_tuple_add (F.args_tuple_add_2 _ _)
      (AutoSeq1.tuple___add___tuple_tuple_0 a _ na b _ nb rfl) ⟨r.own _ _ ga, r.own _ _ gb, k _ s.drawn s.toks (h _ g (Ext.refl _) ⟨b, ys, rfl, ⟨_, gb, _, rfl⟩, hb⟩)⟩
  | cons v xs =>
    cases ys with
    | nil =>
      cases hb
      rw [List.append_nil] at h
      exact .look fun G s Q E r k => concat_meets ⟨_, r.own _ _ ga, rfl⟩ ⟨_, r.own _ _ gb, rfl⟩ noFill_tuple_add seq_tuple_add F.slot_tuple_add F.entry_tuple_add (F.args_tuple_add_2 _ _)
        (AutoSeq1.tuple___add___tuple_tuple_1 a _ na b _ nb (by simp) rfl) ⟨r.own _ _ ga, r.own _ _ gb, k _ s.drawn s.toks (h _ g (Ext.refl _) ⟨a, _, rfl, ⟨_, ga, _, rfl⟩, ha⟩)⟩
    | cons v' ys =>
      refine .made (o := tupV ((v :: xs) ++ (v' :: ys)) 0) rfl (fun G s Q E r k => concat_meets ⟨_, r.own _ _ ga, rfl⟩ ⟨_, r.own _ _ gb, rfl⟩ noFill_tuple_add seq_tuple_add F.slot_tuple_add F.entry_tuple_add (F.args_tuple_add_2 _ _)
        (AutoSeq1.tuple___add___tuple_tuple_2 a _ na b _ nb (by simp) (by simp) (by rw [List.size_toArray, List.size_toArray, ← ha.len, ← hb.len]; exact hl)) ⟨r.own _ _ ga, r.own _ _ gb, by simpa using k s.drawn s.toks⟩) fun c hc => ?_
      have e : Ext g (g.put c (tupV ((v :: xs) ++ (v' :: ys)) 0)) := Ext.new _ hc
      exact h _ _ e ⟨c, _, rfl, ⟨_, put_self .., _, rfl⟩, (ha.mono fun _ _ z => st.go z e).app (hb.mono fun _ _ z => st.go z e)⟩
end Mine
end SLg8

section SLg9
open PySem PySem.W PySem.Calls PyProof.Rows PySem.SeqAt
set_option maxRecDepth 100000
namespace Mine
variable {prog : Program} {w : World} {K : Frag} {A : Around} {α β : Type} {L : Addr} {vs : Vars} {g : Led} {env : Env}

noncomputable def Pair (g : Led) (p : Int × Int) (v : Value) : Prop := Tp IsIS g [.inl p.1, .inl p.2] v
noncomputable def Dom : Led → List (Int × Int) → Value → Prop := Tp Pair
/-- a literal (x, "!=", k) -/
noncomputable def Lit (g : Led) (p : Int × Int) (v : Value) : Prop := Tp IsIS g [.inl p.1, .inr "!=", .inl p.2] v
theorem Pair.open {p : Int × Int} {v : Value} (h : Pair g p v) : ∃ a x y, v = .ref a ∧ At g a (TupO [x, y]) ∧ IsI p.1 x ∧ IsI p.2 y := by
  obtain ⟨a, xs, rfl, hx, h⟩ := h
  cases h with | cons r1 h => cases h with | cons r2 h => cases h; exact ⟨a, _, _, rfl, hx, r1, r2⟩
theorem Lit.open {p : Int × Int} {v : Value} (h : Lit g p v) : ∃ a x t y, v = .ref a ∧ At g a (TupO [x, .str "!=" t, y]) ∧ IsI p.1 x ∧ IsI p.2 y := by
  obtain ⟨a, xs, rfl, hx, h⟩ := h
  cases h with | cons r1 h => cases h with | cons r2 h => cases h with | cons r3 h => cases h; refine x10 r2 fun t z41 => ?_; clear r2; subst z41; exact ⟨a, _, t, _, rfl, hx, r1, r3⟩
theorem Pair.mk {a : Addr} {i j : Int} {t u : Tok} (h : At g a (TupO [.int i t, .int j u])) : Pair g (i, j) (.ref a) := ⟨a, _, rfl, h, .cons ⟨_, rfl⟩ (.cons ⟨_, rfl⟩ .nil)⟩
theorem Lit.mk {a : Addr} {i j : Int} {t u v : Tok} (h : At g a (TupO [.int i t, .str "!=" v, .int j u])) : Lit g (i, j) (.ref a) := ⟨a, _, rfl, h, .cons ⟨_, rfl⟩ (.cons ⟨_, rfl⟩ (.cons ⟨_, rfl⟩ .nil))⟩
theorem Stays.pair : Stays Pair := fun g g' p v e x => (Stays.tup Stays.is) _ _ _ _ e x
theorem Stays.lit : Stays Lit := fun g g' p v e x => (Stays.tup Stays.is) _ _ _ _ e x
theorem Stays.dom : Stays Dom := Stays.tup Stays.pair
theorem Func.pair : Func Pair := fun g p q v x y => by
  have := Func.tup Func.is _ _ _ _ x y
  injection this with h1 h2; injection h2 with h2 _; injection h1 with h1; injection h2 with h2
  exact Prod.ext h1 h2
theorem Func.lit : Func Lit := fun g p q v x y => by
  have := Func.tup Func.is _ _ _ _ x y
  injection this with h1 h2; injection h2 with _ h2; injection h2 with h2 _; injection h1 with h1; injection h2 with h2
  exact Prod.ext h1 h2
theorem Func.dom : Func Dom := Func.tup Func.pair
theorem EqOn.pair : EqOn 1 Pair := (EqOn.tup EqOn.is Func.is).via (fun p : Int × Int => ([.inl p.1, .inl p.2] : List (Int ⊕ Str))) fun a b h => by
  injection h with h1 h2; injection h2 with h2 _; injection h1 with h1; injection h2 with h2
  exact Prod.ext h1 h2
theorem EqOn.lit : EqOn 1 Lit := (EqOn.tup EqOn.is Func.is).via (fun p : Int × Int => ([.inl p.1, .inr "!=", .inl p.2] : List (Int ⊕ Str))) fun a b h => by
  injection h with h1 h2; injection h2 with _ h2; injection h2 with h2 _; injection h1 with h1; injection h2 with h2
  exact Prod.ext h1 h2
theorem EqOn.dom : EqOn 2 Dom := EqOn.tup EqOn.pair Func.pair

/-- the pure next_from -/
noncomputable def nextFrom : List (Int × Int) → Int → Option Int
  | [], _ => none
  | (lo, hi) :: d, v => if v ≤ hi then some (max lo v) else nextFrom d v
noncomputable def IsOpt (o : Option Int) (v : Value) : Prop := match o with | none => v = .none | some i => IsI i v
noncomputable def upTo (d : List (Int × Int)) (k : Int) : List (Int × Int) := (d.filter fun p => p.1 ≤ k).map fun p => (p.1, min p.2 k)
noncomputable def fromOn (d : List (Int × Int)) (k : Int) : List (Int × Int) := (d.filter fun p => p.2 ≥ k).map fun p => (max p.1 k, p.2)
noncomputable def without (d : List (Int × Int)) (v : Int) : List (Int × Int) := upTo d (v - 1) ++ fromOn d (v + 1)
noncomputable def saidOf (d : List (Int × Int)) (v : Int) : Int := if without d v = d then 1 else if without d v = [] then -1 else 0
theorem upTo_len (d : List (Int × Int)) (k : Int) : (upTo d k).length ≤ d.length := by unfold upTo; rw [List.length_map]; exact List.length_filter_le _ _
theorem fromOn_len (d : List (Int × Int)) (k : Int) : (fromOn d k).length ≤ d.length := by unfold fromOn; rw [List.length_map]; exact List.length_filter_le _ _
theorem take_succ_of {d : List α} {k : Nat} {p : α} (h : d[k]? = some p) : d.take (k + 1) = d.take k ++ [p] := by
  rw [List.take_add_one, h]; rfl

theorem Ev.tupleOf {l : Addr} {xs : List Value} {P : Value → Led → Prop} (hl : At g l (LstO xs)) (hsz : xs.length ≤ sizeLine) (h : ∀ a, g a = none → P (.ref a) (g.put a (tupV xs 0))) :
    Ev prog w K A (PySem.call (.type "tuple") [.ref l] []) g P := by
  intro F s Q E r k
  refine call_tuple_list (items := xs.toArray) (hl.lst r) (fun h' kp => ?_) (by simpa using hsz)
  have r' := r.keeps kp
  exact k _ _ _ s.drawn s.toks (h _ r'.free.1) (r'.push rfl)
theorem Ev.eqS {x y : Str} {t u : Tok} {b : Bool} {P : Value → Led → Prop} (e : (x == y) = b) (h : P (.bool b) g) : Ev prog w K A (compareOp .Eq (.str x t) (.str y u)) g P := .look fun F s Q E r k => RcAt.str_str x t y u prog w E Q (e ▸ k _ s.drawn s.toks (e ▸ h))
theorem EvF.negate {x : Expr} {pos : Pos} {P : Value → Vars → Led → Prop} (h : EvF prog w K A L vs (eval x env) g fun v vs' g' => ∃ i t, v = .int i t ∧ ∀ t', P (.int (-i) t') vs' g') : EvF prog w K A L vs (eval (.UnaryOp .USub x pos) env) g P := by
  rw [arm_eval_UnaryOp]
  refine .bind (h.mono fun v vs' g' p => .bind (.standAt (.holding ?_)))
  refine x21 p ?_; clear p; intro i t z61 p; subst z61
  exact .tok fun F s Q E r f q => neg_int (q _ s.drawn _ (p _))
theorem iteF {p q : Prop} (h : q) : if false = true then p else q := h
theorem iteT {p q : Prop} (h : p) : if true = true then p else q := h
theorem subTup {a : Addr} {xs : List Value} {i : Value} {P : Value → Vars → Led → Prop} (h : At g a (TupO xs)) (k : EvF prog w K A L vs (getItem (.ref a) i) g P) :
    ∃ T id b, Value.ref a = .ref b ∧ At g b (fun ob => ob.cls = .type T) ∧ typeLookup (.type T) "__getitem__" = Pure.pure (some (.builtin id)) ∧ EvF prog w K A L vs (getItem (.ref a) i) g P :=
  ⟨"tuple", _, a, rfl, let ⟨o, ho, n, e⟩ := h; ⟨o, ho, by rw [e]⟩, F.slot_tuple_getitem.lookup, k⟩
theorem subLst {a : Addr} {xs : List Value} {i : Value} {P : Value → Vars → Led → Prop} (h : At g a (LstO xs)) (k : EvF prog w K A L vs (getItem (.ref a) i) g P) :
    ∃ T id b, Value.ref a = .ref b ∧ At g b (fun ob => ob.cls = .type T) ∧ typeLookup (.type T) "__getitem__" = Pure.pure (some (.builtin id)) ∧ EvF prog w K A L vs (getItem (.ref a) i) g P :=
  ⟨"list", _, a, rfl, let ⟨o, ho, n, e⟩ := h; ⟨o, ho, by rw [e]⟩, F.slot_list_getitem.lookup, k⟩
end Mine
end SLg9

section SLg10
open PySem PySem.W PySem.Calls PyProof.Rows PySem.SeqAt
set_option maxRecDepth 100000
namespace Mine
variable {prog : Program} {w : World} {K : Frag} {A : Around} {α β : Type} {L : Addr} {vs : Vars} {g : Led} {env : Env}

/-- the dict of an instance: names and values, in order -/
noncomputable def EntOk (P : Params) (f : Str × Value) (e : DictEntry) : Prop := ∃ t, e.key = .str f.1 t ∧ e.val = f.2 ∧ e.hash = PyData.keyHash P f.1
noncomputable def NsO (P : Params) (fs : List (Str × Value)) (o : Obj) : Prop := ∃ es n, o = dictOf es n ∧ All2 (EntOk P) fs es
noncomputable def setF (name : Str) (v : Value) : List (Str × Value) → List (Str × Value)
  | [] => [(name, v)]
  | f :: r => if f.1 == name then (f.1, v) :: r else f :: setF name v r
theorem refKey_no {P : Params} {fs : List (Str × Value)} {es : List DictEntry} (h : All2 (EntOk P) fs es) : es.any (·.refKey) = false := by
  induction h with
  | nil => rfl
  | cons r _ ih =>
    refine x12 r fun t h _ _ => ?_
    rw [List.any_cons, ih, Bool.or_false]
    unfold DictEntry.refKey; rw [h]
theorem getL_of {P : Params} {name : Str} {fs : List (Str × Value)} {es : List DictEntry} (h : All2 (EntOk P) fs es) : getL name es = some (fs.lookup name) := by
  induction h with
  | nil => rfl
  | @cons f e fs es r q ih =>
    refine x12 r fun t h hv _ => ?_
    have no := refKey_no q
    unfold getL at ih ⊢
    rw [List.find?_cons, List.lookup_cons]
    have hk : e.key.isStr name = (f.1 == name) := by rw [h]; rfl
    rw [hk, show (name == f.1) = (f.1 == name) from BEq.comm]
    cases q : (f.1 == name) with
    | true => simp [hv]
    | false =>
      have hr : e.refKey = false := by unfold DictEntry.refKey; rw [h]
      simp only [List.any_cons, hr, Bool.false_or]
      simpa using ih
theorem putL_of {P : Params} {name : Str} {t : Tok} {v : Value} {fs : List (Str × Value)} {es : List DictEntry} (h : All2 (EntOk P) fs es) : All2 (EntOk P) (setF name v fs) (putL name (PyData.keyHash P name) (.str name t) v es) := by
  induction h with
  | nil => exact .cons ⟨t, rfl, rfl, rfl⟩ .nil
  | @cons f e fs es r q ih =>
    refine x12 r fun t' h hv hh => ?_
    unfold putL setF
    have hk : e.key.isStr name = (f.1 == name) := by rw [h]; rfl
    rw [hk]
    cases (f.1 == name) with
    | true => exact .cons ⟨t', h, rfl, hh⟩ q
    | false => exact .cons ⟨t', h, hv, hh⟩ ih
theorem setF_len (name : Str) (v : Value) : ∀ fs : List (Str × Value), (setF name v fs).length ≤ fs.length + 1
  | [] => Nat.le_refl _
  | f :: r => by
    unfold setF
    split
    · simp
    · have := setF_len name v r; simp; lia

noncomputable def InstO (C dx : Addr) (o : Obj) : Prop := o = instObj C dx
theorem inst_at {P : Params} {F : Led} {h : Heap} (r : Rep K g F h) {x C dx : Addr} {fs : List (Str × Value)} (hx : At g x (InstO C dx)) (hd : At g dx (NsO P fs)) : ∃ es n, InstAt h x (instObj C dx) C (some (dictOf es n)) ∧ All2 (EntOk P) fs es ∧ h.get? dx = some (dictOf es n) ∧ g dx = some (dictOf es n) := by
  obtain ⟨o, ho, rfl⟩ := hx
  obtain ⟨o', ho', es, n, rfl, ha⟩ := hd
  exact ⟨es, n, ⟨r.own _ _ ho, rfl, rfl, r.own _ _ ho'⟩, ha, r.own _ _ ho', ho'⟩

theorem Ev.getOwn {x C dx : Addr} {P₀ : Params} {fs : List (Str × Value)} {name : Str} {v : Value} {expr : Bool} {attr : Option Value} {P : Value → Led → Prop} (hx : At g x (InstO C dx)) (hd : At g dx (NsO P₀ fs)) (hl : fs.lookup name = some v)
    (ha : findIn K (.ref C) name = some attr) (hv : handedIn v = true) (h : P v g)
    (hg : plainGet K C name = true := by rfl) (hh : hasDictIn K C = true := by rfl) (hn : noGet K attr = true := by rfl) : Ev prog w K A (getAttr (.ref x) name expr) g P := by
  refine .look fun F s Q E r k => ?_
  refine x22 (inst_at r hx hd) fun es n I hes _ => ?_
  exact get_value r.fx.in I (plainGet_of hg).1 (findObj_own hh ha hn (by rw [lookIn_dict, getL_of hes, hl])) hv (k _ s.drawn _ h)
theorem Ev.method {x C dx f : Addr} {P₀ : Params} {fs : List (Str × Value)} {name : Str} {pl : Sem Bool} {P : Value × List Value → Led → Prop} (hx : At g x (InstO C dx)) (hd : At g dx (NsO P₀ fs)) (hl : fs.lookup name = none)
    (hf : findIn K (.ref C) name = some (some (.ref f))) (h : P (.ref f, [.ref x]) g) (hg : plainGet K C name = true := by rfl) (ht : isFn K (.ref f) = true := by rfl) : Ev prog w K A (getMethod (.ref x) name pl) g P := by
  refine .look fun F s Q E r k => ?_
  refine x22 (inst_at r hx hd) fun es n I hes _ => ?_
  exact method_fn r.fx.in I (plainGet_of hg).1 (plainGet_of hg).2 hf (beq_iff_eq.mp ht) (by show (lookIn name (dictOf es n)).map _ = _; rw [lookIn_dict, getL_of hes, hl]; rfl) (k _ s.drawn s.toks h)

theorem EvF.setOwn {x C dx : Addr} {fs : List (Str × Value)} {name : Str} {v : Value} {P : Unit → Vars → Led → Prop} (hx : At g x (InstO C dx)) (hd : At g dx (NsO w.params fs)) (hz : fs.length ≤ 900)
    (h : ∀ o, NsO w.params (setF name v fs) o → P () vs (g.put dx o))
    (hs : findIn K (.ref C) "__setattr__" = some (some (.builtin "object.__setattr__")) := by rfl) (hp : plainOver K C = true := by rfl) (ht : takerIn K C name = some none := by rfl) (hh : hasDictIn K C = true := by rfl) :
    EvF prog w K A L vs (setAttr (.ref x) name v) g P := by
  intro F s Q E r f k
  refine x23 (inst_at r hx hd) fun es n I hes hdx gdx => ?_
  have nL : dx ≠ L := ne_of_none f.ng gdx
  let e0 : Heap := { s.heap with objs := #[] }
  have e0n : ∀ b, e0.get? b = none := fun b => by simp [Heap.get?, e0]
  let pre : List (Addr × Obj) := (List.range s.heap.objs.size).filterMap fun b => if b = L ∨ b = dx then none else (s.heap.get? b).map fun o => (b, o)
  have pre1 : ∀ p ∈ pre, s.heap.get? p.1 = some p.2 ∧ p.1 ≠ L ∧ p.1 ≠ dx := fun p hp => by
    refine x11 (List.mem_filterMap.mp hp) fun b _ hb => ?_
    split at hb
    · cases hb
    · rename_i q
      refine x11 (Option.map_eq_some_iff.mp hb) fun o ho z121 => ?_; subst z121
      exact ⟨ho, fun z => q (.inl z), fun z => q (.inr z)⟩
  have pre2 : ∀ b o, s.heap.get? b = some o → b ≠ L → b ≠ dx → (b, o) ∈ pre := fun b o e n1 n2 =>
    List.mem_filterMap.mpr ⟨b, List.mem_range.mpr (Heap.lt_size e), by rw [if_neg (fun z => z.elim n1 n2), e]; rfl⟩
  have Fr0 : Fr e0 L s.heap (getv vs) := ⟨f.ns, fun b o e => (by rw [e0n] at e; cases e), Nat.zero_le _⟩
  have N0 : News e0 L s.heap (pre ++ (dx, dictOf es n) :: []) := fun p hp => by
    rcases List.mem_append.mp hp with hp | hp
    · exact ⟨(pre1 p hp).1, (pre1 p hp).2.1, e0n _⟩
    · rw [List.mem_singleton] at hp; subst hp; exact ⟨hdx, nL, e0n _⟩
  have hlen : (putL name (PyData.keyHash w.params name) (.str name (s.toks + 1)) v es).length ≤ 1000 := by
    rw [← (putL_of (name := name) (v := v) hes).len]; have := setF_len name v fs; lia
  refine set_plain r.fx.in I hs (osa_dict (s := { s with toks := s.toks + 1 }) Fr0 N0 r.fx.in I rfl hp ht hh (by rw [lookIn_dict, getL_of hes]; rfl) (fun p hp => (pre1 p hp).2.2) (fun _ hp => (nomatch hp)) (by rw [putName_dict]) rfl hlen fun h' F' N' => ?_)
  have kp : ∀ b o, b ≠ L → b ≠ dx → s.heap.get? b = some o → h'.get? b = some o := fun b o n1 n2 e => (N' (b, o) (List.mem_append_left _ (pre2 b o e n1 n2))).1
  have e' : h'.get? dx = some (dictOf (putL name (PyData.keyHash w.params name) (.str name (s.toks + 1)) v es) (putN name es n)) := (N' _ (List.mem_append_right _ (.head _))).1
  have la := r.lowg _ _ gdx
  refine k () vs (g.put dx (dictOf (putL name (PyData.keyHash w.params name) (.str name (s.toks + 1)) v es) (putN name es n))) h' s.drawn _ (h _ ⟨_, _, rfl, putL_of hes⟩) ⟨fun b o e => ?_, fun b o e => kp _ _ (ne_of_none f.nf e) (fun q => ?_) (r.fr _ _ e), fun b o e => ?_, fun b o e => ?_, r.lowf, r.fx.to fun b o l e => kp _ _ (fun q => ?_) (fun q => ?_) e⟩ ⟨F'.ns, f.nd, by rw [put_ne _ _ nL.symm]; exact f.ng, f.nf, f.low⟩
  · by_cases q : b = dx
    · subst q; rw [put_self] at e; cases e; exact e'
    · rw [put_ne _ _ q] at e; exact kp _ _ (ne_of_none f.ng e) q (r.own _ _ e)
  · subst q; rw [r.dj _ _ gdx] at e; cases e
  · by_cases q : b = dx
    · subst q; exact r.dj _ _ gdx
    · rw [put_ne _ _ q] at e; exact r.dj _ _ e
  · by_cases q : b = dx
    · subst q; exact la
    · rw [put_ne _ _ q] at e; exact r.lowg _ _ e
  · subst q; exact absurd l (Nat.not_lt.mpr f.low)
  · subst q; exact absurd l (Nat.not_lt.mpr la)

theorem under_ok {n : Nat} {C : Addr} {args : List Value} (ok : Ok A (n + 1)) : Ok (A.under (.builtin "type.__call__" ⟨.ref C :: args, []⟩)) n := by
  refine ⟨ok.h, ?_, ?_⟩
  · show A.depth + (Code.builtin "type.__call__" ⟨.ref C :: args, []⟩).weight + n < _
    have : (Code.builtin "type.__call__" ⟨.ref C :: args, []⟩).weight = 1 := by rfl
    have := ok.d; lia
  · show A.units + (Code.builtin "type.__call__" ⟨.ref C :: args, []⟩).cUnits + 4 * n + 12 < _
    have : (Code.builtin "type.__call__" ⟨.ref C :: args, []⟩).cUnits = 1 := by rfl
    have := ok.u; lia
/-- an instance is made -/
theorem Ev.make {C f : Addr} {args : List Value} {P : Value → Led → Prop} (hi : findIn K (.ref C) "__init__" = some (some (.ref f)))
    (h : ∀ x dx, g x = none → g dx = none → x ≠ dx → EvC prog w K (A.under (.builtin "type.__call__" ⟨.ref C :: args, []⟩)) (.call (.ref f) ⟨.ref x :: args, []⟩) ((g.put dx emptyDict).put x (instObj C dx)) fun v g' => v = .none ∧ P (.ref x) g')
    (hm : makesIn K C = true := by rfl) (hf : typeIn K (.ref f) = some (.type "function") := by rfl) : Ev prog w K A (PySem.call (.ref C) args []) g P := by
  intro F s Q E r k
  refine wpAny_call ?_
  obtain ⟨hh, gn, d, t, os⟩ := s
  refine x01 r.free fun n1 n2 => ?_
  have r1 : Rep K (g.put hh.objs.size emptyDict) F (hh.push emptyDict) := r.push rfl
  refine x01 r1.free fun n3 n4 => ?_
  rw [Heap.size_push] at n3 n4
  have r2 := r1.push (o := instObj C hh.objs.size) rfl
  rw [Heap.size_push] at r2
  have n5 : g (hh.objs.size + 1) = none := by rw [put_ne _ _ (Nat.succ_ne_self _)] at n3; exact n3
  refine make_core (makes_of r.fx.in hm) (looks_findIn r.fx.in hi) (fun self => bind_fn r.fx.in self hf) (.inl rfl) ?_
  exact h (hh.objs.size + 1) hh.objs.size n5 n1 (Nat.succ_ne_self _) F _ _ r2 fun v g' h' d tk p r' => ⟨p.1, k _ g' h' d tk p.2 r'⟩
end Mine
end SLg10

section SLg11
open PySem PySem.W PySem.Calls PyProof.Rows PySem.SeqAt
set_option maxRecDepth 100000
namespace Mine
variable {prog : Program} {w : World} {K : Frag} {A : Around} {α β : Type} {L : Addr} {vs : Vars} {g : Led} {env : Env}

theorem Ev.lenL {a : Addr} {xs : List Value} {P : Value → Led → Prop} (ha : At g a (LstO xs)) (hz : xs.length < 2 ^ 62) (h : ∀ t, P (.int xs.length t) g) : Ev prog w K A (PySem.call (.builtin "len") [.ref a] []) g P :=
  .look fun F s Q E r k => call_len_list (ha.lst r) (by simp; lia) (by simpa using k _ s.drawn _ (h _))
theorem Ev.lenT {a : Addr} {xs : List Value} {P : Value → Led → Prop} (ha : At g a (TupO xs)) (hz : xs.length < 2 ^ 62) (h : ∀ t, P (.int xs.length t) g) : Ev prog w K A (PySem.call (.builtin "len") [.ref a] []) g P := by
  obtain ⟨o, ho, n, rfl⟩ := ha
  exact .look fun F s Q E r k => PySem.P.len_tuple (n := n) (items := xs.toArray) (r.own _ _ ho) (by simp; lia) (by simpa using k _ s.drawn _ (h _))
/-- one known list is turned by a raw rule -/
theorem Ev.turnL {t : Sem α} {a : Addr} {xs ys : List Value} {P : α → Led → Prop} (ha : At g a (LstO xs)) (f : Array Value → Array Value) (hf : f xs.toArray = ys.toArray) (v : α)
    (h : ∀ n (s : Shared) Q E, s.heap.get? a = some (lstV xs n) → Q v { s with heap := s.heap.update a (Obj.mapSeq f) } → wpAny (model prog w) A t Q E s)
    (p : ∀ n, P v (g.put a (lstV ys n))) : Ev prog w K A t g P := by
  obtain ⟨o, ho, n, rfl⟩ := ha
  intro F s Q E r k
  have hg := r.own _ _ ho
  refine h n s Q E hg (k v _ _ s.drawn s.toks (p (if (f xs.toArray).size == xs.toArray.size then n else n + 1)) (r.turn ho ?_ fun b x nb y => Heap.get?_update_of_ne _ (Ne.symm nb) y))
  rw [Heap.get?_update_self _ hg rfl]
  show some (Obj.mapSeq f (lstV xs n)) = _
  rw [show Obj.mapSeq f (lstV xs n) = { cls := .type "list", data := .seq (f xs.toArray) (if (f xs.toArray).size == xs.toArray.size then n else n + 1) } from rfl, hf]
theorem Ev.popLast {a : Addr} {xs : List Value} {y : Value} {P : Value → Led → Prop} (ha : At g a (LstO xs)) (hy : xs.getLast? = some y) (hz : xs.length ≤ sizeLine) (p : ∀ n, P y (g.put a (lstV xs.dropLast n))) : Ev prog w K A (PySem.call (.builtin "list.pop") [.ref a] []) g P := by
  have hne : 0 < xs.length := by cases xs <;> simp_all
  refine .turnL ha (fun x => x.eraseIdxIfInBounds (xs.toArray.size - 1)) ?_ y (fun n s Q E hg k => call_meets F.slot_list_pop ⟨_, hg, rfl⟩ F.entry_list_pop (F.args_list_pop_1 _) (MeetsSeq.list_pop_last a xs.toArray n y (by rw [List.getLast?_eq_getElem?] at hy; simpa using hy) (by simpa using hz)) ⟨hg, k⟩) p
  simp [Array.eraseIdxIfInBounds]
  exact fun h => absurd h (by lia)
theorem Ev.setAt {a : Addr} {xs : List Value} {i : Int} {t : Tok} {v : Value} {P : Unit → Led → Prop} (ha : At g a (LstO xs)) (n : Nat) (hi : i = n) (hn : n < xs.length) (hz : n < 2 ^ 62) (p : ∀ m, P () (g.put a (lstV (xs.set n v) m))) : Ev prog w K A (setItem (.ref a) (.int i t) v) g P := by
  subst hi
  exact .turnL ha (fun x => x.setIfInBounds ((n : Int)).toNat v) (by simp) () (fun m s Q E hg k => ki_setAt (n := m) (items := xs.toArray) hg (by lia) (by lia) (by simpa using hn) k) p
theorem Ev.extend {a b : Addr} {xs ys : List Value} {P : Value → Led → Prop} (ha : At g a (LstO xs)) (hb : At g b (LstO ys)) (hz : xs.length + ys.length ≤ sizeLine) (p : ∀ n, P .none (g.put a (lstV (xs ++ ys) n))) : Ev prog w K A (PySem.call (.builtin "list.extend") [.ref a, .ref b] []) g P := by
  obtain ⟨ob, hob, nb, rfl⟩ := hb
  obtain ⟨o, ho, n, rfl⟩ := ha
  intro G s Q E r k
  have hg := r.own _ _ ho
  have hb := r.own _ _ hob
  have big : ¬ (!xs.toArray.isEmpty && Builtin.List.listTooLong (xs.toArray.size + ys.toArray.size)) = true := by
    have : Builtin.List.listTooLong (xs.toArray.size + ys.toArray.size) = false := by
      show decide (_ > sizeLine) = false
      simp only [List.size_toArray]
      exact decide_eq_false (by lia)
    rw [this, Bool.and_false]; exact Bool.false_ne_true
  refine call_meets F.slot_list_extend ⟨_, hg, rfl⟩ F.entry_list_extend (F.args_list_extend_2 _ _) (AutoSeq1.list_extend_list_list_0 a xs.toArray n b ys.toArray nb big (by simp only [List.size_toArray]; lia) (by simp only [List.size_toArray]; lia)) ⟨hg, hb, ?_⟩
  refine k _ _ _ s.drawn s.toks (p (if (xs.toArray ++ ys.toArray).size == xs.toArray.size then n else n + 1)) (r.turn ho ?_ fun b x nb y => Heap.get?_update_of_ne _ (Ne.symm nb) y)
  rw [Heap.get?_update_self _ hg rfl]
  show some (Obj.mapSeq _ (lstV xs n)) = _
  show some ({ cls := .type "list", data := .seq (xs.toArray ++ ys.toArray) (if (xs.toArray ++ ys.toArray).size == xs.toArray.size then n else n + 1) } : Obj) = _
  simp
theorem Ev.addL {a b : Addr} {xs ys : List Value} {P : Value → Led → Prop} (ha : At g a (LstO xs)) (hb : At g b (LstO ys)) (hz : xs.length + ys.length ≤ sizeLine) (p : ∀ c, g c = none → P (.ref c) (g.put c (lstV (xs ++ ys) 0))) : Ev prog w K A (binaryOp .Add (.ref a) (.ref b)) g P := by
  obtain ⟨ob, hob, nb, rfl⟩ := hb
  obtain ⟨o, ho, n, rfl⟩ := ha
  exact .made (o := lstV (xs ++ ys) 0) rfl (fun F s Q E r k => PySem.P.add_list (n := n) (n2 := nb) (items := xs.toArray) (items2 := ys.toArray) (r.own _ _ ho) (r.own _ _ hob) (by simpa using k s.drawn s.toks) (by simpa using hz)) p
theorem Ev.methL {a : Addr} {xs : List Value} {name : Str} {id : String} {pl : Sem Bool} {P : Value × List Value → Led → Prop} (ha : At g a (LstO xs)) (slot : Slot "list" name id) (hty : typeOf (.builtin id) = Pure.pure (.type "method_descriptor")) (h : P (.builtin id, [.ref a]) g) :
    Ev prog w K A (getMethod (.ref a) name pl) g P := by
  refine .look fun F s Q E r k => getMethod_list_of slot hty (ha.lst r) ?_ (k _ s.drawn s.toks h)
  obtain ⟨o, ho, n, rfl⟩ := ha
  exact ⟨_, r.own _ _ ho, rfl⟩
theorem Ev.listOfL {a : Addr} {xs : List Value} {P : Value → Led → Prop} (ha : At g a (LstO xs)) (hz : xs.length ≤ sizeLine) (p : ∀ c n, g c = none → P (.ref c) (g.put c (lstV xs n))) : Ev prog w K A (PySem.call (.type "list") [.ref a] []) g P := by
  obtain ⟨o, ho, n, rfl⟩ := ha
  intro F s Q E r k
  refine call_list_seq (items := xs.toArray) a (.inl rfl) (r.own _ _ ho) rfl rfl (fun h' c' kp e => ?_) (by simpa using hz)
  refine x01 r.free fun f1 f2 => ?_
  refine k _ _ h' s.drawn s.toks (p _ c' f1) ⟨fun b x y => ?_, fun b x y => kp _ _ (r.fr _ _ y), fun b x y => ?_, fun b x y => ?_, r.lowf, r.fx.to fun b x _ y => kp _ _ y⟩
  · by_cases q : b = s.heap.objs.size
    · subst q; rw [put_self] at y; cases y; exact e
    · rw [put_ne _ _ q] at y; exact kp _ _ (r.own _ _ y)
  · by_cases q : b = s.heap.objs.size
    · subst q; exact f2
    · rw [put_ne _ _ q] at y; exact r.dj _ _ y
  · by_cases q : b = s.heap.objs.size
    · subst q; exact r.fx.n
    · rw [put_ne _ _ q] at y; exact r.lowg _ _ y

-- dicts
section
variable {κ : Type} [DecidableEq κ] {knd : KeyKind prog w κ}
noncomputable def DicO (knd : KeyKind prog w κ) (kvs : List (κ × Value)) (o : Obj) : Prop := ∃ es ep, o.ExactDict ∧ o.data = .dict es ep ∧ KeysOf knd es ∧ Pairs knd es.toList kvs ∧ (kvs.map (·.1)).Nodup
theorem At.dic {F : Led} {h : Heap} {a : Addr} {kvs : List (κ × Value)} (x : At g a (DicO knd kvs)) (r : Rep K g F h) : h.DictOf knd a kvs := by
  cases x with | mk o ho p => exact x24 p fun es ep h1 h2 h3 h4 h5 => ⟨o, es, ep, r.own _ _ ho, h1, h2, h3, h4, h5⟩
theorem Ev.dicAt {d : Addr} {kvs : List (κ × Value)} {k : κ} {key v : Value} {P : Value → Led → Prop} (hd : At g d (DicO knd kvs)) (hk : knd.is k key = true) (hv : valueAt kvs k = some v) (h : P v g) : Ev prog w K A (getItem (.ref d) key) g P :=
  .look fun F s Q E r q => wpAny_getItem_of hk (hd.dic r).mapOf hv (q _ s.drawn _ h)
theorem Ev.dicSet {d : Addr} {kvs : List (κ × Value)} {k : κ} {key v : Value} {P : Unit → Led → Prop} (hd : At g d (DicO knd kvs)) (hk : knd.is k key = true) (hz : kvs.length ≤ sizeLine) (h : ∀ o, DicO knd (stored kvs k v) o → P () (g.put d o)) : Ev prog w K A (setItem (.ref d) key v) g P := by
  intro F s Q E r q
  obtain ⟨o₀, ho₀, _⟩ := id hd
  refine wpAny_setItem_pairs (hsz := hz) hk (hd.dic r) fun h' hm sb => ?_
  refine x35 hm fun o es ep ho h1 h2 h3 h4 h5 => ?_; clear hm
  exact q () _ h' s.drawn _ (h o ⟨es, ep, h1, h2, h3, h4, h5⟩) (r.turn ho₀ ho fun b x n y => (sb.2 b n).trans y)
theorem DicO.new : DicO knd [] { cls := .type "dict", data := .dict #[] } :=
  ⟨#[], 0, ⟨rfl, rfl, rfl⟩, rfl, (fun e he => by simp at he), .nil, List.nodup_nil⟩
end
theorem EvF.dic0 {pos : Pos} {P : Value → Vars → Led → Prop} (h : ∀ a, g a = none → P (.ref a) vs (g.put a { cls := .type "dict", data := .dict #[] })) : EvF prog w K A L vs (eval (.Dict [] [] pos) env) g P :=
  .of (.made rfl (fun F s Q E r k => wpAny_Dict_empty (k s.drawn s.toks)) h)
theorem subDic {κ : Type} [DecidableEq κ] {knd : KeyKind prog w κ} {a : Addr} {kvs : List (κ × Value)} {i : Value} {P : Value → Vars → Led → Prop} (h : At g a (DicO knd kvs)) (k : EvF prog w K A L vs (getItem (.ref a) i) g P) :
    ∃ T id b, Value.ref a = .ref b ∧ At g b (fun ob => ob.cls = .type T) ∧ typeLookup (.type T) "__getitem__" = Pure.pure (some (.builtin id)) ∧ EvF prog w K A L vs (getItem (.ref a) i) g P :=
  ⟨"dict", _, a, rfl, (by cases h with | mk o ho p => exact ⟨o, ho, x21 p fun _ _ e _ => e.1⟩), F.slot_dict_getitem.lookup, k⟩
end Mine
end SLg11

section SLg12
open PySem PySem.W PySem.Calls PyProof.Rows PySem.SeqAt
set_option maxRecDepth 100000
namespace Mine
variable {prog : Program} {w : World} {K : Frag} {A : Around} {α β : Type} {L : Addr} {vs : Vars} {g : Led} {env : Env}

theorem none_put {a b : Addr} {o : Obj} (h : (g.put a o) b = none) : b ≠ a ∧ g b = none := by
  by_cases q : b = a
  · subst q; rw [put_self] at h; cases h
  · exact ⟨q, by rw [put_ne _ _ q] at h; exact h⟩

/-- the pure store -/
structure St where
  doms : List (List (Int × Int))
  firsts : List (List (Int × Int))
  trail : List (Int × List (Int × Int))
  marks : List Int
  failed : Bool
  clash : List (Int × Int)
/-- where it lies -/
structure SR where
  (a dx aD aF aT aM nd : Addr)
  (ds fs ts ms : List Value)
  (sp cv : Value)
  kvs : List (Int × Value)
inductive TrE (g : Led) (p : Int × List (Int × Int)) (v : Value) : Prop
  | mk (a : Addr) (x o l r s : Value) (e : v = .ref a) (h : At g a (TupO [x, o, l, r, s])) (hx : IsI p.1 x) (hd : Dom g p.2 o) : TrE g p v
theorem Stays.tre : Stays TrE := fun g g' p v e ⟨a, x, o, l, r, s, h1, h2, h3, h4⟩ => ⟨a, x, o, l, r, s, h1, h2.tkp e, h3, Stays.dom.kp h4 e⟩
noncomputable def SR.fields (X : SR) (S : St) : List (Str × Value) := [("domains", .ref X.aD), ("firsts", .ref X.aF), ("trail", .ref X.aT), ("marks", .ref X.aM), ("news", .ref X.nd), ("speaker", X.sp), ("is_failed", .bool S.failed), ("clash", X.cv)]
noncomputable def SR.fp (X : SR) : List Addr := [X.dx, X.aD, X.aF, X.aT, X.aM, X.nd]
/-- all but the dict of the names -/
structure Parts (prog : Program) (w : World) (g : Led) (X : SR) (S : St) : Prop where
  i : At g X.a (InstO 244 X.dx)
  d : At g X.aD (LstO X.ds)
  f : At g X.aF (LstO X.fs)
  t : At g X.aT (LstO X.ts)
  m : At g X.aM (LstO X.ms)
  n : At g X.nd (DicO (intKind prog w) X.kvs)
  rd : All2 (Dom g) S.doms X.ds
  rf : All2 (Dom g) S.firsts X.fs
  rt : All2 (TrE g) S.trail X.ts
  rm : All2 IsI S.marks X.ms
  rc : Tp Lit g S.clash X.cv
  sep : X.fp.Nodup
structure StoreAt (prog : Program) (w : World) (g : Led) (X : SR) (S : St) : Prop extends Parts prog w g X S where
  x : At g X.dx (NsO w.params (X.fields S))
theorem lst_cls {xs : List Value} {o : Obj} (h : LstO xs o) : o.cls = .type "list" := by refine x10 h fun n z1 => ?_; clear h; subst z1; rfl
theorem ns_cls {P : Params} {fs : List (Str × Value)} {o : Obj} (h : NsO P fs o) : o.cls = .type "dict" := by refine x21 h fun es n z21 _ => ?_; clear h; subst z21; rfl
theorem Kp.lst {a : Addr} {xs : List Value} {o : Obj} (h : At g a (LstO xs)) : Kp g (g.put a o) := let ⟨o, ho, e⟩ := h; Kp.put ho (fun xs ⟨m, q⟩ => by have := lst_cls e; rw [q] at this; simp at this)
theorem Kp.ns {P : Params} {a : Addr} {fs : List (Str × Value)} {o : Obj} (h : At g a (NsO P fs)) : Kp g (g.put a o) := let ⟨o, ho, e⟩ := h; Kp.put ho (fun xs ⟨m, q⟩ => by have := ns_cls e; rw [q] at this; simp at this)
theorem Kp.dic {κ : Type} [DecidableEq κ] {knd : KeyKind prog w κ} {a : Addr} {kvs : List (κ × Value)} {o : Obj} (h : At g a (DicO knd kvs)) : Kp g (g.put a o) := by
  cases h with | mk o ho p => exact x21 p fun _ _ e _ => Kp.put ho (fun xs ⟨m, q⟩ => by have := e.1; rw [q] at this; simp at this)
theorem Stays.tplit : Stays (Tp Lit) := Stays.tup Stays.lit

theorem ne_lst_inst {a b C dx : Addr} {xs : List Value} (h : At g a (InstO C dx)) (k : At g b (LstO xs)) : a ≠ b := by
  rintro rfl
  obtain ⟨o, ho, rfl⟩ := h
  obtain ⟨o', ho', n, rfl⟩ := k
  rw [ho] at ho'; cases ho'
theorem ne_ns_inst {P : Params} {a b C dx : Addr} {fs : List (Str × Value)} (h : At g a (InstO C dx)) (k : At g b (NsO P fs)) : a ≠ b := by
  rintro rfl
  obtain ⟨o, ho, rfl⟩ := h
  obtain ⟨o', ho', es, n, rfl, _⟩ := k
  rw [ho] at ho'; cases ho'
theorem ne_dic_inst {κ : Type} [DecidableEq κ] {knd : KeyKind prog w κ} {a b C dx : Addr} {kvs : List (κ × Value)} (h : At g a (InstO C dx)) (k : At g b (DicO knd kvs)) : a ≠ b := by
  rintro rfl
  obtain ⟨o, ho, rfl⟩ := h
  obtain ⟨o', ho', es, ep, e, _⟩ := k
  rw [ho] at ho'; cases ho'
  have := e.1; cases this

theorem Parts.ext {g' : Led} {X : SR} {S : St} (h : Parts prog w g X S) (e : Ext g g') : Parts prog w g' X S :=
  ⟨h.i.ext e, h.d.ext e, h.f.ext e, h.t.ext e, h.m.ext e, h.n.ext e, Stays.dom.all h.rd e.kp, Stays.dom.all h.rf e.kp, Stays.tre.all h.rt e.kp, h.rm, Stays.tplit.go h.rc e, h.sep⟩
theorem StoreAt.ext {g' : Led} {X : SR} {S : St} (h : StoreAt prog w g X S) (e : Ext g g') : StoreAt prog w g' X S := ⟨h.toParts.ext e, h.x.ext e⟩
section
variable {X : SR} {S : St}
theorem StoreAt.nes (h : StoreAt prog w g X S) : X.a ≠ X.dx ∧ X.a ≠ X.aD ∧ X.a ≠ X.aF ∧ X.a ≠ X.aT ∧ X.a ≠ X.aM ∧ X.a ≠ X.nd :=
  ⟨ne_ns_inst h.i h.x, ne_lst_inst h.i h.d, ne_lst_inst h.i h.f, ne_lst_inst h.i h.t, ne_lst_inst h.i h.m, ne_dic_inst h.i h.n⟩
theorem sepD (h : X.fp.Nodup) : X.dx ≠ X.aD ∧ X.dx ≠ X.aF ∧ X.dx ≠ X.aT ∧ X.dx ≠ X.aM ∧ X.dx ≠ X.nd ∧ X.aD ≠ X.aF ∧ X.aD ≠ X.aT ∧ X.aD ≠ X.aM ∧ X.aD ≠ X.nd ∧ X.aF ≠ X.aT ∧ X.aF ≠ X.aM ∧ X.aF ≠ X.nd ∧ X.aT ≠ X.aM ∧ X.aT ≠ X.nd ∧ X.aM ≠ X.nd := by
  simp only [SR.fp, List.nodup_cons, List.mem_cons, List.not_mem_nil, or_false, not_or] at h
  simp_all
theorem StoreAt.putD (h : StoreAt prog w g X S) {doms : List (List (Int × Int))} {ds : List Value} (r : All2 (Dom g) doms ds) (n : Nat) : StoreAt prog w (g.put X.aD (lstV ds n)) { X with ds := ds } { S with doms := doms } := by
  refine x014 (sepD h.sep) fun s1 s2 s3 s4 s5 s6 s7 s8 s9 s10 s11 s12 s13 s14 s15 => ?_
  refine x05 h.nes fun i1 i2 i3 i4 i5 i6 => ?_
  have k : Kp g (g.put X.aD (lstV ds n)) := Kp.lst h.d
  exact ⟨⟨h.i.off i2, ⟨_, put_self .., n, rfl⟩, h.f.off s6.symm, h.t.off s7.symm, h.m.off s8.symm, h.n.off s9.symm, Stays.dom.all r k, Stays.dom.all h.rf k, Stays.tre.all h.rt k, h.rm, Stays.tplit.kp h.rc k, h.sep⟩, h.x.off s1⟩
theorem StoreAt.putF (h : StoreAt prog w g X S) {firsts : List (List (Int × Int))} {fs : List Value} (r : All2 (Dom g) firsts fs) (n : Nat) : StoreAt prog w (g.put X.aF (lstV fs n)) { X with fs := fs } { S with firsts := firsts } := by
  refine x014 (sepD h.sep) fun s1 s2 s3 s4 s5 s6 s7 s8 s9 s10 s11 s12 s13 s14 s15 => ?_
  refine x05 h.nes fun i1 i2 i3 i4 i5 i6 => ?_
  have k : Kp g (g.put X.aF (lstV fs n)) := Kp.lst h.f
  exact ⟨⟨h.i.off i3, h.d.off s6, ⟨_, put_self .., n, rfl⟩, h.t.off s10.symm, h.m.off s11.symm, h.n.off s12.symm, Stays.dom.all h.rd k, Stays.dom.all r k, Stays.tre.all h.rt k, h.rm, Stays.tplit.kp h.rc k, h.sep⟩, h.x.off s2⟩
theorem StoreAt.putT (h : StoreAt prog w g X S) {trail : List (Int × List (Int × Int))} {ts : List Value} (r : All2 (TrE g) trail ts) (n : Nat) : StoreAt prog w (g.put X.aT (lstV ts n)) { X with ts := ts } { S with trail := trail } := by
  refine x014 (sepD h.sep) fun s1 s2 s3 s4 s5 s6 s7 s8 s9 s10 s11 s12 s13 s14 s15 => ?_
  refine x05 h.nes fun i1 i2 i3 i4 i5 i6 => ?_
  have k : Kp g (g.put X.aT (lstV ts n)) := Kp.lst h.t
  exact ⟨⟨h.i.off i4, h.d.off s7, h.f.off s10, ⟨_, put_self .., n, rfl⟩, h.m.off s13.symm, h.n.off s14.symm, Stays.dom.all h.rd k, Stays.dom.all h.rf k, Stays.tre.all r k, h.rm, Stays.tplit.kp h.rc k, h.sep⟩, h.x.off s3⟩
theorem StoreAt.putM (h : StoreAt prog w g X S) {marks : List Int} {ms : List Value} (r : All2 IsI marks ms) (n : Nat) : StoreAt prog w (g.put X.aM (lstV ms n)) { X with ms := ms } { S with marks := marks } := by
  refine x014 (sepD h.sep) fun s1 s2 s3 s4 s5 s6 s7 s8 s9 s10 s11 s12 s13 s14 s15 => ?_
  refine x05 h.nes fun i1 i2 i3 i4 i5 i6 => ?_
  have k : Kp g (g.put X.aM (lstV ms n)) := Kp.lst h.m
  exact ⟨⟨h.i.off i5, h.d.off s8, h.f.off s11, h.t.off s13, ⟨_, put_self .., n, rfl⟩, h.n.off s15.symm, Stays.dom.all h.rd k, Stays.dom.all h.rf k, Stays.tre.all h.rt k, r, Stays.tplit.kp h.rc k, h.sep⟩, h.x.off s4⟩
theorem StoreAt.putN (h : StoreAt prog w g X S) {kvs : List (Int × Value)} {o : Obj} (r : DicO (intKind prog w) kvs o) : StoreAt prog w (g.put X.nd o) { X with kvs := kvs } S := by
  refine x014 (sepD h.sep) fun s1 s2 s3 s4 s5 s6 s7 s8 s9 s10 s11 s12 s13 s14 s15 => ?_
  refine x05 h.nes fun i1 i2 i3 i4 i5 i6 => ?_
  have k : Kp g (g.put X.nd o) := Kp.dic h.n
  exact ⟨⟨h.i.off i6, h.d.off s9, h.f.off s12, h.t.off s14, h.m.off s15, ⟨_, put_self .., r⟩, Stays.dom.all h.rd k, Stays.dom.all h.rf k, Stays.tre.all h.rt k, h.rm, Stays.tplit.kp h.rc k, h.sep⟩, h.x.off s5⟩
/-- the names are turned -/
theorem Parts.putX (h : Parts prog w g X S) {fs : List (Str × Value)} {o : Obj} (hx : At g X.dx (NsO w.params fs)) (r : NsO w.params (X.fields S) o) : StoreAt prog w (g.put X.dx o) X S := by
  refine x014 (sepD h.sep) fun s1 s2 s3 s4 s5 s6 s7 s8 s9 s10 s11 s12 s13 s14 s15 => ?_
  have k : Kp g (g.put X.dx o) := Kp.ns hx
  exact ⟨⟨h.i.off (ne_ns_inst h.i hx), h.d.off s1.symm, h.f.off s2.symm, h.t.off s3.symm, h.m.off s4.symm, h.n.off s5.symm, Stays.dom.all h.rd k, Stays.dom.all h.rf k, Stays.tre.all h.rt k, h.rm, Stays.tplit.kp h.rc k, h.sep⟩, ⟨_, put_self .., r⟩⟩
end

theorem Ev.tupleSame {a : Addr} {xs : List Value} {P : Value → Led → Prop} (ha : At g a (TupO xs)) (h : P (.ref a) g) : Ev prog w K A (PySem.call (.type "tuple") [.ref a] []) g P :=
  .look fun F s Q E r k => call_tuple_same (ha.tup r) (k _ s.drawn s.toks h)
theorem EvF.callApp {f a : Value} {xs : List Value} {P : Value → Vars → Led → Prop} (h : EvF prog w K A L vs (PySem.call f (a :: xs) []) g P) : EvF prog w K A L vs (PySem.call f ([a] ++ xs) []) g P := h
/-- what a step turns: fp alone, and fp' is of fp or new -/
structure Step (g g' : Led) (fp fp' : List Addr) : Prop where
  keep : ∀ b o, g b = some o → b ∉ fp → g' b = some o
  new : ∀ b ∈ fp', b ∈ fp ∨ g b = none
theorem Step.ext {g' : Led} {fp : List Addr} (e : Ext g g') : Step g g' fp fp := ⟨fun _ _ h _ => e _ _ h, fun _ h => .inl h⟩
theorem Step.trans {a b c : Led} {p q r : List Addr} (x : Step a b p q) (y : Step b c q r) : Step a c p r := by
  refine ⟨fun d o h n => ?_, fun d h => ?_⟩
  · have e := x.keep _ _ h n
    refine y.keep _ _ e fun m => ?_
    rcases x.new d m with m | m
    · exact n m
    · rw [h] at m; cases m
  · rcases y.new d h with m | m
    · exact x.new d m
    · by_cases q : d ∈ p
      · exact .inl q
      · refine .inr ?_
        cases e : a d with
        | none => rfl
        | some o => rw [x.keep _ _ e q] at m; cases m
theorem Step.put {fp : List Addr} {a : Addr} {o : Obj} (m : a ∈ fp) : Step g (g.put a o) fp fp := ⟨fun b x h n => by rw [put_ne]; exact h; rintro rfl; exact n m, fun _ h => .inl h⟩
/-- the store at X has become S', with at most c names of news -/
inductive Turned (prog : Program) (w : World) (g : Led) (X : SR) (g' : Led) (S' : St) (c : Nat) : Prop
  | mk (X' : SR) (h : StoreAt prog w g' X' S') (ha : X'.a = X.a) (st : Step g g' X.fp X'.fp) (hk : X'.kvs.length ≤ c) : Turned prog w g X g' S' c
end Mine
end SLg12

section SLg13
open PySem PySem.W PySem.Calls PyProof.Rows PySem.SeqAt
set_option maxRecDepth 100000
namespace Mine
variable {prog : Program} {w : World} {K : Frag} {A : Around} {α β : Type} {L : Addr} {vs : Vars} {g : Led} {env : Env}

theorem EvF.whileS {test : Expr} {body orelse : List Stmt} {pos : Pos} {P : Flow → Vars → Led → Prop} (Inv : Nat → Vars → Led → Prop) (n : Nat) (h0 : Inv n vs g)
    (turn : ∀ n vs g, Inv n vs g → EvF prog w K A L vs (isTrue test env (eval test env)) g fun b vs' g' => if b = true then EvF prog w K A L vs' (execs body env) g' fun fl vs'' g'' => match fl with
        | .next | .cont => ∃ m, m < n ∧ Inv m vs'' g''
        | .brk => P .next vs'' g''
        | .ret v => P (.ret v) vs'' g''
      else EvF prog w K A L vs' (execs orelse env) g' P) : EvF prog w K A L vs (exec (.While test body orelse pos) env) g P := by
  intro F s Q E r f k
  refine wpAny_While ?_
  refine codeAny_whileLoop (fun m s' => ∃ vs g h d tk, s' = { s with heap := h, drawn := d, toks := tk } ∧ Rep K g F h ∧ FrOk L vs g F h ∧ Inv m vs g) (fun m s' hI => ?_) n ⟨vs, g, s.heap, s.drawn, s.toks, rfl, r, f, h0⟩
  refine x40 hI fun vs g h d z1 => ?_; clear hI; refine x13 z1 fun tk z2 r f i => ?_; clear z1; subst z2
  refine turn m vs g i F _ _ _ r f fun b vs' g' h' d' tk' p r' f' => ?_
  cases b with
  | true =>
    refine p F _ _ _ r' f' fun fl vs'' g'' h'' d'' tk'' q r'' f'' => ?_
    cases fl with
    | next => refine x11 q fun m' hm i' => ?_; clear q; exact ⟨m', hm, vs'', g'', h'', d'', tk'', rfl, r'', f'', i'⟩
    | cont => refine x11 q fun m' hm i' => ?_; clear q; exact ⟨m', hm, vs'', g'', h'', d'', tk'', rfl, r'', f'', i'⟩
    | brk => exact k _ _ _ _ _ _ q r'' f''
    | ret v => exact k _ _ _ _ _ _ q r'' f''
  | false => exact p F _ _ _ r' f' fun fl vs'' g'' h'' d'' tk'' q r'' f'' => k _ _ _ _ _ _ q r'' f''

theorem EvF.partN {P : Value → Vars → Led → Prop} (h : P .none vs g) : EvF prog w K A L vs (evalPart none env) g P := by rw [evalPart_none]; exact .pure h
theorem EvF.partS {e : Expr} {P : Value → Vars → Led → Prop} (h : EvF prog w K A L vs (eval e env) g P) : EvF prog w K A L vs (evalPart (some e) env) g P := by rw [evalPart_some]; exact h
noncomputable abbrev slcV (a b : Value) : Obj := { cls := .type "slice", data := .fields #[a, b, .none] }
noncomputable abbrev kSl2 (P : Value → Vars → Led → Prop) (vl : Value) : Value → Vars → Led → Prop := fun vu vs g => ∀ c, g c = none → P (.ref c) vs (g.put c (slcV vl vu))
noncomputable abbrev kSl (prog : Program) (w : World) (K : Frag) (A : Around) (L : Addr) (upper : Option Expr) (env : Env) (P : Value → Vars → Led → Prop) : Value → Vars → Led → Prop := fun vl vs g => EvF prog w K A L vs (evalPart upper env) g (kSl2 P vl)
theorem EvF.sliceE {lower upper : Option Expr} {p : Pos} {P : Value → Vars → Led → Prop}
    (h : EvF prog w K A L vs (evalPart lower env) g (kSl prog w K A L upper env P)) : EvF prog w K A L vs (eval (.Slice lower upper none p) env) g P := by
  intro F s Q E r f k
  refine wpAny_Slice (h F s _ E r f fun vl vs' g' h' d tk q r' f' => q F _ _ E r' f' fun vu vs'' g'' h'' d' tk' q r'' f'' => ?_)
  rw [evalPart_none]
  refine x01 r''.free fun f1 f2 => ?_
  have nL : L ≠ h''.objs.size := Nat.ne_of_lt f''.ns.lt
  exact wpAny_pure (k _ _ _ _ d' tk' (q _ f1) (r''.push rfl) ⟨f''.ns.push _, f''.nd, by rw [put_ne _ _ nL]; exact f''.ng, f''.nf, f''.low⟩)
theorem Ev.lstSlice {l sl : Addr} {xs : List Value} {vl vu : Value} {lo hi : Option Int} {P : Value → Led → Prop} (ha : At g l (LstO xs)) (hs : g sl = some (slcV vl vu)) (pl : IsPart vl lo) (pu : IsPart vu hi) (hz : xs.length ≤ sizeLine)
    (h : ∀ c, g c = none → P (.ref c) (g.put c (lstV (slicePick xs.toArray lo hi none).toList 0))) : Ev prog w K A (getItem (.ref l) (.ref sl)) g P :=
  .made (o := lstV (slicePick xs.toArray lo hi none).toList 0) rfl (fun F s Q E r k => wpAny_getItem_list_slice (ha.lst r) ⟨_, r.own _ _ hs, rfl, rfl⟩ pl pu .none (by simp) (by simpa using k s.drawn s.toks) (by simpa using hz)) h
section
variable {X : SR} {S : St}
theorem StoreAt.fresh (h : StoreAt prog w g X S) {c : Addr} (hc : g c = none) : c ≠ X.a ∧ c ≠ X.dx ∧ c ≠ X.aD ∧ c ≠ X.aF ∧ c ≠ X.aT ∧ c ≠ X.aM ∧ c ≠ X.nd := by
  have go : ∀ {b : Addr} {Φ : Obj → Prop}, At g b Φ → c ≠ b := fun ⟨o, ho, _⟩ => (ne_of_none hc ho).symm
  exact ⟨go h.i, go h.x, go h.d, go h.f, go h.t, go h.m, go h.n⟩
theorem StoreAt.newM (h : StoreAt prog w g X S) {c : Addr} {n : Nat} {o : Obj} (hc : g c = none) (ho : NsO w.params (SR.fields { X with aM := c, ms := [] } S) o) :
    StoreAt prog w ((g.put c (lstV [] n)).put X.dx o) { X with aM := c, ms := [] } { S with marks := [] } := by
  refine x06 (h.fresh hc) fun c1 c2 c3 c4 c5 c6 c7 => ?_
  refine x014 (sepD h.sep) fun s1 s2 s3 s4 s5 s6 s7 s8 s9 s10 s11 s12 s13 s14 s15 => ?_
  have e := Ext.new (lstV [] n) hc
  have h' := h.ext e
  refine Parts.putX (X := { X with aM := c, ms := [] }) (S := { S with marks := [] }) ⟨h'.i, h'.d, h'.f, h'.t, ⟨_, put_self .., _, rfl⟩, h'.n, h'.rd, h'.rf, h'.rt, .nil, h'.rc, ?_⟩ h'.x ho
  simp only [SR.fp, List.nodup_cons, List.mem_cons, List.not_mem_nil, or_false, not_or]
  refine ⟨⟨s1, s2, s3, c2.symm, s5⟩, ⟨s6, s7, c3.symm, s9⟩, ⟨s10, c4.symm, s12⟩, ⟨c5.symm, s14⟩, c7, ?_⟩
  simp
theorem StoreAt.newN (h : StoreAt prog w g X S) {c : Addr} {o : Obj} (hc : g c = none) (ho : NsO w.params (SR.fields { X with nd := c, kvs := [] } S) o) :
    StoreAt prog w ((g.put c { cls := .type "dict", data := .dict #[] }).put X.dx o) { X with nd := c, kvs := [] } S := by
  refine x06 (h.fresh hc) fun c1 c2 c3 c4 c5 c6 c7 => ?_
  refine x014 (sepD h.sep) fun s1 s2 s3 s4 s5 s6 s7 s8 s9 s10 s11 s12 s13 s14 s15 => ?_
  have e := Ext.new ({ cls := .type "dict", data := .dict #[] } : Obj) hc
  have h' := h.ext e
  refine Parts.putX (X := { X with nd := c, kvs := [] }) (S := S) ⟨h'.i, h'.d, h'.f, h'.t, h'.m, ⟨_, put_self .., DicO.new⟩, h'.rd, h'.rf, h'.rt, h'.rm, h'.rc, ?_⟩ h'.x ho
  simp only [SR.fp, List.nodup_cons, List.mem_cons, List.not_mem_nil, or_false, not_or]
  refine ⟨⟨s1, s2, s3, s4, c2.symm⟩, ⟨s6, s7, s8, c3.symm⟩, ⟨s10, s11, c4.symm⟩, ⟨s13, c5.symm⟩, c6.symm, ?_⟩
  simp
theorem Step.newM {c : Addr} {o o' : Obj} (hc : g c = none) : Step g ((g.put c o).put X.dx o') X.fp (SR.fp { X with aM := c, ms := [] }) := by
  refine ⟨fun b x e n => ?_, fun b m => ?_⟩
  · rw [put_ne, put_ne]
    · exact e
    · exact ne_of_none hc e
    · rintro rfl; exact n (.head _)
  · simp only [SR.fp, List.mem_cons, List.not_mem_nil, or_false] at m ⊢
    rcases m with rfl | rfl | rfl | rfl | rfl | rfl <;> simp_all
theorem Step.newN {c : Addr} {o o' : Obj} (hc : g c = none) : Step g ((g.put c o).put X.dx o') X.fp (SR.fp { X with nd := c, kvs := [] }) := by
  refine ⟨fun b x e n => ?_, fun b m => ?_⟩
  · rw [put_ne, put_ne]
    · exact e
    · exact ne_of_none hc e
    · rintro rfl; exact n (.head _)
  · simp only [SR.fp, List.mem_cons, List.not_mem_nil, or_false] at m ⊢
    rcases m with rfl | rfl | rfl | rfl | rfl | rfl <;> simp_all
end
end Mine
end SLg13

section SLg14
open PySem PySem.W PySem.Calls PyProof.Rows PySem.SeqAt
set_option maxRecDepth 100000
namespace Mine
variable {prog : Program} {w : World} {K : Frag} {A : Around} {α β : Type} {L : Addr} {vs : Vars} {g : Led} {env : Env}

/-- an instance under way: its names so far, and the objects made for it -/
structure Half (P : Params) (g₀ g : Led) (C x dx : Addr) (fs : List (Str × Value)) (os : List (Addr × Obj)) : Prop where
  i : At g x (InstO C dx)
  d : At g dx (NsO P fs)
  o : ∀ p ∈ os, g p.1 = some p.2
  nd : (os.map (·.1)).Nodup
  e : Ext g₀ g
  n0 : g₀ dx = none
  n1 : ∀ p ∈ os, p.1 ≠ dx ∧ g₀ p.1 = none
variable {P : Params} {g₀ : Led} {C x dx : Addr} {fs : List (Str × Value)} {os : List (Addr × Obj)}
theorem NsO.nil : NsO P [] emptyDict := ⟨[], 0, rfl, .nil⟩
theorem Half.start (h1 : g x = none) (h2 : g dx = none) (h3 : x ≠ dx) : Half P g ((g.put dx emptyDict).put x (instObj C dx)) C x dx [] [] := by
  refine ⟨⟨_, put_self .., rfl⟩, ⟨emptyDict, by rw [put_ne _ _ h3.symm, put_self], NsO.nil⟩, fun _ h => (nomatch h), List.nodup_nil, (Ext.new _ h2).trans (Ext.new _ ?_), h2, fun _ h => (nomatch h)⟩
  rw [put_ne _ _ h3]; exact h1
theorem Half.ext {g' : Led} (h : Half P g₀ g C x dx fs os) (e : Ext g g') : Half P g₀ g' C x dx fs os :=
  ⟨h.i.ext e, h.d.ext e, fun p m => e _ _ (h.o p m), h.nd, h.e.trans e, h.n0, h.n1⟩
theorem Half.new {c : Addr} {o : Obj} (h : Half P g₀ g C x dx fs os) (hc : g c = none) : Half P g₀ (g.put c o) C x dx fs ((c, o) :: os) := by
  have h' := h.ext (Ext.new o hc)
  have cdx : c ≠ dx := fun q => by obtain ⟨o', ho', _⟩ := h.d; rw [← q, hc] at ho'; cases ho'
  refine ⟨h'.i, h'.d, fun p m => ?_, ?_, h'.e, h.n0, fun p m => ?_⟩
  · rcases List.mem_cons.mp m with rfl | m
    · exact put_self ..
    · exact h'.o p m
  · rw [List.map_cons, List.nodup_cons]
    refine ⟨fun m => ?_, h.nd⟩
    refine x11 (List.mem_map.mp m) fun p hp q => ?_
    have := h.o p hp; rw [q, hc] at this; cases this
  · rcases List.mem_cons.mp m with rfl | m
    · refine ⟨cdx, ?_⟩
      show g₀ c = none
      cases q : g₀ c with
      | none => rfl
      | some o' => have := h.e _ _ q; rw [hc] at this; cases this
    · exact h.n1 p m
theorem Half.set {fs' : List (Str × Value)} {o : Obj} (h : Half P g₀ g C x dx fs os) (ho : NsO P fs' o) : Half P g₀ (g.put dx o) C x dx fs' os := by
  refine ⟨h.i.off (ne_ns_inst h.i h.d), ⟨_, put_self .., ho⟩, fun p m => by rw [put_ne _ _ (h.n1 p m).1]; exact h.o p m, h.nd, fun b y e => ?_, h.n0, h.n1⟩
  rw [put_ne _ _ (ne_of_none h.n0 e)]; exact h.e _ _ e
end Mine
end SLg14

section SLg15
open PySem PySem.W PySem.Calls PyProof.Rows PySem.SeqAt
set_option maxRecDepth 100000
namespace Mine
variable {prog : Program} {w : World} {K : Frag} {A : Around} {α β : Type} {L : Addr} {vs : Vars} {g : Led} {env : Env}

noncomputable abbrev rngV (x y : Int) (t u v : Tok) : Obj := { cls := .type "range", data := .fields #[.int x t, .int y u, .int 1 v] }
noncomputable def intsF (x : Int) (n : Nat) : List Int := (List.range n).map fun (i : Nat) => x + (i : Int)
theorem intsF_len (x : Int) (n : Nat) : (intsF x n).length = n := by simp [intsF]
theorem Ev.range1 {n : Int} {t : Tok} {P : Value → Led → Prop} (h : ∀ r t1 t2, g r = none → P (.ref r) (g.put r (rngV 0 n t1 t t2))) : Ev prog w K A (PySem.call (.type "range") [.int n t] []) g P := by
  intro F s Q E r k
  exact call_range_1 (k _ _ _ s.drawn _ (h _ s.toks (s.toks + 1) r.free.1) (r.push rfl))
theorem Ev.range2 {a b : Int} {t u : Tok} {P : Value → Led → Prop} (h : ∀ r t1, g r = none → P (.ref r) (g.put r (rngV a b t u t1))) : Ev prog w K A (PySem.call (.type "range") [.int a t, .int b u] []) g P := by
  intro F s Q E r k
  exact call_range_2 (k _ _ _ s.drawn _ (h _ s.toks r.free.1) (r.push rfl))
theorem all2_ints {x : Int} : ∀ {n : Nat} {xs : List Value}, xs.length = n → (∀ (i : Nat) v, xs[i]? = some v → IsI (x + (i : Int)) v) → All2 IsI (intsF x n) xs := by
  intro n xs e h
  subst e
  induction xs generalizing x with
  | nil => exact .nil
  | cons v xs ih =>
    have e : intsF x (v :: xs).length = x :: intsF (x + 1) xs.length := by
      unfold intsF
      rw [List.length_cons, List.range_succ_eq_map, List.map_cons, List.map_map]
      congr 1
      · simp
      · refine List.map_congr_left fun i _ => ?_
        simp only [Function.comp]; omega
    rw [e]
    refine .cons (by simpa using h 0 v rfl) (ih fun i v' hv => ?_)
    have := h (i + 1) v' (by simpa using hv)
    rwa [show x + ((i + 1 : Nat) : Int) = x + 1 + (i : Int) by omega] at this
theorem Ev.listRange {r : Addr} {x y : Int} {t u v : Tok} {P : Value → Led → Prop} (hh : A.handled = none) (hr : g r = some (rngV x y t u v)) (h1 : -(2 ^ 62) ≤ x) (h2 : x < 2 ^ 62) (h3 : -(2 ^ 62) ≤ y) (h4 : y < 2 ^ 62) (hz : (y - x).toNat ≤ 2 ^ 24)
    (p : ∀ c xs m, g c = none → All2 IsI (intsF x (y - x).toNat) xs → P (.ref c) (g.put c (lstV xs m))) : Ev prog w K A (PySem.call (.type "list") [.ref r] []) g P := by
  intro F s Q E rr k
  have e1 : Builtin.Range.rangeSize x y 1 = ((y - x).toNat : Int) := by rw [rangeSize_one]; split <;> omega
  refine call_list_range (n := (y - x).toNat) hh (rr.own _ _ hr) (small_one h1 h2 h3 h4) e1 hz fun h' tk acc c' kp e it => ?_
  refine x01 rr.free fun f1 f2 => ?_
  have ha : All2 IsI (intsF x (y - x).toNat) acc.toList := all2_ints (by simpa using it.1) fun i v hv => by
    refine x10 (it.2 i v (by simpa using hv)) fun t ht => ?_
    exact ⟨t, by rw [ht, Int.mul_one]⟩
  refine k _ _ h' s.drawn tk (p _ acc.toList c' f1 ha) ⟨fun b z q => ?_, fun b z q => kp _ _ (rr.fr _ _ q), fun b z q => ?_, fun b z q => ?_, rr.lowf, rr.fx.to fun b z _ q => kp _ _ q⟩
  · by_cases n : b = s.heap.objs.size
    · subst n; rw [put_self] at q; cases q; simpa using e
    · rw [put_ne _ _ n] at q; exact kp _ _ (rr.own _ _ q)
  · by_cases n : b = s.heap.objs.size
    · subst n; exact f2
    · rw [put_ne _ _ n] at q; exact rr.dj _ _ q
  · by_cases n : b = s.heap.objs.size
    · subst n; exact rr.fx.n
    · rw [put_ne _ _ n] at q; exact rr.lowg _ _ q
theorem EvF.range1 {L : Addr} {vs : Vars} {n : Int} {t : Tok} {P : Value → Vars → Led → Prop} (h : ∀ r t1 t2, g r = none → P (.ref r) vs (g.put r (rngV 0 n t1 t t2))) : EvF prog w K A L vs (PySem.call (.type "range") [.int n t] []) g P := .of (.range1 h)
theorem EvF.range2 {L : Addr} {vs : Vars} {a b : Int} {t u : Tok} {P : Value → Vars → Led → Prop} (h : ∀ r t1, g r = none → P (.ref r) vs (g.put r (rngV a b t u t1))) : EvF prog w K A L vs (PySem.call (.type "range") [.int a t, .int b u] []) g P := .of (.range2 h)
end Mine
end SLg15

section SLg16
open PySem PySem.W PySem.Calls PyProof.Rows PySem.SeqAt
set_option maxRecDepth 100000
namespace Mine
variable {prog : Program} {w : World} {K : Frag} {A : Around} {α β : Type} {L : Addr} {vs : Vars} {g g' : Led} {env : Env}

/-- where known objects of two kinds lie, the places differ -/
theorem At.ne {a b : Addr} {Φ Ψ : Obj → Prop} (x : At g a Φ) (y : At g b Ψ) (h : ∀ o, Φ o → Ψ o → False) : a ≠ b := by
  rintro rfl
  obtain ⟨o, ho, p⟩ := x
  obtain ⟨o', ho', q⟩ := y
  rw [ho] at ho'; cases ho'
  exact h o p q
theorem cell_lst {u : Option Value} {xs : List Value} : ∀ o, CellO u o → LstO xs o → False := fun o h ⟨n, e⟩ => by subst e; cases h
theorem cell_tup {u : Option Value} {xs : List Value} : ∀ o, CellO u o → TupO xs o → False := fun o h ⟨n, e⟩ => by subst e; cases h
theorem cell_inst {u : Option Value} {C dx : Addr} : ∀ o, CellO u o → InstO C dx o → False := fun o h e => by cases e; cases h
theorem cell_ns {u : Option Value} {P : Params} {fs : List (Str × Value)} : ∀ o, CellO u o → NsO P fs o → False := fun o h ⟨es, n, e, _⟩ => by subst e; cases h
theorem cell_dic {κ : Type} [DecidableEq κ] {knd : KeyKind prog w κ} {u : Option Value} {kvs : List (κ × Value)} : ∀ o, CellO u o → DicO knd kvs o → False := fun o h ⟨es, ep, _, e, _⟩ => by rw [h] at e; cases e
theorem lst_inst {xs : List Value} {C dx : Addr} : ∀ o, LstO xs o → InstO C dx o → False := fun o ⟨n, h⟩ e => by subst h; cases e
theorem lst_ns {xs : List Value} {P : Params} {fs : List (Str × Value)} : ∀ o, LstO xs o → NsO P fs o → False := fun o ⟨n, h⟩ ⟨es, m, e, _⟩ => by have := congrArg Obj.data (h.symm.trans e); simp at this
/-- g' has what g has at bs -/
noncomputable def On (g g' : Led) (bs : List Addr) : Prop := ∀ b ∈ bs, ∀ o, g b = some o → g' b = some o
theorem On.at {bs : List Addr} (h : On g g' bs) {b : Addr} {Φ : Obj → Prop} (x : At g b Φ) (m : b ∈ bs) : At g' b Φ := let ⟨o, ho, p⟩ := x; ⟨o, h b m o ho, p⟩
theorem On.put {bs : List Addr} {a : Addr} {o : Obj} (h : a ∉ bs) : On g (g.put a o) bs := fun b m x e => by
  rw [put_ne]; exact e
  rintro rfl; exact h m
theorem StoreAt.on {X : SR} {S : St} (h : StoreAt prog w g X S) (k : On g g' (X.a :: X.fp)) (kp : Kp g g') : StoreAt prog w g' X S := by
  refine ⟨⟨k.at h.i (.head _), k.at h.d (by simp [SR.fp]), k.at h.f (by simp [SR.fp]), k.at h.t (by simp [SR.fp]), k.at h.m (by simp [SR.fp]), k.at h.n (by simp [SR.fp]), Stays.dom.all h.rd kp, Stays.dom.all h.rf kp, Stays.tre.all h.rt kp, h.rm, Stays.tplit.kp h.rc kp, h.sep⟩, k.at h.x (by simp [SR.fp])⟩
theorem StoreAt.noCell {X : SR} {S : St} (h : StoreAt prog w g X S) {c : Addr} {u : Option Value} (x : At g c (CellO u)) : c ∉ X.a :: X.fp := by
  simp only [SR.fp, List.mem_cons, List.not_mem_nil, or_false, not_or]
  exact ⟨x.ne h.i cell_inst, x.ne h.x cell_ns, x.ne h.d cell_lst, x.ne h.f cell_lst, x.ne h.t cell_lst, x.ne h.m cell_lst, x.ne h.n cell_dic⟩
theorem Kp.cell {c : Addr} {u : Option Value} {o : Obj} (x : At g c (CellO u)) : Kp g (g.put c o) := let ⟨o, ho, e⟩ := x; Kp.put ho fun xs q => cell_tup o e q
theorem StoreAt.putCell {X : SR} {S : St} (h : StoreAt prog w g X S) {c : Addr} {u : Option Value} {o : Obj} (x : At g c (CellO u)) : StoreAt prog w (g.put c o) X S := h.on (On.put (h.noCell x)) (Kp.cell x)
theorem StoreAt.putLst {X : SR} {S : St} (h : StoreAt prog w g X S) {c : Addr} {xs : List Value} {o : Obj} (x : At g c (LstO xs)) (n : c ∉ X.fp) : StoreAt prog w (g.put c o) X S := by
  refine h.on (On.put ?_) (Kp.lst x)
  rw [List.mem_cons, not_or]
  exact ⟨x.ne h.i lst_inst, n⟩
end Mine
end SLg16

section SLg17
open PySem PySem.W PySem.Calls PyProof.Rows PySem.SeqAt
set_option maxRecDepth 100000
namespace Mine
variable {prog : Program} {w : World} {K : Frag} {A : Around} {α β : Type} {L : Addr} {vs : Vars} {g : Led} {env : Env}

inductive L2Turn (prog : Program) (w : World) (K : Frag) (A : Around) (cenv : Env) (t2 elt : Expr) {γ : Type} (R : Led → γ → Value → Prop) (T : Led → Led → Prop) (C : Addr) (o₁ o₂ : List γ) (Jn : Vars → Led → Prop) (x₂ : Value) (vs₂ : Vars) (e₂ : Led) : Prop
  | mk (n2 : Nat) (Pv2 : Nat → Value → Prop) (cs2 : List Addr) (outI : Nat → List γ) (J2 : Nat → Vars → Led → Prop) (S2 : Src e₂ x₂ n2 Pv2 cs2) (j20 : J2 0 vs₂ e₂) (jc2 : ∀ k vs e', J2 k vs e' → ∀ b ∈ cs2, ∀ o, e₂ b = some o → e' b = some o) (oi0 : outI 0 = o₁) (oin : outI n2 = o₂) (hlen : ∀ j, (outI j).length ≤ sizeLine)
    (turn2 : ∀ j v vs e, j < n2 → Pv2 j v → J2 j vs e → EvF prog w K A C vs (assign t2 cenv v) e fun _ vs' e' => T e e' ∧ EvF prog w K A C vs' (eval elt cenv) e' fun y vs'' e'' => J2 (j + 1) vs'' e'' ∧ T e' e'' ∧ ∃ b, outI (j + 1) = outI j ++ [b] ∧ R e'' b y)
    (done2 : ∀ vs e, J2 n2 vs e → Jn vs e) : L2Turn prog w K A cenv t2 elt R T C o₁ o₂ Jn x₂ vs₂ e₂
inductive L2In (prog : Program) (w : World) (K : Frag) (A : Around) (cenv : Env) (t1 i2 t2 elt : Expr) (names : List Str) {γ : Type} (n : Nat) (Pv : Nat → Value → Prop) (cs : List Addr) (out : Nat → List γ) (R : Led → γ → Value → Prop) (Z : Addr → Vars → Led → Prop) (vs' : Vars) (g' : Led) (C : Addr) (e : Led) : Prop
  | mk (J : Nat → Vars → Led → Prop) (T : Led → Led → Prop) (j0 : J 0 (names.map fun n => (n, none)) e) (jc : ∀ k vs e', J k vs e' → ∀ b ∈ cs, ∀ o, g' b = some o → e' b = some o) (tr : ∀ e e' b v, T e e' → R e b v → R e' b v)
    (turn : ∀ k v vs e, k < n → Pv k v → J k vs e → EvF prog w K A C vs (assign t1 cenv v) e fun _ vs' e' => T e e' ∧ EvF prog w K A C vs' (eval i2 cenv) e' fun x₂ vs₂ e₂ => T e' e₂ ∧ L2Turn prog w K A cenv t2 elt R T C (out k) (out (k + 1)) (J (k + 1)) x₂ vs₂ e₂)
    (done : ∀ vs e xs D m, J n vs e → e D = none → All2 (R e) (out n) xs → Z D vs' (e.put D (lstV xs m))) : L2In prog w K A cenv t1 i2 t2 elt names n Pv cs out R Z vs' g' C e
inductive L2Spec (prog : Program) (w : World) (K : Frag) (A : Around) (env : Env) (t1 i2 t2 elt : Expr) (scope : Scope) (cl : List (Str × Addr)) (names : List Str) (γ : Type) (Z : Addr → Vars → Led → Prop) (x : Value) (vs' : Vars) (g' : Led) : Prop
  | mk (n : Nat) (Pv : Nat → Value → Prop) (cs : List Addr) (out : Nat → List γ) (R : Led → γ → Value → Prop) (S : Src g' x n Pv cs) (o0 : out 0 = []) (p : ∀ C e, Ext g' e →
      (∀ m c, (cellsFrom (C + 1) scope.names []).lookup m = some c → g' c = none ∧ At e c (CellO none)) → L2In prog w K A (cenvOf scope cl C env) t1 i2 t2 elt names n Pv cs out R Z vs' g' C e) : L2Spec prog w K A env t1 i2 t2 elt scope cl names γ Z x vs' g'
theorem L2Spec.mono {env : Env} {t1 i2 t2 elt : Expr} {scope : Scope} {cl : List (Str × Addr)} {names : List Str} {γ : Type} {Z Z' : Addr → Vars → Led → Prop} {x : Value} {vs' : Vars} {g' : Led} (m : ∀ D vs g, Z D vs g → Z' D vs g) : L2Spec prog w K A env t1 i2 t2 elt scope cl names γ Z x vs' g' → L2Spec prog w K A env t1 i2 t2 elt scope cl names γ Z' x vs' g'
  := fun z => by
  cases z with | mk n Pv cs out R S o0 p =>
  refine .mk n Pv cs out R S o0 fun C e x y => ?_
  cases p C e x y with | mk J T j0 jc tr turn done => exact .mk J T j0 jc tr turn fun vs e xs D m' j nD ha => m _ _ _ (done vs e xs D m' j nD ha)
/-- a list built item by item: two clauses, no conditions -/
theorem EvF.compL2G {γ : Type} {elt : Expr} {scope : Scope} {pos p0 : Pos} {t1 i1 t2 i2 : Expr} {cl : List (Str × Addr)} {use : Option (Value → Sem Unit)} {n₀ : Nat} {P : Value → Vars → Led → Prop} {names : List Str} (ok : Ok A n₀)
    (h : EvF prog w K A L vs (eval i1 env) g (L2Spec prog w K A env t1 i2 t2 elt scope cl names γ (DoneT prog w K A L use P)))
    (hclos : closureFor scope env = Pure.pure cl) (hnd : names.Nodup) (hkind : scope.kind = .function) (hnames : ∀ x ∈ scope.names, x.2 = .local → scope.names.lookup x.1 = some .local)
    (hs : ∀ x, foldedSetIterable i1 env x = Pure.pure x) (hs2 : ∀ C x, foldedSetIterable i2 (cenvOf scope cl C env) x = Pure.pure x) :
    EvF prog w K A L vs (comprehension (.ListComp elt [⟨t1, i1, [], 0⟩, ⟨t2, i2, [], 0⟩] scope pos) scope env p0 (newList []) false (eval i1 env) use) g P := by
  refine EvF.compG (gens := []) (inner := fun env acc => deeper (.ListComp elt [⟨t1, i1, [], 0⟩, ⟨t2, i2, [], 0⟩] scope pos) 0 i2 acc env) ok.h (fun _ _ _ => level2a ..) (h.mono fun x vs' g' p => ?_) hclos hnd hkind hnames hs
  obtain ⟨n, Pv, cs, out, R, S, o0, p⟩ := p
  refine ⟨n, Pv, cs, S, fun D C g₁ hD e hL hc => ?_⟩
  obtain ⟨J, T, j0, jc, tr, turn, done⟩ := p C (g₁.del D) (e.del hD) fun m c q => ⟨(hc m c q).1, by
    obtain ⟨o, ho, hd⟩ := (hc m c q).2.2
    exact ⟨o, by rw [del_ne _ (hc m c q).2.1]; exact ho, hd⟩⟩
  refine ⟨fun k vs g => ∃ xs, At g D (LstO xs) ∧ All2 (R (g.del D)) (out k) xs ∧ J k vs (g.del D), ⟨[], hL, o0 ▸ .nil, j0⟩, fun k vs g i b m o ho => ?_, fun k vs g v hk hv i => ?_, fun vs g i => ?_⟩
  · refine x12 i fun xs _ _ j => ?_; clear i
    exact del_ext _ _ _ _ (jc _ _ _ j b m o ho)
  · refine x12 i fun xs z61 ha j => ?_; clear i; obtain ⟨oD, hoD, mD, rfl⟩ := z61
    refine .bind (EvF.aside D hoD ((turn k v vs _ hk hv j).mono fun _ vs' e' q nD => ?_))
    refine x01 q ?_; clear q; intro t' q
    refine .bind (EvF.tests0 ?_)
    show EvF prog w K A C vs' (deeper _ 0 i2 (.ref D) _) _ _
    refine EvF.inner ok.h (EvF.aside D (put_self ..) ?_) (hs2 C)
    rw [del_put _ _ _ nD]
    refine EvF.mono q fun x₂ vs₂ e₂ q nD₂ => ?_
    refine x01 q fun t₂ z101 => ?_; clear q; obtain ⟨n2, Pv2, cs2, outI, J2, S2, j20, jc2, oi0, oin, hlen, turn2, done2⟩ := z101
    have S2' : Src (e₂.put D (lstV xs mD)) x₂ n2 Pv2 cs2 := by
      cases S2 with
      | tup hx => exact .tup (hx.ext (Ext.new _ nD₂))
      | lst hx => exact .lst (hx.ext (Ext.new _ nD₂))
      | rng hx a b c d => exact .rng (Ext.new _ nD₂ _ _ hx) a b c d
    have dom2 : ∀ b ∈ cs2, ∀ o, (e₂.put D (lstV xs mD)) b = some o → b ≠ D := fun b m o ho q => by
      refine x10 (S2.dom b m) fun o' ho' => ?_
      rw [q, nD₂] at ho'; cases ho'
    refine ⟨n2, Pv2, cs2, fun j vs g => ∃ xs, At g D (LstO xs) ∧ All2 (R (g.del D)) (outI j) xs ∧ J2 j vs (g.del D), S2', ⟨xs, ⟨_, put_self .., _, rfl⟩, ?_, ?_⟩, fun j vs g i b m o ho => ?_, fun j vs g v hj hv i => ?_, fun vs g i => ?_⟩
    · rw [del_put _ _ _ nD₂, oi0]; exact ha.mono fun _ _ r => tr _ _ _ _ t₂ (tr _ _ _ _ t' r)
    · rw [del_put _ _ _ nD₂]; exact j20
    · refine x12 i fun xs' _ _ j' => ?_; clear i
      have nb := dom2 b m o ho
      rw [put_ne _ _ nb] at ho
      exact del_ext _ _ _ _ (jc2 _ _ _ j' b m o ho)
    · refine x12 i fun xs' z161 ha' j' => ?_; clear i; obtain ⟨oD', hoD', mD', rfl⟩ := z161
      exact stepL (T := fun e e'' => ∃ e', T e e' ∧ T e' e'') hoD' ha' (hlen j) (fun _ _ b v ⟨_, t1, t2⟩ r => tr _ _ b v t2 (tr _ _ b v t1 r)) (.bind ((turn2 j v vs _ hj hv j').mono fun _ vs' e' q => EvF.tests0 (EvF.mono q.2 fun _ _ _ ⟨a, b, c⟩ => ⟨a, ⟨_, q.1, b⟩, c⟩)))
    · refine x12 i fun xs' h1 h2 j' => ?_; clear i
      exact ⟨xs', h1, oin ▸ h2, done2 _ _ j'⟩
  · refine x12 i fun xs z201 ha j => ?_; clear i; obtain ⟨oD, hoD, mD, rfl⟩ := z201
    have := done vs _ xs D mD j (del_self ..) ha
    rwa [put_del hoD] at this
theorem EvF.compL2 {γ : Type} {elt : Expr} {scope : Scope} {pos : Pos} {t1 i1 t2 i2 : Expr} {cl : List (Str × Addr)} {n₀ : Nat} {P : Value → Vars → Led → Prop} (names : List Str) (ok : Ok A n₀)
    (h : EvF prog w K A L vs (eval i1 env) g (L2Spec prog w K A env t1 i2 t2 elt scope cl names γ fun D => P (.ref D)))
    (hclos : closureFor scope env = Pure.pure cl := by rfl) (hnd : names.Nodup := by decide) (hkind : scope.kind = .function := by rfl) (hnames : ∀ x ∈ scope.names, x.2 = .local → scope.names.lookup x.1 = some .local := by decide)
    (hs : ∀ x, foldedSetIterable i1 env x = Pure.pure x := by intro _; rfl) (hs2 : ∀ C x, foldedSetIterable i2 (cenvOf scope cl C env) x = Pure.pure x := by intro _ _; rfl) :
    EvF prog w K A L vs (eval (.ListComp elt [⟨t1, i1, [], 0⟩, ⟨t2, i2, [], 0⟩] scope pos) env) g P :=
  EvF.compL2G (use := none) ok h hclos hnd hkind hnames hs hs2
theorem EvF.compL2To {γ : Type} {y : Str} {py spos : Pos} {elt : Expr} {scope : Scope} {pos : Pos} {t1 i1 t2 i2 : Expr} {cl : List (Str × Addr)} {n₀ : Nat} {P : Flow → Vars → Led → Prop} (names : List Str) (ok : Ok A n₀)
    (h : EvF prog w K A L vs (eval i1 env) g (L2Spec prog w K A env t1 i2 t2 elt scope cl names γ fun D vs g => ∃ vs'', SetV y (.ref D) vs vs'' ∧ P .next vs'' g))
    (hclos : closureFor scope env = Pure.pure cl := by rfl) (hnd : names.Nodup := by decide) (hkind : scope.kind = .function := by rfl) (hnames : ∀ x ∈ scope.names, x.2 = .local → scope.names.lookup x.1 = some .local := by decide)
    (hs : ∀ x, foldedSetIterable i1 env x = Pure.pure x := by intro _; rfl) (hs2 : ∀ C x, foldedSetIterable i2 (cenvOf scope cl C env) x = Pure.pure x := by intro _ _; rfl)
    (hsw : swapsWith (.ListComp elt [⟨t1, i1, [], 0⟩, ⟨t2, i2, [], 0⟩] scope pos) (some (.Name y py)) spos.line env = Pure.pure true := by rfl)
    (hk : env.scope.kind = .function := by rfl) (hl : env.kindOf y = some .local := by rfl) (hEL : env.locals = L := by rfl) :
    EvF prog w K A L vs (exec (.Assign [.Name y py] (.ListComp elt [⟨t1, i1, [], 0⟩, ⟨t2, i2, [], 0⟩] scope pos) spos) env) g P :=
  EvF.compToG (EvF.compL2G (use := some (assign (.Name y py) env)) ok (h.mono fun _ _ _ p => p.mono fun _ _ _ ⟨_, hset, q⟩ => DoneT.to hset q hk hl hEL) hclos hnd hkind hnames hs hs2) hsw
end Mine
end SLg17

section SLg18
open PySem PySem.W PySem.Calls PyProof.Rows PySem.SeqAt
set_option maxRecDepth 100000
namespace Mine
variable {prog : Program} {w : World} {K : Frag} {A : Around} {α β : Type} {L : Addr} {vs : Vars} {g : Led} {env : Env}
theorem Ev.setLast {a : Addr} {xs : List Value} {y v : Value} {t : Tok} {P : Unit → Led → Prop} (ha : At g a (LstO (xs ++ [y]))) (hz : xs.length < 2 ^ 62) (p : ∀ m, P () (g.put a (lstV (xs ++ [v]) m))) : Ev prog w K A (setItem (.ref a) (.int (-1) t) v) g P := by
  refine .turnL ha (fun x => x.setIfInBounds ((-1 : Int) + ((xs ++ [y]).toArray.size : Int)).toNat v) ?_ () (fun m s Q E hg k => ki_setBack (n := m) (items := (xs ++ [y]).toArray) hg (by lia) (by simp; lia) (by lia) k) p
  have : ((-1 : Int) + ((xs ++ [y]).toArray.size : Int)).toNat = xs.length := by simp; lia
  rw [this]; simp
end Mine
end SLg18

section SLg19
open PySem PySem.W PySem.Calls PyProof.Rows PySem.SeqAt
set_option maxRecDepth 100000
namespace Mine
variable {prog : Program} {w : World} {K : Frag} {A : Around} {g : Led}
theorem pick_upto (vs : List Value) (k : Nat) : (slicePick vs.toArray none (some (k : Int)) none).toList = vs.take k := by
  have e : sliceBounds none (some (k : Int)) none vs.toArray.size = (((0 : Nat) : Int), ((min k vs.toArray.size : Nat) : Int), 1) := by
    simp only [sliceBounds, Option.getD_none, show (1 : Int) > 0 by decide, if_true, if_neg (show ¬ ((k : Int) < 0) by omega)]
    congr 1
    congr 1
    omega
  rw [kmk_pick_nat _ e]
  show (vs.drop 0).take (min k vs.toArray.size - 0) = _
  rw [List.drop_zero, Nat.sub_zero, List.size_toArray, kmk_take_min]
theorem pick_from (vs : List Value) (k : Nat) : (slicePick vs.toArray (some (k : Int)) none none).toList = vs.drop k := by
  have e : sliceBounds (some (k : Int)) none none vs.toArray.size = (((min k vs.toArray.size : Nat) : Int), ((vs.toArray.size : Nat) : Int), 1) := by
    simp only [sliceBounds, Option.getD_none, show (1 : Int) > 0 by decide, if_true, if_neg (show ¬ ((k : Int) < 0) by omega)]
    congr 1
    omega
  rw [kmk_pick_nat _ e]
  show (vs.drop (min k vs.toArray.size)).take (vs.toArray.size - min k vs.toArray.size) = _
  rw [List.size_toArray, kmk_drop_min, List.take_of_length_le (by rw [List.length_drop]; omega)]
theorem Ev.lstUpto {l sl : Addr} {xs : List Value} {k : Nat} {i : Int} {t : Tok} {P : Value → Led → Prop} (ha : At g l (LstO xs)) (hs : g sl = some (slcV .none (.int i t))) (hi : i = k) (hz : xs.length ≤ sizeLine)
    (h : ∀ c, g c = none → P (.ref c) (g.put c (lstV (xs.take k) 0))) : Ev prog w K A (getItem (.ref l) (.ref sl)) g P := by
  subst hi
  exact .lstSlice ha hs .none (.int _ _) hz fun c hc => by rw [pick_upto]; exact h c hc
theorem Ev.lstFrom {l sl : Addr} {xs : List Value} {k : Nat} {i : Int} {t : Tok} {P : Value → Led → Prop} (ha : At g l (LstO xs)) (hs : g sl = some (slcV (.int i t) .none)) (hi : i = k) (hz : xs.length ≤ sizeLine)
    (h : ∀ c, g c = none → P (.ref c) (g.put c (lstV (xs.drop k) 0))) : Ev prog w K A (getItem (.ref l) (.ref sl)) g P := by
  subst hi
  exact .lstSlice ha hs (.int _ _) .none hz fun c hc => by rw [pick_from]; exact h c hc
theorem rep_flat {α : Type} (d : α) : ∀ (k : Nat) (acc : Array α), List.foldl (fun x1 x2 => x1 ++ x2) acc (List.replicate k #[d]) = (acc.toList ++ List.replicate k d).toArray
  | 0, acc => by simp
  | k + 1, acc => by
    rw [List.replicate_succ, List.foldl_cons, rep_flat d k]
    apply Array.ext'
    simp [List.replicate_succ]
/-- [x] * n -/
theorem Ev.mulOne {l : Addr} {x : Value} {n : Nat} {i : Int} {u : Tok} {P : Value → Led → Prop} (ha : At g l (LstO [x])) (hi : i = n) (hn : n ≤ 1000) (p : ∀ c, g c = none → P (.ref c) (g.put c (lstV (List.replicate n x) 0))) : Ev prog w K A (binaryOp .Mult (.ref l) (.int i u)) g P := by
  obtain ⟨o, ho, k, rfl⟩ := ha
  intro F s Q E r kk0
  have kk : ∀ d tk, Q (.ref s.heap.objs.size) { s with heap := s.heap.push (lstV (List.replicate n x) 0), drawn := d, toks := tk } := fun d tk => kk0 _ _ _ d tk (p _ r.free.1) (r.push rfl)
  have hl : s.heap.get? l = some { cls := .type "list", dict := none, data := .seq #[x] k, slots := #[] } := r.own _ _ ho
  have c0 : ¬(!Builtin.List.listFitsIndex i) = true := by simp [Builtin.List.listFitsIndex]; omega
  have c1 : ¬(#[x] : Array Value).size * i.toNat > (2 ^ 63 - 1) / 8 := by
    have : (#[x] : Array Value).size * i.toNat = n := by simp [hi]
    rw [this]; omega
  have c2 : ¬Builtin.List.listTooLong ((#[x] : Array Value).size * i.toNat) = true := by
    have : (#[x] : Array Value).size * i.toNat = n := by simp [hi]
    rw [this]; simp [Builtin.List.listTooLong, sizeLine]; omega
  have M := AutoListH.list___mul___list_int_3 l #[x] k i u c0
  have M := M c1
  have M := M c2
  refine wpAny_binaryOp_repeat_ref (T := "list") (U := "int") (by decide) ⟨_, hl, rfl⟩ (fun s' => typeIs_int s' i u) noFill_list_mul PySem.F.fills_int_mul PySem.F.slot_int_rmul repeat_list PySem.F.slot_int_index.lookup
    (call_meets PySem.F.slot_int_rmul (typeIs_int s i u) PySem.F.entry_int_rmul (PySem.F.args_int_rmul_2 _ _) (int___rmul___int_list i u l #[x] k)
      ⟨hl, rfl, ⟨_, hl, rfl⟩, call_meets PySem.F.slot_list_mul ⟨_, hl, rfl⟩ PySem.F.entry_list_mul (PySem.F.args_list_mul_2 _ _)
        M
        ⟨hl, ?_⟩⟩)
  have e : List.foldl (fun x1 x2 => x1 ++ x2) #[] (List.replicate (if (#[x] : Array Value).isEmpty = true then 0 else i.toNat) #[x]) = (List.replicate n x).toArray := by
    have : (#[x] : Array Value).isEmpty = false := rfl
    rw [this, if_neg Bool.false_ne_true, hi, Int.toNat_natCast]
    have := rep_flat x n #[]
    simpa using this
  rw [e]
  exact kk s.drawn s.toks
end Mine
end SLg19

section SLg20
open PySem PySem.W PySem.Calls PyProof.Rows PySem.SeqAt
set_option maxRecDepth 100000
namespace Mine
variable {prog : Program} {w : World} {K : Frag} {A : Around} {α β : Type} {L : Addr} {vs : Vars} {g : Led} {env : Env}
end Mine
end SLg20

section SLg22
open PySem PySem.W PySem.Calls PyProof.Rows PySem.SeqAt
set_option maxRecDepth 100000
namespace Mine
variable {prog : Program} {w : World} {K : Frag} {A : Around} {α β : Type} {L : Addr} {vs : Vars} {g : Led} {env : Env}
theorem Ev.eqBB {a b : Bool} {P : Value → Led → Prop} (h : P (.bool (a == b)) g) : Ev prog w K A (compareOp .Eq (.bool a) (.bool b)) g P := .look fun F s Q E r k => RcAt.bool_bool a b prog w E Q (k _ s.drawn s.toks h)
theorem Ev.neBB {a b : Bool} {P : Value → Led → Prop} (h : P (.bool (!(a == b))) g) : Ev prog w K A (compareOp .NotEq (.bool a) (.bool b)) g P := .look fun F s Q E r k => RcNeAt.bool_bool a b prog w E Q (k _ s.drawn s.toks h)
theorem EvF.notVal {x : Expr} {pos : Pos} {P : Value → Vars → Led → Prop} (h : EvF prog w K A L vs (eval x env) g fun v vs' g' => EvF prog w K A L vs' (truthy v) g' fun b vs'' g'' => P (.bool (!b)) vs'' g'') : EvF prog w K A L vs (eval (.UnaryOp .Not x pos) env) g P := by
  rw [arm_eval_UnaryOp]
  refine .bind (h.mono fun v vs' g' p => .bind (.standAt (.holding ?_)))
  unfold unaryOp
  exact .holding (.bind (EvF.mono p fun b vs'' g'' q => .pure q))
/-- one of several, as a test -/
theorem EvF.orCons {x : Expr} {xs : List Expr} {P : Bool → Vars → Led → Prop} (h : EvF prog w K A L vs (isTrue x env (eval x env)) g fun b vs' g' => match b with | true => P true vs' g' | false => EvF prog w K A L vs' (allTrue .Or xs env) g' P) :
    EvF prog w K A L vs (allTrue .Or (x :: xs) env) g P := by
  refine EvF.bind (h.mono fun b vs' g' p => ?_)
  cases b with
  | true => exact EvF.pure p
  | false => exact p
theorem EvF.orNil {P : Bool → Vars → Led → Prop} (h : P false vs g) : EvF prog w K A L vs (allTrue .Or [] env) g P := EvF.pure h
theorem EvF.testOrs {xs : List Expr} {pos whole} {P : Bool → Vars → Led → Prop} (h : EvF prog w K A L vs (allTrue .Or xs env) g P) : EvF prog w K A L vs (isTrue (.BoolOp .Or xs pos) env whole) g P := h
/-- two lists of the same things -/
theorem Ev.neSame {a b : Addr} {xs : List Value} {P : Value → Led → Prop} (hx : At g a (LstO xs)) (hy : At g b (LstO xs)) (u : A.units < cLine) (h : P (.bool false) g) : Ev prog w K A (compareOp .NotEq (.ref a) (.ref b)) g P := by
  refine .look fun F s Q E r k => ?_
  refine RcNeAt.lists (A := A) (e := fun _ => true) (hx.lst r) (hy.lst r) rfl u (fun j h1 h2 => EqAt.same _) prog w E Q ?_
  have : (List.range xs.toArray.size).all (fun _ => true) = true := by simp
  rw [this]
  exact k _ s.drawn s.toks h
noncomputable abbrev enmV (it : Addr) : Obj := { cls := .type "enumerate", dict := none, data := .fields #[.none, .bool false, .ref it, rawInt 0, .none, .none], slots := #[] }
noncomputable def LitO (l : Addr) (o : Obj) : Prop := o.cls = .type "list_iterator" ∧ o.data = .fields #[.ref l, .int 0 0]
theorem Ev.enum {l : Addr} {xs : List Value} {P : Value → Led → Prop} (hl : At g l (LstO xs)) (h : ∀ e it oi, g it = none → g e = none → e ≠ it → LitO l oi → P (.ref e) ((g.put it oi).put e (enmV it))) : Ev prog w K A (PySem.call (.type "enumerate") [.ref l] []) g P := by
  intro F s Q E r k
  refine call_enumerate_list (hl.lst r) fun h' he hi hsz hk => ?_
  refine x12 hi fun oi hoi c1 c2 => ?_; clear hi
  have he : h'.get? (s.heap.objs.size + 1) = some (enmV s.heap.objs.size) := he
  have f1 := r.free
  have n1 : ∀ b x, s.heap.get? b = some x → @LT.lt Nat _ b s.heap.objs.size := fun b x e => Heap.lt_size e
  have lo : 386 ≤ s.heap.objs.size := r.fx.n
  have g2 : g (s.heap.objs.size + 1) = none := by
    cases q : g (s.heap.objs.size + 1) with
    | none => rfl
    | some x => exact absurd (n1 _ _ (r.own _ _ q)) (by lia)
  have F2 : F (s.heap.objs.size + 1) = none := by
    cases q : F (s.heap.objs.size + 1) with
    | none => rfl
    | some x => exact absurd (n1 _ _ (r.fr _ _ q)) (by lia)
  refine k _ _ h' s.drawn s.toks (h (s.heap.objs.size + 1) s.heap.objs.size oi f1.1 g2 (Nat.succ_ne_self _) ⟨c1, c2⟩) ⟨fun b x e => ?_, fun b x e => hk _ _ (r.fr _ _ e), fun b x e => ?_, fun b x e => ?_, r.lowf, r.fx.to fun b x _ e => hk _ _ e⟩
  all_goals
    by_cases q : b = s.heap.objs.size + 1
    · subst q
      first
        | (rw [put_self] at e; cases e; exact he)
        | exact F2
        | exact Nat.le_succ_of_le lo
    · rw [put_ne _ _ q] at e
      by_cases q2 : b = s.heap.objs.size
      · subst q2
        first
          | (rw [put_self] at e; cases e; exact hoi)
          | exact f1.2
          | exact lo
      · rw [put_ne _ _ q2] at e
        first
          | exact hk _ _ (r.own _ _ e)
          | exact r.dj _ _ e
          | exact r.lowg _ _ e

/-- an enumerate at its k-th turn, over a list that stays -/
noncomputable def EnmAt (e it l : Addr) (xs : List Value) (k : Nat) (h : Heap) : Prop := (∃ old, IsEnum h e it k old) ∧ h.IsListIter it l k ∧ h.IsList l xs.toArray
theorem EnmAt.frame {e it l : Addr} {xs : List Value} {k : Nat} {h h' : Heap} (x : EnmAt e it l xs k h) (kp : ∀ b ∈ [e, it, l], ∀ o, h.get? b = some o → h'.get? b = some o) : EnmAt e it l xs k h' :=
  ⟨let ⟨old, y⟩ := x.1; ⟨old, kp _ (.head _) _ y⟩, x.2.1.at fun o y => kp _ (.tail _ (.head _)) o y, x.2.2.at fun o y => kp _ (.tail _ (.tail _ (.head _))) o y⟩
theorem EnmAt.some {e it l : Addr} {xs : List Value} {k : Nat} {h : Heap} (x : EnmAt e it l xs k h) : ∀ b ∈ [e, it], (h.get? b).isSome = true := fun b m => by
  refine x02 x fun z21 z22 _ => ?_; clear x; refine x10 z21 fun old h1 => ?_; clear z21; refine x11 z22 fun o h2 _ => ?_; clear z22
  rcases List.mem_cons.mp m with rfl | m
  · rw [show h.get? b = _ from h1]; rfl
  · rw [List.mem_singleton] at m; subst m; rw [h2]; rfl
theorem Loop.turnE {α : Type} {t : Sem α} {P : α → Vars → Led → Prop} {F : Led} {Inv : Nat → Vars → Led → Prop} {k : Nat} {h h' : Heap} {St0 : Nat → Heap → Prop} {wr fp : List Addr} {St : Nat → Heap → Prop} (Ts : ∀ k h, St k h → ∀ b ∈ wr, (h.get? b).isSome = true) (Tf : ∀ i h h', St i h → (∀ b ∈ fp, ∀ o, h.get? b = some o → h'.get? b = some o) → St i h') (x : Loop K F L wr St0 Inv k vs g h)
    (kp : ∀ b o, b ∉ wr → h.get? b = some o → h'.get? b = some o) (st : St (k + 1) h') (ob : Addr → Obj) (hob : ∀ b ∈ fp, b ∉ wr → g b = some (ob b))
    (ht : EvF prog w K A L vs t g P) (s : Shared) (Q : α → Shared → Prop) (E : Value → Shared → Prop) (hs : s.heap = h')
    (kk : ∀ a vs' g' h'' d tk, P a vs' g' → ((∀ b ∈ fp, b ∉ wr → g' b = some (ob b)) → St (k + 1) h'') → Rep K g' F h'' → FrOk L vs' g' F h'' → (∀ b ∈ wr, g' b = none) → Q a { s with heap := h'', drawn := d, toks := tk }) :
    wpAny (model prog w) A t Q E s := by
  refine x01 (x.next kp) fun r1 f1 => ?_
  subst hs
  have hw := Ts _ _ st
  refine ht _ s Q E (r1.hide fun b m => ⟨x.wg b m, (x.wf b m).1, (x.wf b m).2.1⟩) ⟨f1.ns, f1.nd, f1.ng, ?_, f1.low⟩ fun a vs' g' h'' d tk p r' f' => ?_
  · rw [if_neg (fun m => (x.wf L m).2.2 rfl)]; exact f1.nf
  · refine x02 (Rep.bare (fun b m => ⟨(x.wf b m).1, hw b m⟩) r' x.r.lowf) fun r2 wg2 kw => ?_
    refine kk a vs' g' h'' d tk p (fun ho => Tf _ _ _ st fun b m o e => ?_) r2 ⟨f'.ns, f'.nd, f'.ng, x.f.nf, f'.low⟩ wg2
    by_cases q : b ∈ wr
    · exact kw b q o e
    · have e1 := r1.own _ _ (hob b m q)
      rw [e1] at e; cases e
      exact r2.own _ _ (ho b m q)

theorem code_compE {elt iter : Expr} {gens : List Comprehension} {scope : Scope} {pos tpos : Pos} {d x1 : Nat} {elts : List Expr} {ifs : List Expr} {inner : Sem Unit} {acc : Value} {Inv : Nat → Vars → Led → Prop} {P : Vars → Led → Prop} {e it l : Addr} {xs : List Value} (hh : A.handled = none) (hei : e ≠ it)
    (he : compTurn (.ListComp elt gens scope pos) d (.ref e) acc env = levelOf (.ListComp elt gens scope pos) d (.Tuple elts x1 tpos) iter ifs inner (.ref e) acc env) (ob : Obj)
    (hob : ∀ k vs g, Inv k vs g → g l = some ob)
    (turn : ∀ k vs g v t T, k < xs.length → xs[k]? = some v → Inv k vs g → g T = none → EvF prog w K A L vs (assign (.Tuple elts x1 tpos) env (.ref T) >>= fun _ => tests ifs env >>= fun ok => if ok = true then inner else Pure.pure ()) (g.put T (tupV [.int k t, v] 0)) fun _ vs' g' => Inv (k + 1) vs' g')
    (done : ∀ vs g, Inv xs.length vs g → P vs g)
    {F : Led} {s : Shared} {R : Result → Shared → Prop} (x : Loop K F L [e, it] (EnmAt e it l xs) Inv 0 vs g s.heap)
    (kk : ∀ vs' g' h' d tk, P vs' g' → Rep K g' F h' → FrOk L vs' g' F h' → R (.ok .next) { s with heap := h', drawn := d, toks := tk }) :
    codeAny (model prog w) A (.compLoop (.ListComp elt gens scope pos) d (.ref e) acc env) R s := by
  refine codeAny_loop rfl (fun m s' => ∃ k vs g h dr tk, m = xs.length - k ∧ k ≤ xs.length ∧ s' = { s with heap := h, drawn := dr, toks := tk } ∧ Loop K F L [e, it] (EnmAt e it l xs) Inv k vs g h) (fun m s' hI => ?_) xs.length ⟨0, vs, g, s.heap, s.drawn, s.toks, rfl, Nat.zero_le _, rfl, x⟩
  refine x40 hI fun k vs g h z81 => ?_; clear hI; refine x23 z81 fun dr tk z82 hk z83 x => ?_; clear z81; subst z82; subst z83
  show wpAny _ _ ((compTurn (.ListComp elt gens scope pos) d (.ref e) acc env).onRaise (fun x => do noteFrame x env; theTreesLotGoes x)) _ _ _
  refine wpAny_noted ?_
  rw [he]
  unfold levelOf
  refine wpAny_bind (wpAny_standAt (wpAny_bind ?_))
  have gl := hob k vs g x.inv
  have nle : l ≠ e := by rintro rfl; rw [x.wg _ (.head _)] at gl; cases gl
  have nli : l ≠ it := by rintro rfl; rw [x.wg _ (.tail _ (.head _))] at gl; cases gl
  refine x02 x.st fun z101 hI hL => ?_; refine x10 z101 fun old hE => ?_; clear z101
  by_cases hlt : k < xs.length
  · obtain ⟨v, hv⟩ : ∃ v, xs[k]? = some v := ⟨_, List.getElem?_eq_getElem hlt⟩
    refine wpAny_pyNext_enum_item hE hI hL (x := v) (by simpa using hv) hei fun h₁ ho₁ hi₁ hT hsz₁ kp₁ => ?_
    have kp₁' : ∀ b o, b ∉ [e, it] → h.get? b = some o → h₁.get? b = some o := fun b o m q => kp₁ b o (fun z => m (by simp [z])) (fun z => m (by simp [z])) q
    refine x01 (x.next kp₁') fun r1 f1 => ?_
    refine x01 x.r.free fun gT FT => ?_
    have low : 386 ≤ h.objs.size := x.r.fx.n
    have rT : Rep K (g.put h.objs.size (tupV [.int (k : Int) tk, v] 0)) F h₁ := by
      refine ⟨fun b y q => ?_, r1.fr, fun b y q => ?_, fun b y q => ?_, r1.lowf, r1.fx⟩
      · by_cases z : b = h.objs.size
        · subst z; rw [put_self] at q; cases q; exact hT
        · rw [put_ne _ _ z] at q; exact r1.own _ _ q
      · by_cases z : b = h.objs.size
        · subst z; exact FT
        · rw [put_ne _ _ z] at q; exact r1.dj _ _ q
      · by_cases z : b = h.objs.size
        · subst z; exact low
        · rw [put_ne _ _ z] at q; exact r1.lowg _ _ q
    have nLT : L ≠ h.objs.size := by
      refine x31 x.f.ns fun oL _ _ e' _ => ?_
      exact Nat.ne_of_lt (Heap.lt_size e')
    have nT : ∀ b ∈ [e, it], b ≠ h.objs.size := fun b m z => by
      have := EnmAt.some x.st b m
      rw [z] at this
      cases q : h.get? h.objs.size with
      | none => rw [q] at this; cases this
      | some y => exact absurd (Heap.lt_size q) (Nat.lt_irrefl _)
    have x1' : Loop K F L [e, it] (fun _ _ => True) (fun _ _ _ => True) k vs (g.put h.objs.size (tupV [.int (k : Int) tk, v] 0)) h₁ :=
      ⟨rT, ⟨f1.ns, f1.nd, by rw [put_ne _ _ nLT]; exact f1.ng, f1.nf, f1.low⟩, trivial, trivial, fun b m => by rw [put_ne _ _ (nT b m)]; exact x.wg b m, x.wf⟩
    refine wpAny_bind (wpAny_letOwnedTupleGo_enum ho₁ fun h₂ he₂ hs₂ => ?_)
    have kp₂ : ∀ b o, b ∉ [e, it] → h₁.get? b = some o → h₂.get? b = some o := fun b o m q => (hs₂.2 b fun z => m (by simp [z])).trans q
    have st₂ : EnmAt e it l xs (k + 1) h₂ := ⟨⟨v, by simpa using he₂⟩, hi₁.at fun o q => (hs₂.2 it hei.symm).trans q, hL.at fun o q => (hs₂.2 l nle).trans (kp₁ l o nle nli q)⟩
    have hobT : ∀ b ∈ [e, it, l], b ∉ [e, it] → (g.put h.objs.size (tupV [.int (k : Int) tk, v] 0)) b = some ob := fun b m n => by
      have : b = l := by
        simp only [List.mem_cons, List.not_mem_nil, or_false] at m n
        rcases m with m | m | m
        · exact absurd (.inl m) n
        · exact absurd (.inr m) n
        · exact m
      subst this
      rw [put_ne]; exact gl
      exact ne_of_none gT gl
    have main := fun Q E => x1'.turnE (Q := Q) (E := E) (St := EnmAt e it l xs) (fun k h z => z.some) (fun i h h' z kp => z.frame kp) kp₂ st₂ (fun _ => ob) hobT (turn k vs g v tk _ hlt hv x.inv gT) { s with heap := h₂, drawn := dr, toks := tk + 1 }
    have e : (assign (.Tuple elts x1 tpos) env (.ref h.objs.size) >>= fun _ => tests ifs env >>= fun ok => if ok = true then inner >>= fun _ => again (.compLoop (.ListComp elt gens scope pos) d (.ref e) acc env) else again (.compLoop (.ListComp elt gens scope pos) d (.ref e) acc env)) =
        ((assign (.Tuple elts x1 tpos) env (.ref h.objs.size) >>= fun _ => tests ifs env >>= fun ok => if ok = true then inner else Pure.pure ()) >>= fun _ => again (.compLoop (.ListComp elt gens scope pos) d (.ref e) acc env)) := by
      rw [LawfulMonad.bind_assoc]
      congr 1; funext _
      rw [LawfulMonad.bind_assoc]
      congr 1; funext ok
      cases ok
      · simp
      · simp
    rw [e]
    refine wpAny_bind (main _ _ rfl fun _ vs' g' h₃ d₃ tk₃ p st₃ r₃ f₃ wg₃ => wpAny_pure ⟨rfl, xs.length - (k + 1), by lia, k + 1, vs', g', h₃, d₃, tk₃, rfl, hlt, rfl, r₃, f₃, st₃ fun b m n => ?_, p, wg₃, x.wf⟩)
    have : b = l := by
      simp only [List.mem_cons, List.not_mem_nil, or_false] at m n
      rcases m with m | m | m
      · exact absurd (.inl m) n
      · exact absurd (.inr m) n
      · exact m
    subst this
    exact hob _ _ _ p
  · have hkn : k = xs.length := by lia
    subst hkn
    refine wpAny_pyNext_enum_end hh hE hI hL (by simp) fun h' eb => ?_
    refine x01 (x.next (h' := h') fun b o m q => eb b o (fun z => m (by simp [z])) q) fun r1 f1 => ?_
    exact wpAny_pure (kk _ _ _ _ _ (done vs g x.inv) r1 f1)
theorem code_compStartE {elt : Expr} {gens : List Comprehension} {scope : Scope} {pos : Pos} {d : Nat} {acc : Value} {e it : Addr} {i : Int} {old : Value} {s : Shared} {R : Result → Shared → Prop} (st : IsEnum s.heap e it i old)
    (ha : ((gens)[d]?).elim false (·.is_async != 0) = false) (h : codeAny (model prog w) A (.compLoop (.ListComp elt gens scope pos) d (.ref e) acc env) R s) :
    codeAny (model prog w) A (.compStart (.ListComp elt gens scope pos) d (.ref e) acc env) R s := by
  refine codeAny_of_tree ?_
  show wpAny _ _ ((compStart (.ListComp elt gens scope pos) d (.ref e) acc env).onRaise (fun x => do noteFrame x env; standAt theWindowsPlace)) _ _ s
  refine wpAny_notedAt ?_
  unfold compStart
  have e1 : ((clausesOf (.ListComp elt gens scope pos))[d]?).elim false (·.is_async != 0) = false := ha
  rw [e1]
  simp only [Bool.false_eq_true, if_false]
  refine wpAny_bind (wpAny_askSetting ?_)
  split
  · first
      | exact wpAny_bind (wpAny_pure (wpAny_pure (And.intro rfl h)))
      | exact wpAny_pure (And.intro rfl h)
  · refine wpAny_bind (wpAny_rule ?_)
    have fin : wpAny (model prog w) (A.under (.compStart (.ListComp elt gens scope pos) d (.ref e) acc env)) (pyIter (.ref e) >>= fun it => again (.compLoop (.ListComp elt gens scope pos) d it acc env))
        (fun fin s' => match fin with | .done f => R (.ok f) s' | .again c' => c'.quiet = true ∧ codeAny (model prog w) A c' R s') (notedBy (model prog w) (A.under (.compStart (.ListComp elt gens scope pos) d (.ref e) acc env)) env fun x s' => R (.error x) s') s :=
      wpAny_bind (wpAny_pyIter_enum st (wpAny_pure ⟨rfl, h⟩))
    split
    · exact wpAny_bind (wpAny_standAt fin)
    · exact fin
inductive ESpec (prog : Program) (w : World) (K : Frag) (A : Around) (env : Env) (target elt : Expr) (ifs : List Expr) (scope : Scope) (cl : List (Str × Addr)) (names : List Str) (γ : Type) (Z : Addr → Vars → Led → Prop) (x : Value) (vs' : Vars) (g' : Led) : Prop
  | mk (en ie : Addr) (oi : Obj) (l : Addr) (xs : List Value) (go : Led) (ob : Obj) (q1 : x = .ref en) (q2 : g' = (go.put ie oi).put en (enmV ie)) (q3 : go ie = none) (q4 : go en = none) (q5 : en ≠ ie) (q6 : LitO l oi) (q7 : go l = some ob) (q8 : LstO xs ob) (out : Nat → List γ) (R : Led → γ → Value → Prop) (o0 : out 0 = []) (hlen : ∀ k, (out k).length ≤ sizeLine) (p : ∀ C e, Ext go e →
      (∀ m c, (cellsFrom (C + 1) scope.names []).lookup m = some c → go c = none ∧ At e c (CellO none)) →
      ∃ J : Nat → Vars → Led → Prop, ∃ T : Led → Led → Prop, J 0 (names.map fun n => (n, none)) e ∧ (∀ k vs e', J k vs e' → e' l = some ob) ∧ (∀ e e' b v, T e e' → R e b v → R e' b v) ∧
      (∀ k v t T' vs e, k < xs.length → xs[k]? = some v → J k vs e → e T' = none → EvF prog w K A C vs (assign target (cenvOf scope cl C env) (.ref T') >>= fun _ => tests ifs (cenvOf scope cl C env)) (e.put T' (tupV [.int k t, v] 0)) fun okk vs' e' =>
        if okk then EvF prog w K A C vs' (eval elt (cenvOf scope cl C env)) e' fun v vs'' e'' => J (k + 1) vs'' e'' ∧ T e e'' ∧ ∃ b, out (k + 1) = out k ++ [b] ∧ R e'' b v else J (k + 1) vs' e' ∧ T e e' ∧ out (k + 1) = out k) ∧
      (∀ vs e xs' D m, J xs.length vs e → e D = none → All2 (R e) (out xs.length) xs' → Z D vs' (e.put D (lstV xs' m)))) : ESpec prog w K A env target elt ifs scope cl names γ Z x vs' g'
theorem del_put_ne {a b : Addr} {o : Obj} (h : a ≠ b) : (g.put a o).del b = (g.del b).put a o := by
  funext c
  by_cases z : c = b
  · subst z; rw [del_self, put_ne _ _ h.symm, del_self]
  · rw [del_ne _ z]
    by_cases z2 : c = a
    · subst z2; rw [put_self, put_self]
    · rw [put_ne _ _ z2, put_ne _ _ z2, del_ne _ z]
theorem EvF.compLE {γ : Type} {elt : Expr} {scope : Scope} {pos tpos : Pos} {elts : List Expr} {x1 : Nat} {iter : Expr} {ifs : List Expr} {cl : List (Str × Addr)} {n₀ : Nat} {P : Value → Vars → Led → Prop} (names : List Str) (ok : Ok A n₀)
    (h : EvF prog w K A L vs (eval iter env) g (ESpec prog w K A env (.Tuple elts x1 tpos) elt ifs scope cl names γ fun D => P (.ref D)))
    (hclos : closureFor scope env = Pure.pure cl := by rfl) (hnd : names.Nodup := by decide) (hkind : scope.kind = .function := by rfl) (hnames : ∀ x ∈ scope.names, x.2 = .local → scope.names.lookup x.1 = some .local := by decide)
    (hs : ∀ x, foldedSetIterable iter env x = Pure.pure x := by intro _; rfl) :
    EvF prog w K A L vs (eval (.ListComp elt [⟨.Tuple elts x1 tpos, iter, ifs, 0⟩] scope pos) env) g P := by
  intro F s Q E r f k
  rw [eval_ListComp]
  refine wpAny_comprehension_free (use := none) rfl hs hclos hkind hnames (h F s _ E r f fun x vs' g' h' d tk p r' f' => ?_)
  obtain ⟨en, ie, oi, l, xz, go, ob, rfl, rfl, gin, gen, hei, hoi, gl, hob, out, R, o0, hlen, p⟩ := p
  have ext : Ext go ((go.put ie oi).put en (enmV ie)) := (Ext.new _ gin).trans (Ext.new _ (by rw [put_ne _ _ hei]; exact gen))
  have r0 : Rep K go F h' := r'.sub ext
  have geE : ((go.put ie oi).put en (enmV ie)) en = some (enmV ie) := put_self ..
  have giE : ((go.put ie oi).put en (enmV ie)) ie = some oi := by rw [put_ne _ _ hei.symm, put_self]
  have hE : IsEnum h' en ie 0 .none := r'.own _ _ geE
  have hOi := r'.own _ _ giE
  have ngL : go L = none := by
    cases q : go L with
    | none => rfl
    | some y => have := ext _ _ q; rw [f'.ng] at this; cases this
  have st0 : EnmAt en ie l xz 0 h' := ⟨⟨_, hE⟩, ⟨_, hOi, hoi.1, hoi.2⟩, by refine x10 hob fun n e => ?_; clear hob; exact ⟨_, r0.own _ _ gl, by rw [e], n, by rw [e]⟩⟩
  refine wpAny_pyIter_enum hE ?_
  refine compCore (names := names) (P := P) (s := { s with heap := h', drawn := d, toks := tk }) (wr := [en, ie]) (St := EnmAt en ie l xz) hnd r0 ⟨f'.ns, f'.nd, ngL, f'.nf, f'.low⟩ (fun b m => ?_) (fun h hk => st0.frame fun b _ x e => hk b x e) (fun D C g₁ hD e hL hc => ?_) k
  · rcases List.mem_cons.mp m with rfl | m
    · exact ⟨Heap.lt_size hE, gen, r'.dj _ _ geE, r'.lowg _ _ geE, fun q => by have z := f'.ng; rw [← q] at z; rw [z] at geE; cases geE⟩
    · rw [List.mem_singleton] at m; subst m
      exact ⟨Heap.lt_size hOi, gin, r'.dj _ _ giE, r'.lowg _ _ giE, fun q => by have z := f'.ng; rw [← q] at z; rw [z] at giE; cases giE⟩
  obtain ⟨J, T, j0, jc, tr, turn, done⟩ := p C (g₁.del D) (e.del hD) fun m c q => ⟨(hc m c q).1, by
    obtain ⟨o, ho, hd⟩ := (hc m c q).2.2
    exact ⟨o, by rw [del_ne _ (hc m c q).2.1]; exact ho, hd⟩⟩
  refine ⟨fun k vs g => ∃ xs, At g D (LstO xs) ∧ All2 (R (g.del D)) (out k) xs ∧ J k vs (g.del D), xz.length, ⟨[], hL, o0 ▸ .nil, j0⟩, fun vs g i => ?_, fun F' s' R' lp kk => code_compStartE (lp.st.1.choose_spec) (by rfl) (code_compE (inner := Mine.emit elt (.ref D) (cenvOf scope cl C env)) ok.h hei (level1 ..) ob (fun k vs g i => ?_) (fun k vs g v t T' hk hv i nT => ?_) (fun _ _ i => i) lp kk)⟩
  · refine x12 i fun xs z261 ha j => ?_; clear i; obtain ⟨oD, hoD, mD, rfl⟩ := z261
    have := done vs _ xs D mD j (del_self ..) ha
    rwa [put_del hoD] at this
  · refine x12 i fun xs _ _ j => ?_; clear i
    exact del_ext _ _ _ _ (jc _ _ _ j)
  · refine x12 i fun xs z301 ha j => ?_; clear i; obtain ⟨oD, hoD, mD, rfl⟩ := z301
    have nTD : T' ≠ D := by rintro rfl; rw [nT] at hoD; cases hoD
    refine stepL (by rw [put_ne _ _ nTD.symm]; exact hoD) ha (hlen k) tr ?_
    rw [del_put_ne nTD]
    exact turn k v t T' vs _ hk hv j (by rw [del_ne _ nTD]; exact nT)
end Mine
end SLg22

section SLg24
open PySem PySem.W PySem.Calls PyProof.Rows PySem.SeqAt
set_option maxRecDepth 100000
namespace Mine
variable {prog : Program} {w : World} {K : Frag} {A : Around} {α β : Type} {L : Addr} {vs : Vars} {g : Led} {env : Env}
/-- a call of a bound method, behind its callee -/
theorem EvF.callWithM {pos : Pos} {q f : Addr} {self : Value} {e : Expr} {rest : List Expr} {P : Value → Vars → Led → Prop} (hf : fnIn K f = true)
    (h : EvF prog w K A L vs (spliced (backTo pos (starEach (e :: rest) env))) g fun xs vs' g' => g' q = some (methodObj (.ref f) self) ∧ EvC prog w K A (.call (.ref f) ⟨self :: xs, []⟩) g' fun v g'' => P v vs' g'')
    (he : starEach (e :: rest) env = (false, eval e env) :: starEach rest env := by rfl) (hplain : (backTo pos (starEach rest env)).any (·.1) = false := by rfl) :
    EvF prog w K A L vs (PySem.callWith pos (.ref q) [] (backTo pos (starEach (e :: rest) env)) (backToKw pos (keywordEach [] env))) g P := by
  intro F s Q E r fr k
  have fin : wpAny (model prog w) A (spliced (backTo pos (starEach (e :: rest) env))) (fun xs s₁ => MethP K q f self s₁.heap ∧ wpAny (model prog w) A (PySem.call (.ref q) ([] ++ xs) []) Q E s₁) E s :=
    h F s _ E r fr fun xs vs' g' h' d tk p r' f' => by
      refine x01 p ?_; clear p; intro hq p
      refine ⟨⟨r'.own _ _ hq, r'.fx.in⟩, ?_⟩
      have : EvF prog w K A L vs' (PySem.call (.ref q) xs []) g' P := EvF.of fun F s Q E r k => wpAny_call (ks_codeAny_call_bound (r.own _ _ hq) (p F s _ r k))
      exact this F _ Q E r' f' k
  rw [he] at fin ⊢
  exact callWith_of (P := MethP K q f self) (by show ((false || (backTo pos (starEach rest env)).any (·.1)) || false) = false; rw [hplain]; rfl) (keeps_M hf) (evalArgs_plain fin)
end Mine
end SLg24

section SLg25
open PySem PySem.W PySem.Calls PyProof.Rows PySem.SeqAt
set_option maxRecDepth 100000
namespace Mine
variable {prog : Program} {w : World} {K : Frag} {A : Around} {α β : Type} {L : Addr} {vs : Vars} {g : Led} {env : Env}
theorem Ev.intI {i : Int} {t : Tok} {P : Value → Led → Prop} (h : P (.int i t) g) : Ev prog w K A (PySem.call (.type "int") [.int i t] []) g P :=
  .look fun F s Q E r k => call_int_int (k _ s.drawn s.toks h)
section
variable {κ : Type} [DecidableEq κ] {knd : KeyKind prog w κ}
/-- {k1: v1, k2: v2} -/
theorem EvF.dict2 {k1 k2 v1 v2 : Expr} {pos : Pos} {a1 a2 : κ} {P : Value → Vars → Led → Prop}
    (h : ∀ a, g a = none → EvF prog w K A L vs (eval k1 env) (g.put a { cls := .type "dict", data := .dict #[] }) fun x1 vs1 g1 => EvF prog w K A L vs1 (eval v1 env) g1 fun y1 vs2 g2 => EvF prog w K A L vs2 (eval k2 env) g2 fun x2 vs3 g3 => EvF prog w K A L vs3 (eval v2 env) g3 fun y2 vs4 g4 =>
      knd.is a1 x1 = true ∧ knd.is a2 x2 = true ∧ At g4 a (DicO knd []) ∧ ∀ o, DicO knd (stored (stored [] a1 y1) a2 y2) o → P (.ref a) vs4 (g4.put a o)) :
    EvF prog w K A L vs (eval (.Dict [some k1, some k2] [v1, v2] pos) env) g P := by
  intro F s Q E r f k
  refine x01 r.free fun n1 n2 => ?_
  have r1 := r.push (o := { cls := .type "dict", data := .dict #[] }) rfl
  have hn : s.heap.objs.size ≠ L := by
    refine x31 f.ns fun oL es ep hL _ => ?_
    exact fun q => Nat.lt_irrefl _ (q ▸ Heap.lt_size hL)
  have f1 : FrOk L vs (g.put s.heap.objs.size { cls := .type "dict", data := .dict #[] }) F (s.heap.push { cls := .type "dict", data := .dict #[] }) := by
    refine x31 f.ns fun oL es ep hL q => ?_
    exact ⟨⟨oL, es, ep, Heap.get?_push_of_some _ hL, q⟩, f.nd, by rw [put_ne _ _ hn.symm]; exact f.ng, f.nf, f.low⟩
  refine wpAny_Dict_walk (knd := knd) (by rfl) (by rfl) (by simp) (by simp) ?_
  refine pairTrees_cons_walk ?_
  refine h _ n1 F _ _ E r1 f1 fun x1 vs1 g1 h1' d1 t1 p r2 f2 => ?_
  refine p F _ _ E r2 f2 fun y1 vs2 g2 h2' d2 t2 p r3 f3 => ?_
  refine pairTrees_cons_walk ?_
  refine p F _ _ E r3 f3 fun x2 vs3 g3 h3' d3 t3 p r4 f4 => ?_
  refine p F _ _ E r4 f4 fun y2 vs4 g4 h4' d4 t4 p r5 f5 => ?_
  refine x03 p ?_; clear p; intro q1 q2 qd p
  refine pairTrees_nil_walk ⟨[(a1, y1), (a2, y2)], ⟨q1, rfl, q2, rfl, trivial⟩, qd.dic r5, fun h' hm sb => ?_⟩
  refine x35 hm fun o es ep ho c1 c2 c3 c4 c5 => ?_; clear hm
  obtain ⟨o₀, ho₀, _⟩ := qd
  have hn4 : s.heap.objs.size ≠ L := ne_of_none f5.ng ho₀
  have r6 := r5.turn ho₀ ho fun b x n y => (sb.2 b n).trans y
  refine k _ _ _ _ d4 _ (p o ⟨es, ep, c1, c2, c3, c4, c5⟩) r6 ?_
  refine x31 f5.ns fun oL es ep hL q => ?_
  exact ⟨⟨oL, es, ep, (sb.2 _ hn4.symm).trans hL, q⟩, f5.nd, by rw [put_ne _ _ hn4.symm]; exact f5.ng, f5.nf, f5.low⟩
end
end Mine
end SLg25

section SPl1
set_option maxRecDepth 100000
namespace Mine
/-- ranges: each not empty, ascending and apart -/
noncomputable def Norm (d : List (Int × Int)) : Prop := d.Pairwise (fun p q => p.2 < q.1) ∧ ∀ p ∈ d, p.1 ≤ p.2
noncomputable def Mem (d : List (Int × Int)) (v : Int) : Prop := ∃ p ∈ d, p.1 ≤ v ∧ v ≤ p.2
theorem Norm.tail {p : Int × Int} {d : List (Int × Int)} (h : Norm (p :: d)) : Norm d := ⟨(List.pairwise_cons.mp h.1).2, fun q hq => h.2 q (List.mem_cons_of_mem _ hq)⟩
theorem Mem.cons {p : Int × Int} {d : List (Int × Int)} {v : Int} : Mem (p :: d) v ↔ (p.1 ≤ v ∧ v ≤ p.2) ∨ Mem d v := by
  unfold Mem; simp
theorem Mem.nil {v : Int} : ¬ Mem [] v := by unfold Mem; simp
theorem nextFrom_mem : ∀ {d : List (Int × Int)} {v : Int}, Norm d → ((nextFrom d v == some v) = true ↔ Mem d v)
  | [], v, _ => by simp [nextFrom, Mem]
  | (lo, hi) :: d, v, h => by
    rw [Mem.cons]
    unfold nextFrom
    have hp := h.2 (lo, hi) (.head _)
    by_cases q : v ≤ hi
    · rw [if_pos q]
      simp only [beq_iff_eq, Option.some.injEq]
      constructor
      · intro e; exact .inl ⟨by omega, q⟩
      · rintro (⟨a, _⟩ | ⟨r, hr, a, b⟩) <;> try simp only at a
        · omega
        · have := (List.pairwise_cons.mp h.1).1 r hr; simp only at this; omega
    · rw [if_neg q, nextFrom_mem h.tail]
      constructor
      · exact .inr
      · rintro (⟨_, b⟩ | r)
        · exact absurd b q
        · exact r
theorem upTo_cons (p : Int × Int) (d : List (Int × Int)) (k : Int) : upTo (p :: d) k = if p.1 ≤ k then (p.1, min p.2 k) :: upTo d k else upTo d k := by
  unfold upTo; rw [List.filter_cons]
  by_cases q : p.1 ≤ k <;> simp [q]
theorem fromOn_cons (p : Int × Int) (d : List (Int × Int)) (k : Int) : fromOn (p :: d) k = if p.2 ≥ k then (max p.1 k, p.2) :: fromOn d k else fromOn d k := by
  unfold fromOn; rw [List.filter_cons]
  by_cases q : p.2 ≥ k <;> simp [q]
theorem upTo_none : ∀ {d : List (Int × Int)} {k : Int}, (∀ p ∈ d, k < p.1) → upTo d k = []
  | [], _, _ => rfl
  | p :: d, k, h => by
    rw [upTo_cons, if_neg (by have := h p (.head _); omega)]
    exact upTo_none fun q hq => h q (List.mem_cons_of_mem _ hq)
theorem fromOn_all : ∀ {d : List (Int × Int)} {k : Int}, Norm d → (∀ p ∈ d, k ≤ p.1) → fromOn d k = d
  | [], _, _, _ => rfl
  | p :: d, k, n, h => by
    have h1 := h p (.head _)
    have h2 := n.2 p (.head _)
    rw [fromOn_cons, if_pos (by omega), fromOn_all n.tail fun q hq => h q (List.mem_cons_of_mem _ hq), show max p.1 k = p.1 by omega]
/-- behind the strike, nothing else -/
theorem without_mem : ∀ {d : List (Int × Int)} {k v : Int}, Norm d → (Mem (without d k) v ↔ Mem d v ∧ v ≠ k) := by
  intro d k v n
  unfold without Mem
  simp only [List.mem_append, upTo, fromOn, List.mem_map, List.mem_filter, decide_eq_true_eq]
  constructor
  · rintro ⟨p, (⟨q, ⟨hq, a⟩, rfl⟩ | ⟨q, ⟨hq, a⟩, rfl⟩), b, c⟩
    · exact ⟨⟨q, hq, b, by simp only at c; omega⟩, by simp only at c; omega⟩
    · exact ⟨⟨q, hq, by simp only at b; omega, c⟩, by simp only at b; omega⟩
  · rintro ⟨⟨p, hp, a, b⟩, ne⟩
    by_cases q : v < k
    · exact ⟨(p.1, min p.2 (k - 1)), .inl ⟨p, ⟨hp, by omega⟩, rfl⟩, a, by simp only; omega⟩
    · exact ⟨(max p.1 (k + 1), p.2), .inr ⟨p, ⟨hp, by omega⟩, rfl⟩, by simp only; omega, b⟩
theorem without_same : ∀ {d : List (Int × Int)} {k : Int}, Norm d → ¬ Mem d k → without d k = d
  | [], _, _, _ => rfl
  | p :: d, k, n, h => by
    rw [Mem.cons, not_or] at h
    have h2 := n.2 p (.head _)
    have h3 := (List.pairwise_cons.mp n.1).1
    unfold without
    by_cases q : k < p.1
    · rw [upTo_none (k := k - 1) fun r hr => ?_, List.nil_append]
      · exact fromOn_all n fun r hr => by
          rcases List.mem_cons.mp hr with rfl | hr
          · omega
          · have := h3 r hr; omega
      · rcases List.mem_cons.mp hr with rfl | hr
        · omega
        · have := h3 r hr; omega
    · have hk : p.2 < k := by have := h.1; omega
      rw [upTo_cons, if_pos (by omega), fromOn_cons, if_neg (by omega), List.cons_append, show min p.2 (k - 1) = p.2 by omega]
      have := without_same n.tail h.2
      unfold without at this
      rw [this]
end Mine
end SPl1

section SPl2
set_option maxRecDepth 100000
namespace Mine
noncomputable def rangesStep (rs : List (Int × Int)) (v : Int) : List (Int × Int) := match rs.getLast? with
  | some (lo, hi) => if hi = v - 1 then rs.dropLast ++ [(lo, v)] else rs ++ [(v, v)]
  | none => rs ++ [(v, v)]
noncomputable def rangesOf (some : List Int) : List (Int × Int) := some.foldl rangesStep []
theorem Mem.app {a b : List (Int × Int)} {v : Int} : Mem (a ++ b) v ↔ Mem a v ∨ Mem b v := by
  unfold Mem
  constructor
  · rintro ⟨p, hp, h⟩
    rcases List.mem_append.mp hp with hp | hp
    · exact .inl ⟨p, hp, h⟩
    · exact .inr ⟨p, hp, h⟩
  · rintro (⟨p, hp, h⟩ | ⟨p, hp, h⟩)
    · exact ⟨p, List.mem_append_left _ hp, h⟩
    · exact ⟨p, List.mem_append_right _ hp, h⟩
theorem Mem.one {a b v : Int} : Mem [(a, b)] v ↔ a ≤ v ∧ v ≤ b := by unfold Mem; simp
theorem Norm.snoc {rs : List (Int × Int)} {a b : Int} (h : Norm rs) (hab : a ≤ b) (hl : ∀ p ∈ rs, p.2 < a) : Norm (rs ++ [(a, b)]) := by
  refine ⟨List.pairwise_append.mpr ⟨h.1, List.pairwise_singleton _ _, fun p hp q hq => ?_⟩, fun p hp => ?_⟩
  · rw [List.mem_singleton] at hq; subst hq; exact hl p hp
  · rcases List.mem_append.mp hp with hp | hp
    · exact h.2 p hp
    · rw [List.mem_singleton] at hp; subst hp; exact hab
theorem step_ok {rs : List (Int × Int)} {v : Int} (h : Norm rs) (hv : ∀ u, Mem rs u → u < v) : Norm (rangesStep rs v) ∧ ∀ u, Mem (rangesStep rs v) u ↔ Mem rs u ∨ u = v := by
  have hl : ∀ p ∈ rs, p.2 < v := fun p hp => hv p.2 ⟨p, hp, h.2 p hp, Int.le_refl _⟩
  unfold rangesStep
  cases hg : rs.getLast? with
  | none =>
    exact ⟨h.snoc (Int.le_refl _) hl, fun u => by rw [Mem.app, Mem.one]; constructor <;> (rintro (x | x); exact .inl x; exact .inr (by lia))⟩
  | some p =>
    obtain ⟨lo, hi⟩ := p
    dsimp only
    have hne : rs ≠ [] := by rintro rfl; cases hg
    obtain ⟨ps, rfl⟩ : ∃ ps, rs = ps ++ [(lo, hi)] := ⟨rs.dropLast, by
      have := List.dropLast_concat_getLast hne
      rw [List.getLast?_eq_some_getLast hne] at hg
      rw [← Option.some.inj hg]; exact this.symm⟩
    by_cases q : hi = v - 1
    · rw [if_pos q, List.dropLast_concat]
      have h1 := List.pairwise_append.mp h.1
      have hps : Norm ps := ⟨h1.1, fun p hp => h.2 p (List.mem_append_left _ hp)⟩
      have hlh := h.2 (lo, hi) (List.mem_append_right _ (.head _))
      dsimp only at hlh
      refine ⟨hps.snoc (by lia) fun p hp => h1.2.2 p hp (lo, hi) (.head _), fun u => ?_⟩
      rw [Mem.app, Mem.app, Mem.one, Mem.one]
      constructor
      · rintro (x | x)
        · exact .inl (.inl x)
        · by_cases e : u = v
          · exact .inr e
          · exact .inl (.inr (by lia))
      · rintro ((x | x) | x)
        · exact .inl x
        · exact .inr (by lia)
        · exact .inr (by lia)
    · rw [if_neg q]
      exact ⟨h.snoc (Int.le_refl _) hl, fun u => by rw [Mem.app (b := [(v, v)]), Mem.one]; constructor <;> (rintro (x | x); exact .inl x; exact .inr (by lia))⟩
theorem fold_ok : ∀ (sm : List Int) (rs : List (Int × Int)) (seen : List Int), Norm rs → (∀ v, Mem rs v ↔ v ∈ seen) → (seen ++ sm).Pairwise (· < ·) →
    Norm (sm.foldl rangesStep rs) ∧ ∀ v, Mem (sm.foldl rangesStep rs) v ↔ v ∈ seen ++ sm
  | [], rs, seen, h, hm, _ => ⟨h, fun v => by rw [List.append_nil]; exact hm v⟩
  | x :: sm, rs, seen, h, hm, ha => by
    have hx : ∀ u, Mem rs u → u < x := fun u hu => (List.pairwise_append.mp ha).2.2 u ((hm u).mp hu) x (.head _)
    refine x01 (step_ok h hx) fun h1 h2 => ?_
    have ha' : ((seen ++ [x]) ++ sm).Pairwise (· < ·) := by rw [List.append_assoc]; exact ha
    have := fold_ok sm (rangesStep rs x) (seen ++ [x]) h1 (fun v => by rw [h2, hm, List.mem_append, List.mem_singleton]) ha'
    rw [List.append_assoc] at this
    exact this
theorem ranges_norm {sm : List Int} (h : sm.Pairwise (· < ·)) : Norm (rangesOf sm) ∧ ∀ v, Mem (rangesOf sm) v ↔ v ∈ sm := by
  have := fold_ok sm [] [] ⟨List.Pairwise.nil, fun _ h => (nomatch h)⟩ (fun v => ⟨fun x => (Mem.nil x).elim, fun x => (nomatch x)⟩) h
  exact this
end Mine
end SPl2

section SPl3
set_option maxRecDepth 100000
namespace Mine
/-- a ring: an order of all places that begins with 1, and what each leads to -/
noncomputable def RingOf (m : Nat) (behind : List Int) : Prop := ∃ order : List Int, order.length = m ∧ order[0]? = some 1 ∧ (∀ v : Int, 1 ≤ v → v ≤ m → v ∈ order) ∧ (∀ v ∈ order, 1 ≤ v ∧ v ≤ m) ∧ behind.length = m ∧
  ∀ k : Nat, ∀ a b : Int, k + 1 < m → order[k]? = some a → order[k + 1]? = some b → behind[(a - 1).toNat]? = some b
theorem leaves (p : Int → Bool) : ∀ (l : List Int) (a : Int), p a = true → (∃ x ∈ l, p x = false) → ∃ k x y, (a :: l)[k]? = some x ∧ (a :: l)[k + 1]? = some y ∧ p x = true ∧ p y = false
  | [], _, _, ⟨_, h, _⟩ => (nomatch h)
  | b :: l, a, ha, h => by
    cases hb : p b with
    | false => exact ⟨0, a, b, rfl, rfl, ha, hb⟩
    | true =>
      refine x11 h fun x hx e => ?_; clear h
      have : ∃ x ∈ l, p x = false := by
        rcases List.mem_cons.mp hx with rfl | hx
        · rw [hb] at e; cases e
        · exact ⟨x, hx, e⟩
      refine x33 (leaves p l b hb this) fun k x y h1 h2 h3 h4 => ?_
      exact ⟨k + 1, x, y, by simpa using h1, by simpa using h2, h3, h4⟩
/-- no ring through all places stays within what is reached -/
theorem ring_leaves {m : Nat} {behind found : List Int} (h : RingOf m behind) (h1 : (1 : Int) ∈ found) {o : Int} (ho1 : 1 ≤ o) (ho2 : o ≤ m) (ho : o ∉ found) :
    ∃ a b : Int, a ∈ found ∧ b ∉ found ∧ 1 ≤ a ∧ a ≤ m ∧ 1 ≤ b ∧ b ≤ m ∧ behind[(a - 1).toNat]? = some b := by
  refine x15 h fun order hl h0 hall hin hb hs => ?_; clear h
  cases order with
  | nil => cases h0
  | cons a l =>
    simp only [List.getElem?_cons_zero, Option.some.injEq] at h0
    subst h0
    have hol : o ∈ l := by
      rcases List.mem_cons.mp (hall o ho1 ho2) with rfl | h
      · exact absurd h1 ho
      · exact h
    refine x33 (leaves (fun v => decide (v ∈ found)) l 1 (decide_eq_true h1) ⟨o, hol, decide_eq_false ho⟩) fun k x y e1 e2 p1 p2 => ?_
    have hk : k + 1 < m := by rw [← hl]; exact (List.getElem?_eq_some_iff.mp e2).1
    have hx := hin x (List.mem_of_getElem? e1)
    have hy := hin y (List.mem_of_getElem? e2)
    exact ⟨x, y, of_decide_eq_true p1, of_decide_eq_false p2, hx.1, hx.2, hy.1, hy.2, hs k x y hk e1 e2⟩
end Mine
end SPl3

section SPl4
set_option maxRecDepth 100000
namespace Mine
/-- the table of ways, closed place by place -/
noncomputable def at2 (W : List (List Bool)) (i j : Nat) : Bool := ((W[i]?).getD [])[j]?.getD false
noncomputable def newRow (m : Nat) (W : List (List Bool)) (i k : Nat) : List Bool := (List.range m).map fun j => at2 W i j || at2 W k j
noncomputable def wrow (m k : Nat) (W : List (List Bool)) (i : Nat) : List (List Bool) := if at2 W i k = true then W.set i (newRow m W i k) else W
noncomputable def wk (m : Nat) (W : List (List Bool)) (k : Nat) : List (List Bool) := (List.range m).foldl (wrow m k) W
noncomputable def wall (m : Nat) (W : List (List Bool)) : List (List Bool) := (List.range m).foldl (wk m) W
noncomputable def Sq (m : Nat) (W : List (List Bool)) : Prop := W.length = m ∧ ∀ r ∈ W, r.length = m
theorem wrow_sq {m k i : Nat} {W : List (List Bool)} (h : Sq m W) : Sq m (wrow m k W i) := by
  unfold wrow
  split
  · refine ⟨by rw [List.length_set]; exact h.1, fun r hr => ?_⟩
    rcases List.mem_or_eq_of_mem_set hr with hr | rfl
    · exact h.2 r hr
    · simp [newRow]
  · exact h
theorem at2_wrow {m k i a j : Nat} {W : List (List Bool)} (h : Sq m W) (hi : i < m) (hj : j < m) :
    at2 (wrow m k W i) a j = if a = i ∧ at2 W i k = true then at2 W i j || at2 W k j else at2 W a j := by
  unfold wrow
  by_cases q : at2 W i k = true
  · rw [if_pos q]
    by_cases e : a = i
    · subst e
      rw [if_pos ⟨rfl, q⟩]
      have hl : a < W.length := by rw [h.1]; exact hi
      show ((W.set a (newRow m W a k))[a]?.getD [])[j]?.getD false = _
      rw [List.getElem?_set_self hl]
      simp [newRow, hj]
    · rw [if_neg (fun x => e x.1)]
      unfold at2
      rw [List.getElem?_set_ne (fun x => e x.symm)]
  · rw [if_neg q, if_neg (fun x => q x.2)]
inductive Way (E : Nat → Nat → Bool) (K : Nat) : Nat → Nat → Prop
  | base {i j : Nat} : E i j = true → Way E K i j
  | cat {i l j : Nat} : Way E K i l → Way E K l j → l < K → Way E K i j
theorem Way.split {E : Nat → Nat → Bool} {K i j : Nat} (h : Way E (K + 1) i j) : Way E K i j ∨ (Way E K i K ∧ Way E K K j) := by
  induction h with
  | base e => exact .inl (.base e)
  | @cat i l j _ _ hl a b =>
    rcases Nat.lt_succ_iff_lt_or_eq.mp hl with q | rfl
    · rcases a with a | ⟨a1, a2⟩ <;> rcases b with b | ⟨b1, b2⟩
      · exact .inl (.cat a b q)
      · exact .inr ⟨.cat a b1 q, b2⟩
      · exact .inr ⟨a1, .cat a2 b q⟩
      · exact .inr ⟨a1, b2⟩
    · rcases a with a | ⟨a1, a2⟩ <;> rcases b with b | ⟨b1, b2⟩
      · exact .inr ⟨a, b⟩
      · exact .inr ⟨a, b2⟩
      · exact .inr ⟨a1, b⟩
      · exact .inr ⟨a1, b2⟩
/-- one row after the other of phase k: what is below stays, what is behind is joined -/
theorem rows_ok {m k : Nat} (hk : k < m) : ∀ (is : List Nat) (W V : List (List Bool)), Sq m W → (∀ i ∈ is, i < m) → (∀ a j, a < m → j < m → at2 V a j = true → at2 W a j = true) →
    Sq m (is.foldl (wrow m k) W) ∧ (∀ a j, a < m → j < m → at2 W a j = true → at2 (is.foldl (wrow m k) W) a j = true) ∧
    (∀ a j, a ∈ is → j < m → at2 V a k = true → at2 V k j = true → at2 (is.foldl (wrow m k) W) a j = true)
  | [], W, V, h, _, _ => ⟨h, fun _ _ _ _ x => x, fun _ _ m => (nomatch m)⟩
  | i :: is, W, V, h, hm, hV => by
    have hi := hm i (.head _)
    have mono : ∀ a j, a < m → j < m → at2 W a j = true → at2 (wrow m k W i) a j = true := fun a j ha hj x => by
      rw [at2_wrow h hi hj]
      split
      · rename_i q; rw [← q.1, x]; rfl
      · exact x
    refine x02 (rows_ok hk is (wrow m k W i) V (wrow_sq h) (fun j hj => hm j (List.mem_cons_of_mem _ hj)) fun a j ha hj x => mono a j ha hj (hV a j ha hj x)) fun h1 h2 h3 => ?_
    refine ⟨h1, fun a j ha hj x => h2 a j ha hj (mono a j ha hj x), fun a j ha hj x y => ?_⟩
    rcases List.mem_cons.mp ha with rfl | ha
    · refine h2 a j hi hj ?_
      rw [at2_wrow h hi hj, if_pos ⟨rfl, hV a k hi hk x⟩, hV k j hk hj y, Bool.or_true]
    · exact h3 a j ha hj x y
theorem rows_sound {m k : Nat} {R : Nat → Nat → Prop} (tr : ∀ i l j, R i l → R l j → R i j) (hk : k < m) : ∀ (is : List Nat) (W : List (List Bool)), Sq m W → (∀ i ∈ is, i < m) → (∀ a j, a < m → j < m → at2 W a j = true → R a j) →
    ∀ a j, a < m → j < m → at2 (is.foldl (wrow m k) W) a j = true → R a j
  | [], W, _, _, hR => hR
  | i :: is, W, h, hm, hR => by
    have hi := hm i (.head _)
    refine rows_sound tr hk is (wrow m k W i) (wrow_sq h) (fun j hj => hm j (List.mem_cons_of_mem _ hj)) fun a j ha hj x => ?_
    rw [at2_wrow h hi hj] at x
    split at x
    · rename_i q
      refine x01 q ?_; clear q; intro z21 q; subst z21
      rcases Bool.or_eq_true_iff.mp x with x | x
      · exact hR a j ha hj x
      · exact tr a k j (hR a k ha hk q) (hR k j hk hj x)
    · exact hR a j ha hj x
theorem wall_ok {m : Nat} {E : Nat → Nat → Bool} {W : List (List Bool)} (h : Sq m W) (hE : ∀ i j, i < m → j < m → (at2 W i j = true ↔ E i j = true)) {R : Nat → Nat → Prop} (tr : ∀ i l j, R i l → R l j → R i j) (hR : ∀ i j, i < m → j < m → E i j = true → R i j) :
    ∀ n, n ≤ m → Sq m ((List.range n).foldl (wk m) W) ∧ (∀ i j, i < m → j < m → at2 ((List.range n).foldl (wk m) W) i j = true → R i j) ∧
      (∀ i j, i < m → j < m → Way (fun a b => decide (a < m) && decide (b < m) && E a b) n i j → at2 ((List.range n).foldl (wk m) W) i j = true)
  | 0, _ => ⟨h, fun i j hi hj x => hR i j hi hj ((hE i j hi hj).mp x), fun i j hi hj x => by
      cases x with
      | base e => simp only [Bool.and_eq_true] at e; exact (hE i j hi hj).mpr e.2
      | cat _ _ l => exact absurd l (Nat.not_lt_zero _)⟩
  | n + 1, hn => by
    refine x02 (wall_ok h hE tr hR n (by lia)) fun h1 h2 h3 => ?_
    rw [List.range_succ, List.foldl_append]
    show Sq m (wk m _ n) ∧ _
    have hr : ∀ i ∈ List.range m, i < m := fun i hi => List.mem_range.mp hi
    refine x02 (rows_ok (k := n) (by lia) (List.range m) _ _ h1 hr fun a j _ _ x => x) fun k1 k2 k3 => ?_
    refine ⟨k1, rows_sound tr (by lia) (List.range m) _ h1 hr h2, fun i j hi hj x => ?_⟩
    rcases x.split with x | ⟨x, y⟩
    · exact k2 i j hi hj (h3 i j hi hj x)
    · exact k3 i j (List.mem_range.mpr hi) hj (h3 i n hi (by lia) x) (h3 n j (by lia) hj y)
end Mine
end SPl4

section SPl6
set_option maxRecDepth 100000
namespace Mine
structure OrdOk (n : Nat) (o : List Int) : Prop where
  len : o.length = n
  hd : o[0]? = some 1
  all : ∀ v : Int, 1 ≤ v → v ≤ n → v ∈ o
  into : ∀ v ∈ o, 1 ≤ v ∧ v ≤ n
  nd : o.Nodup
theorem OrdOk.one : OrdOk 1 [1] := by
  refine ⟨rfl, rfl, fun v a b => ?_, fun v h => ?_, by simp⟩
  · have : v = 1 := by lia
    rw [this]; exact .head _
  · rw [List.mem_singleton] at h; lia
theorem OrdOk.more {n k : Nat} {o : List Int} (h : OrdOk n o) (h1 : 1 ≤ k) (hk : k ≤ n) : OrdOk (n + 1) (o.take k ++ [((n : Int) + 1)] ++ o.drop k) := by
  have hmem : ∀ v, v ∈ o.take k ++ [((n : Int) + 1)] ++ o.drop k ↔ v ∈ o ∨ v = (n : Int) + 1 := fun v => by
    rw [List.mem_append, List.mem_append, List.mem_singleton]
    have : v ∈ o ↔ v ∈ o.take k ∨ v ∈ o.drop k := by rw [← List.mem_append, List.take_append_drop]
    rw [this]
    constructor
    · rintro ((a | a) | a)
      · exact .inl (.inl a)
      · exact .inr a
      · exact .inl (.inr a)
    · rintro ((a | a) | a)
      · exact .inl (.inl a)
      · exact .inr a
      · exact .inl (.inr a)
  refine ⟨?_, ?_, fun v a b => (hmem v).mpr ?_, fun v hv => ?_, ?_⟩
  · simp [h.len]; lia
  · have := h.len
    rw [List.append_assoc, List.getElem?_append_left (by rw [List.length_take]; lia), List.getElem?_take_of_lt (by lia)]
    exact h.hd
  · by_cases q : v = (n : Int) + 1
    · exact .inr q
    · exact .inl (h.all v a (by lia))
  · rcases (hmem v).mp hv with a | rfl
    · have := h.into v a; lia
    · lia
  · have hno : ((n : Int) + 1) ∉ o := fun x => by have := h.into _ x; lia
    have hnd : (o.take k ++ o.drop k).Nodup := by rw [List.take_append_drop]; exact h.nd
    rw [List.nodup_append] at hnd
    rw [List.append_assoc, List.nodup_append]
    refine ⟨hnd.1, ?_, fun a ha b hb e => ?_⟩
    · rw [List.singleton_append, List.nodup_cons]
      exact ⟨fun x => hno (List.mem_of_mem_drop x), hnd.2.1⟩
    · rw [List.singleton_append, List.mem_cons] at hb
      rcases hb with rfl | hb
      · exact hno (e ▸ List.mem_of_mem_take ha)
      · exact hnd.2.2 a ha b hb e
noncomputable def ringSet (order : List Int) (m : Nat) (b : List Int) (k : Nat) : List Int := b.set ((order[k]?.getD 0) - 1).toNat (order[(k + 1) % m]?.getD 0)
theorem ring_made {m : Nat} {order : List Int} (h : OrdOk m order) : ∀ n, n ≤ m → ((List.range n).foldl (ringSet order m) (List.replicate m 0)).length = m ∧
    ∀ k a : Nat, ∀ x y : Int, k < n → order[k]? = some x → order[(k + 1) % m]? = some y → ((List.range n).foldl (ringSet order m) (List.replicate m 0))[(x - 1).toNat]? = some y
  | 0, _ => ⟨by simp, fun k _ _ _ hk => absurd hk (Nat.not_lt_zero _)⟩
  | n + 1, hn => by
    refine x01 (ring_made h n (by lia)) fun h1 h2 => ?_
    rw [List.range_succ, List.foldl_append]
    show (ringSet order m _ n).length = m ∧ _
    refine ⟨by unfold ringSet; rw [List.length_set]; exact h1, fun k a x y hk hx hy => ?_⟩
    show (ringSet order m _ n)[_]? = _
    unfold ringSet
    by_cases q : k = n
    · subst q
      rw [hx, hy]
      have := h.into x (List.mem_of_getElem? hx)
      refine List.getElem?_set_self ?_
      show (x - 1).toNat < ((List.range k).foldl (ringSet order m) (List.replicate m 0)).length
      rw [h1]; lia
    · have hnl : n < order.length := by rw [h.len]; lia
      have hz : order[n]? = some order[n] := List.getElem?_eq_getElem hnl
      rw [hz]
      have hxz : x ≠ order[n] := fun e => by
        have hkl : k < order.length := (List.getElem?_eq_some_iff.mp hx).1
        have ex : order[k] = x := (List.getElem?_eq_some_iff.mp hx).2
        exact q ((List.getElem_inj (h₀ := hkl) (h₁ := hnl) h.nd).mp (ex.trans e))
      have i1 := h.into x (List.mem_of_getElem? hx)
      have i2 := h.into order[n] (List.getElem_mem hnl)
      rw [List.getElem?_set_ne (by show (order[n] - 1).toNat ≠ (x - 1).toNat; lia)]
      exact h2 k a x y (by lia) hx hy
theorem ring_of {m : Nat} {order : List Int} (h : OrdOk m order) : RingOf m ((List.range m).foldl (ringSet order m) (List.replicate m 0)) := by
  refine x01 (ring_made h m (Nat.le_refl _)) fun h1 h2 => ?_
  exact ⟨order, h.len, h.hd, h.all, h.into, h1, fun k a b hk ha hb => h2 k 0 a b (by lia) ha (by rw [Nat.mod_eq_of_lt hk]; exact hb)⟩
end Mine
end SPl6

section SSq1
set_option maxRecDepth 100000
namespace Mine
open PySem
/-- a table's probe depends on its mask alone -/
noncomputable def adv (M : Nat) (p : SetTable.Probe) : SetTable.Probe := SetTable.advance { mask := M, place := #[], dummies := #[], finger := 0, led := false, moves := 0, plain := false } p
noncomputable def pth (M : Nat) (h : Int) : Nat → SetTable.Probe
  | 0 => SetTable.probeStart { mask := M, place := #[], dummies := #[], finger := 0, led := false, moves := 0, plain := false } h
  | n + 1 => adv M (pth M h n)
theorem adv_eq (t : SetTable) (p : SetTable.Probe) : t.advance p = adv t.mask p := rfl
theorem start_eq (t : SetTable) (h : Int) : t.probeStart h = pth t.mask h 0 := rfl
noncomputable def hd (M : Nat) (x : Nat × Nat) : SetTable.Probe := { j := x.1, more := SetTable.runEnd M x.1 - x.1, i := x.1, perturb := x.2, dummy := none }
noncomputable def lp (M : Nat) : Nat → Nat × Nat → Nat × Nat
  | 0, x => x
  | n + 1, x => lp M n (SetTable.leap M x.1 x.2)
theorem runEnd_ge (M i : Nat) : i ≤ SetTable.runEnd M i := by unfold SetTable.runEnd; split <;> lia
theorem runEnd_le (M i : Nat) (h : i ≤ M) : SetTable.runEnd M i ≤ M := by unfold SetTable.runEnd; split <;> lia
theorem runEnd_10 (M i : Nat) : SetTable.runEnd M i - i ≤ 9 := by unfold SetTable.runEnd; split <;> lia
theorem adv_run (M : Nat) (p : SetTable.Probe) (h : 0 < p.more) : adv M p = { p with j := p.j + 1, more := p.more - 1 } := by
  unfold adv SetTable.advance; rw [if_pos h]
theorem adv_leap (M : Nat) (p : SetTable.Probe) (h : p.more = 0) : adv M p = { j := (SetTable.leap M p.i p.perturb).1, more := SetTable.runEnd M (SetTable.leap M p.i p.perturb).1 - (SetTable.leap M p.i p.perturb).1, i := (SetTable.leap M p.i p.perturb).1, perturb := (SetTable.leap M p.i p.perturb).2, dummy := p.dummy } := by
  unfold adv SetTable.advance; rw [if_neg (by lia)]
/-- within a run -/
theorem pth_run {M : Nat} {h : Int} {n : Nat} {x : Nat × Nat} (e : pth M h n = hd M x) : ∀ k, k ≤ SetTable.runEnd M x.1 - x.1 → pth M h (n + k) = { hd M x with j := x.1 + k, more := SetTable.runEnd M x.1 - x.1 - k }
  | 0, _ => e
  | k + 1, hk => by
    show adv M (pth M h (n + k)) = _
    rw [pth_run e k (by lia), adv_run _ _ (by show 0 < SetTable.runEnd M x.1 - x.1 - k; lia)]
    rfl
theorem pth_next {M : Nat} {h : Int} {n : Nat} {x : Nat × Nat} (e : pth M h n = hd M x) : pth M h (n + (SetTable.runEnd M x.1 - x.1) + 1) = hd M (SetTable.leap M x.1 x.2) := by
  show adv M (pth M h (n + (SetTable.runEnd M x.1 - x.1))) = _
  rw [pth_run e _ (Nat.le_refl _), adv_leap _ _ (by show SetTable.runEnd M x.1 - x.1 - (SetTable.runEnd M x.1 - x.1) = 0; lia)]
  rfl
theorem pth_zero (M : Nat) (h : Int) : pth M h 0 = hd M (SetTable.bits h % (M + 1), SetTable.bits h) := rfl
theorem leap_le (M : Nat) (x : Nat × Nat) : (SetTable.leap M x.1 x.2).1 ≤ M := Nat.le_of_lt_succ (Nat.mod_lt _ (Nat.succ_pos _))
theorem pth_lp {M : Nat} {h : Int} : ∀ (l n : Nat) (x : Nat × Nat), pth M h n = hd M x → ∃ k, k ≤ 10 * l ∧ pth M h (n + k) = hd M (lp M l x)
  | 0, n, x, e => ⟨0, by lia, e⟩
  | l + 1, n, x, e => by
    refine x11 (pth_lp l _ _ (pth_next e)) fun k hk e' => ?_
    refine ⟨SetTable.runEnd M x.1 - x.1 + 1 + k, ?_, ?_⟩
    · have := runEnd_10 M x.1; lia
    · show _ = hd M (lp M l (SetTable.leap M x.1 x.2))
      rw [← e']; congr 1; lia
theorem lp_add (M : Nat) : ∀ (a b : Nat) (x : Nat × Nat), lp M (a + b) x = lp M b (lp M a x)
  | 0, b, x => by rw [Nat.zero_add]; rfl
  | a + 1, b, x => by
    rw [show a + 1 + b = (a + b) + 1 by lia]
    exact lp_add M a b _
theorem lp_snd (M : Nat) : ∀ (n : Nat) (x : Nat × Nat), (lp M n x).2 = x.2 / 32 ^ n
  | 0, x => by simp [lp]
  | n + 1, x => by
    show (lp M n _).2 = _
    rw [lp_snd M n]
    show x.2 / 32 / 32 ^ n = _
    rw [Nat.div_div_eq_div_mul, Nat.pow_succ, Nat.mul_comm]
theorem lp_le (M : Nat) : ∀ (n : Nat) (x : Nat × Nat), x.1 ≤ M → (lp M n x).1 ≤ M
  | 0, x, h => h
  | n + 1, x, _ => lp_le M n _ (leap_le M x)
theorem bits_lt (h : Int) : SetTable.bits h < 2 ^ 64 := by unfold SetTable.bits; lia
theorem cyc7 : ∀ i, i < 8 → ∀ e, e < 8 → ∃ k, k < 8 ∧ (lp 7 k (i, 0)).1 = e := by decide +kernel
theorem cyc31 : ∀ i, i < 32 → ∀ e, e < 32 → ∃ k, k < 32 ∧ (lp 31 k (i, 0)).1 = e := by decide +kernel
/-- the leaps meet every slot -/
theorem lp_hits {M : Nat} (hM : M = 7 ∨ M = 31) {x : Nat × Nat} (h1 : x.1 ≤ M) (h2 : x.2 < 2 ^ 64) {e : Nat} (he : e ≤ M) : ∃ l, l < M + 14 ∧ (lp M l x).1 = e := by
  have hz : (lp M 13 x).2 = 0 := by rw [lp_snd]; exact Nat.div_eq_of_lt (Nat.lt_of_lt_of_le h2 (by decide))
  have hl := lp_le M 13 x h1
  obtain ⟨k, hk, e'⟩ : ∃ k, k < M + 1 ∧ (lp M k ((lp M 13 x).1, 0)).1 = e := by
    rcases hM with rfl | rfl
    · exact cyc7 _ (by lia) _ (by lia)
    · exact cyc31 _ (by lia) _ (by lia)
  refine ⟨13 + k, by lia, ?_⟩
  rw [lp_add, ← e', ← hz]
theorem pth_hits {M : Nat} (hM : M = 7 ∨ M = 31) (h : Int) {e : Nat} (he : e ≤ M) : ∃ n, n < 10 * (M + 14) ∧ (pth M h n).j = e := by
  refine x11 (lp_hits hM (x := (SetTable.bits h % (M + 1), SetTable.bits h)) (Nat.le_of_lt_succ (Nat.mod_lt _ (Nat.succ_pos _))) (bits_lt h) he) fun l hl e' => ?_
  refine x11 (pth_lp l 0 _ (pth_zero M h)) fun k hk e2 => ?_
  rw [Nat.zero_add] at e2
  exact ⟨k, by lia, by rw [e2]; exact e'⟩
theorem pth_ok {M : Nat} (h : Int) : ∀ n, (pth M h n).dummy = none ∧ (pth M h n).j + (pth M h n).more ≤ M := by
  intro n
  induction n with
  | zero =>
    have := runEnd_le M (SetTable.bits h % (M + 1)) (Nat.le_of_lt_succ (Nat.mod_lt _ (Nat.succ_pos _)))
    have := runEnd_ge M (SetTable.bits h % (M + 1))
    refine ⟨rfl, ?_⟩
    show SetTable.bits h % (M + 1) + (SetTable.runEnd M (SetTable.bits h % (M + 1)) - SetTable.bits h % (M + 1)) ≤ M
    lia
  | succ n ih =>
    show (adv M (pth M h n)).dummy = none ∧ (adv M (pth M h n)).j + (adv M (pth M h n)).more ≤ M
    by_cases q : 0 < (pth M h n).more
    · rw [adv_run _ _ q]; exact ⟨ih.1, by dsimp only; lia⟩
    · rw [adv_leap _ _ (by lia)]
      refine ⟨ih.1, ?_⟩
      have := leap_le M ((pth M h n).i, (pth M h n).perturb)
      have := runEnd_le M _ this
      have := runEnd_ge M (SetTable.leap M (pth M h n).i (pth M h n).perturb).1
      dsimp only at *
      lia
/-- the first place on a path that P does not hold -/
theorem first_not (f : Nat → Nat) (P : Nat → Prop) [DecidablePred P] : ∀ n, ¬ P (f n) → ∃ N, N ≤ n ∧ ¬ P (f N) ∧ ∀ m, m < N → P (f m)
  | 0, h => ⟨0, Nat.le_refl _, h, fun m hm => absurd hm (Nat.not_lt_zero _)⟩
  | n + 1, h => by
    by_cases q : ∃ m, m ≤ n ∧ ¬ P (f m)
    · refine x11 q fun m hm hp => ?_; clear q
      -- strong: go down
      have : ∀ k, k ≤ n → ¬ P (f k) → ∃ N, N ≤ k ∧ ¬ P (f N) ∧ ∀ m, m < N → P (f m) := by
        intro k
        induction k using Nat.strongRecOn with
        | ind k ih =>
          intro hk hpk
          by_cases q : ∃ m, m < k ∧ ¬ P (f m)
          · refine x11 q fun m hm hp => ?_; clear q
            refine x11 (ih m hm (by lia) hp) fun N h1 h2 => ?_
            exact ⟨N, by lia, h2⟩
          · exact ⟨k, Nat.le_refl _, hpk, fun m hm => Classical.byContradiction fun z => q ⟨m, hm, z⟩⟩
      refine x11 (this m hm hp) fun N h1 h2 => ?_
      exact ⟨N, by lia, h2⟩
    · exact ⟨n + 1, Nat.le_refl _, h, fun m hm => Classical.byContradiction fun z => q ⟨m, by lia, z⟩⟩
theorem nodup_len {α : Type} [DecidableEq α] : ∀ {a b : List α}, a.Nodup → (∀ x ∈ a, x ∈ b) → a.length ≤ b.length
  | [], b, _, _ => Nat.zero_le _
  | x :: a, b, nd, h => by
    rw [List.nodup_cons] at nd
    have hx := h x (.head _)
    have := nodup_len (b := b.erase x) nd.2 fun y hy => (List.mem_erase_of_ne (fun e : y = x => nd.1 (by rw [← e]; exact hy))).mpr (h y (.tail _ hy))
    rw [List.length_erase_of_mem hx] at this
    have := List.length_pos_of_mem hx
    rw [List.length_cons]; lia
/-- among few, one is lacking -/
theorem one_lacks {l : List Nat} {M : Nat} (h : l.length ≤ M) : ∃ e, e ≤ M ∧ e ∉ l := by
  by_cases q : ∃ e, e ≤ M ∧ e ∉ l
  · exact q
  · exfalso
    have := nodup_len (a := List.range (M + 1)) (b := l) List.nodup_range fun e he => Classical.byContradiction fun z => q ⟨e, by have := List.mem_range.mp he; lia, z⟩
    rw [List.length_range] at this
    lia
end Mine
end SSq1

section SSq2
set_option maxRecDepth 100000
namespace Mine
open PySem
-- the binary search
theorem below_go (xs : Array Nat) (j : Nat) (hs : ∀ a b, a < b → b < xs.size → xs.getD a j ≤ xs.getD b j) : ∀ (fuel lo hi : Nat), lo ≤ hi → hi ≤ xs.size → hi - lo ≤ fuel →
    (∀ k, k < lo → xs.getD k j < j) → (∀ k, hi ≤ k → k < xs.size → j ≤ xs.getD k j) →
    (SetTable.below.go xs j fuel lo hi ≤ xs.size ∧ (∀ k, k < SetTable.below.go xs j fuel lo hi → xs.getD k j < j) ∧ ∀ k, SetTable.below.go xs j fuel lo hi ≤ k → k < xs.size → j ≤ xs.getD k j)
  | 0, lo, hi, h1, h2, h3, h4, h5 => by
    have : lo = hi := by lia
    subst this
    exact ⟨h2, h4, h5⟩
  | fuel + 1, lo, hi, h1, h2, h3, h4, h5 => by
    unfold SetTable.below.go
    split
    · rename_i hl
      dsimp only
      split
      · rename_i hm
        refine below_go xs j hs fuel _ hi (by lia) h2 (by lia) (fun k hk => ?_) h5
        rcases Nat.lt_or_ge k ((lo + hi) / 2) with q | q
        · exact Nat.lt_of_le_of_lt (hs k _ q (by lia)) hm
        · have : k = (lo + hi) / 2 := by lia
          rw [this]; exact hm
      · rename_i hm
        refine below_go xs j hs fuel lo _ (by lia) (by lia) (by lia) h4 (fun k hk hk2 => ?_)
        rcases Nat.lt_or_ge ((lo + hi) / 2) k with q | q
        · exact Nat.le_trans (Nat.not_lt.mp hm) (hs _ k q hk2)
        · have : k = (lo + hi) / 2 := by lia
          rw [this]; exact Nat.not_lt.mp hm
    · have : lo = hi := by lia
      subst this
      exact ⟨h2, h4, h5⟩
noncomputable def Rise (l : List Nat) : Prop := l.Pairwise (· < ·)
theorem Rise.get {l : List Nat} (h : Rise l) {a b : Nat} (x : a < b) (hb : b < l.length) : l[a]'(by lia) < l[b] := List.pairwise_iff_getElem.mp h a b (by lia) hb x
theorem getD_eq (l : List Nat) (k j : Nat) (h : k < l.length) : l.toArray.getD k j = l[k] := by
  simp [Array.getD, h]
theorem below_ok {l : List Nat} (h : Rise l) (j : Nat) : SetTable.below l.toArray j ≤ l.length ∧ (∀ k (q : k < l.length), k < SetTable.below l.toArray j → l[k] < j) ∧ ∀ k (q : k < l.length), SetTable.below l.toArray j ≤ k → j ≤ l[k] := by
  have := below_go l.toArray j (fun a b x y => by
    have y' : b < l.length := by simpa using y
    rw [getD_eq l a j (by lia), getD_eq l b j y']
    exact Nat.le_of_lt (h.get x y')) l.toArray.size 0 l.toArray.size (Nat.zero_le _) (Nat.le_refl _) (by lia) (fun k hk => absurd hk (Nat.not_lt_zero _)) (fun k h1 h2 => absurd h2 (by lia))
  refine x02 this fun h1 h2 h3 => ?_; clear this
  refine ⟨h1, fun k q hk => ?_, fun k q hk => ?_⟩
  · have := h2 k hk; rwa [getD_eq l k j q] at this
  · have := h3 k hk (by simpa using q); rwa [getD_eq l k j q] at this
theorem below_get {l : List Nat} (h : Rise l) {i : Nat} (hi : i < l.length) : SetTable.below l.toArray l[i] = i := by
  refine x02 (below_ok h l[i]) fun h1 h2 h3 => ?_
  rcases Nat.lt_trichotomy (SetTable.below l.toArray l[i]) i with q | q | q
  · have := h3 _ (by lia) (Nat.le_refl _)
    have := h.get q hi
    lia
  · exact q
  · have := h2 i hi q
    lia
theorem below_not {l : List Nat} (h : Rise l) {j : Nat} (hj : j ∉ l) : l.toArray[SetTable.below l.toArray j]? ≠ some j := by
  intro e
  rw [List.getElem?_toArray] at e
  exact hj (List.mem_of_getElem? e)
/-- put in at its place -/
noncomputable def insAt {α : Type} (p : Nat) (x : α) (l : List α) : List α := l.take p ++ [x] ++ l.drop p
theorem insertAt_eq {α : Type} (l : List α) (p : Nat) (x : α) : SetTable.insertAt l.toArray p x = (insAt p x l).toArray := by
  unfold SetTable.insertAt insAt
  simp
  exact List.take_of_length_le (by simp)
theorem insAt_mem {α : Type} {p : Nat} {x y : α} {l : List α} : y ∈ insAt p x l ↔ y = x ∨ y ∈ l := by
  unfold insAt
  rw [List.mem_append, List.mem_append, List.mem_singleton]
  constructor
  · rintro ((h | h) | h)
    · exact .inr (List.mem_of_mem_take h)
    · exact .inl h
    · exact .inr (List.mem_of_mem_drop h)
  · rintro (h | h)
    · exact .inl (.inr h)
    · rw [← List.take_append_drop p l] at h
      rcases List.mem_append.mp h with h | h
      · exact .inl (.inl h)
      · exact .inr h
theorem insAt_len {α : Type} (p : Nat) (x : α) (l : List α) : (insAt p x l).length = l.length + 1 := by
  unfold insAt
  rw [List.length_append, List.length_append, List.length_take, List.length_drop, List.length_singleton]
  lia
theorem insAt_map {α β : Type} (f : α → β) (p : Nat) (x : α) (l : List α) : (insAt p x l).map f = insAt p (f x) (l.map f) := by
  unfold insAt; simp
theorem rise_ins {l : List Nat} (h : Rise l) {j : Nat} (hj : j ∉ l) : Rise (insAt (SetTable.below l.toArray j) j l) := by
  refine x02 (below_ok h j) fun h1 h2 h3 => ?_
  unfold Rise insAt
  have hb : ∀ x ∈ l.take (SetTable.below l.toArray j), x < j := fun x hx => by
    refine x10 (List.getElem_of_mem hx) fun k z61 => ?_; obtain ⟨hk, rfl⟩ := z61
    rw [List.length_take] at hk
    rw [List.getElem_take]
    exact h2 k (by lia) (by lia)
  have ha : ∀ x ∈ l.drop (SetTable.below l.toArray j), j < x := fun x hx => by
    have hm := List.mem_of_mem_drop hx
    refine x10 (List.getElem_of_mem hx) fun k z81 => ?_; obtain ⟨hk, rfl⟩ := z81
    rw [List.length_drop] at hk
    rw [List.getElem_drop] at hm ⊢
    have := h3 (SetTable.below l.toArray j + k) (by lia) (by lia)
    rcases Nat.lt_or_eq_of_le this with q | q
    · exact q
    · rw [← q] at hm; exact absurd hm hj
  have e : Rise (l.take (SetTable.below l.toArray j) ++ l.drop (SetTable.below l.toArray j)) := by rw [List.take_append_drop]; exact h
  refine x02 (List.pairwise_append.mp e) fun p1 p2 p3 => ?_
  refine List.pairwise_append.mpr ⟨List.pairwise_append.mpr ⟨p1, List.pairwise_singleton _ _, fun a ma b mb => ?_⟩, p2, fun a ma b mb => ?_⟩
  · rw [List.mem_singleton] at mb; subst mb; exact hb a ma
  · rcases List.mem_append.mp ma with ma | ma
    · exact p3 a ma b mb
    · rw [List.mem_singleton] at ma; subst ma; exact ha b mb
-- a table whose live slots are bs's
variable {κ : Type}
/-- where each key lies, and that its path leads there over live slots -/
structure Tab (hp : κ → Int) (M : Nat) (bs : List (Nat × κ)) : Prop where
  rise : Rise (bs.map (·.1))
  le : ∀ b ∈ bs, b.1 ≤ M
  via : ∀ b ∈ bs, ∃ n, (pth M (hp b.2) n).j = b.1 ∧ ∀ m, m < n → (pth M (hp b.2) m).j ∈ bs.map (·.1)
  nd : (bs.map (·.2)).Nodup
noncomputable def TabOf (M : Nat) (bs : List (Nat × κ)) (t : SetTable) : Prop := t.mask = M ∧ t.place = (bs.map (·.1)).toArray ∧ t.dummies = #[]
theorem Rise.inj {bs : List (Nat × κ)} (h : Rise (bs.map (·.1))) {a b : Nat × κ} (ha : a ∈ bs) (hb : b ∈ bs) (e : a.1 = b.1) : a = b := by
  refine x10 (List.getElem_of_mem ha) fun i z121 => ?_; obtain ⟨hi, rfl⟩ := z121
  refine x10 (List.getElem_of_mem hb) fun k z141 => ?_; obtain ⟨hk, rfl⟩ := z141
  rcases Nat.lt_trichotomy i k with q | q | q
  · have := h.get (a := i) (b := k) q (by simpa using hk); simp at this; lia
  · subst q; rfl
  · have := h.get (a := k) (b := i) q (by simpa using hi); simp at this; lia
theorem slot_live {M : Nat} {bs : List (Nat × κ)} {t : SetTable} (h : TabOf M bs t) (r : Rise (bs.map (·.1))) {i : Nat} (hi : i < bs.length) : t.slot bs[i].1 = .live i := by
  refine x02 h fun h1 h2 h3 => ?_; clear h
  unfold SetTable.slot
  rw [h2]
  have e : SetTable.below (bs.map (·.1)).toArray bs[i].1 = i := by
    have := below_get r (i := i) (by simpa using hi)
    simpa using this
  dsimp only
  rw [e]
  rw [if_pos (by simp [hi])]
theorem slot_free {M : Nat} {bs : List (Nat × κ)} {t : SetTable} (h : TabOf M bs t) (r : Rise (bs.map (·.1))) {j : Nat} (hj : j ∉ bs.map (·.1)) : t.slot j = .empty := by
  refine x02 h fun h1 h2 h3 => ?_; clear h
  unfold SetTable.slot
  rw [h2, h3]
  have e := below_not r hj
  dsimp only
  rw [if_neg (by simpa using e)]
  have : SetTable.has #[] j = false := by
    unfold SetTable.has SetTable.below; simp
  rw [this]
  rfl
/-- the next stop on the path: the empty slot N, or a live one of the same hash -/
theorem probe_go {M : Nat} {bs : List (Nat × κ)} {t : SetTable} (hp : κ → Int) (h : TabOf M bs t) (r : Rise (bs.map (·.1))) (hashAt : Nat → Int) (hh : ∀ i (q : i < bs.length), hashAt i = hp bs[i].2) (x : Int) {N : Nat}
    (hN : (pth M x N).j ∉ bs.map (·.1)) (hL : ∀ m, m < N → (pth M x m).j ∈ bs.map (·.1)) : ∀ (fuel n : Nat), n ≤ N → N - n < fuel →
    (SetTable.probe.go t hashAt x fuel (pth M x n) = some (.empty (pth M x N).j none) ∧ (∀ k, n ≤ k → k < N → ∀ b ∈ bs, b.1 = (pth M x k).j → hp b.2 ≠ x)) ∨
    (∃ k i, ∃ hi : i < bs.length, n ≤ k ∧ k < N ∧ bs[i].1 = (pth M x k).j ∧ hp bs[i].2 = x ∧ SetTable.probe.go t hashAt x fuel (pth M x n) = some (.candidate (pth M x k).j i (pth M x (k + 1))) ∧ (∀ l, n ≤ l → l < k → ∀ b ∈ bs, b.1 = (pth M x l).j → hp b.2 ≠ x))
  | 0, n, _, h2 => absurd h2 (Nat.not_lt_zero _)
  | fuel + 1, n, h1, h2 => by
    unfold SetTable.probe.go
    by_cases q : n = N
    · subst q
      rw [slot_free h r hN]
      dsimp only
      rw [(pth_ok x n).1]
      exact .inl ⟨rfl, fun k a b => absurd b (by lia)⟩
    · have hl := hL n (by lia)
      refine x11 (List.mem_map.mp hl) fun b hb hbj => ?_
      refine x10 (List.getElem_of_mem hb) fun i z221 => ?_; obtain ⟨hi, rfl⟩ := z221
      rw [← hbj, slot_live h r hi]
      dsimp only
      rw [hh i hi]
      by_cases qe : hp bs[i].2 = x
      · rw [if_pos (by simpa using qe)]
        refine .inr ⟨n, i, hi, Nat.le_refl _, by lia, hbj, qe, ?_, fun l a b => absurd b (by lia)⟩
        rw [hbj, adv_eq, h.1]; rfl
      · rw [if_neg (by simpa using qe), adv_eq, h.1]
        have non : ∀ b ∈ bs, b.1 = (pth M x n).j → hp b.2 ≠ x := fun b mb e => by
          rw [r.inj mb hb (e.trans hbj.symm)]; exact qe
        rcases probe_go hp h r hashAt hh x hN hL fuel (n + 1) (by lia) (by lia) with ⟨a1, a2⟩ | ⟨k, i', hi', a1, a2, a3, a4, a5, a6⟩
        · refine .inl ⟨a1, fun k b1 b2 => ?_⟩
          rcases Nat.eq_or_lt_of_le b1 with q | q
          · subst q; exact non
          · exact a2 k q b2
        · refine .inr ⟨k, i', hi', by lia, a2, a3, a4, a5, fun l b1 b2 => ?_⟩
          rcases Nat.eq_or_lt_of_le b1 with q | q
          · subst q; exact non
          · exact a6 l q b2
/-- there is an end to each path -/
theorem Tab.end {hp : κ → Int} {M : Nat} {bs : List (Nat × κ)} (hM : M = 7 ∨ M = 31) (hl : bs.length ≤ M) (x : Int) : ∃ N, N < 10 * (M + 14) ∧ (pth M x N).j ∉ bs.map (·.1) ∧ (∀ m, m < N → (pth M x m).j ∈ bs.map (·.1)) := by
  refine x11 (one_lacks (l := bs.map (·.1)) (M := M) (by simpa using hl)) fun e he hne => ?_
  refine x11 (pth_hits hM x he) fun n hn hj => ?_
  refine x12 (first_not (fun n => (pth M x n).j) (fun j => j ∈ bs.map (·.1)) n (by rw [hj]; exact hne)) fun N h1 h2 h3 => ?_
  exact ⟨N, by lia, h2, h3⟩
/-- a key that lies in the table lies on its path, ahead of the end -/
theorem Tab.ahead {hp : κ → Int} {M : Nat} {bs : List (Nat × κ)} (T : Tab hp M bs) {b : Nat × κ} (hb : b ∈ bs) {N : Nat} (hN : (pth M (hp b.2) N).j ∉ bs.map (·.1)) : ∃ n, n < N ∧ (pth M (hp b.2) n).j = b.1 := by
  refine x11 (T.via b hb) fun n h1 h2 => ?_
  refine ⟨n, ?_, h1⟩
  rcases Nat.lt_trichotomy n N with q | q | q
  · exact q
  · subst q; rw [h1] at hN; exact absurd (List.mem_map_of_mem hb) hN
  · exact absurd (h2 N q) hN
/-- a new key, laid at the end of its path -/
theorem Tab.put {hp : κ → Int} {M : Nat} {bs : List (Nat × κ)} (T : Tab hp M bs) {k : κ} {N : Nat} (hk : k ∉ bs.map (·.2)) (hN : (pth M (hp k) N).j ∉ bs.map (·.1)) (hL : ∀ m, m < N → (pth M (hp k) m).j ∈ bs.map (·.1)) :
    Tab hp M (insAt (SetTable.below (bs.map (·.1)).toArray (pth M (hp k) N).j) ((pth M (hp k) N).j, k) bs) := by
  have hm : ∀ {y}, y ∈ bs.map (·.1) → y ∈ (insAt (SetTable.below (bs.map (·.1)).toArray (pth M (hp k) N).j) ((pth M (hp k) N).j, k) bs).map (·.1) := fun {y} h => by
    rw [insAt_map]; exact insAt_mem.mpr (.inr h)
  refine ⟨?_, fun b hb => ?_, fun b hb => ?_, ?_⟩
  · rw [insAt_map]; exact rise_ins T.rise hN
  · rcases insAt_mem.mp hb with rfl | hb
    · exact Nat.le_trans (Nat.le_add_right _ _) (pth_ok (hp k) N).2
    · exact T.le b hb
  · rcases insAt_mem.mp hb with rfl | hb
    · exact ⟨N, rfl, fun m q => hm (hL m q)⟩
    · refine x11 (T.via b hb) fun n h1 h2 => ?_
      exact ⟨n, h1, fun m q => hm (h2 m q)⟩
  · rw [insAt_map]
    unfold insAt
    have e : ((bs.map (·.2)).take (SetTable.below (bs.map (·.1)).toArray (pth M (hp k) N).j) ++ [k] ++ (bs.map (·.2)).drop (SetTable.below (bs.map (·.1)).toArray (pth M (hp k) N).j)).Perm (k :: bs.map (·.2)) := by
      rw [List.append_assoc, List.singleton_append]
      refine List.perm_middle.trans ?_
      rw [List.take_append_drop]
    exact e.nodup_iff.mpr (List.nodup_cons.mpr ⟨hk, T.nd⟩)
theorem put_of {M : Nat} {bs : List (Nat × κ)} {t : SetTable} (h : TabOf M bs t) (j : Nat) (k : κ) : TabOf M (insAt (SetTable.below (bs.map (·.1)).toArray j) (j, k) bs) (t.put j).1 ∧ (t.put j).2 = SetTable.below (bs.map (·.1)).toArray j := by
  refine x02 h fun h1 h2 h3 => ?_; clear h
  unfold SetTable.put
  refine ⟨⟨h1, ?_, ?_⟩, by rw [h2]⟩
  · dsimp only
    rw [h2, insertAt_eq, insAt_map]
  · dsimp only
    rw [h3]
    have : SetTable.has #[] j = false := by
      unfold SetTable.has SetTable.below; simp
    rw [this]; rfl
end Mine
end SSq2

section SSq3
set_option maxRecDepth 100000
namespace Mine
open PySem
theorem free_ok {M : Nat} {h : Int} (owner : Array (Option Nat)) : ∀ (fuel n : Nat) (x : Nat × Nat), pth M h n = hd M x → (∀ m, m < n → (owner.getD (pth M h m).j (some 0)).isNone = false) →
    (∃ l, l < fuel ∧ (owner.getD (lp M l x).1 (some 0)).isNone = true) →
    ∃ N, SetTable.layClean.free M owner fuel x.1 x.2 = some (pth M h N).j ∧ (owner.getD (pth M h N).j (some 0)).isNone = true ∧ ∀ m, m < N → (owner.getD (pth M h m).j (some 0)).isNone = false
  | 0, n, x, _, _, ⟨l, hl, _⟩ => absurd hl (Nat.not_lt_zero _)
  | fuel + 1, n, x, e, ho, ⟨l, hl, hn⟩ => by
    have hrun := pth_run e
    have hge := runEnd_ge M x.1
    unfold SetTable.layClean.free
    cases hf : (List.range (SetTable.runEnd M x.1 + 1 - x.1)).find? fun k => (owner.getD (x.1 + k) (some 0)).isNone with
    | some k =>
      refine x02 (List.find?_range_eq_some.mp hf) fun p1 p2 p3 => ?_
      have hk := List.mem_range.mp p2
      refine ⟨n + k, ?_, ?_, fun m hm => ?_⟩
      · rw [hrun k (by lia)]
      · rw [hrun k (by lia)]; exact p1
      · rcases Nat.lt_or_ge m n with q | q
        · exact ho m q
        · have := p3 (m - n) (by lia)
          have e2 := hrun (m - n) (by lia)
          rw [show n + (m - n) = m by lia] at e2
          rw [e2]
          simpa using this
    | none =>
      have p := List.find?_range_eq_none.mp hf
      dsimp only
      have hocc : ∀ m, m < n + (SetTable.runEnd M x.1 - x.1) + 1 → (owner.getD (pth M h m).j (some 0)).isNone = false := fun m hm => by
        rcases Nat.lt_or_ge m n with q | q
        · exact ho m q
        · have := p (m - n) (by lia)
          have e2 := hrun (m - n) (by lia)
          rw [show n + (m - n) = m by lia] at e2
          rw [e2]
          simpa using this
      refine free_ok owner fuel _ _ (pth_next e) hocc ?_
      cases l with
      | zero =>
        have := p 0 (by lia)
        rw [show x.1 + 0 = x.1 by lia] at this
        have hn' : (owner.getD x.1 (some 0)).isNone = true := hn
        rw [hn'] at this; cases this
      | succ l => exact ⟨l, by lia, hn⟩
structure LayOk (M : Nat) (hs : List Int) (owner : Array (Option Nat)) : Prop where
  size : owner.size = M + 1
  dom : ∀ (j i : Nat), owner[j]? = some (some i) → i < hs.length
  inj : ∀ (j j' i : Nat), owner[j]? = some (some i) → owner[j']? = some (some i) → j = j'
  at' : ∀ (i : Nat) (h : Int), hs[i]? = some h → ∃ n, owner[(pth M h n).j]? = some (some i) ∧ ∀ m, m < n → ∃ i', owner[(pth M h m).j]? = some (some i')
theorem lay_lacks {M : Nat} {hs : List Int} {owner : Array (Option Nat)} (L : LayOk M hs owner) (hl : hs.length ≤ M) : ∃ e, e ≤ M ∧ owner[e]? = some none := by
  refine Classical.byContradiction fun z => ?_
  have all : ∀ e, e < M + 1 → ∃ i, owner[e]? = some (some i) := fun e he => by
    have : e < owner.size := by rw [L.size]; exact he
    cases q : owner[e]? with
    | none => rw [Array.getElem?_eq_none_iff] at q; lia
    | some o =>
      cases o with
      | none => exact absurd ⟨e, by lia, q⟩ z
      | some i => exact ⟨i, rfl⟩
  let f : Nat → Nat := fun e => ((owner[e]?).join).getD 0
  have hf : ∀ e i, owner[e]? = some (some i) → f e = i := fun e i q => by show ((owner[e]?).join).getD 0 = i; rw [q]; rfl
  have nd : ((List.range (M + 1)).map f).Nodup := by
    rw [List.nodup_iff_pairwise_ne]
    refine List.pairwise_map.mpr ?_
    refine List.Pairwise.imp_of_mem ?_ (List.nodup_iff_pairwise_ne.mp List.nodup_range)
    intro a b ha hb hab e
    refine x10 (all a (List.mem_range.mp ha)) fun i hi => ?_
    refine x10 (all b (List.mem_range.mp hb)) fun k hk => ?_
    rw [hf _ _ hi, hf _ _ hk] at e
    subst e
    exact hab (L.inj _ _ _ hi hk)
  have := nodup_len (b := List.range hs.length) nd fun x hx => by
    refine x11 (List.mem_map.mp hx) fun a ha z61 => ?_; subst z61
    refine x10 (all a (List.mem_range.mp ha)) fun i hi => ?_
    rw [hf _ _ hi]
    exact List.mem_range.mpr (L.dom _ _ hi)
  rw [List.length_map, List.length_range, List.length_range] at this
  lia
theorem isNone_occ {M : Nat} {owner : Array (Option Nat)} (hs : owner.size = M + 1) {j : Nat} (hj : j ≤ M) : ((owner.getD j (some 0)).isNone = true ↔ owner[j]? = some none) ∧ ((owner.getD j (some 0)).isNone = false ↔ ∃ i, owner[j]? = some (some i)) := by
  have hlt : j < owner.size := by lia
  have e : owner.getD j (some 0) = owner[j] := by simp [Array.getD, hlt]
  rw [e, Array.getElem?_eq_getElem hlt]
  cases owner[j] <;> simp
theorem lay_step {M : Nat} (hM : M = 7 ∨ M = 31) {hs : List Int} {owner : Array (Option Nat)} (L : LayOk M hs owner) (hl : hs.length ≤ M) (h : Int) :
    ∃ j, SetTable.layClean.free M owner (SetTable.turns M) (SetTable.bits h % (M + 1)) (SetTable.bits h) = some j ∧ LayOk M (hs ++ [h]) (owner.setIfInBounds j (some hs.length)) := by
  refine x11 (lay_lacks L hl) fun e he hne => ?_
  refine x11 (lp_hits hM (x := (SetTable.bits h % (M + 1), SetTable.bits h)) (Nat.le_of_lt_succ (Nat.mod_lt _ (Nat.succ_pos _))) (bits_lt h) he) fun l hl' hle => ?_
  refine x12 (free_ok (M := M) (h := h) owner (SetTable.turns M) 0 _ (pth_zero M h) (fun m hm => absurd hm (Nat.not_lt_zero _)) ⟨l, by unfold SetTable.turns; lia, by rw [hle]; exact (isNone_occ L.size he).1.mpr hne⟩) fun N h1 h2 h3 => ?_
  have hj : (pth M h N).j ≤ M := Nat.le_trans (Nat.le_add_right _ _) (pth_ok h N).2
  have hjf := (isNone_occ L.size hj).1.mp h2
  have keep : ∀ j i, owner[j]? = some (some i) → (owner.setIfInBounds (pth M h N).j (some hs.length))[j]? = some (some i) := fun j i q => by
    rw [Array.getElem?_setIfInBounds]
    rw [if_neg (fun x => by rw [← x, hjf] at q; cases q)]
    exact q
  have new : (owner.setIfInBounds (pth M h N).j (some hs.length))[(pth M h N).j]? = some (some hs.length) := by
    rw [Array.getElem?_setIfInBounds]
    rw [if_pos rfl, if_pos (by rw [L.size]; lia)]
  have old : ∀ j i, (owner.setIfInBounds (pth M h N).j (some hs.length))[j]? = some (some i) → (j = (pth M h N).j ∧ i = hs.length) ∨ owner[j]? = some (some i) := fun j i q => by
    by_cases x : j = (pth M h N).j
    · subst x; rw [new] at q; exact .inl ⟨rfl, (Option.some.inj (Option.some.inj q)).symm⟩
    · rw [Array.getElem?_setIfInBounds, if_neg (fun y => x y.symm)] at q; exact .inr q
  refine ⟨_, h1, ?_, fun j i q => ?_, fun j j' i q q' => ?_, fun i hh q => ?_⟩
  · rw [Array.size_setIfInBounds]; exact L.size
  · rw [List.length_append, List.length_singleton]
    rcases old _ _ q with ⟨_, rfl⟩ | q
    · lia
    · have := L.dom _ _ q; lia
  · rcases old _ _ q with ⟨rfl, rfl⟩ | q <;> rcases old _ _ q' with ⟨rfl, e2⟩ | q'
    · rfl
    · exact absurd (L.dom _ _ q') (Nat.lt_irrefl _)
    · subst e2; exact absurd (L.dom _ _ q) (Nat.lt_irrefl _)
    · exact L.inj _ _ _ q q'
  · rcases Nat.lt_or_ge i hs.length with y | y
    · rw [List.getElem?_append_left y] at q
      refine x11 (L.at' i hh q) fun n a b => ?_
      exact ⟨n, keep _ _ a, fun m hm => let ⟨i', z⟩ := b m hm; ⟨i', keep _ _ z⟩⟩
    · rw [List.getElem?_append_right y] at q
      have : i = hs.length := by
        rcases Nat.eq_or_lt_of_le y with z | z
        · exact z.symm
        · rw [show i - hs.length = (i - hs.length - 1) + 1 by lia] at q; simp at q
      subst this
      rw [Nat.sub_self] at q
      have : h = hh := by simpa using q
      subst this
      refine ⟨N, new, fun m hm => ?_⟩
      refine x10 ((isNone_occ L.size (Nat.le_trans (Nat.le_add_right _ _) (pth_ok h m).2)).2.mp (h3 m hm)) fun i' z => ?_
      exact ⟨i', keep _ _ z⟩
theorem lay_fold {M : Nat} (hM : M = 7 ∨ M = 31) : ∀ (rest hs : List Int) (owner : Array (Option Nat)), LayOk M hs owner → hs.length + rest.length ≤ M →
    ∃ owner', rest.foldl (fun (acc : Option (Array (Option Nat) × Nat)) h => do
      let (owner, k) ← acc
      let j ← SetTable.layClean.free M owner (SetTable.turns M) (SetTable.bits h % (M + 1)) (SetTable.bits h)
      pure (owner.setIfInBounds j (some k), k + 1)) (some (owner, hs.length)) = some (owner', hs.length + rest.length) ∧ LayOk M (hs ++ rest) owner'
  | [], hs, owner, L, _ => ⟨owner, rfl, by rw [List.append_nil]; exact L⟩
  | h :: rest, hs, owner, L, hl => by
    rw [List.length_cons] at hl
    refine x11 (lay_step hM L (by lia) h) fun j e L' => ?_
    refine x11 (lay_fold hM rest _ _ L' (by rw [List.length_append, List.length_singleton]; lia)) fun o' e' L2 => ?_
    refine ⟨o', ?_, by rw [List.append_assoc] at L2; exact L2⟩
    rw [List.foldl_cons]
    rw [List.length_append, List.length_singleton] at e'
    have : (do
      let (owner, k) ← some (owner, hs.length)
      let j ← SetTable.layClean.free M owner (SetTable.turns M) (SetTable.bits h % (M + 1)) (SetTable.bits h)
      pure (owner.setIfInBounds j (some k), k + 1)) = some (owner.setIfInBounds j (some hs.length), hs.length + 1) := by
      show (do
        let j ← SetTable.layClean.free M owner (SetTable.turns M) (SetTable.bits h % (M + 1)) (SetTable.bits h)
        pure (owner.setIfInBounds j (some hs.length), hs.length + 1)) = _
      rw [e]; rfl
    rw [this, e', List.length_cons]
    congr 2; lia
theorem lay_ok {M : Nat} (hM : M = 7 ∨ M = 31) (hs : List Int) (hl : hs.length ≤ M) : ∃ owner, SetTable.layClean M hs.toArray = some owner ∧ LayOk M hs owner := by
  refine x11 (lay_fold hM hs [] (Array.replicate (M + 1) none) ⟨by simp, fun j i q => by rw [Array.getElem?_replicate] at q; split at q <;> simp at q, fun j j' i q => by rw [Array.getElem?_replicate] at q; split at q <;> simp at q, fun i h q => by simp at q⟩ (by simpa using hl)) fun o e L => ?_
  refine ⟨o, ?_, L⟩
  unfold SetTable.layClean
  rw [← Array.foldl_toList]
  rw [List.length_nil] at e
  exact (congrArg (Option.map (·.1)) e)
/-- laid anew: the places, rising, and which key lies there -/
theorem relaid_ok {M : Nat} (hM : M = 7 ∨ M = 31) (hs : List Int) (hl : hs.length ≤ M) (fi mo : Nat) (le pl : Bool) : ∃ live : List (Nat × Nat), SetTable.laid M fi mo le pl hs.toArray = some ({ mask := M, place := (live.map (·.1)).toArray, dummies := #[], finger := fi, led := le, moves := mo, plain := pl }, (live.map (·.2)).toArray) ∧
    Rise (live.map (·.1)) ∧ (∀ b ∈ live, b.1 ≤ M) ∧ (live.map (·.2)).Perm (List.range hs.length) ∧ ∀ b ∈ live, ∀ h, hs[b.2]? = some h → ∃ n, (pth M h n).j = b.1 ∧ ∀ m, m < n → (pth M h m).j ∈ live.map (·.1) := by
  refine x11 (lay_ok hM hs hl) fun o e L => ?_
  have mem : ∀ b : Nat × Nat, b ∈ (List.range (M + 1)).filterMap (fun j => (o.getD j none).map (j, ·)) ↔ o[b.1]? = some (some b.2) := fun b => by
    rw [List.mem_filterMap]
    constructor
    · rintro ⟨j, hj, q⟩
      have hlt : j < o.size := by rw [L.size]; exact List.mem_range.mp hj
      refine x11 (Option.map_eq_some_iff.mp q) fun i hi z281 => ?_; subst z281
      rw [Array.getElem?_eq_getElem hlt, ← hi]
      simp [Array.getD, hlt]
    · intro q
      have hlt : b.1 < o.size := by
        rcases Nat.lt_or_ge b.1 o.size with z | z
        · exact z
        · rw [Array.getElem?_eq_none z] at q; cases q
      refine ⟨b.1, List.mem_range.mpr (by rw [L.size] at hlt; exact hlt), ?_⟩
      rw [Array.getElem?_eq_getElem hlt] at q
      have : o.getD b.1 none = some b.2 := by simp [Array.getD, hlt]; exact Option.some.inj q
      rw [this]; rfl
  refine ⟨(List.range (M + 1)).filterMap (fun j => (o.getD j none).map (j, ·)), ?_, ?_, fun b hb => ?_, ?_, fun b hb h hh => ?_⟩
  · unfold SetTable.laid
    rw [e]; rfl
  · unfold Rise
    refine List.pairwise_map.mpr ?_
    refine List.pairwise_filterMap.mpr ?_
    refine (List.pairwise_lt_range).imp fun {a b} hab x hx y hy => ?_
    refine x11 (Option.map_eq_some_iff.mp hx) fun i _ z301 => ?_; subst z301
    refine x11 (Option.map_eq_some_iff.mp hy) fun k _ z321 => ?_; subst z321
    exact hab
  · have hb := (mem b).mp hb
    have : b.1 < o.size := by
      rcases Nat.lt_or_ge b.1 o.size with z | z
      · exact z
      · rw [Array.getElem?_eq_none z] at hb; cases hb
    rw [L.size] at this; lia
  · have nd : (((List.range (M + 1)).filterMap (fun j => (o.getD j none).map (j, ·))).map (·.2)).Nodup := by
      rw [List.nodup_iff_pairwise_ne]
      refine List.pairwise_map.mpr ?_
      refine List.Pairwise.imp_of_mem (R := fun a b => a.1 < b.1) (fun {a b} ha hb hab q => ?_) ?_
      · have := L.inj _ _ _ ((mem a).mp ha) (by rw [q]; exact (mem b).mp hb)
        lia
      · refine List.pairwise_filterMap.mpr ?_
        refine (List.pairwise_lt_range).imp fun {a b} hab x hx y hy => ?_
        refine x11 (Option.map_eq_some_iff.mp hx) fun i _ z341 => ?_; subst z341
        refine x11 (Option.map_eq_some_iff.mp hy) fun k _ z361 => ?_; subst z361
        exact hab
    refine (List.perm_ext_iff_of_nodup nd List.nodup_range).mpr fun i => ?_
    rw [List.mem_range]
    constructor
    · intro q
      refine x11 (List.mem_map.mp q) fun b hb z381 => ?_; subst z381
      exact L.dom _ _ ((mem b).mp hb)
    · intro q
      refine x11 (L.at' i _ (List.getElem?_eq_getElem q)) fun n a _ => ?_
      exact List.mem_map.mpr ⟨(_, i), (mem _).mpr a, rfl⟩
  · have hb := (mem b).mp hb
    refine x11 (L.at' b.2 h hh) fun n a c => ?_
    refine ⟨n, L.inj _ _ _ a hb, fun m hm => ?_⟩
    refine x10 (c m hm) fun i' z => ?_
    exact List.mem_map.mpr ⟨((pth M h m).j, i'), (mem _).mpr z, rfl⟩
end Mine
end SSq3

section SSq10
open PySem PySem.W PyProof.Rows
set_option maxRecDepth 100000
namespace Mine
section
variable {O : KeyOrd} (key : Nat → O.α) (n : Nat)
/-- the tree of asks, run by an order of the keys; each ask lies within n -/
noncomputable def Go {α : Type} : KasT α → (α → Prop) → Prop
  | .ret a, Q => Q a
  | .ask i j k, Q => i < n ∧ j < n ∧ Go (k (O.blt (key i) (key j))) Q
variable {key} {n}
theorem go_mono {α : Type} {Q Q' : α → Prop} (h : ∀ a, Q a → Q' a) : ∀ {t : KasT α}, Go key n t Q → Go key n t Q'
  | .ret a, x => h a x
  | .ask i j k, x => ⟨x.1, x.2.1, go_mono h x.2.2⟩
theorem go_bind {α β : Type} {Q : β → Prop} {f : α → KasT β} : ∀ {t : KasT α}, Go key n t (fun a => Go key n (f a) Q) → Go key n (t.bind f) Q
  | .ret a, x => x
  | .ask i j k, x => ⟨x.1, x.2.1, go_bind x.2.2⟩
theorem go_wp {α : Type} {cmp : Nat → Nat → (Bool → Shared → Prop) → Shared → Prop} {Q : α → Prop} {G : α → Shared → Prop} {s : Shared} (hc : ∀ i j (C : Bool → Shared → Prop), i < n → j < n → C (O.blt (key i) (key j)) s → cmp i j C s)
    (hg : ∀ a, Q a → G a s) : ∀ {t : KasT α}, Go key n t Q → t.kasWp cmp G s
  | .ret a, x => hg a x
  | .ask i j k, x => hc i j _ x.1 x.2.1 (go_wp hc hg x.2.2)
variable (key)
noncomputable def KP (p : Array Nat) (i : Nat) : O.α := key (p.getD i 0)
noncomputable def Sorted' (p : Array Nat) (k : Nat) : Prop := ∀ i j, i ≤ j → j < k → O.kle (KP key p i) (KP key p j)
noncomputable def NonInc' (p : Array Nat) (k : Nat) : Prop := ∀ i j, i ≤ j → j < k → O.kle (KP key p j) (KP key p i)
noncomputable def PB (n : Nat) (p : Array Nat) : Prop := p.toList.Perm (List.range n)
variable {key}
theorem PB.size {p : Array Nat} (h : PB n p) : p.size = n := by have := h.length_eq; simpa using this
theorem PB.at {p : Array Nat} (h : PB n p) {i : Nat} (hi : i < n) : p.getD i 0 < n := by
  have hs : i < p.size := by rw [h.size]; exact hi
  have e : p.getD i 0 = p[i] := by simp [Array.getD, hs]
  rw [e]
  exact List.mem_range.mp (h.mem_iff.mp (by simp))
theorem PB.rev {p : Array Nat} (h : PB n p) (i j : Nat) : PB n (kas_rev p i j) := (Array.perm_iff_toList_perm.mp (mirror_perm p i j _)).trans h
theorem PB.bub {p : Array Nat} (h : PB n p) (i j : Nat) : PB n (bubble p i j) := (Array.perm_iff_toList_perm.mp (bubble_perm p i j)).trans h
theorem KP_congr {p q : Array Nat} {i j : Nat} (h : p[i]? = q[j]?) : KP key p i = KP key q j := by
  unfold KP
  have e : ∀ (x : Array Nat) (k : Nat), x.getD k 0 = (x[k]?).getD 0 := fun x k => by simp
  rw [e, e, h]
theorem KP_bubble {p : Array Nat} {src d : Nat} (hs : src < p.size) (hd : d ≤ src) (k : Nat) : KP key (bubble p src d) k = if k = src - d then KP key p src else if src - d < k ∧ k ≤ src then KP key p (k - 1) else KP key p k := by
  have e := getElem?_bubble hs d hd k
  by_cases h1 : k = src - d
  · rw [if_pos h1] at e ⊢; exact KP_congr e
  · rw [if_neg h1] at e ⊢
    by_cases h2 : src - d < k ∧ k ≤ src
    · rw [if_pos h2] at e ⊢; exact KP_congr e
    · rw [if_neg h2] at e ⊢; exact KP_congr e
theorem KP_rev {p : Array Nat} {i j : Nat} (hj : j ≤ p.size) (k : Nat) : KP key (kas_rev p i j) k = if i ≤ k ∧ k < j then KP key p (i + j - 1 - k) else KP key p k := by
  have e := getElem?_mirror_all (i := i) hj k
  by_cases h1 : i ≤ k ∧ k < j
  · rw [if_pos h1] at e ⊢; exact KP_congr e
  · rw [if_neg h1] at e ⊢; exact KP_congr e
theorem KP_rev_equal {p : Array Nat} {i j : Nat} (hj : j ≤ p.size) (heq : ∀ k, i ≤ k → k < j → KP key p k = KP key p (j - 1)) (k : Nat) : KP key (kas_rev p i j) k = KP key p k := by
  rw [KP_rev hj]
  split
  · rw [heq _ (by lia) (by lia), heq k (by lia) (by lia)]
  · rfl
theorem go_asc {p : Array Nat} (hp : PB n p) : ∀ (f m : Nat), 1 ≤ m → m + f ≤ n → Sorted' key p m → Go key n (kas_asc p f m) (fun r => m ≤ r ∧ r ≤ m + f ∧ Sorted' key p r ∧ (r = m + f ∨ O.klt (KP key p r) (KP key p (r - 1))))
  | 0, m, h1, h2, hs => ⟨Nat.le_refl _, Nat.le_refl _, hs, .inl rfl⟩
  | f + 1, m, h1, h2, hs => by
    refine ⟨hp.at (by lia), hp.at (by lia), ?_⟩
    cases hless : O.blt (key (p.getD m 0)) (key (p.getD (m - 1) 0)) with
    | true => exact ⟨Nat.le_refl _, by lia, hs, .inr hless⟩
    | false =>
      refine go_mono (fun r hr => ⟨by lia, by lia, hr.2.2.1, hr.2.2.2.imp (fun e => by lia) id⟩) (go_asc hp f (m + 1) (by lia) (by lia) fun i j hij hj => ?_)
      by_cases hjx : j < m
      · exact hs i j hij hjx
      · have hj' : j = m := by lia
        subst hj'
        by_cases hi' : i = j
        · subst hi'; exact KeyOrd.kle_refl _
        · exact KeyOrd.kle_trans (hs i (j - 1) (by lia) (by lia)) hless
theorem go_desc : ∀ (f : Nat) (p : Array Nat) (m q : Nat), PB n p → 1 ≤ m → m + f ≤ n → NonInc' key p m → q + 1 ≤ m → (∀ i, m - (q + 1) ≤ i → i < m → KP key p i = KP key p (m - 1)) →
    Go key n (kas_desc f p m q) (fun r => PB n r.1 ∧ m ≤ r.2.1 ∧ r.2.1 ≤ m + f ∧ NonInc' key r.1 r.2.1 ∧ r.2.2 + 1 ≤ r.2.1 ∧ (∀ i, r.2.1 - (r.2.2 + 1) ≤ i → i < r.2.1 → KP key r.1 i = KP key r.1 (r.2.1 - 1)))
  | 0, p, m, q, hp, h1, h2, hs, hq, he => ⟨hp, Nat.le_refl _, Nat.le_refl _, hs, hq, he⟩
  | f + 1, p, m, q, hp, h1, h2, hs, hq, he => by
    refine ⟨hp.at (by lia), hp.at (by lia), ?_⟩
    have hsz : m ≤ p.size := by rw [hp.size]; lia
    cases hless : O.blt (key (p.getD m 0)) (key (p.getD (m - 1) 0)) with
    | true =>
      have step1 : ∀ xs : Array Nat, (∀ k, KP key xs k = KP key p k) → NonInc' key xs (m + 1) := by
        intro xs hk i j hij hj
        rw [hk, hk]
        by_cases hjx : j < m
        · exact hs i j hij hjx
        · have hj' : j = m := by lia
          subst hj'
          by_cases hi' : i = j
          · subst hi'; exact KeyOrd.kle_refl _
          · exact KeyOrd.kle_trans (KeyOrd.kle_of_klt hless) (hs i (j - 1) (by lia) (by lia))
      simp only [if_true]
      by_cases hneq : q > 0
      · rw [if_pos hneq]
        exact go_mono (fun r hr => ⟨hr.1, by lia, by lia, hr.2.2.2⟩) (go_desc f _ (m + 1) 0 (hp.rev _ _) (by lia) (by lia) (step1 _ (KP_rev_equal hsz he)) (by lia) fun i h1 h2 => by congr 1; lia)
      · rw [if_neg hneq]
        exact go_mono (fun r hr => ⟨hr.1, by lia, by lia, hr.2.2.2⟩) (go_desc f _ (m + 1) 0 hp (by lia) (by lia) (step1 _ (fun _ => rfl)) (by lia) fun i h1 h2 => by congr 1; lia)
    | false =>
      simp only [Bool.false_eq_true, if_false]
      refine ⟨hp.at (by lia), hp.at (by lia), ?_⟩
      cases hlarger : O.blt (key (p.getD (m - 1) 0)) (key (p.getD m 0)) with
      | true => exact ⟨hp, Nat.le_refl _, Nat.le_add_right _ _, hs, hq, he⟩
      | false =>
        simp only [Bool.false_eq_true, if_false]
        have heqx : KP key p m = KP key p (m - 1) := KeyOrd.kle_antisymm hlarger hless
        refine go_mono (fun r hr => ⟨hr.1, by lia, by lia, hr.2.2.2⟩) (go_desc f p (m + 1) (q + 1) hp (by lia) (by lia) (fun i j hij hj => ?_) (by lia) fun i h1 h2 => ?_)
        · by_cases hjx : j < m
          · exact hs i j hij hjx
          · have hj' : j = m := by lia
            subst hj'
            by_cases hi' : i = j
            · subst hi'; exact KeyOrd.kle_refl _
            · rw [heqx]; exact hs i (j - 1) (by lia) (by lia)
        · rw [show m + 1 - 1 = m by lia]
          by_cases hix : i = m
          · subst hix; rfl
          · rw [heqx]; exact he i (by lia) (by lia)
noncomputable abbrev Done (O : KeyOrd) (key : Nat → O.α) (n nrem : Nat) (r : Nat × Array Nat) : Prop := PB n r.2 ∧ 1 ≤ r.1 ∧ r.1 ≤ nrem ∧ Sorted' key r.2 r.1
theorem go_tail3 {p : Array Nat} {m nrem : Nat} (hp : PB n p) (hr : nrem ≤ n) (h1 : 1 ≤ m) (h2 : m ≤ nrem) (hs : NonInc' key p m) : Go key n (kas_tail3 m nrem p) (Done O key n nrem) := by
  unfold kas_tail3
  have hsz : m ≤ p.size := by rw [hp.size]; lia
  refine go_bind (go_mono (fun r hr' => ⟨hp.rev _ _, by lia, by lia, hr'.2.2.1⟩) (go_asc (hp.rev 0 m) (nrem - m) m h1 (by lia) fun i j hij hj => ?_))
  rw [KP_rev hsz, KP_rev hsz, if_pos (by lia), if_pos (by lia)]
  exact hs _ _ (by lia) (by lia)
theorem go_descPart {p : Array Nat} {m nrem : Nat} (hp : PB n p) (hr : nrem ≤ n) (h2 : m + 1 ≤ nrem) (hs : NonInc' key p (m + 1)) : Go key n (kas_descPart m nrem p) (Done O key n nrem) := by
  unfold kas_descPart
  refine go_bind (go_mono (fun r hr' => ?_) (go_desc (nrem - (m + 1)) p (m + 1) 0 hp (by lia) (by lia) hs (by lia) fun i a b => by congr 1; lia))
  refine x05 hr' fun b1 b2 b3 b4 b5 b6 => ?_; clear hr'
  have hsz : r.2.1 ≤ r.1.size := by rw [b1.size]; lia
  by_cases hq : r.2.2 > 0
  · rw [if_pos hq]
    refine go_tail3 (b1.rev _ _) hr (by lia) (by lia) fun i j hij hj => ?_
    rw [KP_rev_equal hsz b6, KP_rev_equal hsz b6]
    exact b4 i j hij hj
  · rw [if_neg hq]
    exact go_tail3 b1 hr (by lia) (by lia) b4
theorem go_count {p : Array Nat} {nrem : Nat} (hp : PB n p) (hr : nrem ≤ n) (h1 : 1 ≤ nrem) : Go key n (kas_count nrem p) (Done O key n nrem) := by
  unfold kas_count
  refine go_bind (go_mono (fun m hm => ?_) (go_asc hp (nrem - 1) 1 (Nat.le_refl _) (by lia) fun i j hij hj => by have : i = j := (by lia); subst this; exact KeyOrd.kle_refl _))
  refine x03 hm fun a1 a2 hsn hor => ?_; clear hm
  by_cases hnn : m = nrem
  · rw [if_pos (by simpa using hnn)]
    exact ⟨hp, a1, by lia, hsn⟩
  · rw [if_neg (by simpa using hnn)]
    have hlt : O.klt (KP key p m) (KP key p (m - 1)) := hor.resolve_left (by lia)
    by_cases hgt : m > 1
    · rw [if_pos hgt]
      refine ⟨hp.at (by lia), hp.at (by lia), ?_⟩
      cases hrose : O.blt (key (p.getD 0 0)) (key (p.getD (m - 1) 0)) with
      | true => exact ⟨hp, a1, by lia, hsn⟩
      | false =>
        simp only [Bool.false_eq_true, if_false]
        have hsz : m ≤ p.size := by rw [hp.size]; lia
        have hall : ∀ k, 0 ≤ k → k < m → KP key p k = KP key p (m - 1) := by
          intro k _ hk
          have c1 := hsn 0 k (by lia) hk
          have c2 := hsn k (m - 1) (by lia) (by lia)
          exact KeyOrd.kle_antisymm c2 (KeyOrd.kle_trans hrose c1)
        refine go_descPart (hp.rev _ _) hr (by lia) fun i j hij hj => ?_
        rw [KP_rev_equal hsz hall, KP_rev_equal hsz hall]
        by_cases hjn : j < m
        · rw [hall i (by lia) (by lia), hall j (by lia) hjn]; exact KeyOrd.kle_refl _
        · have hj' : j = m := by lia
          subst hj'
          by_cases hi' : i = j
          · subst hi'; exact KeyOrd.kle_refl _
          · rw [hall i (by lia) (by lia)]; exact KeyOrd.kle_of_klt hlt
    · rw [if_neg hgt]
      have hn1' : m = 1 := by lia
      subst hn1'
      refine go_descPart hp hr (by lia) fun i j hij hj => ?_
      by_cases hi' : i = j
      · subst hi'; exact KeyOrd.kle_refl _
      · have hi0 : i = 0 := by lia
        have hj1 : j = 1 := by lia
        subst hi0; subst hj1
        exact KeyOrd.kle_of_klt hlt
theorem go_place {p : Array Nat} {k : Nat} (hp : PB n p) (hk : k < n) (hs : Sorted' key p k) : ∀ (f l r : Nat), l ≤ r → r ≤ k → r - l ≤ f → (∀ i, i < l → O.kle (KP key p i) (KP key p k)) → (∀ i, r ≤ i → i < k → O.klt (KP key p k) (KP key p i)) →
    Go key n (kas_place p k f l r) (fun l => l ≤ k ∧ (∀ i, i < l → O.kle (KP key p i) (KP key p k)) ∧ (∀ i, l ≤ i → i < k → O.klt (KP key p k) (KP key p i)))
  | 0, l, r, h1, h2, h3, hlo, hhi => by
    have : l = r := by lia
    subst this
    exact ⟨h2, hlo, hhi⟩
  | f + 1, l, r, h1, h2, h3, hlo, hhi => by
    unfold kas_place
    by_cases hge : l ≥ r
    · rw [if_pos hge]
      have : l = r := by lia
      subst this
      exact ⟨h2, hlo, hhi⟩
    · rw [if_neg hge]
      refine ⟨hp.at hk, hp.at (by lia), ?_⟩
      cases hless : O.blt (key (p.getD k 0)) (key (p.getD ((l + r) / 2) 0)) with
      | true =>
        simp only [if_true]
        exact go_place hp hk hs f l _ (by lia) (by lia) (by lia) hlo fun i a b => KeyOrd.klt_of_klt_of_kle hless (hs _ _ a b)
      | false =>
        simp only [Bool.false_eq_true, if_false]
        exact go_place hp hk hs f _ r (by lia) h2 (by lia) (fun i a => KeyOrd.kle_trans (hs i ((l + r) / 2) (by lia) (by lia)) (show O.kle _ _ from hless)) hhi
theorem go_bin : ∀ (f : Nat) (p : Array Nat) (k : Nat), PB n p → 1 ≤ k → k + f = n → Sorted' key p k → Go key n (kas_bin f p k) (fun p' => PB n p' ∧ Sorted' key p' n)
  | 0, p, k, hp, h1, h2, hs => ⟨hp, by have : k = n := by lia
                                       subst this; exact hs⟩
  | f + 1, p, k, hp, h1, h2, hs => by
    unfold kas_bin
    have hk : k < n := by lia
    refine go_bind (go_mono (fun l hl => ?_) (go_place hp hk hs k 0 k (by lia) (by lia) (by lia) (fun i hi => absurd hi (Nat.not_lt_zero _)) fun i a b => absurd b (by lia)))
    refine x02 hl fun hlk hlo hhi => ?_; clear hl
    refine go_bin f _ (k + 1) (hp.bub _ _) (by lia) (by lia) fun i j hij hj => ?_
    have hks : k < p.size := by rw [hp.size]; exact hk
    rw [KP_bubble hks (by lia), KP_bubble hks (by lia), show k - (k - l) = l by lia]
    repeat' split
    all_goals first
      | (exfalso; lia)
      | exact KeyOrd.kle_refl _
      | exact hlo _ (by lia)
      | exact KeyOrd.kle_of_klt (hhi _ (by lia) (by lia))
      | exact hs _ _ (by lia) (by lia)
/-- the sort sorts -/
theorem go_sort (h2 : 1 ≤ n) : Go key n (kas_sort n) (fun p => PB n p ∧ Sorted' key p n) := by
  unfold kas_sort
  refine go_bind (go_mono (fun r hr => ?_) (go_count (nrem := n) (p := (List.range n).toArray) (List.Perm.refl _) (Nat.le_refl _) h2))
  refine x03 hr fun b1 b2 b3 b4 => ?_; clear hr
  by_cases q : r.1 < n
  · rw [if_pos q]
    rw [show max r.1 1 = r.1 by lia]
    exact go_bin _ _ _ b1 b2 (by lia) b4
  · rw [if_neg q]
    have : r.1 = n := by lia
    rw [this] at b4
    exact ⟨b1, b4⟩
end
end Mine
end SSq10

section SSq4
open PySem PySem.W PySem.Calls PyProof.Rows PySem.SeqAt
set_option maxRecDepth 100000
namespace Mine
/-- ints and strs as keys -/
noncomputable def bothKind (prog : Program) (w : World) : KeyKind prog w (Int ⊕ Str) where
  is := fun k v => match k with | .inl i => Value.isInt i v | .inr x => Value.isStrOf x v
  hash := fun k => match k with | .inl i => hashInt i | .inr x => hashStr w x
  inj := fun v a b ha hb => by
    cases a <;> cases b
    · exact congrArg _ (Value.isInt_inj v _ _ ha hb)
    · refine x10 (Value.isInt_shape ha) fun t z1 => ?_; subst z1; refine x10 (Value.isStrOf_shape hb) fun u h => ?_; cases h
    · refine x10 (Value.isInt_shape hb) fun t z41 => ?_; subst z41; refine x10 (Value.isStrOf_shape ha) fun u h => ?_; cases h
    · exact congrArg _ (Value.isStrOf_inj v _ _ ha hb)
  byValue := fun k v h => by
    cases k
    · refine x10 (Value.isInt_shape h) fun t z81 => ?_; subst z81; rfl
    · refine x10 (Value.isStrOf_shape h) fun t z101 => ?_; subst z101; rfl
  pyHash := fun {A E s k v Q} hv h => by
    cases k
    · refine x10 (Value.isInt_shape hv) fun t z121 => ?_; subst z121; exact wpAny_pyHash_int h
    · refine x10 (Value.isStrOf_shape hv) fun t z141 => ?_; subst z141; exact wpAny_pyHash_str h
  eqBool := fun {A E s a b u v Q} hu hv h => by
    rcases a with x | x <;> rcases b with y | y
    · refine x10 (Value.isInt_shape hu) fun t z161 => ?_; subst z161
      refine x10 (Value.isInt_shape hv) fun u z181 => ?_; subst z181
      have e : decide ((Sum.inl x : Int ⊕ Str) = Sum.inl y) = decide (x = y) := decide_eq_decide.mpr ⟨Sum.inl.inj, congrArg _⟩
      rw [e] at h
      exact wpAny_eqBool_int h
    · refine x10 (Value.isInt_shape hu) fun t z201 => ?_; subst z201
      refine x10 (Value.isStrOf_shape hv) fun u z221 => ?_; subst z221
      exact EqAt.int_str _ _ _ _ prog w E Q (by simpa using h)
    · refine x10 (Value.isStrOf_shape hu) fun t z241 => ?_; subst z241
      refine x10 (Value.isInt_shape hv) fun u z261 => ?_; subst z261
      exact EqAt.str_int _ _ _ _ prog w E Q (by simpa using h)
    · refine x10 (Value.isStrOf_shape hu) fun t z281 => ?_; subst z281
      refine x10 (Value.isStrOf_shape hv) fun u z301 => ?_; subst z301
      have e : decide ((Sum.inr x : Int ⊕ Str) = Sum.inr y) = decide (x = y) := decide_eq_decide.mpr ⟨Sum.inr.inj, congrArg _⟩
      rw [e] at h
      exact wpAny_eqBool_str h
  «strs» := fun k x t v h => by
    cases k
    · refine x10 (Value.isInt_shape h) fun t h => ?_; cases h
    · exact (strKind prog w).«strs» _ x t v h
variable {prog : Program} {w : World} {A : Around} {E : Value → Shared → Prop} {s : Shared}
noncomputable abbrev TKey (prog : Program) (w : World) (h : Heap) (k : List (Int ⊕ Str)) (c : Addr) : Prop := IsTupleKey (bothKind prog w) h k c
noncomputable abbrev tkHash (prog : Program) (w : World) (k : List (Int ⊕ Str)) : Int := tupleKeyHash (bothKind prog w) k
noncomputable abbrev setV (es : Array (Int × Value)) (ep : Nat) (t : SetTable) : Obj := { cls := .type "set", dict := none, data := .set es ep t }
noncomputable def TR (prog : Program) (w : World) (h : Heap) (k : List (Int ⊕ Str)) (v : Value) : Prop := ∃ c, v = .ref c ∧ TKey prog w h k c
/-- an entry of the table: its hash, its value -/
noncomputable def EntT {κ : Type} (hp : κ → Int) (R : κ → Value → Prop) (b : Nat × κ) (e : Int × Value) : Prop := e.1 = hp b.2 ∧ R b.2 e.2
structure SetIs {κ : Type} (hp : κ → Int) (R : κ → Value → Prop) (led : Bool) (M : Nat) (bs : List (Nat × κ)) (es : Array (Int × Value)) (t : SetTable) : Prop where
  hM : M = 7 ∨ M = 31
  tab : Tab hp M bs
  of : TabOf M bs t
  ents : All2 (EntT hp R) bs es.toList
  room : bs.length ≤ M
  hled : t.led = led
section
variable {κ : Type} {hp : κ → Int} {R : κ → Value → Prop} {led : Bool}
theorem SetIs.fits {M : Nat} {bs es t} (x : SetIs hp R led M bs es t) : t.fits es.size = true := by
  have e1 := x.ents.len
  have e2 := x.of
  unfold SetTable.fits SetTable.fill
  rw [e2.2.1, e2.2.2, e2.1]
  simp only [List.size_toArray, List.length_map, Bool.and_eq_true, beq_iff_eq, decide_eq_true_eq]
  exact ⟨by rw [e1, Array.length_toList], by have := x.room; simpa using this⟩
theorem SetIs.hashes {M : Nat} {bs es t} (x : SetIs hp R led M bs es t) (i : Nat) (q : i < bs.length) : ((es[i]?).map (·.1)).getD 0 = hp bs[i].2 := by
  refine x11 (x.ents.at' (List.getElem?_eq_getElem q)) fun e he r => ?_
  rw [Array.getElem?_toList] at he
  rw [he]; exact r.1
theorem SetIs.odd {M : Nat} {bs es t} (x : SetIs hp R led M bs es t) : t.gaveWay = false := by
  unfold SetTable.gaveWay
  rw [x.of.1]
  rcases x.hM with rfl | rfl <;> rfl
end
theorem ofClass_val {n : Nat} {v : Value} (h : carriedByValue v = true) : ofAClassStatement n v = pure false := by
  cases v with
  | ref a => simp [carriedByValue] at h
  | _ => first | rfl | simp [ofAClassStatement] | (unfold ofAClassStatement; rfl)
theorem ofClass_tup {k : List (Int ⊕ Str)} {c : Addr} {Q : Bool → Shared → Prop} (hk : TKey prog w s.heap k c) (h : Q false s) : wpAny (model prog w) A (ofAClassStatement 8 (.ref c)) Q E s := by
  have hT := hk.typeIs
  refine x33 hk fun o items n ho _ hd hi => ?_; clear hk
  unfold ofAClassStatement
  refine wpAny_bind (wpAny_typeOf hT ?_)
  show wpAny _ _ (if ("tuple" == "tuple") = true then _ else _) _ _ _
  rw [if_pos (by decide)]
  refine wpAny_bind (wpAny_pure ?_)
  simp only [Bool.not_true, Bool.false_eq_true, if_false]
  refine wpAny_bind (wpAny_seqItems ho hd ?_)
  refine wpAny_bind ?_
  rw [← Array.forIn_toList]
  refine wpAny_forIn_list _ (fun rest r s' => r.1 = none ∧ s' = s ∧ ∀ v ∈ rest, carriedByValue v = true) _ ?_ ?_ _ _ ⟨rfl, rfl, hi.byValue⟩
  · rintro v rest r s' ⟨hr, rfl, hall⟩
    rw [ofClass_val (hall v List.mem_cons_self)]
    refine wpAny_bind (wpAny_pure ?_)
    simp only [Bool.false_eq_true, if_false]
    exact wpAny_pure ⟨rfl, rfl, fun u hu' => hall u (List.mem_cons_of_mem _ hu')⟩
  · rintro ⟨r1, r2⟩ s' ⟨hr, rfl, _⟩
    simp only at hr
    subst hr
    exact wpAny_pure h
theorem seen_no {k : List (Int ⊕ Str)} {c : Addr} {ys : List Value} {Q : Bool → Shared → Prop} (hk : TKey prog w s.heap k c) (hy : ∀ y ∈ ys, ∃ k' c', y = .ref c' ∧ TKey prog w s.heap k' c') (h : Q false s) :
    wpAny (model prog w) A (searchCouldBeSeen (.ref c) ys) Q E s := by
  unfold searchCouldBeSeen
  refine wpAny_bind ?_
  refine wpAny_forIn_list _ (fun rest r s' => r.1 = none ∧ s' = s ∧ ∀ y ∈ rest, ∃ k' c', y = .ref c' ∧ TKey prog w s.heap k' c') _ ?_ ?_ _ _ ⟨rfl, rfl, hy⟩
  · rintro v rest r s' ⟨hr, rfl, hall⟩
    refine x21 (hall v List.mem_cons_self) fun k' c' z381 hk' => ?_; subst z381
    have rest' := fun u hu' => hall u (List.mem_cons_of_mem _ hu')
    dsimp only
    split
    · exact wpAny_pure ⟨rfl, rfl, rest'⟩
    · refine wpAny_bind (wpAny_eqIsQuiet_tuple hk ?_)
      simp only [Bool.not_true, Bool.false_eq_true, if_false]
      refine wpAny_bind (wpAny_eqIsQuiet_tuple hk' ?_)
      simp only [Bool.not_true, Bool.false_eq_true, if_false]
      refine wpAny_bind (ofClass_tup hk ?_)
      simp only [Bool.false_eq_true, if_false]
      refine wpAny_bind (ofClass_tup hk' ?_)
      simp only [Bool.false_eq_true, if_false]
      exact wpAny_pure ⟨rfl, rfl, rest'⟩
  · rintro ⟨r1, r2⟩ s' ⟨hr, rfl, _⟩
    simp only at hr
    subst hr
    exact wpAny_pure h
theorem isSame_self (a : Addr) : isSame (.ref a) (.ref a) = pure true := by
  unfold isSame; simp
theorem hashByValue_tup {i : Int} {x : Str} {ks : List (Int ⊕ Str)} {c : Addr} {Q : Bool → Shared → Prop} (hk : TKey prog w s.heap (.inl i :: .inr x :: ks) c) (h : ∀ b, Q b s) : wpAny (model prog w) A (hashByValue 8 (.ref c)) Q E s := by
  have hT := hk.typeIs
  refine x33 hk fun o items n ho _ hd hi => ?_; clear hk
  unfold hashByValue
  refine wpAny_bind (wpAny_specialOf hT F.slot_tuple_hash.lookup ?_)
  show wpAny _ _ (seqItems? (.ref c) >>= _) _ _ _
  refine wpAny_bind (wpAny_seqItems ho hd ?_)
  refine wpAny_bind ?_
  rw [← Array.forIn_toList]
  show wpAny _ _ (forIn items.toList _ _) _ _ _
  obtain ⟨v1, v2, rest, e, h1, h2⟩ : ∃ v1 v2 rest, items.toList = v1 :: v2 :: rest ∧ (bothKind prog w).is (.inl i) v1 = true ∧ (bothKind prog w).is (.inr x) v2 = true := by
    generalize items.toList = l at hi
    cases hi with | cons h1 hi => cases hi with | cons h2 hi => exact ⟨_, _, _, rfl, h1, h2⟩
  rw [e]
  refine x10 (Value.isInt_shape h1) fun t1 z421 => ?_; subst z421
  refine x10 (Value.isStrOf_shape h2) fun t2 z441 => ?_; subst z441
  rw [List.forIn_cons]
  refine wpAny_bind (wpAny_bind (wpAny_of_eq (a := true) (by unfold hashByValue; rfl) ?_))
  simp only [Bool.not_true, Bool.false_eq_true, if_false]
  refine wpAny_pure ?_
  dsimp only
  rw [List.forIn_cons]
  refine wpAny_bind (wpAny_bind (wpAny_of_eq (a := false) (by unfold hashByValue; rfl) ?_))
  simp only [Bool.not_false, if_true]
  refine wpAny_pure ?_
  exact wpAny_pure (wpAny_pure (h _))
end Mine
end SSq4

section SSq5
open PySem PySem.W PySem.Calls PyProof.Rows PySem.SeqAt
set_option maxRecDepth 100000
namespace Mine
variable {prog : Program} {w : World} {A : Around} {E : Value → Shared → Prop} {s : Shared}
noncomputable abbrev TK := List (Int ⊕ Str)
theorem search_ok {a c : Addr} {k : TK} {M : Nat} {bs : List (Nat × TK)} {es : Array (Int × Value)} {ep : Nat} {t : SetTable} (ho : s.heap.get? a = some (setV es ep t)) {led : Bool} (x : SetIs (tkHash prog w) (TR prog w s.heap) led M bs es t) (hk : TKey prog w s.heap k c) (hu : A.units < cLine) {N : Nat}
    (hN : (pth M (tkHash prog w k) N).j ∉ bs.map (·.1)) (hL : ∀ m, m < N → (pth M (tkHash prog w k) m).j ∈ bs.map (·.1)) (hNb : N < 10 * (M + 14)) {Q : SetFound → Shared → Prop}
    (q1 : k ∈ bs.map (·.2) → Q (.there none) s) : ∀ (fuel n : Nat) (stand : Option SetTable.Probe), n ≤ N → N - n < fuel → stand.getD (t.probeStart (tkHash prog w k)) = pth M (tkHash prog w k) n →
    ((∀ l, n ≤ l → l < N → ∀ b ∈ bs, b.1 = (pth M (tkHash prog w k) l).j → b.2 ≠ k) → Q (.free (pth M (tkHash prog w k) N).j false) s) →
    wpAny (model prog w) A (setSearchFrom a (.ref c) (tkHash prog w k) true fuel stand) Q E s
  | 0, n, _, _, h2, _, _ => absurd h2 (Nat.not_lt_zero _)
  | fuel + 1, n, stand, h1, h2, hst, q2 => by
    unfold setSearchFrom
    refine wpAny_bind (wpAny_setState_of ho rfl x.fits ?_)
    dsimp only
    rw [x.odd]
    simp only [Bool.false_eq_true, if_false]
    have hgo := probe_go (tkHash prog w) x.of x.tab.rise (fun i => ((es[i]?).map (·.1)).getD 0) x.hashes (tkHash prog w k) hN hL (10 * SetTable.turns t.mask) n h1 (by
      rw [x.of.1]; unfold SetTable.turns; lia)
    rcases hgo with ⟨e, hno⟩ | ⟨l, i, hi, l1, l2, l3, l4, e, hno⟩
    · have e' : t.probe (fun i => ((es[i]?).map (·.1)).getD 0) (tkHash prog w k) (stand.getD (t.probeStart (tkHash prog w k))) = some (.empty (pth M (tkHash prog w k) N).j none) := by rw [hst]; exact e
      erw [e']
      refine wpAny_pure (q2 fun l a1 a2 b hb e2 e3 => ?_)
      exact hno l a1 a2 b hb e2 (by rw [e3])
    · have e' : t.probe (fun i => ((es[i]?).map (·.1)).getD 0) (tkHash prog w k) (stand.getD (t.probeStart (tkHash prog w k))) = some (.candidate (pth M (tkHash prog w k) l).j i (pth M (tkHash prog w k) (l + 1))) := by rw [hst]; exact e
      erw [e']
      dsimp only
      refine x11 (x.ents.at' (List.getElem?_eq_getElem hi)) fun en hen her => ?_
      rw [Array.getElem?_toList] at hen
      refine x01 her fun eh z21 => ?_; clear her; refine x11 z21 fun cy ecy hky => ?_; clear z21
      have hen' : es[i]? = some (tkHash prog w bs[i].2, .ref cy) := by rw [hen]; cases en; simp only at eh ecy; rw [eh, ecy]
      have hys : ∀ y ∈ ((es.filter (·.1 == tkHash prog w k)).toList.map (·.2)), ∃ k' c', y = .ref c' ∧ TKey prog w s.heap k' c' := fun y hy => by
        refine x11 (List.mem_map.mp hy) fun p hp z41 => ?_; subst z41
        have hp := Array.mem_toList_iff.mp hp
        have hp : p ∈ es := (Array.mem_filter.mp hp).1
        refine x10 (Array.getElem_of_mem hp) fun j z61 => ?_; obtain ⟨hj, rfl⟩ := z61
        refine x12 (x.ents.nth (k := j) (by simpa using hj)) fun b _ _ z81 => ?_; refine x11 z81 fun cc e1 e2 => ?_; clear z81
        exact ⟨b.2, cc, by simpa using e1, e2⟩
      have hled : t.led = true ∨ t.led = false := by cases t.led <;> simp
      rcases hled with ql | ql
      case' inl =>
        rw [ql]
        simp only [Bool.not_true, Bool.false_eq_true, if_false]
      case' inr =>
        rw [ql]
        simp only [Bool.not_false, if_true]
        refine wpAny_bind (seen_no hk hys ?_)
        simp only [Bool.false_eq_true, if_false]
      all_goals
        rw [hen']
        dsimp only
        refine wpAny_bind (wpAny_holding (wpAny_eqBool_tuple hu hky hk ?_))
        refine wpAny_bind (wpAny_setState_of ho rfl x.fits ?_)
        dsimp only
        by_cases qe : bs[i].2 = k
        · rw [decide_eq_true qe]
          exact wpAny_pure (q1 (List.mem_map.mpr ⟨_, List.getElem_mem hi, qe⟩))
        · rw [decide_eq_false qe]
          simp only [Bool.and_false, Bool.false_eq_true, if_false]
          have hsm : t.sameMemory t.moves t.mask = some true := by unfold SetTable.sameMemory; simp
          rw [hsm]
          dsimp only
          rw [if_pos rfl, ← l3, slot_live x.of x.tab.rise hi]
          dsimp only
          rw [hen']
          dsimp only
          refine wpAny_bind (wpAny_of_eq (isSame_self cy) (wpAny_bind (wpAny_pure ?_)))
          simp only [if_true]
          refine search_ok ho x hk hu hN hL hNb q1 fuel (l + 1) _ (by lia) (by lia) rfl fun hn => q2 fun m a1 a2 b hb e2 => ?_
          rcases Nat.lt_trichotomy m l with z | z | z
          · exact fun e3 => hno m a1 z b hb e2 (by rw [e3])
          · subst z
            rw [x.tab.rise.inj hb (List.getElem_mem hi) (e2.trans l3.symm)]; exact qe
          · exact hn m z a2 b hb e2
end Mine
end SSq5

section SSq6
open PySem PySem.W PySem.Calls PyProof.Rows PySem.SeqAt
set_option maxRecDepth 100000
namespace Mine
variable {prog : Program} {w : World} {A : Around} {E : Value → Shared → Prop} {s : Shared}
theorem range_pick {α : Type} : ∀ l : List α, (List.range l.length).filterMap (l[·]?) = l
  | [] => rfl
  | x :: l => by
    rw [List.length_cons, List.range_succ_eq_map, List.filterMap_cons]
    show x :: _ = _
    rw [List.filterMap_map]
    congr 1
    have : (fun x_1 => (x :: l)[x_1]?) ∘ Nat.succ = (l[·]?) := by funext i; simp
    rw [this]; exact range_pick l
noncomputable def pick {κ : Type} (live : List (Nat × Nat)) (bs : List (Nat × κ)) : List (Nat × κ) := live.filterMap fun b => (bs[b.2]?).map fun q => (b.1, q.2)
theorem pick_fst {κ : Type} {bs : List (Nat × κ)} : ∀ {live : List (Nat × Nat)}, (∀ b ∈ live, b.2 < bs.length) → (pick live bs).map (·.1) = live.map (·.1)
  | [], _ => rfl
  | b :: live, h => by
    have hb := h b (.head _)
    have ih := pick_fst (live := live) fun x hx => h x (.tail _ hx)
    unfold pick at ih ⊢
    rw [List.filterMap_cons, List.getElem?_eq_getElem hb]
    simp only [Option.map_some, List.map_cons]
    rw [ih]
theorem pick_snd {κ : Type} {bs : List (Nat × κ)} : ∀ {live : List (Nat × Nat)}, (∀ b ∈ live, b.2 < bs.length) → (pick live bs).map (·.2) = (live.map (·.2)).filterMap ((bs.map (·.2))[·]?)
  | [], _ => rfl
  | b :: live, h => by
    have hb := h b (.head _)
    have ih := pick_snd (live := live) fun x hx => h x (.tail _ hx)
    unfold pick at ih ⊢
    rw [List.filterMap_cons, List.getElem?_eq_getElem hb]
    simp only [Option.map_some, List.map_cons]
    rw [ih, List.filterMap_cons]
    simp [hb]
theorem pick_ents {κ : Type} {hp : κ → Int} {R : κ → Value → Prop} {bs : List (Nat × κ)} {es : List (Int × Value)} (x : All2 (EntT hp R) bs es) : ∀ {live : List (Nat × Nat)}, (∀ b ∈ live, b.2 < bs.length) → All2 (EntT hp R) (pick live bs) ((live.map (·.2)).filterMap (es[·]?))
  | [], _ => .nil
  | b :: live, hl => by
    have hb := hl b (.head _)
    have ih := pick_ents x (live := live) fun x hx => hl x (.tail _ hx)
    refine x11 (x.at' (List.getElem?_eq_getElem hb)) fun e he r => ?_
    unfold pick at ih ⊢
    rw [List.filterMap_cons, List.getElem?_eq_getElem hb, List.map_cons, List.filterMap_cons, he]
    simp only [Option.map_some]
    exact .cons r ih
theorem laid_set {κ : Type} {hp : κ → Int} {R : κ → Value → Prop} {led : Bool} {M : Nat} {bs : List (Nat × κ)} {es : Array (Int × Value)} {t : SetTable} (x : SetIs hp R led M bs es t) (hl : bs.length ≤ 31) (fi mo : Nat) (le pl : Bool) : ∃ order t', SetTable.laid 31 fi mo le pl (es.map (·.1)) = some (t', order) ∧
    ∃ bs', SetIs hp R le 31 bs' (order.filterMap (es[·]?)) t' ∧ (bs'.map (·.2)).Perm (bs.map (·.2)) ∧ (order.filterMap (es[·]?)).size = es.size := by
  have hn : es.toList.length = bs.length := x.ents.len.symm
  refine x14 (relaid_ok (M := 31) (.inr rfl) (es.toList.map (·.1)) (by rw [List.length_map, hn]; exact hl) fi mo le pl) fun live e r1 r2 r3 r4 => ?_
  have e0 : (es.toList.map (·.1)).toArray = es.map (·.1) := by apply Array.ext'; simp
  rw [e0] at e
  rw [List.length_map, hn] at r3
  have hlt : ∀ b ∈ live, b.2 < bs.length := fun b hb => List.mem_range.mp (r3.mem_iff.mp (List.mem_map_of_mem hb))
  have hsnd : ((pick live bs).map (·.2)).Perm (bs.map (·.2)) := by
    rw [pick_snd hlt]
    have := r3.filterMap ((bs.map (·.2))[·]?)
    refine this.trans ?_
    have e := range_pick (bs.map (·.2))
    rw [List.length_map] at e
    rw [e]
  have el : ((live.map (·.2)).toArray.filterMap (es[·]?)).toList = (live.map (·.2)).filterMap (es.toList[·]?) := by
    simp [Array.getElem?_toList]
  have hents : All2 (EntT hp R) (pick live bs) ((live.map (·.2)).toArray.filterMap (es[·]?)).toList := by rw [el]; exact pick_ents x.ents hlt
  have hlen : (pick live bs).length = bs.length := by have := hsnd.length_eq; simpa using this
  refine ⟨_, _, e, pick live bs, ⟨.inr rfl, ⟨?_, fun b hb => ?_, fun b hb => ?_, ?_⟩, ⟨rfl, ?_, rfl⟩, hents, by lia, rfl⟩, hsnd, ?_⟩
  · rw [pick_fst hlt]; exact r1
  · have : b.1 ∈ (pick live bs).map (·.1) := List.mem_map_of_mem hb
    rw [pick_fst hlt] at this
    refine x11 (List.mem_map.mp this) fun b' hb' e' => ?_
    rw [← e']; exact r2 b' hb'
  · refine x11 (List.mem_filterMap.mp hb) fun b' hb' e' => ?_
    have hb2 := hlt b' hb'
    rw [List.getElem?_eq_getElem hb2] at e'
    simp only [Option.map_some, Option.some.injEq] at e'
    subst e'
    refine x11 (x.ents.at' (List.getElem?_eq_getElem hb2)) fun en hen her => ?_
    rw [pick_fst hlt]
    refine r4 b' hb' _ ?_
    rw [List.getElem?_map, hen]
    exact congrArg some her.1
  · exact hsnd.nodup_iff.mpr x.tab.nd
  · dsimp only; rw [pick_fst hlt]
  · have := hents.len; rw [hlen] at this
    rw [← Array.length_toList, ← this, ← hn, Array.length_toList]
theorem SetIs.mono {κ : Type} {hp : κ → Int} {R R' : κ → Value → Prop} {led : Bool} {M : Nat} {bs es t} (x : SetIs hp R led M bs es t) (k : ∀ p v, R p v → R' p v) : SetIs hp R' led M bs es t :=
  ⟨x.hM, x.tab, x.of, x.ents.mono fun b e r => ⟨r.1, k _ _ r.2⟩, x.room, x.hled⟩
theorem TR.keeps {h h' : Heap} {p : TK} {v : Value} (x : TR prog w h p v) (bs : List Addr) (hb : ∀ b ∈ bs, ∀ o, h.get? b = some o → o.cls ≠ .type "tuple") (k : ∀ b o, b ∉ bs → h.get? b = some o → h'.get? b = some o) : TR prog w h' p v := by
  refine x11 x fun c z101 z102 => ?_; clear x; subst z101; refine x32 z102 fun o items n ho hc r => ?_; clear z102
  exact ⟨c, rfl, o, items, n, k c o (fun m => hb c m o ho hc) ho, hc, r⟩
theorem set_notTup {h : Heap} {a : Addr} {es ep t} (ha : h.get? a = some (setV es ep t)) : ∀ b ∈ [a], ∀ o, h.get? b = some o → o.cls ≠ .type "tuple" := fun b m o e q => by
  rw [List.mem_singleton] at m; subst m
  rw [e] at ha; cases ha
  exact absurd (Value.type.inj q) (by decide)
/-- a set of tuples: its keys -/
noncomputable def SetOk {κ : Type} (hp : κ → Int) (R : Heap → κ → Value → Prop) (led : Bool) (h : Heap) (a : Addr) (ks : List κ) : Prop := ∃ M bs es ep t, h.get? a = some (setV es ep t) ∧ SetIs hp (R h) led M bs es t ∧ ((M = 7 ∧ bs.length ≤ 4) ∨ (M = 31 ∧ bs.length ≤ 18)) ∧ (bs.map (·.2)).Perm ks
theorem update_set {h : Heap} {a : Addr} {es ep t} (ho : h.get? a = some (setV es ep t)) (es' : Array (Int × Value)) (t' : SetTable) : (h.update a (Obj.putSet es' t')).get? a = some (setV es' (ep + 1) t') ∧ (∀ b o, b ≠ a → h.get? b = some o → (h.update a (Obj.putSet es' t')).get? b = some o) := by
  refine ⟨?_, fun b o n e => by rw [Heap.get?_update_of_ne _ (Ne.symm n)]; exact e⟩
  have := Heap.get?_update_self (Obj.putSet es' t') ho (by rw [putSet_of es' t' rfl]; rfl)
  rw [putSet_of es' t' rfl] at this; exact this
theorem add_ok {a c : Addr} {i : Int} {y : Str} {kr k : TK} {ks : List TK} {led : Bool} {R : Heap → TK → Value → Prop} (hR : ∀ h k v, R h k v → TR prog w h k v) (hRk : ∀ (h h' : Heap) (bs : List Addr) (p : TK) (v : Value), R h p v → (∀ b ∈ bs, ∀ o, h.get? b = some o → o.cls ≠ .type "tuple") → (∀ b o, b ∉ bs → h.get? b = some o → h'.get? b = some o) → R h' p v) (hkk : k = .inl i :: .inr y :: kr) (hS : SetOk (tkHash prog w) R led s.heap a ks) (hkR : R s.heap k (.ref c)) (hu : A.units < cLine) (hl : ks.length ≤ 17) {Q : Bool → Shared → Prop}
    (h : ∀ b h' ks', ((k ∈ ks ∧ ks' = ks) ∨ (k ∉ ks ∧ ks' = k :: ks)) → Heap.SameBut a s.heap h' → (∀ b o, b ≠ a → s.heap.get? b = some o → h'.get? b = some o) → SetOk (tkHash prog w) R led h' a ks' → Q b { s with heap := h' }) :
    wpAny (model prog w) A (setAddHashed a (.ref c) (tkHash prog w k)) Q E s := by
  refine x40 hS fun M bs es ep z121 => ?_; clear hS; refine x13 z121 fun t ho x hsz hp => ?_; clear z121
  have hk : TKey prog w s.heap k c := by
    refine x11 (hR _ _ _ hkR) fun c' e r => ?_
    cases e; exact r
  refine x12 (Tab.end (hp := tkHash prog w) x.hM x.room (tkHash prog w k)) fun N n1 n2 n3 => ?_
  have hlen := hp.length_eq
  rw [List.length_map] at hlen
  unfold setAddHashed setAddHashedIn
  refine wpAny_holding (wpAny_bind (wpAny_setState_of ho rfl x.fits ?_))
  dsimp only
  rw [show byScan (.ref c) es = false from rfl]
  simp only [Bool.false_eq_true, if_false]
  unfold setSearch
  refine wpAny_bind (search_ok ho (x.mono fun p v r => hR _ _ _ r) hk hu n2 n3 n1 (fun hin => ?_) 100000 0 none (Nat.zero_le _) (by rcases x.hM with rfl | rfl <;> lia) (by rw [← x.of.1]; rfl) fun hno => ?_)
  · refine wpAny_pure ?_
    have e : s = { s with heap := s.heap } := rfl
    exact h _ s.heap ks (.inl ⟨hp.mem_iff.mp hin, rfl⟩) (Heap.SameBut.refl a s.heap) (fun b o _ e => e) ⟨M, bs, es, ep, t, ho, x, hsz, hp⟩
  · have hnot : k ∉ bs.map (·.2) := fun hin => by
      refine x11 (List.mem_map.mp hin) fun b hb e => ?_
      refine x11 (x.tab.ahead hb (N := N) (by rw [e]; exact n2)) fun n h1 h2 => ?_
      rw [e] at h2
      exact hno n (Nat.zero_le _) h1 b hb h2.symm e
    have hnk : k ∉ ks := fun q => hnot (hp.mem_iff.mpr q)
    refine wpAny_bind (wpAny_setState_of ho rfl x.fits ?_)
    dsimp only
    have T2 := x.tab.put hnot n2 n3
    refine x01 (put_of x.of (pth M (tkHash prog w k) N).j k) fun of2 pe => ?_
    -- the entries
    have hents : All2 (EntT (tkHash prog w) (R s.heap)) (insAt (SetTable.below (bs.map (·.1)).toArray (pth M (tkHash prog w k) N).j) ((pth M (tkHash prog w k) N).j, k) bs)
        (SetTable.insertAt es (SetTable.below (bs.map (·.1)).toArray (pth M (tkHash prog w k) N).j) (tkHash prog w k, .ref c)).toList := by
      have : es = es.toList.toArray := rfl
      rw [this, insertAt_eq]
      show All2 _ (insAt _ _ bs) (insAt _ _ es.toList)
      unfold insAt
      exact ((x.ents.taken _).snoc ⟨rfl, hkR⟩).app (x.ents.dropped _)
    have hpk : ((insAt (SetTable.below (bs.map (·.1)).toArray (pth M (tkHash prog w k) N).j) ((pth M (tkHash prog w k) N).j, k) bs).map (·.2)).Perm (k :: ks) := by
      rw [insAt_map]
      unfold insAt
      rw [List.append_assoc, List.singleton_append]
      refine List.perm_middle.trans ?_
      rw [List.take_append_drop]
      exact hp.cons _
    have hb2 : (insAt (SetTable.below (bs.map (·.1)).toArray (pth M (tkHash prog w k) N).j) ((pth M (tkHash prog w k) N).j, k) bs).length = bs.length + 1 := insAt_len _ _ _
    rw [show (t.put (pth M (tkHash prog w k) N).j) = ((t.put (pth M (tkHash prog w k) N).j).1, SetTable.below (bs.map (·.1)).toArray (pth M (tkHash prog w k) N).j) by rw [← pe]]
    dsimp only
    have hes : es.size = bs.length := by rw [← Array.length_toList]; exact x.ents.len.symm
    generalize insAt (SetTable.below (bs.map (·.1)).toArray (pth M (tkHash prog w k) N).j) ((pth M (tkHash prog w k) N).j, k) bs = bs2 at T2 of2 hents hpk hb2
    generalize SetTable.insertAt es (SetTable.below (bs.map (·.1)).toArray (pth M (tkHash prog w k) N).j) (tkHash prog w k, .ref c) = es2 at hents ⊢
    have hl2 : (t.put (pth M (tkHash prog w k) N).j).1.led = led := x.hled
    generalize (t.put (pth M (tkHash prog w k) N).j).1 = t2 at of2 hl2 ⊢
    have of3 : TabOf M bs2 { t2 with plain := false } := of2
    have hsz2 : es2.size ≤ sizeLine := by
      have : sizeLine = 2 ^ 24 := rfl
      rw [← Array.length_toList, ← hents.len, hb2]; lia
    have fin : ∀ t3, TabOf M bs2 t3 → t3.led = led → wpAny (model prog w) A (storeSet a es2 t3) (fun _ s' => if t3.tooFull = true then wpAny (model prog w) A (setRelay a (SetTable.grown (es.size + 1))) (fun _ s'' => ∀ b, Q b s'') E s' else ∀ b, Q b s') E s := fun t3 of3 hl3 => by
      have x3 : SetIs (tkHash prog w) (R s.heap) led M bs2 es2 t3 := ⟨x.hM, T2, of3, hents, by rw [hb2]; rcases hsz with ⟨rfl, q⟩ | ⟨rfl, q⟩ <;> lia, hl3⟩
      refine wpAny_storeSet_of ho rfl ?_ hsz2
      refine x01 (update_set ho es2 t3) fun u1 u2 => ?_
      have x4 : SetIs (tkHash prog w) (R (s.heap.update a (Obj.putSet es2 t3))) led M bs2 es2 t3 := x3.mono fun p v r => hRk _ _ [a] _ _ r (set_notTup ho) fun b o n e => u2 b o (by simpa using n) e
      have sb := Heap.SameBut.update s.heap a (Obj.putSet es2 t3)
      have hfill : t3.fill = bs2.length := by unfold SetTable.fill; rw [of3.2.1, of3.2.2]; simp
      split
      · rename_i htf
        unfold SetTable.tooFull at htf
        rw [hfill, of3.1] at htf
        have htf := of_decide_eq_true htf
        have hM7 : M = 7 ∧ bs.length = 4 := by rcases hsz with ⟨rfl, q⟩ | ⟨rfl, q⟩ <;> lia
        rw [hes, hM7.2]
        show wpAny _ _ (setRelay a 20) _ _ _
        unfold setRelay
        refine wpAny_bind (wpAny_setState_of u1 rfl x4.fits ?_)
        dsimp only
        rw [show SetTable.sizeAbove 20 = 32 from rfl]
        rw [if_neg (by show ¬ (32 > sizeLine); decide)]
        refine x21 (laid_set x4 (by lia) t3.finger (t3.movedTo 31) led t3.plain) fun order t4 e4 z261 => ?_; refine x12 z261 fun bs4 x5 p5 sz5 => ?_; clear z261
        have e5 : t3.relaid (es2.map (·.1)) 20 = some (t4, order) := by rw [← hl3] at e4; exact e4
        rw [e5]
        refine wpAny_bind ?_
        show wpAny _ _ (if ((order.filterMap (es2[·]?)).size != es2.size) = true then _ else _) _ _ _
        rw [if_neg (by simp [sz5])]
        refine wpAny_pure ?_
        refine wpAny_storeSet_of u1 rfl ?_ (by rw [sz5]; exact hsz2)
        refine x01 (update_set u1 (order.filterMap (es2[·]?)) t4) fun v1 v2 => ?_
        intro b
        refine h b _ _ (.inr ⟨hnk, rfl⟩) (sb.trans (Heap.SameBut.update _ a _)) (fun b o n e => v2 b o n (u2 b o n e)) ⟨31, bs4, _, _, t4, v1, x5.mono fun p v r => hRk _ _ [a] _ _ r (set_notTup u1) fun b o n e => v2 b o (by simpa using n) e, .inr ⟨rfl, ?_⟩, p5.trans hpk⟩
        have := p5.length_eq
        rw [List.length_map, List.length_map] at this
        lia
      · rename_i htf
        unfold SetTable.tooFull at htf
        rw [hfill, of3.1] at htf
        have htf : ¬ (bs2.length * 5 ≥ M * 3) := fun q => htf (decide_eq_true q)
        refine fun b => h b _ _ (.inr ⟨hnk, rfl⟩) sb u2 ⟨M, bs2, es2, _, t3, u1, x4, ?_, hpk⟩
        rcases hsz with ⟨rfl, q⟩ | ⟨rfl, q⟩
        · exact .inl ⟨rfl, by lia⟩
        · exact .inr ⟨rfl, by lia⟩
    by_cases hpl : t2.plain = true
    case' pos =>
      rw [if_pos hpl]
      refine wpAny_bind (wpAny_mono (Q := fun b s' => s' = s) (E := E) (by subst hkk; exact hashByValue_tup hk fun _ => rfl) (fun b s' e => ?_) fun _ _ q => q)
      subst e
      generalize hq : (if b = true then t2 else { t2 with plain := false }) = t3
    case' neg =>
      rw [if_neg hpl]
      refine wpAny_bind (wpAny_pure ?_)
      generalize hq : (if true = true then t2 else { t2 with plain := false }) = t3
    all_goals
      have of4 : TabOf M bs2 t3 := by rw [← hq]; split <;> assumption
      have hl4 : t3.led = led := by rw [← hq]; split <;> exact hl2
      have fin := fin t3 of4 hl4
      refine wpAny_bind (wpAny_mono fin (fun _ s' q => ?_) fun _ _ q => q)
      simp only [Bool.not_false, Bool.true_and]
      split
      · rename_i q'
        rw [if_pos q'] at q
        exact wpAny_bind (wpAny_mono q (fun _ s'' z => wpAny_pure (z true)) fun _ _ q => q)
      · rename_i q'
        rw [if_neg q'] at q
        exact wpAny_pure (q true)
end Mine
end SSq6

section SSq6i
open PySem PySem.W PySem.Calls PyProof.Rows PySem.SeqAt
set_option maxRecDepth 100000
namespace Mine
variable {prog : Program} {w : World} {A : Around} {E : Value → Shared → Prop} {s : Shared}
noncomputable def IR (h : Heap) (i : Int) (v : Value) : Prop := IsI i v
theorem add_int {a : Addr} {i : Int} {tt : Tok} {ks : List Int} {led : Bool} (hS : SetOk hashInt IR led s.heap a ks) (hl : ks.length ≤ 3) {Q : Bool → Shared → Prop}
    (h : ∀ b h' ks', ((i ∈ ks ∧ ks' = ks) ∨ (i ∉ ks ∧ ks' = i :: ks)) → (∀ b o, b ≠ a → s.heap.get? b = some o → h'.get? b = some o) → SetOk hashInt IR led h' a ks' → Q b { s with heap := h' }) :
    wpAny (model prog w) A (setAddHashed a (.int i tt) (hashInt i)) Q E s := by
  refine x40 hS fun M bs es ep z1 => ?_; clear hS; refine x13 z1 fun t ho x hsz hp => ?_; clear z1
  have hlen := hp.length_eq
  rw [List.length_map] at hlen
  have hes : es.size = bs.length := by rw [← Array.length_toList]; exact x.ents.len.symm
  have hel : ElemsOf (intKind prog w) es.toList := fun e he => by
    refine x10 (List.getElem_of_mem he) fun j z21 => ?_; obtain ⟨hj, rfl⟩ := z21
    refine x12 (x.ents.nth hj) fun b _ r1 z41 => ?_; refine x10 z41 fun tj r2 => ?_; clear z41
    exact ⟨⟨b.2, by rw [r2]; exact intKind_is _ _ _ _, r1⟩, by rw [r2]; rfl⟩
  have hkey : ∀ k' : Int, k' ∈ ks ↔ ∃ e ∈ es.toList, (intKind prog w).is k' e.2 = true := fun k' => by
    rw [← hp.mem_iff]
    constructor
    · intro q
      refine x11 (List.mem_map.mp q) fun b hb z61 => ?_; subst z61
      refine x10 (List.getElem_of_mem hb) fun j z81 => ?_; obtain ⟨hj, rfl⟩ := z81
      refine x12 (x.ents.at' (List.getElem?_eq_getElem hj)) fun e he r1 z101 => ?_; refine x10 z101 fun tj r2 => ?_; clear z101
      exact ⟨e, List.mem_of_getElem? he, by rw [r2]; exact intKind_is _ _ _ _⟩
    · rintro ⟨e, he, q⟩
      refine x10 (List.getElem_of_mem he) fun j z121 => ?_; obtain ⟨hj, rfl⟩ := z121
      refine x12 (x.ents.nth hj) fun b hb r1 z141 => ?_; refine x10 z141 fun tj r2 => ?_; clear z141
      rw [r2] at q
      have := (intKind prog w).inj _ _ _ q (intKind_is prog w b.2 tj)
      rw [this]; exact List.mem_map_of_mem (List.mem_of_getElem? hb)
  have hb1 : es.size < scanBound := by rw [hes]; unfold scanBound; lia
  unfold setAddHashed setAddHashedIn
  refine wpAny_holding (wpAny_bind (wpAny_setState_of ho rfl x.fits ?_))
  dsimp only
  rw [byScan_of rfl hb1 hel]
  simp only [↓reduceIte]
  unfold setAddByScan
  refine wpAny_bind ?_
  refine wpAny_bind (wpAny_rule ?_)
  refine wpAny_bind (wpAny_setScan_of (knd := intKind prog w) (k := i) (intKind_is _ _ _ _) ho rfl x.fits hel ?_)
  cases hr : List.findIdx? (fun e => (intKind prog w).is i e.2) es.toList with
  | some j =>
    dsimp only
    obtain ⟨hj, hpj, _⟩ := List.findIdx?_eq_some_iff_getElem.mp hr
    refine wpAny_pure (wpAny_pure ?_)
    exact h _ s.heap ks (.inl ⟨(hkey i).mpr ⟨_, List.getElem_mem hj, hpj⟩, rfl⟩) (fun b o _ e => e) ⟨M, bs, es, ep, t, ho, x, hsz, hp⟩
  | none =>
    dsimp only
    have hnk : i ∉ ks := fun q => by
      refine x11 ((hkey i).mp q) fun e he hq => ?_
      have := List.findIdx?_eq_none_iff.mp hr e he
      rw [hq] at this; exact Bool.noConfusion this
    have hnot : i ∉ bs.map (·.2) := fun q => hnk (hp.mem_iff.mp q)
    refine x12 (Tab.end (hp := hashInt) x.hM x.room (hashInt i)) fun N n1 n2 n3 => ?_
    have T2 := x.tab.put hnot n2 n3
    refine x01 (put_of x.of (pth M (hashInt i) N).j i) fun of2 pe => ?_
    have hents : All2 (EntT hashInt (IR s.heap)) (insAt (SetTable.below (bs.map (·.1)).toArray (pth M (hashInt i) N).j) ((pth M (hashInt i) N).j, i) bs)
        (SetTable.insertAt es (SetTable.below (bs.map (·.1)).toArray (pth M (hashInt i) N).j) (hashInt i, .int i tt)).toList := by
      have : es = es.toList.toArray := rfl
      rw [this, insertAt_eq]
      show All2 _ (insAt _ _ bs) (insAt _ _ es.toList)
      unfold insAt
      exact ((x.ents.taken _).snoc ⟨rfl, tt, rfl⟩).app (x.ents.dropped _)
    have hpk : ((insAt (SetTable.below (bs.map (·.1)).toArray (pth M (hashInt i) N).j) ((pth M (hashInt i) N).j, i) bs).map (·.2)).Perm (i :: ks) := by
      rw [insAt_map]
      unfold insAt
      rw [List.append_assoc, List.singleton_append]
      refine List.perm_middle.trans ?_
      rw [List.take_append_drop]
      exact hp.cons _
    have hb2 : (insAt (SetTable.below (bs.map (·.1)).toArray (pth M (hashInt i) N).j) ((pth M (hashInt i) N).j, i) bs).length = bs.length + 1 := insAt_len _ _ _
    have x2 : SetIs hashInt (IR s.heap) led M (insAt (SetTable.below (bs.map (·.1)).toArray (pth M (hashInt i) N).j) ((pth M (hashInt i) N).j, i) bs)
        (SetTable.insertAt es (SetTable.below (bs.map (·.1)).toArray (pth M (hashInt i) N).j) (hashInt i, .int i tt)) (t.put (pth M (hashInt i) N).j).1 :=
      ⟨x.hM, T2, of2, hents, by rw [hb2]; rcases hsz with ⟨rfl, q⟩ | ⟨rfl, q⟩ <;> lia, x.hled⟩
    have hfree : t.freeSlot (hashInt i) = some ((pth M (hashInt i) N).j, false) := by
      have hgo := probe_go (fun _ => hashInt i + 1) x.of x.tab.rise (fun _ => hashInt i + 1) (fun _ _ => rfl) (hashInt i) n2 n3 (10 * SetTable.turns t.mask) 0 (Nat.zero_le _) (by
        rw [x.of.1]; unfold SetTable.turns; lia)
      rcases hgo with ⟨e, _⟩ | ⟨l, i', hi, l1, l2, l3, l4, e, hno⟩
      · unfold SetTable.freeSlot
        have e' : t.probe (fun _ => hashInt i + 1) (hashInt i) (t.probeStart (hashInt i)) = some (.empty (pth M (hashInt i) N).j none) := by rw [start_eq, x.of.1]; exact e
        rw [e']; rfl
      · exact absurd l4 (by lia)
    have hlay : layNew t es (hashInt i) (.int i tt) = (SetTable.insertAt es (SetTable.below (bs.map (·.1)).toArray (pth M (hashInt i) N).j) (hashInt i, .int i tt), (t.put (pth M (hashInt i) N).j).1, false, false) := by
      unfold layNew
      rw [hfree]
      dsimp only
      rw [show (t.put (pth M (hashInt i) N).j) = ((t.put (pth M (hashInt i) N).j).1, SetTable.below (bs.map (·.1)).toArray (pth M (hashInt i) N).j) by rw [← pe]]
      dsimp only
      have hf := x2.fits
      unfold SetTable.orStandIn
      rw [hf, if_pos rfl]; rfl
    rw [hlay]
    dsimp only
    refine wpAny_bind (show wpAny _ _ (pure ()) _ _ _ from wpAny_pure ?_)
    generalize insAt (SetTable.below (bs.map (·.1)).toArray (pth M (hashInt i) N).j) ((pth M (hashInt i) N).j, i) bs = bs2 at x2 hpk hb2
    generalize SetTable.insertAt es (SetTable.below (bs.map (·.1)).toArray (pth M (hashInt i) N).j) (hashInt i, .int i tt) = es2 at x2 ⊢
    generalize (t.put (pth M (hashInt i) N).j).1 = t2 at x2 ⊢
    have hsz2 : es2.size ≤ sizeLine := by
      have : sizeLine = 2 ^ 24 := rfl
      rw [← Array.length_toList, ← x2.ents.len, hb2]; lia
    have hfull : t2.tooFull = false := by
      unfold SetTable.tooFull SetTable.fill
      rw [x2.of.2.1, x2.of.2.2, x2.of.1]
      refine decide_eq_false ?_
      simp only [List.size_toArray, List.length_map, List.length_nil]
      rcases x2.hM with rfl | rfl <;> lia
    by_cases hpl : t2.plain = true
    case' pos =>
      rw [if_pos hpl]
      refine wpAny_bind ?_
      rw [hashByValue_scannable 8 rfl]
      refine wpAny_pure ?_
      rw [show (if plainKind (.int i tt) = true then t2 else { t2 with plain := false }) = t2 from rfl]
    case' neg =>
      rw [if_neg hpl]
      refine wpAny_bind (wpAny_pure ?_)
      rw [show (if true = true then t2 else { t2 with plain := false }) = t2 from rfl]
    all_goals
      refine wpAny_bind (wpAny_storeSet_of ho rfl ?_ hsz2)
      rw [hfull]
      simp only [Bool.and_false, Bool.false_eq_true, if_false]
      refine x01 (update_set ho es2 t2) fun u1 u2 => ?_
      refine wpAny_pure (wpAny_pure (h _ _ _ (.inr ⟨hnk, rfl⟩) u2 ⟨M, bs2, es2, _, t2, u1, x2.mono fun p v r => r, ?_, hpk⟩))
      rcases hsz with ⟨rfl, q⟩ | ⟨rfl, q⟩
      · exact .inl ⟨rfl, by lia⟩
      · exact .inr ⟨rfl, by lia⟩
/-- a set just made is led, unless the text leads it -/
noncomputable def ledOf (w : World) : Bool := !(w.params.followText "set-order")
end Mine
end SSq6i

section SSq7
open PySem PySem.W PySem.Calls PyProof.Rows PySem.SeqAt
set_option maxRecDepth 100000
namespace Mine
variable {prog : Program} {w : World} {A : Around} {E : Value → Shared → Prop} {s : Shared}
/-- what a set of such keys needs -/
structure SetKind (prog : Program) (w : World) (A : Around) {κ : Type} (hp : κ → Int) (R : Heap → κ → Value → Prop) (ps : List κ) (B : Nat) : Prop where
  hash : ∀ (s : Shared) p v (Q : Int → Shared → Prop) (E : Value → Shared → Prop), R s.heap p v → (∀ tk, Q (hp p) { s with toks := tk }) → wpAny (model prog w) A (pyHash v) Q E s
  add : ∀ (s : Shared) S led ks p v (Q : Bool → Shared → Prop) (E : Value → Shared → Prop), SetOk hp R led s.heap S ks → p ∈ ps → R s.heap p v → ks.length ≤ B →
    (∀ b h' ks', ((p ∈ ks ∧ ks' = ks) ∨ (p ∉ ks ∧ ks' = p :: ks)) → (∀ b o, b ≠ S → s.heap.get? b = some o → h'.get? b = some o) → SetOk hp R led h' S ks' → Q b { s with heap := h' }) → wpAny (model prog w) A (setAddHashed S v (hp p)) Q E s
  keep : ∀ (h h' : Heap) (bs : List Addr) (p : κ) (v : Value), R h p v → (∀ b ∈ bs, ∀ o, h.get? b = some o → o.cls ≠ .type "tuple") → (∀ b o, b ∉ bs → h.get? b = some o → h'.get? b = some o) → R h' p v
  few : ∀ qs : List κ, qs.Nodup → (∀ q ∈ qs, q ∈ ps) → qs.length ≤ B
theorem iter_notTup {I l : Addr} {h : Heap} {i : Nat} (x : h.IsListIter I l i) : ∀ b ∈ [I], ∀ o, h.get? b = some o → o.cls ≠ .type "tuple" := fun b m o e q => by
  rw [List.mem_singleton] at m; subst m
  refine x12 x fun o' e' c' _ => ?_; clear x
  rw [e] at e'; cases e'
  rw [c'] at q; exact absurd (Value.type.inj q) (by decide)
theorem SetOk.notTup {κ : Type} {hp : κ → Int} {R : Heap → κ → Value → Prop} {led : Bool} {S : Addr} {h : Heap} {ks : List κ} (x : SetOk hp R led h S ks) : ∀ b ∈ [S], ∀ o, h.get? b = some o → o.cls ≠ .type "tuple" := by
  refine x40 x fun M bs es ep z21 => ?_; clear x; refine x11 z21 fun t ho _ => ?_; clear z21
  exact set_notTup ho
theorem SetOk.go {κ : Type} {hp : κ → Int} {R : Heap → κ → Value → Prop} {led : Bool} {S : Addr} {h h' : Heap} {ks : List κ} (x : SetOk hp R led h S ks) (e : ∀ o, h.get? S = some o → h'.get? S = some o) (k : ∀ p v, R h p v → R h' p v) : SetOk hp R led h' S ks := by
  refine x40 x fun M bs es ep z41 => ?_; clear x; refine x12 z41 fun t ho x r => ?_; clear z41
  exact ⟨M, bs, es, ep, t, e _ ho, x.mono k, r⟩
/-- a walk over the items of a source that is no set -/
structure SetSrc (prog : Program) (w : World) (A : Around) (I : Addr) (fp : List Addr) (items : Array Value) (St : Nat → Heap → Prop) : Prop where
  W : Walks prog w A I fp [I] items.size (fun i v => items[i]? = some v) St
  nt : ∀ i h, St i h → ∀ b ∈ [I], ∀ o, h.get? b = some o → o.cls ≠ .type "tuple"
theorem setLoop {κ : Type} {hp : κ → Int} {R : Heap → κ → Value → Prop} {led : Bool} {S I : Addr} {fp : List Addr} {items : Array Value} {ps : List κ} {B : Nat} {St : Nat → Heap → Prop} (SK : SetKind prog w A.in1 hp R ps B) (X : SetSrc prog w A.in1 I fp items St) (hSI : S ≠ I) (hSf : S ∉ fp) {Z : Result → Shared → Prop} :
    ∀ (k i : Nat) (s : Shared), items.size - i = k → i ≤ items.size → St i s.heap → All2 (R s.heap) ps items.toList →
      (∃ qs : List κ, SetOk hp R led s.heap S qs ∧ qs.Nodup ∧ ∀ q, q ∈ qs ↔ q ∈ ps.take i) →
      (∀ h' tk, (∀ b o, b ≠ S → b ≠ I → s.heap.get? b = some o → h'.get? b = some o) → (∃ qs : List κ, SetOk hp R led h' S qs ∧ qs.Nodup ∧ ∀ q, q ∈ qs ↔ q ∈ ps) → Z (.ok (.ret .none)) { s with heap := h', toks := tk }) →
      codeAny (model prog w) A (.builtin "set.update.loop" ⟨[.ref S, .ref I], []⟩) Z s := by
  have W := X.W
  intro k
  induction k with
  | zero =>
    intro i s hk hi hst hT hS hR
    have hin : i = items.size := by omega
    subst hin
    refine codeAny_builtin F.entry_set_update_loop ?_
    rw [Around.under_plainId F.plain_set_update_loop _]
    show wpAny _ A.in1 (pyNext (.ref I) >>= _) _ _ s
    refine wpAny_bind (W.done s _ _ hst fun h' tk hm => ?_)
    show wpAny _ A.in1 (ret Value.none) _ _ _
    refine x12 hS fun qs hso hnd hmem => ?_; clear hS
    refine wpAny_pure (hR h' tk (fun b o n1 n2 e => hm b o (by simpa using n2) e) ⟨qs, hso.go (fun o e => hm _ _ (by simpa using hSI) e) fun p v r => SK.keep _ _ _ _ _ r (X.nt _ _ hst) hm, hnd, fun q => by rw [hmem q, List.take_of_length_le (by have := hT.len; simp at this; omega)]⟩)
  | succ k ih =>
    intro i s hk hi hst hT hS hR
    have hlt : i < items.size := by omega
    refine codeAny_builtin F.entry_set_update_loop ?_
    rw [Around.under_plainId F.plain_set_update_loop _]
    show wpAny _ A.in1 (pyNext (.ref I) >>= _) _ _ s
    refine wpAny_bind (W.item i s _ _ hlt hst fun v h1 tk1 hP hst' hm => ?_)
    have kp1 : ∀ p v, R s.heap p v → R h1 p v := fun p v r => SK.keep _ _ _ _ _ r (X.nt _ _ hst) hm
    have hT1 : All2 (R h1) ps items.toList := hT.mono kp1
    refine x12 hS fun qs hso hnd hmem => ?_; clear hS
    have hso1 : SetOk hp R led h1 S qs := hso.go (fun o e => hm _ _ (by simpa using hSI) e) kp1
    refine x11 (hT1.at (k := i) (y := v) (by simpa using hP)) fun p hp' hpv => ?_
    show wpAny _ A.in1 (holding [v] (setAdd S v) >>= _) _ _ _
    refine wpAny_bind (wpAny_holding ?_)
    unfold setAdd
    refine wpAny_holding ?_
    refine wpAny_bind (SK.hash _ _ _ _ _ hpv fun tk2 => ?_)
    have hin : ∀ q, q ∈ ps.take (i + 1) ↔ q ∈ ps.take i ∨ q = p := fun q => by rw [take_succ_of hp', List.mem_append, List.mem_singleton]
    have hle : qs.length ≤ B := SK.few qs hnd fun q hq => List.mem_of_mem_take ((hmem q).mp hq)
    refine SK.add { s with heap := h1, toks := tk2 } S led qs p v _ _ hso1 (List.mem_of_getElem? hp') hpv hle fun b h2 ks' hks hkp hS2 => ?_
    refine wpAny_pure ⟨plainId_quiet F.plain_set_update_loop _, ?_⟩
    have hT2 : All2 (R h2) ps items.toList := hT1.mono fun p v r => SK.keep _ _ [S] _ _ r hso1.notTup fun b o m e => hkp b o (by simpa using m) e
    refine ih (i + 1) _ (by omega) hlt ?_ hT2 ?_ fun h' tk hm2 hS' => ?_
    · exact W.frame _ _ _ hst' fun b hb o e => hkp b o (fun q => hSf (q ▸ hb)) e
    · rcases hks with ⟨hin', rfl⟩ | ⟨hnin, rfl⟩
      · exact ⟨ks', hS2, hnd, fun q' => by
          rw [hin q', hmem q']
          exact ⟨.inl, fun z => z.elim id fun z => by rw [z]; exact (hmem p).mp hin'⟩⟩
      · refine ⟨p :: qs, hS2, List.nodup_cons.mpr ⟨hnin, hnd⟩, fun q' => ?_⟩
        rw [hin q', List.mem_cons, hmem q']
        exact ⟨fun z => z.symm, fun z => z.symm⟩
    · exact hR h' tk (fun b o n1 n2 e => hm2 b o n1 n2 (hkp b o n1 (hm b o (by simpa using n2) e))) hS'
theorem code_set_new (a : Value) {Q₁ : Value → Shared → Prop}
    (h : Q₁ (.ref s.heap.objs.size) { s with heap := s.heap.push (setV #[] 0 (.fresh 0 0 (ledOf w))) }) :
    codeAny (model prog w) A (.call (.builtin "set.__new__") ⟨[.type "set", a], []⟩) (wants Q₁ E) s := by
  refine codeAny_of_tree ?_
  show wpAny _ A.in1 (do checkBuiltinCall "set.__new__" ⟨[.type "set", a], []⟩; again (.builtin "set.__new__" ⟨[.type "set", a], []⟩)) _ _ s
  refine wpAny_bind (wpAny_of_eq (F.newCall_set_1 a) (wpAny_pure ⟨plainId_quiet F.plain_set_new _, codeAny_builtin F.entry_set_new ?_⟩))
  rw [Around.under_plainId F.plain_set_new _]
  unfold Builtin.«set.__new__» Builtin.Frozenset.newClass
  have hsub := sub_set_self
  obtain ⟨hp, g, d, tk, os⟩ := s
  dsimp only
  wp_walk
  refine wpAny_askSetting (wpAny_pure ?_)
  dsimp only
  simp only [newObj]
  refine wpAny_bind (wpAny_alloc (wpAny_pure ?_))
  exact wpAny_pure h
/-- how a source fills a set just made -/
noncomputable def Fills (prog : Program) (w : World) (A : Around) {κ : Type} (hp : κ → Int) (R : Heap → κ → Value → Prop) (ps : List κ) (x : Value) (h₀ : Heap) : Prop :=
  ∀ (S : Addr) (s : Shared) (Z : Result → Shared → Prop), s.heap.get? S = some (setV #[] 0 (.fresh 0 0 (ledOf w))) → (∀ b o, h₀.get? b = some o → s.heap.get? b = some o) → (∀ b o, h₀.get? b = some o → b ≠ S) →
    (∀ h' tk, (∃ qs : List κ, SetOk hp R (ledOf w) h' S qs ∧ qs.Nodup ∧ ∀ q, q ∈ qs ↔ q ∈ ps) → (∀ b o, b ≠ S → s.heap.get? b = some o → h'.get? b = some o) → Z (.ok (.ret .none)) { s with heap := h', toks := tk }) →
    wpAny (model prog w) A.in1 (Builtin.«set.__init__» ⟨[.ref S, x], []⟩) (fun fin s' => match fin with | .done f => Z (.ok f) s' | .again c' => c'.quiet = true ∧ codeAny (model prog w) A c' Z s') (fun e s' => Z (.error e) s') s
set_option maxHeartbeats 3200000 in
theorem call_set {κ : Type} {hp : κ → Int} {R : Heap → κ → Value → Prop} {ps : List κ} {x : Addr} {Q : Value → Shared → Prop}
    (hF : Fills prog w A.in1 hp R ps (.ref x) s.heap)
    (h : ∀ (h' : Heap) (tk : Nat), (∃ qs : List κ, SetOk hp R (ledOf w) h' s.heap.objs.size qs ∧ qs.Nodup ∧ ∀ q, q ∈ qs ↔ q ∈ ps) →
      (∀ b o, b < s.heap.objs.size → s.heap.get? b = some o → h'.get? b = some o) → Q (.ref s.heap.objs.size) { s with heap := h', toks := tk }) :
    wpAny (model prog w) A (call (.type "set") [.ref x]) Q E s := by
  refine x20 F.called_set.mro fun c tl hmro => ?_
  have hmade := F.called_set.made
  have hsub := F.called_set.sub
  refine wpAny_call (codeAny_of_tree ?_)
  show wpAny _ _ (callAny (.type "set") _) _ _ _
  refine wpAny_pure ⟨Code.quiet_builtin _ (by decide +kernel), codeAny_builtin F.entry_type_call ?_⟩
  rw [Around.under_plain (weight_type_call_type "set" [.ref x] []) rfl]
  have h1 := F.called_set.notType
  have h2 := F.called_set.canCreate
  have hct := F.typeCall_set_1 (.ref x)
  repeat (any_goals (first | assumption | wp_step))
  refine codeAny_mono (code_set_new (.ref x) (E := E) (Q₁ := fun obj s₁ => obj = .ref s.heap.objs.size ∧ s₁ = { s with heap := s.heap.push (setV #[] 0 (.fresh 0 0 (ledOf w))) }) ⟨rfl, rfl⟩) fun r s₁ hr => ?_
  cases r with
  | error e => exact hr
  | ok fl =>
    cases fl with
    | ret obj =>
      refine x01 hr fun z161 z162 => ?_; clear hr; subst z161; subst z162
      have hS : (s.heap.push (setV #[] 0 (.fresh 0 0 (ledOf w)))).get? s.heap.objs.size = some (setV #[] 0 (.fresh 0 0 (ledOf w))) := Heap.get?_push_size _ rfl
      have hT : Shared.TypeIs { s with heap := s.heap.push (setV #[] 0 (.fresh 0 0 (ledOf w))) } (.ref s.heap.objs.size) "set" := ⟨_, hS, rfl⟩
      have hli := F.called_set.init.lookup
      have hbi := F.called_set.init.bind (.ref s.heap.objs.size)
      repeat (any_goals (first | assumption | wp_step))
      refine codeAny_mono (codeAny_call_builtin (R := wants (fun r s₂ => r = .none ∧ ∃ h' tk, s₂ = { s with heap := h', toks := tk } ∧
          (∃ qs : List κ, SetOk hp R (ledOf w) h' s.heap.objs.size qs ∧ qs.Nodup ∧ ∀ q, q ∈ qs ↔ q ∈ ps) ∧
          (∀ b o, b < s.heap.objs.size → s.heap.get? b = some o → h'.get? b = some o)) E) F.called_set.init.plain F.entry_set_init (check_set_init_1 hT ?_)) fun r₂ s₂ hr₂ => ?_
      · refine hF s.heap.objs.size _ _ hS (fun b o e => Heap.get?_push_of_some _ e) (fun b o e => Nat.ne_of_lt (Heap.lt_size e)) fun h' tk hq hk => ?_
        exact ⟨rfl, h', tk, rfl, hq, fun b o hb e => hk b o (Nat.ne_of_lt hb) (Heap.get?_push_of_some _ e)⟩
      · cases r₂ with
        | error e => exact hr₂
        | ok fl₂ =>
          cases fl₂ with
          | ret r =>
            refine x01 hr₂ fun z181 z182 => ?_; clear hr₂; subst z181; refine x22 z182 fun h' tk z183 hS' hk' => ?_; clear z182; subst z183
            repeat (any_goals (first | assumption | wp_step))
            exact h _ _ hS' hk'
          | _ => exact hr₂.elim
    | _ => exact hr.elim
set_option maxHeartbeats 3200000 in
theorem fills_list {κ : Type} {hp : κ → Int} {R : Heap → κ → Value → Prop} {ps : List κ} {B : Nat} {l : Addr} {items : Array Value} {h₀ : Heap}
    (SK : SetKind prog w A.in1.in1 hp R ps B) (hh : A.handled = none) (hl : h₀.IsList l items) (hi : All2 (R h₀) ps items.toList) : Fills prog w A hp R ps (.ref l) h₀ := by
  intro S s Z hS k nS hZ
  have hl1 : s.heap.IsList l items := hl.at fun o e => k _ _ e
  refine x12 (id hl1) fun ol hol hcl z201 => ?_; refine x10 z201 fun nl hdl => ?_; clear z201
  refine x11 (id hl) fun ol0 hol0 _ => ?_
  have hT : s.TypeIs (.ref S) "set" := ⟨_, hS, rfl⟩
  have hlS : l ≠ S := nS _ _ hol0
  have hsls := F.sub_list_set
  have hslf := F.sub_list_frozenset
  have hne : (Value.type "list" == Value.type "dict") = false := by decide
  obtain ⟨ocls, odict, odata, oslots⟩ := ol
  simp only at hcl hdl
  subst hcl; subst hdl
  unfold Builtin.«set.__init__» noKeywords Builtin.Frozenset.updateFrom
  generalize hPI : pyIter = PI
  wp_walk
  subst hPI
  refine wpAny_pyIter_list hl1 ?_
  refine wpAny_bind (wpAny_runValue ?_)
  have hneI : l ≠ s.heap.objs.size := Nat.ne_of_lt (Heap.lt_size hol)
  have hSI : S ≠ s.heap.objs.size := Nat.ne_of_lt (Heap.lt_size hS)
  refine setLoop (items := items) (led := ledOf w) (St := fun i h => h.IsListIter s.heap.objs.size l i ∧ h.IsList l items) SK ⟨Walks.list (A := A.in1.in1) hh _ l hneI items, fun i h st => iter_notTup st.1⟩ hSI (fun m => ?_) (items.size - 0) 0 _ (by omega) (Nat.zero_le _) ?hI0 ?hT0 ?hS0 ?hR
  · simp only [List.mem_cons, List.not_mem_nil, or_false] at m
    exact m.elim hSI fun q => hlS q.symm
  case hI0 => exact ⟨⟨_, Heap.get?_push_size _ rfl, rfl, rfl⟩, hl1.push _⟩
  case hT0 => exact hi.mono fun p v r => SK.keep _ _ [] _ _ r (fun b m => (nomatch m)) fun b o _ e => Heap.get?_push_of_some _ (k _ _ e)
  case hS0 =>
    refine ⟨[], ⟨7, [], #[], 0, _, Heap.get?_push_of_some _ hS, ⟨.inl rfl, ⟨List.Pairwise.nil, fun b m => (nomatch m), fun b m => (nomatch m), List.nodup_nil⟩, ⟨rfl, rfl, rfl⟩, .nil, Nat.zero_le _, rfl⟩, .inl ⟨rfl, Nat.zero_le _⟩, List.Perm.nil⟩, List.nodup_nil, fun q => by simp⟩
  case hR =>
    intro h' tk hm hS'
    refine wpAny_pure ?_
    show wpAny _ _ (ret Value.none) _ _ _
    exact wpAny_pure (hZ h' tk hS' fun b o hb e => hm b o hb (Nat.ne_of_lt (Heap.lt_size e)) (Heap.get?_push_of_some _ e))
theorem titer_notTup {I l : Addr} {h : Heap} {i : Nat} (x : h.IsTupleIter I l i) : ∀ b ∈ [I], ∀ o, h.get? b = some o → o.cls ≠ .type "tuple" := fun b m o e q => by
  rw [List.mem_singleton] at m; subst m
  refine x12 x fun o' e' c' _ => ?_; clear x
  rw [e] at e'; cases e'
  rw [c'] at q; exact absurd (Value.type.inj q) (by decide)
set_option maxHeartbeats 3200000 in
theorem fills_tuple {κ : Type} {hp : κ → Int} {R : Heap → κ → Value → Prop} {ps : List κ} {B : Nat} {l : Addr} {items : Array Value} {h₀ : Heap}
    (SK : SetKind prog w A.in1.in1 hp R ps B) (hh : A.handled = none) (hl : h₀.IsTuple l items) (hi : All2 (R h₀) ps items.toList) : Fills prog w A hp R ps (.ref l) h₀ := by
  intro S s Z hS k nS hZ
  have hl1 : s.heap.IsTuple l items := hl.at fun o e => k _ _ e
  refine x12 (id hl1) fun ol hol hcl z281 => ?_; refine x10 z281 fun nl hdl => ?_; clear z281
  refine x11 (id hl) fun ol0 hol0 _ => ?_
  have hT : s.TypeIs (.ref S) "set" := ⟨_, hS, rfl⟩
  have hlS : l ≠ S := nS _ _ hol0
  have hsls := F.sub_tuple_set
  have hslf := F.sub_tuple_frozenset
  have hne : (Value.type "tuple" == Value.type "dict") = false := by decide
  obtain ⟨ocls, odict, odata, oslots⟩ := ol
  simp only at hcl hdl
  subst hcl; subst hdl
  unfold Builtin.«set.__init__» noKeywords Builtin.Frozenset.updateFrom
  generalize hPI : pyIter = PI
  wp_walk
  subst hPI
  refine wpAny_pyIter_tuple hl1 ?_
  refine wpAny_bind (wpAny_runValue ?_)
  have hneI : l ≠ s.heap.objs.size := Nat.ne_of_lt (Heap.lt_size hol)
  have hSI : S ≠ s.heap.objs.size := Nat.ne_of_lt (Heap.lt_size hS)
  refine setLoop (items := items) (led := ledOf w) (St := fun i h => h.IsTupleIter s.heap.objs.size l i ∧ h.IsTuple l items) SK ⟨Walks.tuple (A := A.in1.in1) hh _ l hneI items, fun i h st => titer_notTup st.1⟩ hSI (fun m => ?_) (items.size - 0) 0 _ (by omega) (Nat.zero_le _) ?hI0 ?hT0 ?hS0 ?hR
  · simp only [List.mem_cons, List.not_mem_nil, or_false] at m
    exact m.elim hSI fun q => hlS q.symm
  case hI0 => exact ⟨⟨_, Heap.get?_push_size _ rfl, rfl, rfl⟩, hl1.at fun o e => Heap.get?_push_of_some _ e⟩
  case hT0 => exact hi.mono fun p v r => SK.keep _ _ [] _ _ r (fun b m => (nomatch m)) fun b o _ e => Heap.get?_push_of_some _ (k _ _ e)
  case hS0 =>
    refine ⟨[], ⟨7, [], #[], 0, _, Heap.get?_push_of_some _ hS, ⟨.inl rfl, ⟨List.Pairwise.nil, fun b m => (nomatch m), fun b m => (nomatch m), List.nodup_nil⟩, ⟨rfl, rfl, rfl⟩, .nil, Nat.zero_le _, rfl⟩, .inl ⟨rfl, Nat.zero_le _⟩, List.Perm.nil⟩, List.nodup_nil, fun q => by simp⟩
  case hR =>
    intro h' tk hm hS'
    refine wpAny_pure ?_
    show wpAny _ _ (ret Value.none) _ _ _
    exact wpAny_pure (hZ h' tk hS' fun b o hb e => hm b o hb (Nat.ne_of_lt (Heap.lt_size e)) (Heap.get?_push_of_some _ e))
end Mine
end SSq7

section SSq8
open PySem PySem.W PySem.Calls PyProof.Rows PySem.SeqAt
set_option maxRecDepth 100000
namespace Mine
variable {prog : Program} {w : World} {A : Around} {E : Value → Shared → Prop} {s : Shared}
theorem erase_perm {α : Type} : ∀ {l : List α} {i : Nat} (h : i < l.length), (l[i] :: l.eraseIdx i).Perm l
  | x :: l, 0, h => List.Perm.refl _
  | x :: l, i + 1, h => by
    have h' : i < l.length := by simpa using h
    show (l[i] :: x :: l.eraseIdx i).Perm (x :: l)
    exact (List.Perm.swap _ _ _).trans ((erase_perm h').cons x)
theorem pickGo_perm {α : Type} (next : Nat → Nat) : ∀ (fuel k : Nat) (left : List α) (out : Array α), left.length ≤ fuel → (pickOrder.go next fuel k left out).toList.Perm (out.toList ++ left)
  | 0, k, left, out, h => by
    have : left = [] := List.length_eq_zero_iff.mp (by lia)
    subst this
    unfold pickOrder.go
    simp
  | fuel + 1, k, left, out, h => by
    unfold pickOrder.go
    cases hx : left[next k % left.length]? with
    | none =>
      have : left = [] := by
        rcases Nat.eq_zero_or_pos left.length with z | z
        · exact List.length_eq_zero_iff.mp z
        · rw [List.getElem?_eq_none_iff] at hx
          have := Nat.mod_lt (next k) z
          lia
      subst this; simp
    | some x =>
      dsimp only
      have hlt : next k % left.length < left.length := by
        rcases Nat.lt_or_ge (next k % left.length) left.length with z | z
        · exact z
        · rw [List.getElem?_eq_none z] at hx; cases hx
      have hx' : left[next k % left.length] = x := by rw [List.getElem?_eq_getElem hlt] at hx; exact Option.some.inj hx
      refine (pickGo_perm next fuel (k + 1) _ _ (by rw [List.length_eraseIdx_of_lt hlt]; lia)).trans ?_
      rw [Array.toList_push, List.append_assoc, List.singleton_append]
      refine List.Perm.append_left _ ?_
      rw [← hx']
      exact erase_perm hlt
theorem pick_perm {α : Type} (next : Nat → Nat) (xs : Array α) : (pickOrder next xs).toList.Perm xs.toList := by
  unfold pickOrder
  have := pickGo_perm next xs.size 0 xs.toList #[] (by simp)
  simpa using this
theorem wpAny_choose {M : Model} {src : Source} {n : Nat} {Q : Nat → Shared → Prop} (hn : n ≠ 0) (h : ∀ k d, k < n → Q k { s with drawn := d }) : wpAny M A (choose src n) Q E s := fun Γ p _ => by
  show Sem.wp M Γ (.choose src n .pure) _ _ p s
  rw [Sem.wp_choose]
  refine ⟨hn, ?_⟩
  rw [Sem.wp_pure]
  exact h _ _ (Nat.mod_lt _ (Nat.pos_of_ne_zero hn))
theorem drawOrder_ok {M : Model} {α : Type} : ∀ (n : Nat) (xs : List α) (s : Shared) (Q : List α → Shared → Prop), xs.length = n → (∀ ys d, ys.Perm xs → Q ys { s with drawn := d }) → wpAny M A (drawOrder n xs) Q E s
  | 0, xs, s, Q, hn, h => by
    have : xs = [] := List.length_eq_zero_iff.mp hn
    subst this
    unfold drawOrder
    exact wpAny_pure (h [] s.drawn List.Perm.nil)
  | n + 1, [], s, Q, hn, h => by simp at hn
  | n + 1, x :: xs, s, Q, hn, h => by
    unfold drawOrder
    refine wpAny_bind (wpAny_choose (by simp) fun k d hk => ?_)
    rw [List.getElem?_eq_getElem hk]
    dsimp only
    refine wpAny_bind (drawOrder_ok n _ _ _ (by rw [List.length_eraseIdx_of_lt hk]; lia) fun ys d' hp => wpAny_pure ?_)
    exact h _ d' ((hp.cons _).trans (erase_perm hk))
noncomputable abbrev byText (w : World) : Bool := w.params.followText "set-order"
/-- the iterator of a set that stands still -/
noncomputable def IterAt (w : World) (f I a : Addr) (es : Array (Int × Value)) (ep : Nat) (t : SetTable) (ord : List Value) (i : Nat) (h : Heap) : Prop :=
  h.get? a = some (setV es ep t) ∧ ∃ first : Value, h.get? I = some { cls := .type "set_iterator", data := .fields #[first, .int i 0, .ref a, .int es.size 0, .int ep 0] } ∧
   ((byText w = true ∧ first = .int 0 0 ∧ ord = (pickOrder (w.params.setOrder a ep) es).toList.map (·.2)) ∨
    (byText w = false ∧ (!t.plain && decide (es.size > 1)) = false ∧ t.led = true ∧ ord = es.toList.map (·.2) ∧ (∃ sl : Nat, first = .int sl 0 ∧ SetTable.below t.place sl = i) ∧ t.place.size = es.size ∧ Rise t.place.toList) ∨
    (∃ (pl : List Nat) (n : Nat), first = .ref f ∧ f ≠ I ∧ h.get? f = some (tupV (pl.map fun (p : Nat) => Value.int (p : Int) 0) n) ∧ ord = pl.filterMap (fun p => (es[p]?).map (·.2)) ∧ ∀ p ∈ pl, p < es.size))
theorem IterAt.typeIs {f I a : Addr} {es ep t ord i} (x : IterAt w f I a es ep t ord i s.heap) : s.TypeIs (.ref I) "set_iterator" := x11 x.2 fun _ h _ => ⟨_, h, rfl⟩
theorem slot_si_next : Slot "set_iterator" "__next__" "set_iterator.__next__" :=
  .of (owner := "set_iterator") (n := "__next__") (by rw [typeLookup_type, builtinLookup_eq_fast]; kernel_rfl) (by decide +kernel) (by decide +kernel) (by decide +kernel)
    (by first | exact .inl (by decide +kernel) | exact .inr (by decide +kernel)) (by rw [isSubtype_type]; kernel_rfl)
theorem entry_si_next : entryFor table "set_iterator.__next__" = some Builtin.«set_iterator.__next__» := entryFor_of_tree (by kernel_rfl)
theorem owner_si : Manifest.owners.lookup (String.ofList ['r', 'o', 't', 'a', 'r', 'e', 't', 'i', '_', 't', 'e', 's'].reverse) = some Manifest.sig_set_iterator := by kernel_rfl
theorem args_si_next (a : Value) : argsOk "set_iterator.__next__" ⟨[a], []⟩ := by
  unfold argsOk; rw [signature?_of (id := "set_iterator.__next__") (n := ['_', '_', 't', 'x', 'e', 'n', '_', '_']) (o := ['r', 'o', 't', 'a', 'r', 'e', 't', 'i', '_', 't', 'e', 's']) (by kernel_rfl) owner_si]; kernel_rfl
theorem slot_si_iter : Slot "set_iterator" "__iter__" "set_iterator.__iter__" :=
  .of (owner := "set_iterator") (n := "__iter__") (by rw [typeLookup_type, builtinLookup_eq_fast]; kernel_rfl) (by decide +kernel) (by decide +kernel) (by decide +kernel)
    (by first | exact .inl (by decide +kernel) | exact .inr (by decide +kernel)) (by rw [isSubtype_type]; kernel_rfl)
theorem entry_si_iter : entryFor table "set_iterator.__iter__" = some Builtin.«dict_keyiterator.__iter__» := entryFor_alias (id' := "dict_keyiterator.__iter__") (by kernel_rfl) rfl (by decide +kernel) (by kernel_rfl)
theorem args_si_iter (a : Value) : argsOk "set_iterator.__iter__" ⟨[a], []⟩ := by
  unfold argsOk; rw [signature?_of (id := "set_iterator.__iter__") (n := ['_', '_', 'r', 'e', 't', 'i', '_', '_']) (o := ['r', 'o', 't', 'a', 'r', 'e', 't', 'i', '_', 't', 'e', 's']) (by kernel_rfl) owner_si]; kernel_rfl
theorem iter_self {f I a : Addr} {es ep t ord i} {Q : Value → Shared → Prop} (x : IterAt w f I a es ep t ord i s.heap) (h : Q (.ref I) s) : wpAny (model prog w) A (pyIter (.ref I)) Q E s := by
  refine wpAny_pyIter_slot x.typeIs slot_si_iter (wpAny_call_entry slot_si_iter x.typeIs entry_si_iter ?_ (args_si_iter _))
  show wpAny _ _ (ret (.ref I)) _ _ s
  exact wpAny_pure ⟨_, rfl, "set_iterator", _, x.typeIs, slot_si_next.lookup, h⟩
theorem set_setState {a : Addr} {es ep t} {Q : (Array (Int × Value) × Nat × SetTable) → Shared → Prop} (ho : s.heap.get? a = some (setV es ep t)) (hf : t.fits es.size = true) (h : Q (es, ep, t) s) : wpAny (model prog w) A (setState a) Q E s :=
  wpAny_setState_of ho rfl hf h
theorem setsByText_ok {Q : Bool → Shared → Prop} (h : Q (byText w) s) : wpAny (model prog w) A setsByText Q E s := by
  unfold setsByText
  exact wpAny_bind (wpAny_askSetting (wpAny_pure h))
theorem setNext_T {a : Addr} {es ep t} {sl i : Nat} {Q : Option (Value × Nat) → Shared → Prop} (ha : s.heap.get? a = some (setV es ep t)) (hf : t.fits es.size = true) (bt : byText w = true)
    (h : Q ((((pickOrder (w.params.setOrder a ep) es).toList.map (·.2))[i]?).map fun v => (v, sl)) s) : wpAny (model prog w) A (setNext a sl i ep) Q E s := by
  unfold setNext
  refine wpAny_bind (set_setState ha hf ?_)
  dsimp only
  refine wpAny_bind (setsByText_ok ?_)
  rw [bt]
  simp only [if_true, bne_self_eq_false, Bool.false_eq_true, if_false]
  refine wpAny_bind ?_
  unfold setWalk
  refine wpAny_bind (set_setState ha hf ?_)
  dsimp only
  refine wpAny_bind (setsByText_ok ?_)
  rw [bt]
  simp only [if_true]
  refine wpAny_bind (wpAny_askSetting (wpAny_pure ?_))
  refine wpAny_pure ?_
  have e : (((pickOrder (w.params.setOrder a ep) es).toList.map (·.2))[i]?).map (fun v => (v, sl)) = ((pickOrder (w.params.setOrder a ep) es)[i]?).map fun e => (e.2, sl) := by
    rw [List.getElem?_map, Array.getElem?_toList, Option.map_map]; rfl
  rw [e] at h
  exact h
theorem setNext_P {a : Addr} {es ep t} {sl i : Nat} {Q : Option (Value × Nat) → Shared → Prop} (ha : s.heap.get? a = some (setV es ep t)) (hf : t.fits es.size = true) (bt : byText w = false)
    (hd : (!t.plain && decide (es.size > 1)) = false) (hl : t.led = true) (hsl : SetTable.below t.place sl = i)
    (h : Q (match es[i]?, t.place[i]? with | some (_, x), some j => some (x, j + 1) | _, _ => none) s) {ii : Nat} : wpAny (model prog w) A (setNext a sl ii ep) Q E s := by
  unfold setNext
  refine wpAny_bind (set_setState ha hf ?_)
  dsimp only
  refine wpAny_bind (setsByText_ok ?_)
  rw [bt]
  simp only [Bool.false_eq_true, if_false]
  show wpAny _ _ (if (!t.plain && decide (es.size > 1)) = true then _ else _) _ _ _
  rw [hd]
  simp only [Bool.false_eq_true, if_false]
  refine wpAny_bind (show wpAny _ _ (if (!t.led && !es.isEmpty) = true then _ else _) _ _ _ from ?_)
  rw [hl]
  simp only [Bool.not_true, Bool.false_and, Bool.false_eq_true, if_false]
  refine wpAny_pure ?_
  rw [hsl]
  exact wpAny_pure h
theorem setNextDrawn_ok {a : Addr} {es ep t} {p : Nat} {e : Int × Value} {Q : Value → Shared → Prop} (ha : s.heap.get? a = some (setV es ep t)) (hf : t.fits es.size = true) (he : es[p]? = some e) (h : Q e.2 s) : wpAny (model prog w) A (setNextDrawn a p ep) Q E s := by
  unfold setNextDrawn
  refine wpAny_bind (set_setState ha hf ?_)
  dsimp only
  rw [if_neg (by simp), he]
  exact wpAny_pure h
theorem drawn_at {es : Array (Int × Value)} : ∀ {pl : List Nat}, (∀ p ∈ pl, p < es.size) → ∀ (i : Nat), (pl.filterMap (fun p => (es[p]?).map (·.2)))[i]? = (pl[i]?).bind fun p => (es[p]?).map (·.2)
  | [], _, i => by simp
  | p :: pl, h, i => by
    have hp := h p (.head _)
    rw [List.filterMap_cons, Array.getElem?_eq_getElem hp]
    dsimp only [Option.map_some]
    cases i with
    | zero => simp [hp]
    | succ i => simpa using drawn_at (fun q hq => h q (.tail _ hq)) i
/-- it gives the next -/
theorem iter_item {f I a : Addr} {es ep t} {ord : List Value} {i : Nat} {v : Value} {Q : Option Value → Shared → Prop} (x : IterAt w f I a es ep t ord i s.heap) (hf : t.fits es.size = true) (hI : a ≠ I) (hv : ord[i]? = some v)
    (h : ∀ h', IterAt w f I a es ep t ord (i + 1) h' → Heap.SameBut I s.heap h' → Q (some v) { s with heap := h' }) : wpAny (model prog w) A (pyNext (.ref I)) Q E s := by
  refine x01 (id x) fun ha z1 => ?_; refine x11 z1 fun first hi hm => ?_; clear z1
  unfold pyNext
  refine wpAny_bind (wpAny_attempt (wpAny_callSpecial?_slot (name := Str.ofString "__next__") x.typeIs slot_si_next
    (wpAny_call_entry slot_si_next x.typeIs entry_si_next ?_ (args_si_next _))))
  unfold Builtin.«set_iterator.__next__»
  refine wpAny_bind (wpAny_pure ?_)
  refine wpAny_bind (wpAny_fieldsOf hi rfl ?_)
  dsimp only
  refine wpAny_bind (wpAny_setEntries_of ha rfl hf ?_)
  rw [if_neg (by simp)]
  rcases hm with ⟨bt, rfl, rfl⟩ | ⟨bt, hd, hl, rfl, ⟨sl, rfl, hsl⟩, hps, hrise⟩ | ⟨pl, n, rfl, hfI, hft, rfl, hpl⟩
  · dsimp only
    refine wpAny_bind (setNext_T ha hf bt ?_)
    rw [show ((i : Int)).toNat = i from Int.toNat_natCast i, show ((ep : Int)).toNat = ep from Int.toNat_natCast ep, hv]
    dsimp only [Option.map_some]
    refine wpAny_bind (wpAny_setField hi rfl (by simp) ?_)
    have u1 := Heap.get?_update_self (Obj.mapFields (·.setIfInBounds 0 (rawInt ((0 : Int).toNat : Nat)))) hi rfl
    refine wpAny_bind (wpAny_setField u1 rfl (by simp) ?_)
    have u2 := Heap.get?_update_self (Obj.mapFields (·.setIfInBounds 1 (rawInt ((i : Int) + 1)))) u1 rfl
    have sb := (Heap.SameBut.update s.heap I (Obj.mapFields (·.setIfInBounds 0 (rawInt ((0 : Int).toNat : Nat))))).trans (Heap.SameBut.update _ I (Obj.mapFields (·.setIfInBounds 1 (rawInt ((i : Int) + 1)))))
    exact wpAny_pure ⟨_, rfl, wpAny_pure (h _ ⟨(sb.2 _ hI).trans ha, _, u2, .inl ⟨bt, rfl, rfl⟩⟩ sb)⟩
  · have hlt : i < es.size := by
      rcases Nat.lt_or_ge i es.size with z | z
      · exact z
      · rw [List.getElem?_map, Array.getElem?_toList, Array.getElem?_eq_none z] at hv; cases hv
    rw [List.getElem?_map, Array.getElem?_toList, Array.getElem?_eq_getElem hlt] at hv
    have hv : es[i].2 = v := by simpa using hv
    have hlp : i < t.place.size := by lia
    dsimp only
    refine wpAny_bind (setNext_P ha hf bt hd hl (i := i) (by rw [Int.toNat_natCast]; exact hsl) ?_)
    rw [Array.getElem?_eq_getElem hlt, Array.getElem?_eq_getElem hlp]
    dsimp only
    refine wpAny_bind (wpAny_setField hi rfl (by simp) ?_)
    have u1 := Heap.get?_update_self (Obj.mapFields (·.setIfInBounds 0 (rawInt ((t.place[i] + 1 : Nat))))) hi rfl
    refine wpAny_bind (wpAny_setField u1 rfl (by simp) ?_)
    have u2 := Heap.get?_update_self (Obj.mapFields (·.setIfInBounds 1 (rawInt ((i : Int) + 1)))) u1 rfl
    have sb := (Heap.SameBut.update s.heap I (Obj.mapFields (·.setIfInBounds 0 (rawInt ((t.place[i] + 1 : Nat)))))).trans (Heap.SameBut.update _ I (Obj.mapFields (·.setIfInBounds 1 (rawInt ((i : Int) + 1)))))
    rw [hv]
    refine wpAny_pure ⟨_, rfl, wpAny_pure (h _ ⟨(sb.2 _ hI).trans ha, _, u2, .inr (.inl ⟨bt, hd, hl, rfl, ⟨t.place[i] + 1, rfl, ?_⟩, hps, hrise⟩)⟩ sb)⟩
    refine x02 (below_ok hrise (t.place[i] + 1)) fun b1 b2 b3 => ?_
    have hl' : t.place.toList.length = t.place.size := Array.length_toList
    have e1 : t.place.toList.toArray = t.place := rfl
    rw [e1] at b1 b2 b3
    have hgi : t.place.toList[i]'(by lia) = t.place[i] := by simp
    rcases Nat.lt_trichotomy (SetTable.below t.place (t.place[i] + 1)) (i + 1) with z | z | z
    · have := b3 i (by lia) (by lia)
      rw [hgi] at this; lia
    · exact z
    · have := b2 (i + 1) (by lia) z
      have h2 := hrise.get (a := i) (b := i + 1) (by lia) (by lia)
      rw [hgi] at h2; lia
  · dsimp only
    have hvi := drawn_at hpl i
    rw [hv] at hvi
    refine x11 (Option.bind_eq_some_iff.mp hvi.symm) fun p hp hpv => ?_
    refine x11 (Option.map_eq_some_iff.mp hpv) fun e he z61 => ?_; subst z61
    refine wpAny_bind (wpAny_seqItems hft rfl ?_)
    dsimp only
    rw [show ((pl.map fun (p : Nat) => Value.int (p : Int) 0).toArray)[((i : Int)).toNat]? = some (.int (p : Int) 0) by
      rw [Int.toNat_natCast, List.getElem?_toArray, List.getElem?_map, hp]; rfl]
    dsimp only
    refine wpAny_bind (setNextDrawn_ok ha hf (e := e) (by rw [Int.toNat_natCast]; exact he) ?_)
    refine wpAny_bind (wpAny_setField hi rfl (by simp) ?_)
    have u2 := Heap.get?_update_self (Obj.mapFields (·.setIfInBounds 1 (rawInt ((i : Int) + 1)))) hi rfl
    have sb := Heap.SameBut.update s.heap I (Obj.mapFields (·.setIfInBounds 1 (rawInt ((i : Int) + 1))))
    exact wpAny_pure ⟨_, rfl, wpAny_pure (h _ ⟨(sb.2 _ hI).trans ha, _, u2, .inr (.inr ⟨pl, n, rfl, hfI, (sb.2 _ hfI).trans hft, rfl, hpl⟩)⟩ sb)⟩
/-- at its end -/
theorem iter_end {f I a : Addr} {es ep t} {ord : List Value} {Q : Option Value → Shared → Prop} (hh : A.handled = none) (x : IterAt w f I a es ep t ord ord.length s.heap) (hf : t.fits es.size = true)
    (h : ∀ h', Heap.ExtBut I s.heap h' → Q none { s with heap := h' }) : wpAny (model prog w) A (pyNext (.ref I)) Q E s := by
  refine x01 (id x) fun ha z81 => ?_; refine x11 z81 fun first hi hm => ?_; clear z81
  unfold pyNext
  refine wpAny_bind (wpAny_attempt (wpAny_callSpecial?_slot (name := Str.ofString "__next__") x.typeIs slot_si_next
    (wpAny_call_entry slot_si_next x.typeIs entry_si_next ?_ (args_si_next _))))
  unfold Builtin.«set_iterator.__next__»
  refine wpAny_bind (wpAny_pure ?_)
  refine wpAny_bind (wpAny_fieldsOf hi rfl ?_)
  dsimp only
  refine wpAny_bind (wpAny_setEntries_of ha rfl hf ?_)
  rw [if_neg (by simp)]
  rcases hm with ⟨bt, rfl, rfl⟩ | ⟨bt, hd, hl, rfl, ⟨sl, rfl, hsl⟩, hps, hrise⟩ | ⟨pl, n, rfl, hfI, hft, rfl, hpl⟩
  · dsimp only
    refine wpAny_bind (setNext_T ha hf bt ?_)
    rw [show ((((pickOrder (w.params.setOrder a ep) es).toList.map (·.2)).length : Int)).toNat = ((pickOrder (w.params.setOrder a ep) es).toList.map (·.2)).length from Int.toNat_natCast _, show ((ep : Int)).toNat = ep from Int.toNat_natCast ep, List.getElem?_eq_none (Nat.le_refl _)]
    dsimp only [Option.map_none]
    refine wpAny_bind (wpAny_setField hi rfl (by simp) ?_)
    show wpAny _ _ (newExc (.type "StopIteration") [] >>= _) _ _ _
    refine wpAny_bind ?_
    simp only [newExc, newTuple]
    refine wpAny_bind (wpAny_newObj_type ?_ (by size_fits))
    refine wpAny_bind (m := firstArgMember _ _) (wpAny_of_eq (a := Value.none) (by first | rfl | (simp only [firstArgMember]; rfl)) ?_)
    refine wpAny_newObj_type ?_ (by size_fits)
    simp only [raiseNew]
    refine wpAny_bind (wpAny_handled ?_)
    rw [show A.in1.handled = none from hh]
    refine wpAny_bind (wpAny_pure (wpAny_throw ?_))
    refine wpAny_bind (wpAny_isInstance (T := "StopIteration") (b := true) ⟨_, Heap.get?_push_size _ rfl, rfl⟩ isSubtype_stop ?_)
    exact wpAny_pure (h _ (((Heap.SameBut.update ..).extBut.push _).push _))
  · dsimp only
    have hsl' : SetTable.below t.place sl = es.size := by rw [hsl]; simp
    refine wpAny_bind (setNext_P ha hf bt hd hl (i := es.size) (by rw [Int.toNat_natCast]; exact hsl') ?_)
    rw [Array.getElem?_eq_none (Nat.le_refl _)]
    dsimp only
    refine wpAny_bind (wpAny_setField hi rfl (by simp) ?_)
    show wpAny _ _ (newExc (.type "StopIteration") [] >>= _) _ _ _
    refine wpAny_bind ?_
    simp only [newExc, newTuple]
    refine wpAny_bind (wpAny_newObj_type ?_ (by size_fits))
    refine wpAny_bind (m := firstArgMember _ _) (wpAny_of_eq (a := Value.none) (by first | rfl | (simp only [firstArgMember]; rfl)) ?_)
    refine wpAny_newObj_type ?_ (by size_fits)
    simp only [raiseNew]
    refine wpAny_bind (wpAny_handled ?_)
    rw [show A.in1.handled = none from hh]
    refine wpAny_bind (wpAny_pure (wpAny_throw ?_))
    refine wpAny_bind (wpAny_isInstance (T := "StopIteration") (b := true) ⟨_, Heap.get?_push_size _ rfl, rfl⟩ isSubtype_stop ?_)
    exact wpAny_pure (h _ (((Heap.SameBut.update ..).extBut.push _).push _))
  · dsimp only
    have hlen : (pl.filterMap (fun p => (es[p]?).map (·.2))).length = pl.length := by
      clear hi x hft
      induction pl with
      | nil => rfl
      | cons p pl ih =>
        have hp := hpl p (.head _)
        rw [List.filterMap_cons, Array.getElem?_eq_getElem hp]
        simpa using ih fun q hq => hpl q (.tail _ hq)
    refine wpAny_bind (wpAny_seqItems hft rfl ?_)
    dsimp only
    rw [show ((pl.map fun (p : Nat) => Value.int (p : Int) 0).toArray)[((((pl.filterMap (fun p => (es[p]?).map (·.2))).length : Nat) : Int)).toNat]? = none by
      rw [Int.toNat_natCast, List.getElem?_toArray, List.getElem?_map, hlen, List.getElem?_eq_none (Nat.le_refl _)]; rfl]
    dsimp only
    refine wpAny_bind (wpAny_setField hi rfl (by simp) ?_)
    have u1 := Heap.get?_update_self (Obj.mapFields (·.setIfInBounds 0 (rawInt 0))) hi rfl
    refine wpAny_bind (wpAny_setField u1 rfl (by simp) ?_)
    show wpAny _ _ (newExc (.type "StopIteration") [] >>= _) _ _ _
    refine wpAny_bind ?_
    simp only [newExc, newTuple]
    refine wpAny_bind (wpAny_newObj_type ?_ (by size_fits))
    refine wpAny_bind (m := firstArgMember _ _) (wpAny_of_eq (a := Value.none) (by first | rfl | (simp only [firstArgMember]; rfl)) ?_)
    refine wpAny_newObj_type ?_ (by size_fits)
    simp only [raiseNew]
    refine wpAny_bind (wpAny_handled ?_)
    rw [show A.in1.handled = none from hh]
    refine wpAny_bind (wpAny_pure (wpAny_throw ?_))
    refine wpAny_bind (wpAny_isInstance (T := "StopIteration") (b := true) ⟨_, Heap.get?_push_size _ rfl, rfl⟩ isSubtype_stop ?_)
    exact wpAny_pure (h _ ((((Heap.SameBut.update ..).trans (Heap.SameBut.update ..)).extBut.push _).push _))
theorem IterAt.keeps {f I a : Addr} {es ep t} {ord : List Value} {i : Nat} {h h' : Heap} (x : IterAt w f I a es ep t ord i h) (k : ∀ b ∈ [I, a, f], ∀ o, h.get? b = some o → h'.get? b = some o) : IterAt w f I a es ep t ord i h' := by
  refine x01 x fun ha z101 => ?_; clear x; refine x11 z101 fun first hi hm => ?_; clear z101
  refine ⟨k _ (.tail _ (.head _)) _ ha, first, k _ (.head _) _ hi, ?_⟩
  rcases hm with hm | hm | ⟨pl, n, e1, e2, e3, e4⟩
  · exact .inl hm
  · exact .inr (.inl hm)
  · exact .inr (.inr ⟨pl, n, e1, e2, k _ (.tail _ (.tail _ (.head _))) _ e3, e4⟩)
/-- the iterator walks the order that was drawn -/
theorem set_walks {f I a : Addr} {es ep t} {ord : List Value} (hh : A.handled = none) (hI : a ≠ I) (hf : t.fits es.size = true) :
    Walks prog w A I [I, a, f] [I] ord.length (fun i v => ord[i]? = some v) (fun i h => IterAt w f I a es ep t ord i h) where
  sub := fun b hb => by simp at hb; simp [hb]
  frame := fun _ _ _ st hk => st.keeps hk
  item := fun i s Q E hi st hQ => iter_item st hf hI (List.getElem?_eq_getElem hi) fun h' st' sb => hQ _ h' s.toks (List.getElem?_eq_getElem hi) st' fun b o hb e => (sb.2 b (by simpa using hb)).trans e
  done := fun s Q E st hQ => iter_end hh st hf fun h' eb => hQ h' s.toks fun b o hb e => eb b o (by simpa using hb) e
  self := fun _ _ _ _ st hQ => iter_self st hQ
theorem entry_set_iter' : entryFor table "set.__iter__" = some Builtin.«frozenset.__iter__» := entryFor_alias (id' := "frozenset.__iter__") (by kernel_rfl) rfl (by decide +kernel) (by kernel_rfl)
/-- iter of a set: an order of its values is drawn -/
theorem set_iter {a : Addr} {es : Array (Int × Value)} {ep t} (ha : s.heap.get? a = some (setV es ep t)) (hf : t.fits es.size = true) (hl : t.led = ledOf w) (hrise : Rise t.place.toList) (hz : es.size ≤ 1000) {Q : Value → Shared → Prop}
    (h : ∀ I f ord h' d tk, ord.Perm (es.toList.map (·.2)) → a ≠ I → (∀ b o, s.heap.get? b = some o → h'.get? b = some o) → s.heap.objs.size ≤ I → (f = a ∨ s.heap.objs.size ≤ f) → IterAt w f I a es ep t ord 0 h' → Q (.ref I) { s with heap := h', drawn := d, toks := tk }) :
    wpAny (model prog w) A (pyIter (.ref a)) Q E s := by
  have hT : s.TypeIs (.ref a) "set" := ⟨_, ha, rfl⟩
  have hps : t.place.size = es.size := by
    unfold SetTable.fits at hf
    simp only [Bool.and_eq_true, beq_iff_eq, decide_eq_true_eq] at hf
    exact hf.1
  refine wpAny_pyIter_slot hT PySem.F.slot_set_iter (wpAny_call_entry PySem.F.slot_set_iter hT entry_set_iter' ?_ (PySem.F.args_set_iter_1 _))
  unfold Builtin.«frozenset.__iter__»
  refine wpAny_bind (show wpAny _ _ (Builtin.Frozenset.slot0 "__iter__" ⟨[.ref a], []⟩) _ _ _ from wpAny_pure ?_)
  refine wpAny_bind ?_
  unfold Builtin.Frozenset.sizeOf
  refine wpAny_bind (wpAny_setEntries_of ha rfl hf (wpAny_pure ?_))
  refine wpAny_bind ?_
  unfold setDrawn
  refine wpAny_bind (set_setState ha hf ?_)
  dsimp only
  refine wpAny_bind (setsByText_ok (wpAny_pure ?_))
  show wpAny _ _ (if (!byText w && (!t.plain && decide (es.size > 1))) = true then _ else _) _ _ _
  have last : ∀ (first : Value) (h1 : Heap) (d : Drawn) (f : Addr) (ord : List Value), ord.Perm (es.toList.map (·.2)) → (∀ b o, s.heap.get? b = some o → h1.get? b = some o) → s.heap.objs.size ≤ h1.objs.size → (f = a ∨ s.heap.objs.size ≤ f) →
      (∀ h' I, I = h1.objs.size → (∀ b o, h1.get? b = some o → h'.get? b = some o) → h'.get? a = some (setV es ep t) → h'.get? I = some { cls := .type "set_iterator", data := .fields #[first, .int 0 0, .ref a, .int es.size 0, .int ep 0] } → IterAt w f I a es ep t ord 0 h') →
      wpAny (model prog w) A.in1 (do
        let e ← setEpoch a
        let x ← newFields "set_iterator" [first, rawInt 0, .ref a, rawInt es.size, rawInt e]
        ret x) (fun fin s' => ∃ v, fin = .done (.ret v) ∧ ∃ T' r, s'.TypeIs v T' ∧ typeLookup (.type T') "__next__" = pure (some r) ∧ Q v s') E { s with heap := h1, drawn := d } := fun first h1 d f ord hp k hsz hfa hit => by
    have ha1 := k _ _ ha
    refine wpAny_bind (wpAny_setEpoch_of (s := { s with heap := h1, drawn := d }) ha1 rfl hf ?_)
    refine wpAny_bind (wpAny_newObj_type (wpAny_pure ⟨_, rfl, "set_iterator", _, ⟨_, Heap.get?_push_size _ rfl, rfl⟩, slot_si_next.lookup, ?_⟩))
    refine h h1.objs.size f ord _ d s.toks hp (Nat.ne_of_lt (Heap.lt_size ha1)) (fun b o e => Heap.get?_push_of_some _ (k _ _ e)) hsz hfa (hit _ _ rfl (fun b o e => Heap.get?_push_of_some _ e) (Heap.get?_push_of_some _ ha1) (Heap.get?_push_size _ rfl))
  by_cases hc : (!byText w && (!t.plain && decide (es.size > 1))) = true
  · rw [if_pos hc]
    refine wpAny_bind (drawOrder_ok es.size (List.range es.size) s _ List.length_range fun ys d hys => ?_)
    refine wpAny_bind (wpAny_newTuple ?_ (by rw [List.length_map, hys.length_eq, List.length_range]; have : sizeLine = 2 ^ 24 := rfl; lia))
    refine last _ _ d s.heap.objs.size (ys.filterMap fun p => (es[p]?).map (·.2)) ?_ (fun b o e => Heap.get?_push_of_some _ e) (by rw [Heap.size_push]; exact Nat.le_succ _) (.inr (Nat.le_refl _)) fun h' I hI k ha' hi' => ?_
    · have := hys.filterMap (fun p => (es[p]?).map (·.2))
      refine this.trans ?_
      have e := range_pick (es.toList.map (·.2))
      rw [List.length_map, Array.length_toList] at e
      rw [← e]
      have e2 : (fun (p : Nat) => (es[p]?).map (·.2)) = fun (p : Nat) => (es.toList.map (·.2))[p]? := by
        funext p; rw [List.getElem?_map, Array.getElem?_toList]
      rw [e2]
    · refine ⟨ha', _, hi', .inr (.inr ⟨ys, 0, rfl, ?_, k _ _ (Heap.get?_push_size _ rfl), rfl, fun p hp => List.mem_range.mp (hys.mem_iff.mp hp)⟩)⟩
      rw [hI, Heap.size_push]; exact Nat.ne_of_lt (Nat.lt_succ_self _)
  · rw [if_neg hc]
    refine wpAny_bind (wpAny_pure ?_)
    cases bt : byText w with
    | true =>
      refine last _ s.heap s.drawn a ((pickOrder (w.params.setOrder a ep) es).toList.map (·.2)) ((pick_perm _ _).map _) (fun b o e => e) (Nat.le_refl _) (.inl rfl) fun h' I hI k ha' hi' => ⟨ha', _, hi', .inl ⟨bt, rfl, rfl⟩⟩
    | false =>
      have hc' : (!t.plain && decide (es.size > 1)) = false := by rw [bt] at hc; simpa using hc
      refine last _ s.heap s.drawn a (es.toList.map (·.2)) (List.Perm.refl _) (fun b o e => e) (Nat.le_refl _) (.inl rfl) fun h' I hI k ha' hi' => ⟨ha', _, hi', .inr (.inl ⟨bt, hc', by rw [hl]; unfold ledOf; show (!byText w) = true; rw [bt]; rfl, rfl, ⟨0, rfl, ?_⟩, hps, hrise⟩)⟩
      refine x02 (below_ok hrise 0) fun b1 b2 b3 => ?_
      rcases Nat.eq_zero_or_pos (SetTable.below t.place 0) with z | z
      · exact z
      · exact absurd (b2 0 (by have : t.place.toList.toArray = t.place := rfl; rw [this] at b1; lia) z) (Nat.not_lt_zero _)
end Mine
end SSq8

section SSq9
open PySem PySem.W PySem.Calls PyProof.Rows PySem.SeqAt
set_option maxRecDepth 100000
namespace Mine
variable {prog : Program} {w : World} {A : Around} {E : Value → Shared → Prop} {s : Shared}
theorem hint_set {r : Addr} {Q : Bool → Shared → Prop} (hT : s.TypeIs (.ref r) "set") (h : Q false s) : wpAny (model prog w) A (Builtin.List.listLengthHint (.ref r)) Q E s := by
  unfold Builtin.List.listLengthHint
  refine wpAny_bind (wpAny_specialOf hT PySem.F.slot_set_len.lookup ?_)
  generalize hid : ("set.__len__" : String) = id0
  wp_delta
  rw [show splitId id0 = some ("set", "__len__") from by subst hid; decide +kernel]
  subst hid
  refine wpAny_bind (wpAny_isInstance (T := "set") (b := true) hT (by rw [isSubtype_type]; kernel_rfl) ?_)
  refine wpAny_ite_split (fun hab => absurd hab (by decide)) (fun _ => ?_)
  refine wpAny_ite_split (fun _ => ?_) (fun hab => absurd (by decide +kernel) hab)
  refine wpAny_bind (wpAny_typeOf hT ?_)
  exact wpAny_pure h
theorem set_extend {a S : Addr} {es : Array (Int × Value)} {ep t} {res : Value} {c₀ : Nat} {R : Result → Shared → Prop} (hh : A.handled = none) (ha : s.heap.get? a = some (setV es ep t)) (hf : t.fits es.size = true) (hl : t.led = ledOf w) (hrise : Rise t.place.toList) (hz : es.size ≤ 1000)
    (hS : s.heap.get? S = some { cls := .type "list", data := .seq #[] c₀ })
    (hR : ∀ h' tk d acc' c', acc'.toList.Perm (es.toList.map (·.2)) → (∀ b o, b ≠ S → s.heap.get? b = some o → h'.get? b = some o) → h'.get? S = some { cls := .type "list", dict := none, data := .seq acc' c', slots := #[] } → R (.ok (.ret res)) { s with heap := h', drawn := d, toks := tk }) :
    wpAny (model prog w) A.in1 (Builtin.List.listExtendWith (.ref S) (.ref a) res)
      (fun fin s' => match fin with | .done f => R (.ok f) s' | .again c' => c'.quiet = true ∧ codeAny (model prog w) A c' R s') (fun e s' => R (.error e) s') s := by
  have hSa : S ≠ a := fun q => by
    rw [q, ha] at hS
    exact absurd (congrArg Obj.cls (Option.some.inj hS)) (by intro z; exact absurd (Value.type.inj z) (by decide))
  have hT : s.TypeIs (.ref a) "set" := ⟨_, ha, rfl⟩
  unfold Builtin.List.listExtendWith
  refine wpAny_bind (wpAny_typeOf (T := "set") hT ?_)
  have h1 : Builtin.List.listSameRef (.ref S) (.ref a) = false := by simp [Builtin.List.listSameRef, hSa]
  have h2 : (Value.type "set" == Value.type "list") = false := by decide
  have h3 : (Value.type "set" == Value.type "tuple") = false := by decide
  simp only [h1, h2, h3, Bool.or_false, Bool.false_eq_true, if_false]
  refine wpAny_bind (set_iter ha hf hl hrise hz fun I f ord h' d tk hp hI k hIs hfa st => ?_)
  have hSI : S ≠ I := fun q => absurd (Heap.lt_size hS) (by rw [q]; exact Nat.not_lt.mpr hIs)
  have hS1 := k _ _ hS
  have W := set_walks (prog := prog) (w := w) (A := A.in1) (ord := ord) (f := f) (ep := ep) hh hI hf
  have hSf : S ∉ [I, a, f] := by
    simp only [List.mem_cons, List.not_mem_nil, or_false, not_or]
    refine ⟨hSI, hSa, fun q => ?_⟩
    rcases hfa with z | z
    · exact hSa (q.trans z)
    · exact absurd (Heap.lt_size hS) (by rw [q]; exact Nat.not_lt.mpr z)
  have hlen : ord.length = es.size := by rw [hp.length_eq, List.length_map, Array.length_toList]
  have key : ∀ (h : Heap) (c₁ tk : Nat), IterAt w f I a es ep t ord 0 h → (∀ b o, b ≠ S → s.heap.get? b = some o → h.get? b = some o) →
      h.get? S = some { cls := .type "list", data := .seq #[] c₁ } → codeAny (model prog w) A (.builtin "list.extend.loop" ⟨[.ref S, .ref I, res], []⟩) R { s with heap := h, drawn := d, toks := tk } := by
    intro h c₁ tk hst hk hS₁
    refine codeAny_extend_loopS W.toS (by have : sizeLine = 2 ^ 24 := rfl; lia) S hSf res ord.length 0 _ #[] c₁ rfl (Nat.zero_le _) hst hS₁ (ItemsOf.nil _) fun s' acc' c' hm hS' hacc => ?_
    rw [Moved.eq_with hm]
    refine hR s'.heap s'.toks d acc' c' ?_ (fun b o hb e => hm.heap b o (fun hmem => ?_) (hk b o hb e)) hS'
    · have : acc'.toList = ord := by
        refine List.ext_getElem? fun j => ?_
        rcases Nat.lt_or_ge j ord.length with z | z
        · have hj : j < acc'.size := by rw [hacc.1]; exact z
          rw [Array.getElem?_toList]
          exact (Array.getElem?_eq_getElem hj).trans (hacc.2 j _ (Array.getElem?_eq_getElem hj)).symm
        · rw [List.getElem?_eq_none z, List.getElem?_eq_none (by rw [Array.length_toList, hacc.1]; exact z)]
      rw [this]; exact hp
    · rcases List.mem_cons.mp hmem with e' | hmem
      · exact hb e'
      · exact absurd (Heap.lt_size e) (by rw [List.mem_singleton.mp hmem]; exact Nat.not_lt.mpr hIs)
  refine wpAny_bind (wpAny_holding (hint_set ⟨_, k _ _ ha, rfl⟩ ?_))
  refine wpAny_ite_split (fun _ => ?_) (fun _ => wpAny_pure ⟨plainId_quiet PySem.F.plain_extend_loop _, key _ c₀ _ st (fun b o _ e => k b o e) hS1⟩)
  refine wpAny_bind (wpAny_rule ?_)
  refine wpAny_bind ?_
  show wpAny _ _ (updateSeq S (·.push .none) >>= fun _ => updateSeq S (·.pop)) _ _ _
  refine wpAny_bind (wpAny_updateSeq hS1 rfl ?_)
  have hS₂ := Heap.get?_update_self (Obj.mapSeq (·.push Value.none)) hS1 rfl
  refine wpAny_updateSeq (hz := by seq_fits) hS₂ rfl ?_
  have hS₃ := Heap.get?_update_self (Obj.mapSeq (·.pop)) hS₂ rfl
  refine wpAny_pure ⟨plainId_quiet PySem.F.plain_extend_loop _, key _ _ _ (st.keeps fun b hb o e => ?_) (fun b o hb e => ?_) hS₃⟩
  · have hbS : b ≠ S := fun h => hSf (h ▸ hb)
    exact (Heap.get?_update_other _ _ (Ne.symm hbS)).trans ((Heap.get?_update_other _ _ (Ne.symm hbS)).trans e)
  · exact (Heap.get?_update_other _ _ (Ne.symm hb)).trans ((Heap.get?_update_other _ _ (Ne.symm hb)).trans (k b o e))
theorem set_collect {a : Addr} {es : Array (Int × Value)} {ep t} {R : List Value → Shared → Prop} (hh : A.handled = none) (ha : s.heap.get? a = some (setV es ep t)) (hf : t.fits es.size = true) (hl : t.led = ledOf w) (hrise : Rise t.place.toList) (hz : es.size ≤ 1000)
    (h : ∀ (h' : Heap) (tk : Nat) (d : Drawn) (acc : List Value), acc.Perm (es.toList.map (·.2)) → (∀ b o, s.heap.get? b = some o → h'.get? b = some o) → R acc { s with heap := h', drawn := d, toks := tk }) :
    wpAny (model prog w) A (collect (.ref a)) R E s := by
  unfold collect
  refine wpAny_bind (wpAny_runValue (codeAny_builtin entry_proto_collect' ?_))
  rw [Around.under_plainId PySem.F.plain_proto_collect _]
  show wpAny _ A.in1 (newList [] >>= fun l => again (.builtin "list.__iadd__" ⟨[l, .ref a], []⟩)) _ _ s
  refine wpAny_bind (wpAny_newObj_type ?_)
  refine wpAny_pure ⟨plainId_quiet PySem.F.plain_list_iadd _, codeAny_builtin entry_list_iadd' ?_⟩
  rw [Around.under_plainId PySem.F.plain_list_iadd _]
  have hS₁ : (s.heap.push { cls := .type "list", data := .seq ([] : List Value).toArray }).get? s.heap.objs.size = some { cls := .type "list", data := .seq #[] } := Heap.get?_push_size _ rfl
  show wpAny _ A.in1 (Builtin.List.listExtendWith (.ref s.heap.objs.size) (.ref a) (.ref s.heap.objs.size)) _ _ _
  have key := set_extend (prog := prog) (w := w) (A := A) (s := { s with heap := s.heap.push { cls := .type "list", data := .seq ([] : List Value).toArray } }) (a := a) (S := s.heap.objs.size) (res := .ref s.heap.objs.size) (c₀ := 0)
    (R := fun (q : Result) (s' : Shared) => ∃ (h' : Heap) (tk : Nat) (d : Drawn) (acc' : Array Value) (c' : Nat), q = .ok (.ret (.ref s.heap.objs.size)) ∧ s' = { s with heap := h', drawn := d, toks := tk } ∧
      (∀ b o, s.heap.get? b = some o → h'.get? b = some o) ∧ h'.get? s.heap.objs.size = some { cls := .type "list", dict := none, data := .seq acc' c', slots := #[] } ∧ acc'.toList.Perm (es.toList.map (·.2)))
    hh (Heap.get?_push_of_some _ ha) hf hl hrise hz hS₁
    (fun h' tk d acc' c' hacc hk hS' => ⟨h', tk, d, acc', c', rfl, rfl, fun b o e => hk b o (Nat.ne_of_lt (Heap.lt_size e)) (Heap.get?_push_of_some _ e), hS', hacc⟩)
  refine wpAny_mono key (fun fin s' x => ?_) fun e s' x => ?_
  · cases fin with
    | done f =>
      refine x40 x fun h' tk d acc' z1 => ?_; clear x; refine x14 z1 fun c' e z2 hk hS' hacc => ?_; clear z1; subst z2
      cases e
      show wpAny _ A (load s.heap.objs.size >>= _) _ _ _
      refine wpAny_bind (wpAny_load hS' ?_)
      exact wpAny_pure (h h' tk d _ hacc hk)
    | again c₁ =>
      refine ⟨x.1, codeAny_mono x.2 fun q s₂ y => ?_⟩
      refine x40 y fun h' tk d acc' z21 => ?_; clear y; refine x14 z21 fun c' z22 z23 hk hS' hacc => ?_; clear z21; subst z22; subst z23
      show wpAny _ A (load s.heap.objs.size >>= _) _ _ _
      refine wpAny_bind (wpAny_load hS' ?_)
      exact wpAny_pure (h h' tk d _ hacc hk)
  · refine x40 x fun _ _ _ _ z41 => ?_; clear x; refine x11 z41 fun _ e' _ => ?_; clear z41
    cases e'
/-- sorted of a set: what is left is the sort of a list -/
theorem set_sorted {a : Addr} {es : Array (Int × Value)} {ep t} {Q : Value → Shared → Prop} (hh : A.handled = none) (ha : s.heap.get? a = some (setV es ep t)) (hf : t.fits es.size = true) (hl : t.led = ledOf w) (hrise : Rise t.place.toList) (hz : es.size ≤ 1000)
    (h : ∀ (D : Addr) (h' : Heap) (tk : Nat) (d : Drawn) (vs : List Value), vs.Perm (es.toList.map (·.2)) → (∀ b o, s.heap.get? b = some o → @LT.lt Nat _ b D) → (∀ b o, s.heap.get? b = some o → h'.get? b = some o) → h'.get? D = some (lstV vs 0) →
      wpAny (model prog w) A.in1 (call (.builtin "list.sort") [.ref D]) (fun _ s' => Q (.ref D) s') E { s with heap := h', drawn := d, toks := tk }) :
    wpAny (model prog w) A (call (.builtin "sorted") [.ref a]) Q E s := by
  refine call_function_entry kind_sorted plain_sorted entry_sorted (args_sorted1 _) ?_
  unfold Builtin.«sorted»
  refine wpAny_bind (m := checkCount "sorted" 1 1 _) (wpAny_pure ?_)
  refine wpAny_bind (set_collect (A := A.in1) hh ha hf hl hrise hz fun h' tk d acc hacc hk => ?_)
  have hn : acc.length ≤ sizeLine := by
    have : sizeLine = 2 ^ 24 := rfl
    rw [hacc.length_eq, List.length_map, Array.length_toList]; lia
  refine wpAny_bind (wpAny_newList ?_ hn)
  have hg := h h'.objs.size (h'.push { cls := .type "list", data := .seq acc.toArray }) tk d acc hacc (fun b o e => Heap.lt_size (hk _ _ e)) (fun b o e => Heap.get?_push_of_some _ (hk _ _ e)) (Heap.get?_push_size _ rfl)
  refine wpAny_bind (wpAny_holding (wpAny_mono hg (fun _ s' x => ?_) fun _ _ e => e))
  exact wpAny_pure ⟨_, rfl, x⟩
end Mine
end SSq9

section SSq11
open PySem PySem.W PySem.Calls PyProof.Rows PySem.SeqAt
set_option maxRecDepth 100000
set_option maxHeartbeats 2000000
namespace Mine
variable {prog : Program} {w : World} {A : Around} {E : Value → Shared → Prop} {s : Shared}
theorem sort_by {O : KeyOrd} (key : Nat → O.α) (κ : SortKind) {D : Addr} {vs : List Value} {e : Nat} {P : PySem.Fin → Shared → Prop} (ho : s.heap.get? D = some (lstV vs e)) (h64 : vs.length < 64)
    (hkind : 2 ≤ vs.length → ∀ (s' : Shared) (Q : SortKind → Shared → Prop) (E : Value → Shared → Prop), (∀ b o, b ≠ D → s.heap.get? b = some o → s'.heap.get? b = some o) → Q κ s' → wpAny (model prog w) A (keyKind' vs.toArray) Q E s')
    (hask : ∀ i j, i < vs.length → j < vs.length → ∀ (s' : Shared) (C : Bool → Shared → Prop), (∀ b o, b ≠ D → s.heap.get? b = some o → s'.heap.get? b = some o) → C (O.blt (key i) (key j)) s' → wpAny (model prog w) A (keyLt' κ (vs.getD i Value.none) (vs.getD j Value.none)) C (fun _ _ => False) s')
    (h : ∀ h' c (p : Array Nat), PB vs.length p → Sorted' key p vs.length → (∀ b o, b ≠ D → s.heap.get? b = some o → h'.get? b = some o) → h'.get? D = some (lstV (p.toList.map fun i => vs.getD i Value.none) c) → P (.done (.ret .none)) { s with heap := h' }) :
    wpAny (model prog w) A (Builtin.«list.sort» ⟨[.ref D], []⟩) P E s := by
  obtain ⟨e1, ho1⟩ : ∃ e1, (s.heap.update D (Obj.mapSeq fun _ => (#[] : Array Value))).get? D = some (seqObj "list" #[] e1) := ⟨_, get?_update_seq ho fun _ => #[]⟩
  have k1 : ∀ b o, b ≠ D → s.heap.get? b = some o → (s.heap.update D (Obj.mapSeq fun _ => (#[] : Array Value))).get? b = some o := fun b o n x => by rw [Heap.get?_update_of_ne _ (Ne.symm n)]; exact x
  rw [list_sort_plain]
  refine wpAny_bind (listItems_at ho rfl ?_)
  refine wpAny_bind (listUpdate_at ho rfl ?_ (by rw [List.size_toArray, sizeLine_eq]; lia) (Nat.zero_le _))
  refine wpAny_bind (seqEpoch_at ho1 rfl ?_)
  refine wpAny_bind (wpAny_newTuple ?_ (by show vs.length ≤ _; rw [sizeLine_eq]; lia))
  refine wpAny_bind (wpAny_newList ?_ (Nat.zero_le _))
  refine wpAny_holding ?_
  show wpAny (model prog w) A _ P E { s with heap := ((s.heap.update D (Obj.mapSeq fun _ => (#[] : Array Value))).push (seqObj "tuple" vs.toArray 0)).push (seqObj "list" #[] 0) }
  dsimp only
  have ho2 : (((s.heap.update D (Obj.mapSeq fun _ => (#[] : Array Value))).push (seqObj "tuple" vs.toArray 0)).push (seqObj "list" #[] 0)).get? D = some (seqObj "list" #[] e1) := Heap.get?_push_of_some _ (Heap.get?_push_of_some _ ho1)
  have k2 : ∀ b o, b ≠ D → s.heap.get? b = some o → (((s.heap.update D (Obj.mapSeq fun _ => (#[] : Array Value))).push (seqObj "tuple" vs.toArray 0)).push (seqObj "list" #[] 0)).get? b = some o := fun b o n x => Heap.get?_push_of_some _ (Heap.get?_push_of_some _ (k1 b o n x))
  generalize ((s.heap.update D (Obj.mapSeq fun _ => (#[] : Array Value))).push (seqObj "tuple" vs.toArray 0)).push (seqObj "list" #[] 0) = h2 at ho2 k2 ⊢
  by_cases hn2 : vs.length < 2
  case' pos =>
    have hn : vs.toArray.size < 2 := by rw [List.size_toArray]; exact hn2
    rw [if_pos hn, if_pos hn]
    refine wpAny_bind (wpAny_pure ?_)
    refine wpAny_bind (wpAny_pure ?_)
    obtain ⟨p, hp, hs, hout, hf⟩ : ∃ p : Array Nat, PB vs.length p ∧ Sorted' key p vs.length ∧ (arrOf (SortSt.mk' general' (vs.toArray.zip vs.toArray) #[] 7 none)).map (·.2) = List.toArray (p.toList.map fun i => vs.getD i Value.none) ∧ failedOf (SortSt.mk' general' (vs.toArray.zip vs.toArray) #[] 7 none) = none := by
      have h1 : ∀ l : List Value, (l.zip l).map (·.2) = l := fun l => by
        induction l with
        | nil => rfl
        | cons x l ih => rw [List.zip_cons_cons, List.map_cons, ih]
      have h2' : ∀ l : List Value, (List.range l.length).map (fun i => l.getD i Value.none) = l := fun l => by
        refine List.ext_getElem? fun j => ?_
        rw [List.getElem?_map]
        rcases Nat.lt_or_ge j l.length with z | z
        · rw [List.getElem?_eq_getElem (by simpa using z)]; simp [z]
        · rw [List.getElem?_eq_none (by simpa using z), List.getElem?_eq_none z]; rfl
      have hsame : ∀ i j, i ≤ j → j < vs.length → i = j := fun i j a b => by lia
      refine ⟨(List.range vs.length).toArray, List.Perm.refl _, fun i j a b => by rw [hsame i j a b]; exact KeyOrd.kle_refl _, ?_, rfl⟩
      show ((vs.toArray.zip vs.toArray).map (·.2)) = _
      apply Array.ext'
      simp only [Array.toList_map, Array.toList_zip]
      rw [h1, h2']
    generalize SortSt.mk' general' (vs.toArray.zip vs.toArray) #[] 7 none = st' at hout hf ⊢
  case' neg =>
    have hn : ¬ vs.toArray.size < 2 := by rw [List.size_toArray]; exact hn2
    rw [if_neg hn, if_neg hn]
    refine wpAny_bind (hkind (by lia) _ _ _ k2 ?_)
    have hgo := go_wp (cmp := kas_ask prog w A κ vs) (s := { s with heap := h2 }) (G := fun p s' => s' = { s with heap := h2 } ∧ PB vs.length p ∧ Sorted' key p vs.length) (fun i j C hi hj hC => hask i j hi hj _ C k2 hC) (fun p hp => ⟨rfl, hp⟩) (go_sort (key := key) (n := vs.length) (by lia))
    refine wpAny_bind (wpAny_mono (kat_run (E := E) (Q := fun st' s' => ∃ p : Array Nat, arrOf st' = p.map (kas_item (vs.toArray.zip vs.toArray)) ∧ failedOf st' = none ∧ s' = { s with heap := h2 } ∧ PB vs.length p ∧ Sorted' key p vs.length)
      rfl (by lia) h64 (fun p' st' s' a1 a2 a3 a4 => ⟨p', a2, a3, a4⟩) hgo) ?_ fun _ _ e => e)
    rintro ⟨⟨⟩, st'⟩ s' ⟨p, har, hf, rfl, hp, hs⟩
    have hout := kat_snds rfl har
  all_goals
    dsimp only
    have hsz : (List.toArray (p.toList.map fun i => vs.getD i Value.none)).size = vs.length := by rw [List.size_toArray, List.length_map, Array.length_toList, hp.size]
    rw [hout]
    obtain ⟨c2, hc2⟩ : ∃ c2, (h2.update D (Obj.mapSeq fun _ => List.toArray (p.toList.map fun i => vs.getD i Value.none))).get? D = some (seqObj "list" (List.toArray (p.toList.map fun i => vs.getD i Value.none)) c2) := ⟨_, get?_update_seq ho2 fun _ => List.toArray (p.toList.map fun i => vs.getD i Value.none)⟩
    refine wpAny_bind (seqEpoch_at ho2 rfl ?_)
    refine wpAny_bind (listUpdate_at ho2 rfl ?_ (Nat.zero_le _) (Nat.le_trans (Nat.le_of_eq hsz) (by rw [sizeLine_eq]; lia)))
    rw [hf]
    simp only [bne_self_eq_false, Bool.false_eq_true, if_false]
    exact wpAny_pure (h _ c2 p hp hs (fun b o n x => by rw [Heap.get?_update_of_ne _ (Ne.symm n)]; exact k2 b o n x) hc2)
theorem call_sort {O : KeyOrd} (key : Nat → O.α) (κ : SortKind) {D : Addr} {vs : List Value} {e : Nat} {Q : Value → Shared → Prop} (ho : s.heap.get? D = some (lstV vs e)) (h64 : vs.length < 64)
    (hkind : 2 ≤ vs.length → ∀ (s' : Shared) (Q : SortKind → Shared → Prop) (E : Value → Shared → Prop), (∀ b o, b ≠ D → s.heap.get? b = some o → s'.heap.get? b = some o) → Q κ s' → wpAny (model prog w) A.in1 (keyKind' vs.toArray) Q E s')
    (hask : ∀ i j, i < vs.length → j < vs.length → ∀ (s' : Shared) (C : Bool → Shared → Prop), (∀ b o, b ≠ D → s.heap.get? b = some o → s'.heap.get? b = some o) → C (O.blt (key i) (key j)) s' → wpAny (model prog w) A.in1 (keyLt' κ (vs.getD i Value.none) (vs.getD j Value.none)) C (fun _ _ => False) s')
    (h : ∀ h' c (p : Array Nat), PB vs.length p → Sorted' key p vs.length → (∀ b o, b ≠ D → s.heap.get? b = some o → h'.get? b = some o) → h'.get? D = some (lstV (p.toList.map fun i => vs.getD i Value.none) c) → Q .none { s with heap := h' }) :
    wpAny (model prog w) A (call (.builtin "list.sort") [.ref D]) Q E s :=
  wpAny_call_entry slot_list_sort ⟨_, ho, rfl⟩ entry_list_sort (sort_by key κ ho h64 hkind hask fun h' c p a b k e => ⟨_, rfl, h h' c p a b k e⟩) (args_list_sort _)
end Mine
end SSq11

section SSq12
open PySem PySem.W PySem.Calls PyProof.Rows PySem.SeqAt
set_option maxRecDepth 100000
set_option maxHeartbeats 2000000
namespace Mine
variable {prog : Program} {w : World} {K : Frag} {A : Around} {α : Type} {g : Led}
/-- literals: their keys -/
noncomputable def litKey (p : Int × Int) : TK := [.inl p.1, .inr "!=", .inl p.2]
theorem litKey_inj {p q : Int × Int} (h : litKey p = litKey q) : p = q := by
  unfold litKey at h
  injection h with h1 h2; injection h2 with _ h2; injection h2 with h2 _; injection h1 with h1; injection h2 with h2
  exact Prod.ext h1 h2
/-- a literal that g knows, at a heap -/
noncomputable def LR (prog : Program) (w : World) (g : Led) (h : Heap) (k : TK) (v : Value) : Prop := TR prog w h k v ∧ ∃ p, k = litKey p ∧ Lit g p v
theorem is_int (i : Int) (t : Tok) : (bothKind prog w).is (.inl i) (.int i t) = true := intKind_is prog w i t
theorem is_str (x : Str) (t : Tok) : (bothKind prog w).is (.inr x) (.str x t) = true := by show Value.isStrOf x (.str x t) = true; simp [Value.isStrOf]
theorem Lit.lr {F : Led} {h : Heap} {p : Int × Int} {v : Value} (x : Lit g p v) (r : Rep K g F h) : LR prog w g h (litKey p) v := by
  refine ⟨?_, p, rfl, x⟩
  refine x43 x.open fun a x1 t y1 z1 z2 z3 z4 => ?_; subst z1; obtain ⟨o, ho, n, e⟩ := z2; refine x10 z3 fun t1 z5 => ?_; clear z3; subst z5; refine x10 z4 fun t2 z6 => ?_; clear z4; subst z6
  subst e
  exact ⟨a, rfl, _, _, n, r.own _ _ ho, rfl, rfl, .cons (is_int _ _) (.cons (is_str _ _) (.cons (is_int _ _) .nil))⟩
theorem kind_lits {ps : List (Int × Int)} {B : Nat} (hB : B ≤ 17) (hu : A.units < cLine) (few : ∀ qs : List (Int × Int), qs.Nodup → (∀ q ∈ qs, q ∈ ps) → qs.length ≤ B) : SetKind prog w A (tkHash prog w) (LR prog w g) (ps.map litKey) B where
  hash := fun s p v Q E r hq => by
    refine x01 r fun z21 _ => ?_; clear r; refine x11 z21 fun c z22 hk => ?_; clear z21; subst z22
    exact wpAny_pyHash_tuple hu hk (hq _)
  add := fun s S led ks p v Q E hS hp r hl hq => by
    refine x11 (List.mem_map.mp hp) fun q hq' z41 => ?_; subst z41
    have r' := r
    refine x01 r' fun z61 _ => ?_; clear r'; refine x11 z61 fun c z62 hk => ?_; clear z61; subst z62
    exact add_ok (R := LR prog w g) (fun h k v x => x.1) (fun h h' bs p v x hb k => ⟨x.1.keeps bs hb k, x.2⟩) rfl hS r hu (by lia) fun b h' ks' a1 _ a2 a3 => hq b h' ks' a1 a2 a3
  keep := fun h h' bs p v x hb k => ⟨x.1.keeps bs hb k, x.2⟩
  few := fun qs nd hin => by
    have : ∃ qs' : List (Int × Int), qs = qs'.map litKey ∧ ∀ q ∈ qs', q ∈ ps := by
      clear nd
      induction qs with
      | nil => exact ⟨[], rfl, fun _ m => (nomatch m)⟩
      | cons q qs ih =>
        refine x11 (ih fun x hx => hin x (.tail _ hx)) fun qs' z81 h2 => ?_; subst z81
        refine x11 (List.mem_map.mp (hin q (.head _))) fun p hp z101 => ?_; subst z101
        exact ⟨p :: qs', rfl, fun x hx => by
          rcases List.mem_cons.mp hx with rfl | hx
          · exact hp
          · exact h2 x hx⟩
    refine x11 this fun qs' z121 h2 => ?_; clear this; subst z121
    rw [List.length_map]
    refine few qs' ?_ h2
    rw [List.nodup_iff_pairwise_ne] at nd ⊢
    exact (List.pairwise_map.mp nd).imp fun {a b} h e => h (by rw [e])
theorem kind_ints {ps : List Int} {B : Nat} (hB : B ≤ 3) (few : ∀ qs : List Int, qs.Nodup → (∀ q ∈ qs, q ∈ ps) → qs.length ≤ B) : SetKind prog w A hashInt IR ps B where
  hash := fun s p v Q E r hq => by
    refine x10 r fun t z141 => ?_; clear r; subst z141
    exact wpAny_pyHash_int (hq _)
  add := fun s S led ks p v Q E hS hp r hl hq => by
    refine x10 r fun t z161 => ?_; clear r; subst z161
    exact add_int hS (by lia) fun b h' ks' a1 a2 a3 => hq b h' ks' a1 a2 a3
  keep := fun h h' bs p v x hb k => x
  few := few
/-- a set that g knows: what stands in it, in some order -/
noncomputable def SetO (w : World) (R : α → Value → Prop) (qs : List α) (o : Obj) : Prop := ∃ es ep t, o = setV es ep t ∧ t.fits es.size = true ∧ t.led = ledOf w ∧ Rise t.place.toList ∧ es.size ≤ 1000 ∧ ∃ qs', qs'.Perm qs ∧ All2 R qs' (es.toList.map (·.2))
theorem SetOk.obj {κ : Type} {hp : κ → Int} {R : Heap → κ → Value → Prop} {R0 : α → Value → Prop} {h : Heap} {S : Addr} {ks : List κ} (x : SetOk hp R (ledOf w) h S ks) (f : κ → α) (hR : ∀ k v, R h k v → R0 (f k) v) : ∃ o, h.get? S = some o ∧ SetO w R0 (ks.map f) o := by
  refine x40 x fun M bs es ep z181 => ?_; clear x; refine x13 z181 fun t ho x hsz hpm => ?_; clear z181
  refine ⟨_, ho, es, ep, t, rfl, x.fits, x.hled, ?_, ?_, (bs.map (·.2)).map f, hpm.map f, ?_⟩
  · rw [x.of.2.1]; exact x.tab.rise
  · rw [← Array.length_toList, ← x.ents.len]; rcases hsz with ⟨_, q⟩ | ⟨_, q⟩ <;> lia
  · have : ∀ {b : List (Nat × κ)} {e : List (Int × Value)}, All2 (EntT hp (R h)) b e → All2 R0 ((b.map (·.2)).map f) (e.map (·.2)) := fun {b e} z => by
      induction z with
      | nil => exact .nil
      | cons r _ ih => exact .cons (hR _ _ r.2) ih
    exact this x.ents
/-- a heap grown by one known object -/
theorem Rep.grown {F : Led} {h h' : Heap} {a : Addr} {o : Obj} (r : Rep K g F h) (hn : ∀ b x, h.get? b = some x → @LT.lt Nat _ b a) (k : ∀ b x, h.get? b = some x → h'.get? b = some x) (ho : h'.get? a = some o) : g a = none ∧ Rep K (g.put a o) F h' := by
  have ng : ∀ b x, h.get? b = some x → b ≠ a := fun b x e => Nat.ne_of_lt (hn b x e)
  refine x10 r.fx.wit fun kw hkw => ?_
  have la : 386 ≤ a := hn _ _ (r.fx.k _ _ hkw).2
  have fa : F a = none := by
    cases q : F a with
    | none => rfl
    | some x => exact absurd rfl (ng _ _ (r.fr _ _ q))
  refine ⟨?_, fun b x e => ?_, fun b x e => k _ _ (r.fr _ _ e), fun b x e => ?_, fun b x e => ?_, r.lowf, r.fx.to fun b x _ e => k _ _ e⟩
  · cases q : g a with
    | none => rfl
    | some x => exact absurd rfl (ng _ _ (r.own _ _ q))
  · by_cases q : b = a
    · subst q; rw [put_self] at e; cases e; exact ho
    · rw [put_ne _ _ q] at e; exact k _ _ (r.own _ _ e)
  · by_cases q : b = a
    · subst q; exact fa
    · rw [put_ne _ _ q] at e; exact r.dj _ _ e
  · by_cases q : b = a
    · subst q; exact la
    · rw [put_ne _ _ q] at e; exact r.lowg _ _ e
theorem Ev.setLitsOf {l : Addr} {ps : List (Int × Int)} {P : Value → Led → Prop} (hF : ∀ (F : Led) (s : Shared), Rep K g F s.heap → Fills prog w A.in1 (tkHash prog w) (LR prog w g) (ps.map litKey) (.ref l) s.heap)
    (p : ∀ S o qs, g S = none → SetO w (Lit g) qs o → qs.Nodup → (∀ q, q ∈ qs ↔ q ∈ ps) → P (.ref S) (g.put S o)) : Ev prog w K A (PySem.call (.type "set") [.ref l] []) g P := by
  intro F s Q E r k
  refine call_set (κ := TK) (R := LR prog w g) (ps := ps.map litKey) (hF F s r) fun h' tk hS hk => ?_
  refine x12 hS fun qs hso nd hm => ?_; clear hS
  have : ∃ qs' : List (Int × Int), qs = qs'.map litKey := by
    have hin : ∀ q ∈ qs, ∃ p : Int × Int, q = litKey p := fun q hq => by
      refine x11 (List.mem_map.mp ((hm q).mp hq)) fun p _ e => ?_
      exact ⟨p, e.symm⟩
    clear hso nd hm
    induction qs with
    | nil => exact ⟨[], rfl⟩
    | cons q qs ih =>
      refine x10 (ih fun x hx => hin x (.tail _ hx)) fun qs' z261 => ?_; subst z261
      refine x10 (hin q (.head _)) fun p z281 => ?_; subst z281
      exact ⟨p :: qs', rfl⟩
  refine x10 this fun qs' z301 => ?_; clear this; subst z301
  let f : TK → Int × Int := fun k => match k with | [.inl a, _, .inl b] => (a, b) | _ => (0, 0)
  have hf : ∀ p, f (litKey p) = p := fun p => rfl
  refine x11 (hso.obj (R0 := Lit g) f (fun k v x => by obtain ⟨_, p, rfl, z⟩ := x; rw [hf]; exact z)) fun o ho hO => ?_
  have e : (qs'.map litKey).map f = qs' := by rw [List.map_map]; exact (List.map_congr_left fun p _ => hf p).trans (List.map_id _)
  rw [e] at hO
  refine x01 (r.grown (fun b x e => Heap.lt_size e) (fun b x e => hk b x (Heap.lt_size e) e) ho) fun g1 r1 => ?_
  refine k _ _ h' s.drawn tk (p _ o qs' g1 hO ?_ fun q => ?_) r1
  · rw [List.nodup_iff_pairwise_ne] at nd ⊢
    exact (List.pairwise_map.mp nd).imp fun {a b} h e => h (by rw [e])
  · constructor
    · intro hq
      refine x11 (List.mem_map.mp ((hm _).mp (List.mem_map_of_mem hq))) fun p hp e => ?_
      rw [← litKey_inj e]; exact hp
    · intro hq
      refine x11 (List.mem_map.mp ((hm _).mpr (List.mem_map_of_mem hq))) fun p hp e => ?_
      rw [← litKey_inj e]; exact hp
theorem lits_lr {F : Led} {h : Heap} (r : Rep K g F h) {a : List (Int × Int)} {b : List Value} (z : All2 (Lit g) a b) : All2 (LR prog w g h) (a.map litKey) b := by
  induction z with
  | nil => exact .nil
  | cons r' _ ih => exact .cons (r'.lr r) ih
theorem Ev.setLits {l : Addr} {xs : List Value} {ps : List (Int × Int)} {P : Value → Led → Prop} (hh : A.handled = none) (hl : At g l (LstO xs)) (hx : All2 (Lit g) ps xs) (hu : A.units + 12 < cLine) (few : ∀ qs : List (Int × Int), qs.Nodup → (∀ q ∈ qs, q ∈ ps) → qs.length ≤ 17)
    (p : ∀ S o qs, g S = none → SetO w (Lit g) qs o → qs.Nodup → (∀ q, q ∈ qs ↔ q ∈ ps) → P (.ref S) (g.put S o)) : Ev prog w K A (PySem.call (.type "set") [.ref l] []) g P :=
  .setLitsOf (fun F s r => fills_list (kind_lits (Nat.le_refl _) (by show A.units + 1 + 1 + 1 < cLine; lia) few) hh (hl.lst r) (by simpa using lits_lr r hx)) p
theorem Ev.setLitsT {l : Addr} {xs : List Value} {ps : List (Int × Int)} {P : Value → Led → Prop} (hh : A.handled = none) (hl : At g l (TupO xs)) (hx : All2 (Lit g) ps xs) (hu : A.units + 12 < cLine) (few : ∀ qs : List (Int × Int), qs.Nodup → (∀ q ∈ qs, q ∈ ps) → qs.length ≤ 17)
    (p : ∀ S o qs, g S = none → SetO w (Lit g) qs o → qs.Nodup → (∀ q, q ∈ qs ↔ q ∈ ps) → P (.ref S) (g.put S o)) : Ev prog w K A (PySem.call (.type "set") [.ref l] []) g P :=
  .setLitsOf (fun F s r => fills_tuple (kind_lits (Nat.le_refl _) (by show A.units + 1 + 1 + 1 < cLine; lia) few) hh (hl.tup r) (by simpa using lits_lr r hx)) p
theorem Ev.setInts {l : Addr} {xs : List Value} {ps : List Int} {P : Value → Led → Prop} (hh : A.handled = none) (hl : At g l (LstO xs)) (hx : All2 IsI ps xs) (hps : ps.length ≤ 3)
    (p : ∀ S o qs, g S = none → SetO w IsI qs o → qs.Nodup → (∀ q, q ∈ qs ↔ q ∈ ps) → P (.ref S) (g.put S o)) : Ev prog w K A (PySem.call (.type "set") [.ref l] []) g P := by
  intro F s Q E r k
  refine call_set (κ := Int) (R := IR) (ps := ps) (fills_list (kind_ints (B := 3) (Nat.le_refl _) fun qs nd h => Nat.le_trans (nodup_len nd h) hps) hh (hl.lst r) (show All2 (IR s.heap) ps xs from hx.mono fun p v r => r)) fun h' tk hS hk => ?_
  refine x12 hS fun qs hso nd hm => ?_; clear hS
  refine x11 (hso.obj (R0 := IsI) id (fun k v x => x)) fun o ho hO => ?_
  rw [List.map_id] at hO
  refine x01 (r.grown (fun b x e => Heap.lt_size e) (fun b x e => hk b x (Heap.lt_size e) e) ho) fun g1 r1 => ?_
  exact k _ _ h' s.drawn tk (p _ o qs g1 hO nd hm) r1
theorem all2_pick {β : Type} {R : α → β → Prop} {a : List α} {b : List β} (x : All2 R a b) (d : β) : ∀ {l : List Nat}, (∀ i ∈ l, i < a.length) → All2 R (l.filterMap (a[·]?)) (l.map fun i => b.getD i d)
  | [], _ => .nil
  | i :: l, h => by
    have hi := h i (.head _)
    refine x11 (x.at' (List.getElem?_eq_getElem hi)) fun y hy r => ?_
    rw [List.filterMap_cons, List.getElem?_eq_getElem hi, List.map_cons]
    have e : b.getD i d = y := by rw [List.getD_eq_getElem?_getD, hy]; rfl
    rw [e]
    exact .cons r (all2_pick x d fun j hj => h j (.tail _ hj))
theorem pick_getElem {a : List α} : ∀ {l : List Nat}, (∀ i ∈ l, i < a.length) → ∀ j : Nat, (l.filterMap (a[·]?))[j]? = (l[j]?).bind (a[·]?)
  | [], _, j => by simp
  | i :: l, h, j => by
    have hi := h i (.head _)
    rw [List.filterMap_cons, List.getElem?_eq_getElem hi]
    cases j with
    | zero => simp [hi]
    | succ j => simpa using pick_getElem (fun q hq => h q (.tail _ hq)) j
/-- sorted(S), S a set that g knows -/
theorem Ev.sortedSet {O : KeyOrd} {R0 : α → Value → Prop} (f : α → O.α) (dflt : O.α) (κ : SortKind) {S : Addr} {qs : List α} {P : Value → Led → Prop} (hh : A.handled = none) (hS : At g S (SetO w R0 qs)) (hq : qs.length ≤ 60)
    (hkind : ∀ (F : Led) (s : Shared) (ps : List α) (vs : List Value) (Q : SortKind → Shared → Prop) (E : Value → Shared → Prop), Rep K g F s.heap → All2 R0 ps vs → 2 ≤ vs.length → Q κ s → wpAny (model prog w) A.in1.in1 (keyKind' vs.toArray) Q E s)
    (hask : ∀ (F : Led) (s : Shared) (p q : α) (x y : Value) (C : Bool → Shared → Prop), Rep K g F s.heap → R0 p x → R0 q y → C (O.blt (f p) (f q)) s → wpAny (model prog w) A.in1.in1 (keyLt' κ x y) C (fun _ _ => False) s)
    (p : ∀ D ss vs c, g D = none → ss.Perm qs → ss.Pairwise (fun a b => O.kle (f a) (f b)) → All2 R0 ss vs → P (.ref D) (g.put D (lstV vs c))) : Ev prog w K A (PySem.call (.builtin "sorted") [.ref S] []) g P := by
  intro F s Q E r k
  obtain ⟨o, ho, es, ep, t, rfl, hf, hl, hrise, hz, qs', hqs, ha⟩ := hS
  refine set_sorted hh (r.own _ _ ho) hf hl hrise hz fun D h' tk d vs hvs hD hk hoD => ?_
  -- the keys, in the order of vs
  obtain ⟨ks, hks, hkv⟩ : ∃ ks : List α, ks.Perm qs ∧ All2 R0 ks vs := by
    have : ∀ {b b' : List Value}, b'.Perm b → ∀ {a : List α}, All2 R0 a b → ∃ a', a'.Perm a ∧ All2 R0 a' b' := by
      intro b b' hp
      induction hp with
      | nil => intro a z; exact ⟨a, List.Perm.refl _, z⟩
      | cons x _ ih =>
        intro a z
        cases z with | cons r z =>
        refine x11 (ih z) fun a' h1 h2 => ?_
        exact ⟨_ :: a', h1.cons _, .cons r h2⟩
      | swap x y l =>
        intro a z
        cases z with | cons r1 z => cases z with | cons r2 z =>
        exact ⟨_, List.Perm.swap _ _ _, .cons r2 (.cons r1 z)⟩
      | trans _ _ ih1 ih2 =>
        intro a z
        refine x11 (ih2 z) fun a' h1 h2 => ?_
        refine x11 (ih1 h2) fun a'' h3 h4 => ?_
        exact ⟨a'', h3.trans h1, h4⟩
    refine x11 (this hvs ha) fun ks h1 h2 => ?_
    exact ⟨ks, h1.trans hqs, h2⟩
  have hlen : vs.length = ks.length := hkv.len.symm
  have hl60 : vs.length ≤ 60 := by rw [hlen, hks.length_eq]; exact hq
  have nD : ∀ b x, s.heap.get? b = some x → b ≠ D := fun b x e => Nat.ne_of_lt (hD b x e)
  let key : Nat → O.α := fun i => match ks[i]? with | some p => f p | none => dflt
  have hkey : ∀ i q, ks[i]? = some q → key i = f q := fun i q e => by show (match ks[i]? with | some p => f p | none => dflt) = _; rw [e]
  refine call_sort (A := A.in1) key κ hoD (by lia) (fun h2 s' Q' E' kp hQ => ?_) (fun i j hi hj s' C kp hC => ?_) fun h2 c p' hp hs kp hout => ?_
  · exact hkind F s' ks vs Q' E' (r.keeps fun b x e => kp b x (nD b x e) (hk b x e)) hkv h2 hQ
  · refine x11 (hkv.at' (List.getElem?_eq_getElem (by lia : i < ks.length))) fun x hx rx => ?_
    refine x11 (hkv.at' (List.getElem?_eq_getElem (by lia : j < ks.length))) fun y hy ry => ?_
    rw [hkey i _ (List.getElem?_eq_getElem (by lia)), hkey j _ (List.getElem?_eq_getElem (by lia))] at hC
    rw [List.getD_eq_getElem?_getD, hx, List.getD_eq_getElem?_getD, hy]
    exact hask F s' _ _ x y C (r.keeps fun b x e => kp b x (nD b x e) (hk b x e)) rx ry hC
  · have hin : ∀ i ∈ p'.toList, i < ks.length := fun i hi => by rw [← hlen]; exact List.mem_range.mp (hp.mem_iff.mp hi)
    have hall := all2_pick hkv Value.none hin
    refine x01 (r.grown hD (fun b x e => kp b x (nD b x e) (hk b x e)) hout) fun g1 r1 => ?_
    refine k _ _ h2 d tk (p D _ _ c g1 ?_ ?_ hall) r1
    · have hpp : p'.toList.Perm (List.range ks.length) := by rw [← hlen]; exact hp
      have := hpp.filterMap (ks[·]?)
      rw [range_pick] at this
      exact this.trans hks
    · rw [List.pairwise_iff_getElem]
      intro i j hi hj hij
      have hlp : (p'.toList.filterMap (ks[·]?)).length = vs.length := by rw [hall.len, List.length_map, Array.length_toList, hp.size]
      have hi' : i < p'.size := by rw [hp.size]; lia
      have hj' : j < p'.size := by rw [hp.size]; lia
      have gi := pick_getElem hin i
      have gj := pick_getElem hin j
      rw [List.getElem?_eq_getElem hi, Array.getElem?_toList, Array.getElem?_eq_getElem hi'] at gi
      rw [List.getElem?_eq_getElem hj, Array.getElem?_toList, Array.getElem?_eq_getElem hj'] at gj
      have z := hs i j (by lia) (by lia)
      unfold KP at z
      rw [show p'.getD i 0 = p'[i] by simp [Array.getD, hi'], show p'.getD j 0 = p'[j] by simp [Array.getD, hj']] at z
      rw [hkey _ _ gi.symm, hkey _ _ gj.symm] at z
      exact z
noncomputable def intOrd : KeyOrd where
  α := Int
  blt := fun a b => decide (a < b)
  irrefl := fun a => by simp
  trans := fun a b c h1 h2 => by simp at *; lia
  negTrans := fun a b c h => by simp at *; lia
  total := fun a b h1 h2 => by simp at *; lia
noncomputable def litLt (a b : Int × Int) : Bool := if a.1 = b.1 then decide (a.2 < b.2) else decide (a.1 < b.1)
noncomputable def litOrd : KeyOrd where
  α := Int × Int
  blt := litLt
  irrefl := fun a => by simp [litLt]
  trans := fun a b c h1 h2 => by
    unfold litLt at *
    split at h1 <;> split at h2 <;> split <;> simp at * <;> lia
  negTrans := fun a b c h => by
    unfold litLt at *
    split at h <;> split <;> split <;> simp at * <;> lia
  total := fun a b h1 h2 => by
    unfold litLt at *
    refine Prod.ext ?_ ?_
    · split at h1 <;> split at h2 <;> simp at * <;> lia
    · split at h1 <;> split at h2 <;> simp at * <;> lia
theorem Ev.sortedInts {S : Addr} {qs : List Int} {P : Value → Led → Prop} (hh : A.handled = none) (hS : At g S (SetO w IsI qs)) (hq : qs.length ≤ 60)
    (p : ∀ D ss vs c, g D = none → ss.Perm qs → ss.Pairwise (fun a b : Int => a ≤ b) → All2 IsI ss vs → P (.ref D) (g.put D (lstV vs c))) : Ev prog w K A (PySem.call (.builtin "sorted") [.ref S] []) g P := by
  refine Ev.sortedSet (O := intOrd) (R0 := IsI) (fun i => i) (show Int from 0) oneType' hh hS hq (fun F s ps vs Q E r ha h2 hQ => ?_) (fun F s p q x y C r hx hy hC => ?_) fun D ss vs c h1 h2 h3 h4 => p D ss vs c h1 h2 (h3.imp fun {a b} z => ?_) h4
  · have hI : ∀ {a : List Int} {b : List Value}, All2 IsI a b → IntsAre b a := fun {a b} z => by
      induction z with
      | nil => exact .nil
      | cons r' _ ih => refine x10 r' fun t z641 => ?_; clear r'; subst z641; exact .cons _ _ ih
    have hI := hI ha
    obtain ⟨v1, v2, rest, rfl⟩ : ∃ v1 v2 rest, vs = v1 :: v2 :: rest := by
      match vs, h2 with
      | v1 :: v2 :: rest, _ => exact ⟨v1, v2, rest, rfl⟩
    rw [keyKind_ints hI]
    exact wpAny_pure hQ
  · refine x10 hx fun t z661 => ?_; clear hx; subst z661
    refine x10 hy fun u z681 => ?_; clear hy; subst z681
    exact kat_lt_int hC
  · have : (decide (b < a)) = false := z
    simpa using this
theorem Ev.sortedLits {S : Addr} {qs : List (Int × Int)} {P : Value → Led → Prop} (hh : A.handled = none) (hS : At g S (SetO w (Lit g) qs)) (hq : qs.length ≤ 60)
    (p : ∀ D ss vs c, g D = none → ss.Perm qs → ss.Pairwise (fun a b => litOrd.kle a b) → All2 (Lit g) ss vs → P (.ref D) (g.put D (lstV vs c))) : Ev prog w K A (PySem.call (.builtin "sorted") [.ref S] []) g P := by
  refine Ev.sortedSet (O := litOrd) (R0 := Lit g) (fun i => i) (show Int × Int from (0, 0)) (tuples' true) hh hS hq (fun F s ps vs Q E r ha h2 hQ => ?_) (fun F s p q x y C r hx hy hC => ?_) fun D ss vs c h1 h2 h3 h4 => p D ss vs c h1 h2 h3 h4
  · have hT : ∀ {a : List (Int × Int)} {b : List Value}, All2 (Lit g) a b → ∃ fs : List Value, fs.length = b.length ∧ KatTups s.heap b fs ∧ ∀ v ∈ fs, ∃ i t, v = .int i t := fun {a b} z => by
      induction z with
      | nil => exact ⟨[], rfl, KatTups.nil, fun _ m => (nomatch m)⟩
      | cons r' _ ih =>
        refine x12 ih fun fs h1 h2 h3 => ?_; clear ih
        refine x43 r'.open fun c x1 t y1 z721 z722 z723 z724 => ?_; subst z721; obtain ⟨o, ho, n, e⟩ := z722; refine x10 z723 fun t1 z725 => ?_; clear z723; subst z725; refine x10 z724 fun t2 z726 => ?_; clear z724; subst z726
        subst e
        exact ⟨_ :: fs, by simp [h1], KatTups.cons (r.own _ _ ho) rfl rfl rfl h2, fun v m => by
          rcases List.mem_cons.mp m with rfl | m
          · exact ⟨_, _, rfl⟩
          · exact h3 v m⟩
    refine x12 (hT ha) fun fs h1 h3 h4 => ?_
    exact kat_kind (T := .type "int") h3 (by lia) (fun v m => by refine x20 (h4 v m) fun i t z761 => ?_; subst z761; exact Looks.of_pure rfl) rfl hQ
  · refine x43 hx.open fun c x1 t y1 z781 z782 z783 z784 => ?_; subst z781; obtain ⟨o, ho, n, e⟩ := z782; refine x10 z783 fun t1 z785 => ?_; clear z783; subst z785; refine x10 z784 fun t2 z786 => ?_; clear z784; subst z786
    refine x43 hy.open fun c' x1' t' y1' z801 z802 z803 z804 => ?_; subst z801; obtain ⟨o', ho', n', e'⟩ := z802; refine x10 z803 fun t1' z805 => ?_; clear z803; subst z805; refine x10 z804 fun t2' z806 => ?_; clear z804; subst z806
    subst e; subst e'
    refine kat_lt (r.own _ _ ho) rfl (r.own _ _ ho') rfl ?_
    show KatLex prog w A.in1.in1 true _ C [(.int p.1 t1, .int q.1 t1'), (.str "!=" t, .str "!=" t'), (.int p.2 t2, .int q.2 t2')] 0 s
    have hC' : C (litLt p q) s := hC
    refine kat_cons (wpAny_eqBool_int ?_)
    by_cases e1 : p.1 = q.1
    · rw [show (p.1 == q.1) = true by simpa using e1]
      refine kat_yes (kat_cons (wpAny_eqBool_str ?_))
      rw [decide_eq_true rfl]
      refine kat_yes (kat_cons (wpAny_eqBool_int ?_))
      by_cases e2 : p.2 = q.2
      · rw [show (p.2 == q.2) = true by simpa using e2]
        refine kat_yes (kat_nil ?_)
        have : litLt p q = false := by unfold litLt; rw [if_pos e1, e2]; simp
        rw [this] at hC'
        exact hC'
      · rw [show (p.2 == q.2) = false by simpa using e2]
        refine kat_no (show wpAny _ _ (oneLt' false _ _) _ _ _ from kat_one _ _ (PyProof.Rows.lt_int ?_))
        have : litLt p q = decide (p.2 < q.2) := by unfold litLt; rw [if_pos e1]
        rw [this] at hC'
        exact hC'
    · rw [show (p.1 == q.1) = false by simpa using e1]
      refine kat_no (show wpAny _ _ (oneLt' true _ _) _ _ _ from oneLt_int ?_)
      have : litLt p q = decide (p.1 < q.1) := by unfold litLt; rw [if_neg e1]
      rw [this] at hC'
      exact hC'
end Mine
end SSq12

section SFn1
open PySem PySem.W PySem.Calls PyProof.Rows
set_option maxRecDepth 100000
namespace Mine
variable {prog : Program} {w : World} {A : Around} {g : Led}

theorem next_from_ok {d : List (Int × Int)} {dv vv : Value} {v : Int} (ok : Ok A 1) (h1 : Dom g d dv) (h2 : IsI v vv) :
    Ev prog w (KK w.params) A (PySem.call (.ref 42) [dv, vv] []) g fun r g' => Ext g g' ∧ IsOpt (nextFrom d v) r := by
  obtain ⟨a, xs, rfl, hxs, hds⟩ := h1
  refine x10 h2 fun t z21 => ?_; clear h2; subst z21
  refine Ev.defV ok [("d", .ref a), ("v", .int v t)] ["d", "v", "low", "high"] [("d", some (.ref a)), ("v", some (.int v t)), ("low", none), ("high", none)] (by rfl) (fun L g₁ A ok hL e hcell => ?_)
  refine EvF.cons ?_
  refine EvF.forS ok.h ?_
  refine EvF.loc (.head _) ?_
  refine ⟨_, _, _, fun k vs g' => (∃ u1 u2, vs = ([("d", some (.ref a)), ("v", some (.int v t)), ("low", u1), ("high", u2)] : Vars)) ∧ Ext g₁ g' ∧ nextFrom (d.drop k) v = nextFrom d v, Src.tup (hxs.ext e), ⟨⟨_, _, rfl⟩, Ext.refl _, rfl⟩, fun k vs g' i b _ o ho => i.2.1 _ _ ho, fun k vs g' x hk hx i => ?_, fun vs g' i => ?_⟩
  · refine x02 i fun z41 e' hi => ?_; clear i; refine x20 z41 fun u1 u2 z42 => ?_; clear z41; subst z42
    refine x11 (hds.at hx) fun p hp hpr => ?_
    refine x33 hpr.open fun b x1 x2 z81 hb z82 z83 => ?_; subst z81; refine x10 z82 fun t1 z84 => ?_; clear z82; subst z84; refine x10 z83 fun t2 z85 => ?_; clear z83; subst z85
    have hb := (hb.ext e).ext e'
    have hdk : d.drop k = p :: d.drop (k + 1) := by
      obtain ⟨hk', rfl⟩ := List.getElem?_eq_some_iff.mp hp
      exact List.drop_eq_getElem_cons hk'
    rw [hdk] at hi
    refine EvF.bind ?_; refine EvF.unpack (Ok.h (by assumption)) (by assumption) (by rfl) (by rfl) ?_; refine EvF.order1 ?_; refine EvF.assignName ?_; refine EvF.store (.tail (.tail .head)) ?_; refine EvF.order1 ?_; refine EvF.assignName ?_; refine EvF.store (.tail (.tail (.tail .head))) ?_; refine EvF.order0 ?_; refine EvF.consQ fun Qx hnQ hrQ => ?_; refine EvF.ifS ?_; refine EvF.test ?_; refine EvF.loc (.tail _ (.head _)) ?_; refine EvF.loc (.tail _ (.tail _ (.tail _ (.head _)))) ?_; refine EvF.leI ?_; refine EvF.truthyBool ?_
    split
    · rename_i q
      refine EvF.consQ fun Qx hnQ hrQ => ?_; refine EvF.ret ?_; refine EvF.call ?_; refine EvF.boot (by rfl) (bv_max) ?_; refine ⟨by first | exact KeepOk.b | exact KeepOk.t | exact KeepOk.k (by rfl), ?_⟩; refine EvF.args1 ?_; refine EvF.loc (.tail _ (.tail _ (.head _))) ?_; refine EvF.args1 ?_; refine EvF.loc (.tail _ (.head _)) ?_; refine EvF.args0 ?_; refine EvF.max2 (Ok.h (by assumption)) fun _ => ?_; refine hrQ _ _ _ rfl ?_; clear hnQ hrQ Qx; refine hrQ _ _ _ rfl ?_; clear hnQ hrQ Qx
      have q := of_decide_eq_true q
      refine ⟨e.trans e', ?_⟩
      rw [← hi]
      simp only [nextFrom, q, if_true]
      exact ⟨_, rfl⟩
    · rename_i q
      refine EvF.nil ?_; refine hnQ _ _ ?_; clear hnQ hrQ Qx; refine EvF.nil ?_
      have q : ¬ v ≤ p.2 := by simpa using q
      refine ⟨⟨_, _, rfl⟩, e', ?_⟩
      rw [← hi]
      simp only [nextFrom, q, if_false]
  · refine x02 i fun z121 e' hi => ?_; clear i; refine x20 z121 fun u1 u2 z122 => ?_; clear z121; subst z122
    refine EvF.nil ?_; refine EvF.consQ fun Qx hnQ hrQ => ?_; refine EvF.ret ?_; refine EvF.cnone ?_; refine hrQ _ _ _ rfl ?_; clear hnQ hrQ Qx
    refine ⟨e.trans e', ?_⟩
    rw [← hi, ← hds.len, List.drop_length]
    rfl

theorem has_ok {d : List (Int × Int)} {dv vv : Value} {v : Int} (ok : Ok A 2) (h1 : Dom g d dv) (h2 : IsI v vv) :
    Ev prog w (KK w.params) A (PySem.call (.ref 49) [dv, vv] []) g fun r g' => Ext g g' ∧ r = .bool (nextFrom d v == some v) := by
  refine x10 h2 fun t z141 => ?_; clear h2; subst z141
  refine Ev.defV ok [("d", dv), ("v", .int v t)] ["d", "v"] [("d", some dv), ("v", some (.int v t))] (by rfl) (fun L g₁ A ok hL e hcell => ?_)
  refine EvF.consQ fun Qx hnQ hrQ => ?_; refine EvF.ret ?_; refine EvF.compare ?_; refine EvF.call ?_; refine EvF.top (by rfl) ?_; refine ⟨by first | exact KeepOk.b | exact KeepOk.t | exact KeepOk.k (by rfl), ?_⟩; refine EvF.args1 ?_; refine EvF.loc (.head _) ?_; refine EvF.args1 ?_; refine EvF.loc (.tail _ (.head _)) ?_; refine EvF.args0 ?_
  refine .of ((next_from_ok (d := d) (v := v) ok (Stays.dom.go h1 e) ⟨_, rfl⟩).mono fun r g' hr => ?_)
  refine x01 hr ?_; clear hr; intro e' hr
  refine EvF.loc (.tail _ (.head _)) ?_
  revert hr
  cases hnf : nextFrom d v with
  | none =>
    rintro rfl
    refine .of (.eqNI ?_)
    refine hrQ _ _ _ rfl ?_; clear hnQ hrQ Qx
    exact ⟨e.trans e', by rw [hnf]; rfl⟩
  | some i =>
    rintro ⟨t', rfl⟩
    refine .of (.eqI ?_)
    refine hrQ _ _ _ rfl ?_; clear hnQ hrQ Qx
    exact ⟨e.trans e', by rw [hnf]; rfl⟩

theorem up_to_ok {d : List (Int × Int)} {dv vv : Value} {v : Int} (ok : Ok A 1) (hlen : d.length ≤ sizeLine) (h1 : Dom g d dv) (h2 : IsI v vv) :
    Ev prog w (KK w.params) A (PySem.call (.ref 54) [dv, vv] []) g fun r g' => Ext g g' ∧ Dom g' (upTo d v) r := by
  obtain ⟨a, xs, rfl, hxs, hds⟩ := h1
  refine x10 h2 fun t z201 => ?_; clear h2; subst z201
  refine Ev.defV ok [("d", .ref a), ("k", .int v t)] ["d"] [("d", some (.ref a))] (by rfl) (fun L g₁ A ok hL e hcell => ?_)
  have hk : At g₁ (L + 1) (CellO (some (.int v t))) := (hcell "k" (L + 1) (by rfl)).2
  refine EvF.consQ fun Qx hnQ hrQ => ?_
  refine EvF.ret ?_
  refine EvF.call ?_
  refine EvF.boot (by rfl) (bv_tuple) ?_
  refine ⟨by first | exact KeepOk.b | exact KeepOk.t | exact KeepOk.k (by rfl), ?_⟩
  refine EvF.args1 ?_
  refine EvF.compL (γ := Int × Int) ["low", "high"] ok ?_
  refine EvF.loc (.head _) ?_
  refine ⟨_, _, _, fun i => upTo (d.take i) v, Pair, Src.tup (At.ext (by assumption) (by assumption)), rfl, fun i => ?_, fun C e₁ ee hc => ⟨fun k vs e' => (∃ u1 u2, vs = ([("low", u1), ("high", u2)] : Vars)) ∧ Ext e₁ e', Ext, ⟨⟨_, _, rfl⟩, Ext.refl _⟩, fun k vs e' j b _ o ho => j.2 _ _ (ee _ _ ho), fun e e' b v x r => Stays.pair.go r x, fun k y vs e' hk' hy j => ?_, fun vs e' ys D m j nD ha => ?_⟩⟩
  · exact Nat.le_trans (upTo_len _ _) (by rw [List.length_take]; exact Nat.le_trans (Nat.min_le_right _ _) hlen)
  · refine x01 j fun z221 e2 => ?_; clear j; refine x20 z221 fun u1 u2 z222 => ?_; clear z221; subst z222
    refine x11 (hds.at hy) fun p hp hpr => ?_
    refine x33 hpr.open fun b x1 x2 z261 hb z262 z263 => ?_; subst z261; refine x10 z262 fun t1 z264 => ?_; clear z262; subst z264; refine x10 z263 fun t2 z265 => ?_; clear z263; subst z265
    refine EvF.bind ?_; refine EvF.unpack (Ok.h (by assumption)) (At.ext (At.ext (At.ext (by assumption) (by assumption)) (by assumption)) (by assumption)) (by rfl) (by rfl) ?_; refine EvF.order1 ?_; refine EvF.assignName ?_; refine EvF.store .head ?_; refine EvF.order1 ?_; refine EvF.assignName ?_; refine EvF.store (.tail .head) ?_; refine EvF.order0 ?_; refine EvF.tests1 ?_; refine EvF.test ?_; refine EvF.loc (.head _) ?_; refine' EvF.cell ?h1 ?_; (case h1 => refine At.ext ?_ (by assumption); refine At.ext ?_ (by assumption); assumption); refine EvF.leI ?_; refine EvF.truthyBool ?_
    have hcut : upTo (d.take (k + 1)) v = upTo (d.take k) v ++ upTo [p] v := by
      rw [take_succ_of hp]; unfold upTo; rw [List.filter_append, List.map_append]
    split
    · rename_i q
      have q := of_decide_eq_true q
      refine EvF.tuple ?_; refine EvF.args1 ?_; refine EvF.loc (.head _) ?_; refine EvF.args1 ?_; refine EvF.call ?_; refine EvF.boot (by rfl) (bv_min) ?_; refine ⟨by first | exact KeepOk.b | exact KeepOk.t | exact KeepOk.k (by rfl), ?_⟩; refine EvF.args1 ?_; refine EvF.loc (.tail _ (.head _)) ?_; refine EvF.args1 ?_; refine' EvF.cell ?h1 ?_; (case h1 => refine At.ext ?_ (by assumption); refine At.ext ?_ (by assumption); assumption); refine EvF.args0 ?_; refine EvF.min2 (Ok.h (by assumption)) fun _ => ?_; refine EvF.args0 ?_; refine ⟨Nat.le_trans (m := 9) (by simp only [List.length_cons, List.length_nil]; decide) (by decide), fun _ _ => ?_⟩
      refine ⟨⟨⟨_, _, rfl⟩, (Ext.trans (by assumption) (Ext.new _ (by assumption)))⟩, (Ext.trans (Ext.refl _) (Ext.new _ (by assumption))), (p.1, min p.2 v), ?_, Pair.mk ⟨_, put_self .., _, rfl⟩⟩
      show upTo (d.take (k + 1)) v = _
      rw [hcut]; simp [upTo, q]
    · rename_i q
      have q : ¬ p.1 ≤ v := by simpa using q
      refine ⟨⟨⟨_, _, rfl⟩, (by assumption)⟩, (Ext.refl _), ?_⟩
      show upTo (d.take (k + 1)) v = _
      rw [hcut]; simp [upTo, q]
  · refine x01 j fun z281 e2 => ?_; clear j; refine x20 z281 fun u1 u2 z282 => ?_; clear z281; subst z282
    refine EvF.args0 ?_
    refine .of (.tupleOf ⟨_, put_self .., _, rfl⟩ ?_ fun a ha' => ?_)
    · rw [← ha.len]
      exact Nat.le_trans (upTo_len _ _) (by rw [List.length_take]; exact Nat.le_trans (Nat.min_le_right _ _) hlen)
    · have hx : Ext e' ((e'.put D (lstV ys m)).put a (tupV ys 0)) := (Ext.new _ nD).trans (Ext.new _ ha')
      refine hrQ _ _ _ rfl ?_; clear hnQ hrQ Qx
      refine ⟨(Ext.trans (Ext.trans (Ext.trans (Ext.trans (by assumption) (by assumption)) (by assumption)) (Ext.new _ (by assumption))) (Ext.new _ (by assumption))), _, _, rfl, ⟨_, put_self .., _, rfl⟩, ?_⟩
      have e3 : d.take xs.length = d := by rw [← hds.len, List.take_length]
      have ha : All2 (Pair e') (upTo d v) ys := by simpa [e3] using ha
      exact ha.mono fun _ _ r => Stays.pair.go r hx
theorem from_on_ok {d : List (Int × Int)} {dv vv : Value} {v : Int} (ok : Ok A 1) (hlen : d.length ≤ sizeLine) (h1 : Dom g d dv) (h2 : IsI v vv) :
    Ev prog w (KK w.params) A (PySem.call (.ref 59) [dv, vv] []) g fun r g' => Ext g g' ∧ Dom g' (fromOn d v) r := by
  obtain ⟨a, xs, rfl, hxs, hds⟩ := h1
  refine x10 h2 fun t z321 => ?_; clear h2; subst z321
  refine Ev.defV ok [("d", .ref a), ("k", .int v t)] ["d"] [("d", some (.ref a))] (by rfl) (fun L g₁ A ok hL e hcell => ?_)
  have hk : At g₁ (L + 1) (CellO (some (.int v t))) := (hcell "k" (L + 1) (by rfl)).2
  refine EvF.consQ fun Qx hnQ hrQ => ?_
  refine EvF.ret ?_
  refine EvF.call ?_
  refine EvF.boot (by rfl) (bv_tuple) ?_
  refine ⟨by first | exact KeepOk.b | exact KeepOk.t | exact KeepOk.k (by rfl), ?_⟩
  refine EvF.args1 ?_
  refine EvF.compL (γ := Int × Int) ["low", "high"] ok ?_
  refine EvF.loc (.head _) ?_
  refine ⟨_, _, _, fun i => fromOn (d.take i) v, Pair, Src.tup (At.ext (by assumption) (by assumption)), rfl, fun i => ?_, fun C e₁ ee hc => ⟨fun k vs e' => (∃ u1 u2, vs = ([("low", u1), ("high", u2)] : Vars)) ∧ Ext e₁ e', Ext, ⟨⟨_, _, rfl⟩, Ext.refl _⟩, fun k vs e' j b _ o ho => j.2 _ _ (ee _ _ ho), fun e e' b v x r => Stays.pair.go r x, fun k y vs e' hk' hy j => ?_, fun vs e' ys D m j nD ha => ?_⟩⟩
  · exact Nat.le_trans (fromOn_len _ _) (by rw [List.length_take]; exact Nat.le_trans (Nat.min_le_right _ _) hlen)
  · refine x01 j fun z341 e2 => ?_; clear j; refine x20 z341 fun u1 u2 z342 => ?_; clear z341; subst z342
    refine x11 (hds.at hy) fun p hp hpr => ?_
    refine x33 hpr.open fun b x1 x2 z381 hb z382 z383 => ?_; subst z381; refine x10 z382 fun t1 z384 => ?_; clear z382; subst z384; refine x10 z383 fun t2 z385 => ?_; clear z383; subst z385
    refine EvF.bind ?_; refine EvF.unpack (Ok.h (by assumption)) (At.ext (At.ext (At.ext (by assumption) (by assumption)) (by assumption)) (by assumption)) (by rfl) (by rfl) ?_; refine EvF.order1 ?_; refine EvF.assignName ?_; refine EvF.store .head ?_; refine EvF.order1 ?_; refine EvF.assignName ?_; refine EvF.store (.tail .head) ?_; refine EvF.order0 ?_; refine EvF.tests1 ?_; refine EvF.test ?_; refine EvF.loc (.tail _ (.head _)) ?_; refine' EvF.cell ?h1 ?_; (case h1 => refine At.ext ?_ (by assumption); refine At.ext ?_ (by assumption); assumption); refine EvF.geI ?_; refine EvF.truthyBool ?_
    have hcut : fromOn (d.take (k + 1)) v = fromOn (d.take k) v ++ fromOn [p] v := by
      rw [take_succ_of hp]; unfold fromOn; rw [List.filter_append, List.map_append]
    split
    · rename_i q
      have q := of_decide_eq_true q
      refine EvF.tuple ?_; refine EvF.args1 ?_; refine EvF.call ?_; refine EvF.boot (by rfl) (bv_max) ?_; refine ⟨by first | exact KeepOk.b | exact KeepOk.t | exact KeepOk.k (by rfl), ?_⟩; refine EvF.args1 ?_; refine EvF.loc (.head _) ?_; refine EvF.args1 ?_; refine' EvF.cell ?h1 ?_; (case h1 => refine At.ext ?_ (by assumption); refine At.ext ?_ (by assumption); assumption); refine EvF.args0 ?_; refine EvF.max2 (Ok.h (by assumption)) fun _ => ?_; refine EvF.args1 ?_; refine EvF.loc (.tail _ (.head _)) ?_; refine EvF.args0 ?_; refine ⟨Nat.le_trans (m := 9) (by simp only [List.length_cons, List.length_nil]; decide) (by decide), fun _ _ => ?_⟩
      refine ⟨⟨⟨_, _, rfl⟩, (Ext.trans (by assumption) (Ext.new _ (by assumption)))⟩, (Ext.trans (Ext.refl _) (Ext.new _ (by assumption))), (max p.1 v, p.2), ?_, Pair.mk ⟨_, put_self .., _, rfl⟩⟩
      show fromOn (d.take (k + 1)) v = _
      rw [hcut]; simp [fromOn, q]
    · rename_i q
      have q : ¬ p.2 ≥ v := by simpa using q
      refine ⟨⟨⟨_, _, rfl⟩, (by assumption)⟩, (Ext.refl _), ?_⟩
      show fromOn (d.take (k + 1)) v = _
      rw [hcut]; simp [fromOn, q]
  · refine x01 j fun z401 e2 => ?_; clear j; refine x20 z401 fun u1 u2 z402 => ?_; clear z401; subst z402
    refine EvF.args0 ?_
    refine .of (.tupleOf ⟨_, put_self .., _, rfl⟩ ?_ fun a ha' => ?_)
    · rw [← ha.len]
      exact Nat.le_trans (fromOn_len _ _) (by rw [List.length_take]; exact Nat.le_trans (Nat.min_le_right _ _) hlen)
    · have hx : Ext e' ((e'.put D (lstV ys m)).put a (tupV ys 0)) := (Ext.new _ nD).trans (Ext.new _ ha')
      refine hrQ _ _ _ rfl ?_; clear hnQ hrQ Qx
      refine ⟨(Ext.trans (Ext.trans (Ext.trans (Ext.trans (by assumption) (by assumption)) (by assumption)) (Ext.new _ (by assumption))) (Ext.new _ (by assumption))), _, _, rfl, ⟨_, put_self .., _, rfl⟩, ?_⟩
      have e3 : d.take xs.length = d := by rw [← hds.len, List.take_length]
      have ha : All2 (Pair e') (fromOn d v) ys := by simpa [e3] using ha
      exact ha.mono fun _ _ r => Stays.pair.go r hx

theorem without_ok {d : List (Int × Int)} {dv vv : Value} {v : Int} (ok : Ok A 2) (hlen : 2 * d.length ≤ sizeLine) (h1 : Dom g d dv) (h2 : IsI v vv) :
    Ev prog w (KK w.params) A (PySem.call (.ref 66) [dv, vv] []) g fun r g' => Ext g g' ∧ Dom g' (without d v) r := by
  refine x10 h2 fun t z421 => ?_; clear h2; subst z421
  refine Ev.defV ok [("d", dv), ("v", .int v t)] ["d", "v"] [("d", some dv), ("v", some (.int v t))] (by rfl) (fun L g₁ A ok hL e hcell => ?_)
  refine EvF.consQ fun Qx hnQ hrQ => ?_; refine EvF.ret ?_; refine EvF.binOp ?_; refine EvF.call ?_; refine EvF.top (by rfl) ?_; refine ⟨by first | exact KeepOk.b | exact KeepOk.t | exact KeepOk.k (by rfl), ?_⟩; refine EvF.args1 ?_; refine EvF.loc (.head _) ?_; refine EvF.args1 ?_; refine EvF.binOp ?_; refine EvF.loc (.tail _ (.head _)) ?_; refine EvF.cint fun _ => ?_; refine EvF.subI fun _ => ?_; refine EvF.args0 ?_
  refine .of ((up_to_ok ok (by omega) (Stays.dom.go h1 e) ⟨_, rfl⟩).mono fun r g₂ hr => ?_)
  refine x01 hr ?_; clear hr; intro e2 hr
  refine EvF.call ?_; refine EvF.top (by rfl) ?_; refine ⟨by first | exact KeepOk.b | exact KeepOk.t | exact KeepOk.k (by rfl), ?_⟩; refine EvF.args1 ?_; refine EvF.loc (.head _) ?_; refine EvF.args1 ?_; refine EvF.binOp ?_; refine EvF.loc (.tail _ (.head _)) ?_; refine EvF.cint fun _ => ?_; refine EvF.addI fun _ => ?_; refine EvF.args0 ?_
  refine .of ((from_on_ok ok (by omega) (Stays.dom.go h1 (e.trans e2)) ⟨_, rfl⟩).mono fun r' g₃ hr' => ?_)
  refine x01 hr' ?_; clear hr'; intro e3 hr'
  refine .of (.addTp Stays.pair (Stays.dom.go hr e3) hr' (by have := upTo_len d (v - 1); have := fromOn_len d (v + 1); omega) fun c g₄ e4 hc => ?_)
  refine hrQ _ _ _ rfl ?_; clear hnQ hrQ Qx
  exact ⟨(Ext.trans (Ext.trans (Ext.trans (by assumption) (by assumption)) (by assumption)) (by assumption)), hc⟩
end Mine
end SFn1

section SFn2
open PySem PySem.W PySem.Calls PyProof.Rows PySem.SeqAt
set_option maxRecDepth 100000
namespace Mine
variable {prog : Program} {w : World} {A : Around} {g : Led}
theorem struck_ok {d : List (Int × Int)} {lv dv : Value} {p : Int × Int} (ok : Ok A 3) (hlen : 2 * d.length ≤ sizeLine) (h1 : Lit g p lv) (h2 : Dom g d dv) :
    Ev prog w (KK w.params) A (PySem.call (.ref 87) [lv, dv] []) g fun r g' => Ext g g' ∧ Dom g' (without d p.2) r := by
  refine x43 h1.open fun a x t y z1 ha z2 z3 => ?_; subst z1; refine x10 z2 fun tx z4 => ?_; clear z2; subst z4; refine x10 z3 fun ty z5 => ?_; clear z3; subst z5
  refine Ev.defV ok [("literal", .ref a), ("d", dv)] ["literal", "d", "sign", "k"] [("literal", some (.ref a)), ("d", some dv), ("sign", none), ("k", none)] (by rfl) (fun L g₁ A ok hL e hcell => ?_)
  refine EvF.consQ fun Qx hnQ hrQ => ?_; refine EvF.assignSwap ?_; refine EvF.tuple ?_; refine EvF.args1 ?_; refine EvF.sub ?_; refine EvF.loc (.head _) ?_; refine EvF.cint fun _ => ?_; refine' subTup ?h1 ?_; (case h1 => refine At.ext ?_ (by assumption); assumption); refine' EvF.of (.tupAt ?h1 1 rfl ?h2 (by decide) ?_); (case h1 => refine At.ext ?_ (by assumption); assumption); (case h2 => rfl); refine EvF.args1 ?_; refine EvF.sub ?_; refine EvF.loc (.head _) ?_; refine EvF.cint fun _ => ?_; refine' subTup ?h1 ?_; (case h1 => refine At.ext ?_ (by assumption); assumption); refine' EvF.of (.tupAt ?h1 2 rfl ?h2 (by decide) ?_); (case h1 => refine At.ext ?_ (by assumption); assumption); (case h2 => rfl); refine EvF.args0 ?_; refine ⟨Nat.le_trans (m := 9) (by simp only [List.length_cons, List.length_nil]; decide) (by decide), fun _ _ => ?_⟩; refine' EvF.of (.items (Ok.h (by assumption)) ?h1 ?h2 ?_); (case h1 => exact ⟨_, put_self .., _, rfl⟩); (case h2 => rfl); refine EvF.order1 ?_; refine EvF.bindNm ?_; refine EvF.store (.tail (.tail (.tail .head))) ?_; refine EvF.order1 ?_; refine EvF.bindNm ?_; refine EvF.store (.tail (.tail .head)) ?_; refine EvF.order0 ?_; refine hnQ _ _ ?_; clear hnQ hrQ Qx; refine EvF.consQ fun Qx hnQ hrQ => ?_; refine EvF.ifS ?_; refine EvF.test ?_; refine EvF.loc (.tail _ (.tail _ (.head _))) ?_; refine EvF.cstr fun _ => ?_; refine .of (.eqS (b := false) (by rfl) ?_); refine EvF.truthyBool ?_; refine iteF ?_; refine EvF.nil ?_; refine hnQ _ _ ?_; clear hnQ hrQ Qx; refine EvF.consQ fun Qx hnQ hrQ => ?_; refine EvF.ifS ?_; refine EvF.test ?_; refine EvF.loc (.tail _ (.tail _ (.head _))) ?_; refine EvF.cstr fun _ => ?_; refine .of (.eqS (b := false) (by rfl) ?_); refine EvF.truthyBool ?_; refine iteF ?_; refine EvF.nil ?_; refine hnQ _ _ ?_; clear hnQ hrQ Qx; refine EvF.consQ fun Qx hnQ hrQ => ?_; refine EvF.ret ?_; refine EvF.ifExp ?_; refine EvF.test ?_; refine EvF.loc (.tail _ (.tail _ (.head _))) ?_; refine EvF.cstr fun _ => ?_; refine .of (.eqS (b := false) (by rfl) ?_); refine EvF.truthyBool ?_; refine iteF ?_; refine EvF.call ?_; refine EvF.top (by rfl) ?_; refine ⟨by first | exact KeepOk.b | exact KeepOk.t | exact KeepOk.k (by rfl), ?_⟩; refine EvF.args1 ?_; refine EvF.loc (.tail _ (.head _)) ?_; refine EvF.args1 ?_; refine EvF.loc (.tail _ (.tail _ (.tail _ (.head _)))) ?_; refine EvF.args0 ?_
  refine .of ((without_ok ok hlen (Stays.dom.go h2 (Ext.trans (by assumption) (Ext.new _ (by assumption)))) ⟨_, rfl⟩).mono fun r g₂ hr => ?_)
  refine hrQ _ _ _ rfl ?_; clear hnQ hrQ Qx
  exact ⟨by have := hr.1; refine Ext.trans ?_ (by assumption); refine Ext.trans ?_ (Ext.new _ (by assumption)); assumption, hr.2⟩

theorem said_of_ok {d : List (Int × Int)} {lv dv : Value} {p : Int × Int} (ok : Ok A 4) (hlen : 2 * d.length ≤ sizeLine) (h1 : Lit g p lv) (h2 : Dom g d dv) :
    Ev prog w (KK w.params) A (PySem.call (.ref 94) [lv, dv] []) g fun r g' => Ext g g' ∧ IsI (saidOf d p.2) r := by
  refine Ev.defV ok [("literal", lv), ("d", dv)] ["literal", "d", "kept"] [("literal", some lv), ("d", some dv), ("kept", none)] (by rfl) (fun L g₁ A ok hL e hcell => ?_)
  refine EvF.consQ fun Qx hnQ hrQ => ?_; refine EvF.assignS ?_; refine EvF.call ?_; refine EvF.top (by rfl) ?_; refine ⟨by first | exact KeepOk.b | exact KeepOk.t | exact KeepOk.k (by rfl), ?_⟩; refine EvF.args1 ?_; refine EvF.loc (.head _) ?_; refine EvF.args1 ?_; refine EvF.loc (.tail _ (.head _)) ?_; refine EvF.args0 ?_
  refine .of ((struck_ok ok hlen (Stays.lit.go h1 e) (Stays.dom.go h2 e)).mono fun r g₂ hr => ?_)
  refine x01 hr ?_; clear hr; intro e2 hr
  refine EvF.assignName ?_; refine EvF.store (.tail (.tail .head)) ?_; refine hnQ _ _ ?_; clear hnQ hrQ Qx; refine EvF.consQ fun Qx hnQ hrQ => ?_; refine EvF.ifS ?_; refine EvF.test ?_; refine EvF.loc (.tail _ (.tail _ (.head _))) ?_; refine EvF.loc (.tail _ (.head _)) ?_
  refine .of (.eqTp EqOn.pair hr (Stays.dom.go h2 (e.trans e2)) ok.cl ?_)
  refine EvF.truthyBool ?_
  by_cases q : without d p.2 = d
  · rw [decide_eq_true q]
    refine iteT ?_; refine EvF.consQ fun Qx hnQ hrQ => ?_; refine EvF.ret ?_; refine EvF.cint fun _ => ?_; refine hrQ _ _ _ rfl ?_; clear hnQ hrQ Qx; refine hrQ _ _ _ rfl ?_; clear hnQ hrQ Qx
    refine ⟨(Ext.trans (by assumption) (by assumption)), ?_⟩
    unfold saidOf
    rw [if_pos q]
    exact ⟨_, rfl⟩
  · rw [decide_eq_false q]
    refine iteF ?_; refine EvF.nil ?_; refine hnQ _ _ ?_; clear hnQ hrQ Qx; refine EvF.consQ fun Qx hnQ hrQ => ?_; refine EvF.ret ?_; refine EvF.ifExp ?_; refine EvF.test ?_; refine EvF.loc (.tail _ (.tail _ (.head _))) ?_; refine EvF.tuple ?_; refine EvF.args0 ?_; refine ⟨Nat.le_trans (m := 9) (by simp only [List.length_cons, List.length_nil]; decide) (by decide), fun _ _ => ?_⟩
    refine .of (.eqTp EqOn.pair (ps := without d p.2) (qs := []) (Stays.dom.go hr (Ext.trans (Ext.refl _) (Ext.new _ (by assumption)))) ⟨_, [], rfl, (⟨_, put_self .., _, rfl⟩), .nil⟩ ok.cl ?_)
    refine EvF.truthyBool ?_
    have key : ∀ i, saidOf d p.2 = i → ∀ t, IsI (saidOf d p.2) (.int i t) := fun i e t => ⟨t, by rw [e]⟩
    by_cases q2 : without d p.2 = []
    · rw [decide_eq_true q2]
      refine iteT ?_; refine EvF.negate ?_; refine EvF.cint fun _ => ?_; refine ⟨_, _, rfl, fun _ => ?_⟩; refine hrQ _ _ _ rfl ?_; clear hnQ hrQ Qx
      exact ⟨(Ext.trans (Ext.trans (by assumption) (by assumption)) (Ext.new _ (by assumption))), key _ (by unfold saidOf; rw [if_neg q, if_pos q2]) _⟩
    · rw [decide_eq_false q2]
      refine iteF ?_; refine EvF.cint fun _ => ?_; refine hrQ _ _ _ rfl ?_; clear hnQ hrQ Qx
      exact ⟨(Ext.trans (Ext.trans (by assumption) (by assumption)) (Ext.new _ (by assumption))), key _ (by unfold saidOf; rw [if_neg q, if_neg q2]) _⟩
end Mine
end SFn2

section SFn3
open PySem PySem.W PySem.Calls PyProof.Rows PySem.SeqAt
set_option maxRecDepth 100000
namespace Mine
variable {prog : Program} {w : World} {A : Around} {g : Led} {X : SR} {S : St}
noncomputable abbrev Small (S : St) : Prop := S.doms.length ≤ 100 ∧ S.firsts.length ≤ 100 ∧ S.trail.length ≤ 100 ∧ S.marks.length ≤ 100 ∧ ∀ d ∈ S.doms, d.length ≤ 100
theorem size_ok (ok : Ok A 1) (h : StoreAt prog w g X S) (z : Small S) :
    Ev prog w (KK w.params) A (PySem.call (.ref 122) [.ref X.a] []) g fun r g' => Ext g g' ∧ IsI S.doms.length r := by
  refine Ev.defV ok [("self", .ref X.a)] ["self"] [("self", some (.ref X.a))] (by rfl) (fun L g₁ A ok hL e hcell => ?_)
  have h := h.ext e
  have h1 := h.i
  have h2 := h.x
  have h3 := h.d
  have b1 : X.ds.length < 2 ^ 62 := by have := z.1; have := h.rd.len; exact bits (Nat.le_trans (Nat.le_of_eq (Eq.symm (by assumption))) (Nat.le_trans (m := 100) (by assumption) (by decide)))
  refine EvF.consQ fun Qx hnQ hrQ => ?_; refine EvF.ret ?_; refine EvF.call ?_; refine EvF.boot (by rfl) (bv_len) ?_; refine ⟨by first | exact KeepOk.b | exact KeepOk.t | exact KeepOk.k (by rfl), ?_⟩; refine EvF.args1 ?_; refine EvF.attr ?_; refine EvF.loc (.head _) ?_; refine EvF.of (.getOwn (by assumption) (by assumption) (by rfl) (by rfl) (by rfl) ?_); refine EvF.args0 ?_; refine' EvF.of (.lenL ?h1 ?h2 fun _ => ?_); (case h1 => assumption); (case h2 => assumption); refine hrQ _ _ _ rfl ?_; clear hnQ hrQ Qx
  exact ⟨e, by rw [h.rd.len]; exact ⟨_, rfl⟩⟩

theorem All2.get {α β : Type} {R : α → β → Prop} {a : List α} {b : List β} {k : Nat} {x : α} (h : All2 R a b) (e : a[k]? = some x) : ∃ y, b[k]? = some y ∧ R x y := h.at' e
theorem small_idx {n : Nat} {d : List (Int × Int)} (z : Small S) (h : S.doms[n]? = some d) : n < 2 ^ 62 := by
  have : n < S.doms.length := by
    rcases Nat.lt_or_ge n S.doms.length with l | l
    · exact l
    · rw [List.getElem?_eq_none l] at h; cases h
  have := z.1; exact bits (Nat.le_of_lt (Nat.lt_of_lt_of_le (by assumption) (Nat.le_trans (m := 100) (by assumption) (by decide))))
theorem small_dom {n : Nat} {d : List (Int × Int)} (z : Small S) (h : S.doms[n]? = some d) : d.length ≤ 100 := z.2.2.2.2 d (List.mem_of_getElem? h)

theorem dom_ok (ok : Ok A 1) (h : StoreAt prog w g X S) (z : Small S) {n : Nat} {d : List (Int × Int)} {xv : Value} (hn : S.doms[n]? = some d) (hx : IsI n xv) :
    Ev prog w (KK w.params) A (PySem.call (.ref 129) [.ref X.a, xv] []) g fun r g' => Ext g g' ∧ Dom g' d r := by
  refine x10 hx fun t z1 => ?_; clear hx; subst z1
  refine Ev.defV ok [("self", .ref X.a), ("x", .int n t)] ["self", "x"] [("self", some (.ref X.a)), ("x", some (.int n t))] (by rfl) (fun L g₁ A ok hL e hcell => ?_)
  have h := h.ext e
  have h1 := h.i
  have h2 := h.x
  have h3 := h.d
  refine x11 (h.rd.get hn) fun y hy ry => ?_
  refine EvF.consQ fun Qx hnQ hrQ => ?_; refine EvF.ret ?_; refine EvF.sub ?_; refine EvF.attr ?_; refine EvF.loc (.head _) ?_; refine EvF.of (.getOwn (by assumption) (by assumption) (by rfl) (by rfl) (by rfl) ?_); refine EvF.loc (.tail _ (.head _)) ?_; refine' subLst ?h1 ?_; (case h1 => assumption)
  refine .of (.lstAt h3 n rfl hy (small_idx z hn) ?_)
  refine hrQ _ _ _ rfl ?_; clear hnQ hrQ Qx
  exact ⟨e, ry⟩

theorem shas_ok (ok : Ok A 3) (h : StoreAt prog w g X S) (z : Small S) {n : Nat} {d : List (Int × Int)} {xv vv : Value} {v : Int} (hn : S.doms[n]? = some d) (hx : IsI n xv) (hv : IsI v vv) :
    Ev prog w (KK w.params) A (PySem.call (.ref 157) [.ref X.a, xv, vv] []) g fun r g' => Ext g g' ∧ r = .bool (nextFrom d v == some v) := by
  refine x10 hx fun t z41 => ?_; clear hx; subst z41
  refine Ev.defV ok [("self", .ref X.a), ("x", .int n t), ("v", vv)] ["self", "x", "v"] [("self", some (.ref X.a)), ("x", some (.int n t)), ("v", some vv)] (by rfl) (fun L g₁ A ok hL e hcell => ?_)
  have h := h.ext e
  have h1 := h.i
  have h2 := h.x
  have h3 := h.d
  refine x11 (h.rd.get hn) fun y hy ry => ?_
  refine EvF.consQ fun Qx hnQ hrQ => ?_; refine EvF.ret ?_; refine EvF.call ?_; refine EvF.top (by rfl) ?_; refine ⟨by first | exact KeepOk.b | exact KeepOk.t | exact KeepOk.k (by rfl), ?_⟩; refine EvF.args1 ?_; refine EvF.sub ?_; refine EvF.attr ?_; refine EvF.loc (.head _) ?_; refine EvF.of (.getOwn (by assumption) (by assumption) (by rfl) (by rfl) (by rfl) ?_); refine EvF.loc (.tail _ (.head _)) ?_; refine' subLst ?h1 ?_; (case h1 => assumption)
  refine .of (.lstAt h3 n rfl hy (small_idx z hn) ?_)
  refine EvF.args1 ?_; refine EvF.loc (.tail _ (.tail _ (.head _))) ?_; refine EvF.args0 ?_
  refine .of ((has_ok ok ry hv).mono fun r g₂ hr => ?_)
  refine hrQ _ _ _ rfl ?_; clear hnQ hrQ Qx
  exact ⟨e.trans hr.1, hr.2⟩

theorem holds_ok (ok : Ok A 5) (h : StoreAt prog w g X S) (z : Small S) {n : Nat} {k : Int} {d : List (Int × Int)} {lv : Value} (hn : S.doms[n]? = some d) (hx : Lit g (n, k) lv) :
    Ev prog w (KK w.params) A (PySem.call (.ref 185) [.ref X.a, lv] []) g fun r g' => Ext g g' ∧ IsI (saidOf d k) r := by
  refine x43 hx.open fun a x t y z81 ha z82 z83 => ?_; subst z81; refine x10 z82 fun tx z84 => ?_; clear z82; subst z84; refine x10 z83 fun ty z85 => ?_; clear z83; subst z85
  refine Ev.defV ok [("self", .ref X.a), ("literal", .ref a)] ["self", "literal"] [("self", some (.ref X.a)), ("literal", some (.ref a))] (by rfl) (fun L g₁ A ok hL e hcell => ?_)
  have h := h.ext e
  have h1 := h.i
  have h2 := h.x
  have h3 := h.d
  refine x11 (h.rd.get hn) fun y hy ry => ?_
  refine EvF.consQ fun Qx hnQ hrQ => ?_; refine EvF.ret ?_; refine EvF.call ?_; refine EvF.top (by rfl) ?_; refine ⟨by first | exact KeepOk.b | exact KeepOk.t | exact KeepOk.k (by rfl), ?_⟩; refine EvF.args1 ?_; refine EvF.loc (.tail _ (.head _)) ?_; refine EvF.args1 ?_; refine EvF.sub ?_; refine EvF.attr ?_; refine EvF.loc (.head _) ?_; refine EvF.of (.getOwn (by assumption) (by assumption) (by rfl) (by rfl) (by rfl) ?_); refine EvF.sub ?_; refine EvF.loc (.tail _ (.head _)) ?_; refine EvF.cint fun _ => ?_; refine' subTup ?h1 ?_; (case h1 => refine At.ext ?_ (by assumption); assumption); refine' EvF.of (.tupAt ?h1 0 rfl ?h2 (by decide) ?_); (case h1 => refine At.ext ?_ (by assumption); assumption); (case h2 => rfl); refine' subLst ?h1 ?_; (case h1 => assumption)
  refine .of (.lstAt h3 n rfl hy (small_idx z hn) ?_)
  refine EvF.args0 ?_
  refine .of ((said_of_ok ok (by have := small_dom z hn; have : sizeLine = 2 ^ 24 := rfl; omega) (Stays.lit.go hx e) ry).mono fun r g₂ hr => ?_)
  refine hrQ _ _ _ rfl ?_; clear hnQ hrQ Qx
  exact ⟨e.trans hr.1, hr.2⟩

/-- Turned, and the trail's things are the same -/
inductive TurnedT (prog : Program) (w : World) (g : Led) (X : SR) (g' : Led) (S' : St) (c : Nat) : Prop
  | mk (X' : SR) (h : StoreAt prog w g' X' S') (ha : X'.a = X.a) (st : Step g g' X.fp X'.fp) (hk : X'.kvs.length ≤ c) (ht : X'.ts = X.ts) : TurnedT prog w g X g' S' c
theorem sfail_ok (ok : Ok A 1) (h : StoreAt prog w g X S) {cl : List (Int × Int)} {cv : Value} (hc : Tp Lit g cl cv) :
    Ev prog w (KK w.params) A (PySem.call (.ref 213) [.ref X.a, cv] []) g fun r g' => r = .bool false ∧ TurnedT prog w g X g' { S with failed := true, clash := cl } X.kvs.length := by
  obtain ⟨c, xs, rfl, hcx, hcl⟩ := hc
  refine Ev.defV ok [("self", .ref X.a), ("reasons", .ref c)] ["self", "reasons"] [("self", some (.ref X.a)), ("reasons", some (.ref c))] (by rfl) (fun L g₁ A ok hL e hcell => ?_)
  have h := h.ext e
  have h1 := h.i
  have h2 := h.x
  refine EvF.consQ fun Qx hnQ hrQ => ?_; refine EvF.assignS ?_; refine EvF.cbool ?_; refine EvF.assignAttr ?_; refine EvF.loc (.head _) ?_
  refine EvF.setOwn h1 h2 (by exact of_decide_eq_true rfl) fun o ho => ?_
  have k1 : Kp g₁ (g₁.put X.dx o) := Kp.ns h2
  have h' : StoreAt prog w (g₁.put X.dx o) X { S with failed := true } := Parts.putX (X := X) (S := { S with failed := true }) ⟨h.i, h.d, h.f, h.t, h.m, h.n, h.rd, h.rf, h.rt, h.rm, h.rc, h.sep⟩ h2 ho
  clear ho
  generalize hg2 : g₁.put X.dx o = g₂ at h' k1
  have st1 : Step g₁ g₂ X.fp X.fp := hg2 ▸ Step.put (.head _)
  clear hg2 h1 h2
  have h1 := h'.i
  have h2 := h'.x
  have hcx : At g₂ c (TupO xs) := (hcx.ext e).tkp k1
  refine hnQ _ _ ?_; clear hnQ hrQ Qx; refine EvF.consQ fun Qx hnQ hrQ => ?_; refine EvF.assignS ?_; refine EvF.call ?_; refine EvF.boot (by rfl) (bv_tuple) ?_; refine ⟨by first | exact KeepOk.b | exact KeepOk.t | exact KeepOk.k (by rfl), ?_⟩; refine EvF.args1 ?_; refine EvF.loc (.tail _ (.head _)) ?_; refine EvF.args0 ?_; refine' EvF.of (.tupleSame ?h1 ?_); (case h1 => assumption); refine EvF.assignAttr ?_; refine EvF.loc (.head _) ?_
  refine EvF.setOwn h1 h2 (by exact of_decide_eq_true rfl) fun o ho => ?_
  have k2 : Kp g₂ (g₂.put X.dx o) := Kp.ns h2
  have h3 : StoreAt prog w (g₂.put X.dx o) { X with cv := .ref c } { S with failed := true, clash := cl } := Parts.putX (X := { X with cv := .ref c }) (S := { S with failed := true, clash := cl }) ⟨h'.i, h'.d, h'.f, h'.t, h'.m, h'.n, h'.rd, h'.rf, h'.rt, h'.rm, ⟨c, xs, rfl, hcx, Stays.lit.all (Stays.lit.all (Stays.lit.all hcl e.kp) k1) (Kp.refl _)⟩, h'.sep⟩ h2 ho
  have st2 : Step g₂ (g₂.put X.dx o) X.fp X.fp := Step.put (.head _)
  refine hnQ _ _ ?_; clear hnQ hrQ Qx; refine EvF.consQ fun Qx hnQ hrQ => ?_; refine EvF.ret ?_; refine EvF.cbool ?_; refine hrQ _ _ _ rfl ?_; clear hnQ hrQ Qx
  exact ⟨rfl, _, h3, rfl, (Step.ext e).trans (st1.trans st2), Nat.le_refl _, rfl⟩

theorem spush_ok (ok : Ok A 1) (h : StoreAt prog w g X S) (z : Small S) :
    Ev prog w (KK w.params) A (PySem.call (.ref 220) [.ref X.a] []) g fun r g' => r = .none ∧ Turned prog w g X g' { S with marks := S.marks ++ [(S.trail.length : Int)] } X.kvs.length := by
  refine Ev.defV ok [("self", .ref X.a)] ["self"] [("self", some (.ref X.a))] (by rfl) (fun L g₁ A ok hL e hcell => ?_)
  have h := h.ext e
  have h1 := h.i
  have h2 := h.x
  have h3 := h.m
  have h4 := h.t
  have b1 : X.ts.length < 2 ^ 62 := by have := z.2.2.1; have := h.rt.len; exact bits (Nat.le_trans (Nat.le_of_eq (Eq.symm (by assumption))) (Nat.le_trans (m := 100) (by assumption) (by decide)))
  have b2 : X.ms.length ≤ sizeLine := by have := z.2.2.2.1; have := h.rm.len; have : sizeLine = 2 ^ 24 := rfl; exact line (Nat.le_trans (Nat.le_of_eq (Eq.symm (by assumption))) (Nat.le_trans (m := 100) (by assumption) (by decide)))
  refine EvF.consQ fun Qx hnQ hrQ => ?_; refine EvF.exprD ?_; refine EvF.meth ?_; refine EvF.attr ?_; refine EvF.loc (.head _) ?_; refine EvF.of (.getOwn (by assumption) (by assumption) (by rfl) (by rfl) (by rfl) ?_); refine' EvF.of (.methL ?h1 F.slot_list_append F.type_list_append ?_); (case h1 => assumption); refine ⟨by first | exact KeepOk.b | exact KeepOk.t | exact KeepOk.k (by rfl), ?_⟩; refine EvF.args1 ?_; refine EvF.call ?_; refine EvF.boot (by rfl) (bv_len) ?_; refine ⟨by first | exact KeepOk.b | exact KeepOk.t | exact KeepOk.k (by rfl), ?_⟩; refine EvF.args1 ?_; refine EvF.attr ?_; refine EvF.loc (.head _) ?_; refine EvF.of (.getOwn (by assumption) (by assumption) (by rfl) (by rfl) (by rfl) ?_); refine EvF.args0 ?_; refine' EvF.of (.lenL ?h1 ?h2 fun _ => ?_); (case h1 => assumption); (case h2 => assumption); refine EvF.args0 ?_; refine EvF.callApp ?_; refine' EvF.of (.append ?h1 ?h2 fun _ => ?_); (case h1 => assumption); (case h2 => assumption); refine hnQ _ _ ?_; clear hnQ hrQ Qx; refine EvF.nil ?_
  have key : ∀ t, IsI (S.trail.length : Int) (.int (X.ts.length : Int) t) := fun t => ⟨t, by rw [h.rt.len]⟩
  exact ⟨rfl, _, h.putM (h.rm.snoc (key _)) _, rfl, (Step.ext e).trans (Step.put (by simp [SR.fp])), Nat.le_refl _⟩
end Mine
end SFn3

section SFn4
open PySem PySem.W PySem.Calls PyProof.Rows PySem.SeqAt
set_option maxRecDepth 100000
namespace Mine
variable {prog : Program} {w : World} {A : Around} {g : Led} {X : SR} {S : St}
/-- the store behind a decision (n, "!=", k) -/
noncomputable def struckSt (S : St) (n : Nat) (d : List (Int × Int)) (k : Int) : St := { S with doms := S.doms.set n (without d k), trail := S.trail ++ [((n : Int), d)] }
theorem enter_ok (ok : Ok A 5) (h : StoreAt prog w g X S) (z : Small S) {n : Nat} {k : Int} {d : List (Int × Int)} {lv sv' : Value} (hn : S.doms[n]? = some d) (hx : Lit g (n, k) lv) (hk : X.kvs.length ≤ 100)
    (h0 : without d k ≠ []) (h1 : without d k ≠ d) :
    Ev prog w (KK w.params) A (PySem.call (.ref 192) [.ref X.a, lv, .none, sv'] []) g fun r g' => Turned prog w g X g' (struckSt S n d k) (X.kvs.length + 1) := by
  refine x43 hx.open fun a x t y z1 ha z2 z3 => ?_; subst z1; refine x10 z2 fun tx z4 => ?_; clear z2; subst z4; refine x10 z3 fun ty z5 => ?_; clear z3; subst z5
  refine Ev.defV ok [("self", .ref X.a), ("literal", .ref a), ("reasons", .none), ("speaker", sv')] ["self", "literal", "reasons", "speaker", "x", "old", "fresh"]
    [("self", some (.ref X.a)), ("literal", some (.ref a)), ("reasons", some .none), ("speaker", some sv'), ("x", none), ("old", none), ("fresh", none)] (by rfl) (fun L g₁ A ok hL e hcell => ?_)
  have h := h.ext e
  have i1 := h.i
  have i2 := h.x
  have i3 := h.d
  have i4 := h.t
  refine x11 (h.rd.get hn) fun y hy ry => ?_
  refine EvF.consQ fun Qx hnQ hrQ => ?_; refine EvF.assignS ?_; refine EvF.sub ?_; refine EvF.loc (.tail _ (.head _)) ?_; refine EvF.cint fun _ => ?_; refine' subTup ?h1 ?_; (case h1 => refine At.ext ?_ (by assumption); assumption); refine' EvF.of (.tupAt ?h1 0 rfl ?h2 (by decide) ?_); (case h1 => refine At.ext ?_ (by assumption); assumption); (case h2 => rfl); refine EvF.assignName ?_; refine EvF.store (.tail (.tail (.tail (.tail .head)))) ?_; refine hnQ _ _ ?_; clear hnQ hrQ Qx; refine EvF.consQ fun Qx hnQ hrQ => ?_; refine EvF.assignS ?_; refine EvF.sub ?_; refine EvF.attr ?_; refine EvF.loc (.head _) ?_; refine EvF.of (.getOwn (by assumption) (by assumption) (by rfl) (by rfl) (by rfl) ?_); refine EvF.loc (.tail _ (.tail _ (.tail _ (.tail _ (.head _))))) ?_; refine' subLst ?h1 ?_; (case h1 => assumption)
  refine .of (.lstAt i3 n rfl hy (small_idx z hn) ?_)
  refine EvF.assignName ?_; refine EvF.store (.tail (.tail (.tail (.tail (.tail .head))))) ?_; refine hnQ _ _ ?_; clear hnQ hrQ Qx; refine EvF.consQ fun Qx hnQ hrQ => ?_; refine EvF.assignS ?_; refine EvF.call ?_; refine EvF.top (by rfl) ?_; refine ⟨by first | exact KeepOk.b | exact KeepOk.t | exact KeepOk.k (by rfl), ?_⟩; refine EvF.args1 ?_; refine EvF.loc (.tail _ (.head _)) ?_; refine EvF.args1 ?_; refine EvF.loc (.tail _ (.tail _ (.tail _ (.tail _ (.tail _ (.head _)))))) ?_; refine EvF.args0 ?_
  refine .of ((struck_ok (ok.le (by omega)) (by have := small_dom z hn; have : sizeLine = 2 ^ 24 := rfl; omega) (Stays.lit.go hx e) ry).mono fun r g₂ hr => ?_)
  refine x01 hr ?_; clear hr; intro e2 hr
  refine EvF.assignName ?_; refine EvF.store (.tail (.tail (.tail (.tail (.tail (.tail .head)))))) ?_; refine hnQ _ _ ?_; clear hnQ hrQ Qx; refine EvF.consQ fun Qx hnQ hrQ => ?_; refine EvF.ifS ?_; refine EvF.test ?_; refine EvF.loc (.tail _ (.tail _ (.tail _ (.tail _ (.tail _ (.tail _ (.head _))))))) ?_; refine EvF.tuple ?_; refine EvF.args0 ?_; refine ⟨Nat.le_trans (m := 9) (by simp only [List.length_cons, List.length_nil]; decide) (by decide), fun _ _ => ?_⟩
  refine .of (.eqTp EqOn.pair (ps := without d k) (qs := []) (Stays.dom.go hr (Ext.trans (Ext.refl _) (Ext.new _ (by assumption)))) ⟨_, [], rfl, (⟨_, put_self .., _, rfl⟩), .nil⟩ ok.cl ?_)
  rw [decide_eq_false h0]
  refine EvF.truthyBool ?_; refine iteF ?_; refine EvF.nil ?_; refine hnQ _ _ ?_; clear hnQ hrQ Qx; refine EvF.consQ fun Qx hnQ hrQ => ?_; refine EvF.ifS ?_; refine EvF.test ?_; refine EvF.loc (.tail _ (.tail _ (.tail _ (.tail _ (.tail _ (.tail _ (.head _))))))) ?_; refine EvF.loc (.tail _ (.tail _ (.tail _ (.tail _ (.tail _ (.head _)))))) ?_
  refine .of (.eqTp EqOn.pair (ps := without d k) (qs := d) (Stays.dom.go hr (Ext.trans (Ext.refl _) (Ext.new _ (by assumption)))) (Stays.dom.go ry (Ext.trans (by assumption) (Ext.new _ (by assumption)))) ok.cl ?_)
  rw [decide_eq_false h1]
  have b2 : X.ts.length ≤ sizeLine := by have := z.2.2.1; have := h.rt.len; have : sizeLine = 2 ^ 24 := rfl; exact line (Nat.le_trans (Nat.le_of_eq (Eq.symm (by assumption))) (Nat.le_trans (m := 100) (by assumption) (by decide)))
  refine EvF.truthyBool ?_; refine iteF ?_; refine EvF.nil ?_; refine hnQ _ _ ?_; clear hnQ hrQ Qx; refine EvF.consQ fun Qx hnQ hrQ => ?_; refine EvF.exprD ?_; refine EvF.meth ?_; refine EvF.attr ?_; refine EvF.loc (.head _) ?_; refine EvF.of (.getOwn (At.ext (At.ext (by assumption) (by assumption)) (Ext.new _ (by assumption))) (At.ext (At.ext (by assumption) (by assumption)) (Ext.new _ (by assumption))) (by rfl) (by rfl) (by rfl) ?_); refine' EvF.of (.methL ?h1 F.slot_list_append F.type_list_append ?_); (case h1 => refine At.ext ?_ (Ext.new _ (by assumption)); refine At.ext ?_ (by assumption); assumption); refine ⟨by first | exact KeepOk.b | exact KeepOk.t | exact KeepOk.k (by rfl), ?_⟩; refine EvF.args1 ?_; refine EvF.tuple ?_; refine EvF.args1 ?_; refine EvF.loc (.tail _ (.tail _ (.tail _ (.tail _ (.head _))))) ?_; refine EvF.args1 ?_; refine EvF.loc (.tail _ (.tail _ (.tail _ (.tail _ (.tail _ (.head _)))))) ?_; refine EvF.args1 ?_; refine EvF.loc (.tail _ (.head _)) ?_; refine EvF.args1 ?_; refine EvF.loc (.tail _ (.tail _ (.head _))) ?_; refine EvF.args1 ?_; refine EvF.loc (.tail _ (.tail _ (.tail _ (.head _)))) ?_; refine EvF.args0 ?_; refine ⟨Nat.le_trans (m := 9) (by simp only [List.length_cons, List.length_nil]; decide) (by decide), fun _ _ => ?_⟩; refine EvF.args0 ?_; refine EvF.callApp ?_; refine' EvF.of (.append ?h1 ?h2 fun _ => ?_); (case h1 => refine At.ext ?_ (Ext.new _ (by assumption)); refine At.ext ?_ (Ext.new _ (by assumption)); refine At.ext ?_ (by assumption); assumption); (case h2 => assumption); refine hnQ _ _ ?_; clear hnQ hrQ Qx; refine EvF.consQ fun Qx hnQ hrQ => ?_; refine EvF.assignS ?_; refine EvF.loc (.tail _ (.tail _ (.tail _ (.tail _ (.tail _ (.tail _ (.head _))))))) ?_; refine EvF.assignSub ?_; refine EvF.attr ?_; refine EvF.loc (.head _) ?_
  rename_i a1 n1 hn1 a2 hn2 m2
  have e3 : Ext g₂ ((g₂.put n1 (tupV [] 0)).put a2 (tupV [.int n tx, y, .ref a, .none, sv'] 0)) := (Ext.new _ hn1).trans (Ext.new _ hn2)
  have hS := (h.ext e2).ext e3
  have hw : Dom ((g₂.put n1 (tupV [] 0)).put a2 (tupV [.int n tx, y, .ref a, .none, sv'] 0)) (without d k) r := Stays.dom.go hr e3
  have hE : TrE ((g₂.put n1 (tupV [] 0)).put a2 (tupV [.int n tx, y, .ref a, .none, sv'] 0)) ((n : Int), d) (.ref a2) := ⟨a2, _, y, _, _, _, rfl, ⟨_, put_self .., _, rfl⟩, ⟨_, rfl⟩, Stays.dom.go ry (e2.trans e3)⟩
  have st3 : Step g ((g₂.put n1 (tupV [] 0)).put a2 (tupV [.int n tx, y, .ref a, .none, sv'] 0)) X.fp X.fp := Step.ext (e.trans (e2.trans e3))
  have hT := hS.putT (trail := S.trail ++ [((n : Int), d)]) (hS.rt.snoc hE) m2
  have hwT := Stays.dom.kp hw (Kp.lst (o := lstV (X.ts ++ [.ref a2]) m2) hS.t)
  have stT := st3.trans (Step.put (fp := X.fp) (a := X.aT) (o := lstV (X.ts ++ [.ref a2]) m2) (by simp [SR.fp]))
  show EvF _ _ _ _ _ _ _ (((g₂.put n1 (tupV [] 0)).put a2 (tupV [.int n tx, y, .ref a, .none, sv'] 0)).put X.aT (lstV (X.ts ++ [.ref a2]) m2)) _
  generalize ((g₂.put n1 (tupV [] 0)).put a2 (tupV [.int n tx, y, .ref a, .none, sv'] 0)).put X.aT (lstV (X.ts ++ [.ref a2]) m2) = g₄ at hT hwT stT ⊢
  clear i1 i2 i3 i4
  have i1 : At g₄ X.a (InstO 244 X.dx) := hT.i
  have i2 := hT.x
  have i3 : At g₄ X.aD (LstO X.ds) := hT.d
  have hlt : n < X.ds.length := (List.getElem?_eq_some_iff.mp hy).1
  refine EvF.of (.getOwn (by assumption) (by assumption) (by rfl) (by rfl) (by rfl) ?_); refine EvF.loc (.tail _ (.tail _ (.tail _ (.tail _ (.head _))))) ?_
  refine .of (.setAt i3 n rfl hlt (small_idx z hn) fun m => ?_)
  have hD := hT.putD (doms := S.doms.set n (without d k)) (ds := X.ds.set n r) (hT.rd.setted n hwT) m
  have stD := stT.trans (Step.put (fp := X.fp) (a := X.aD) (o := lstV (X.ds.set n r) m) (by simp [SR.fp]))
  generalize g₄.put X.aD (lstV (X.ds.set n r) m) = g₅ at hD stD ⊢
  clear i1 i2 i3
  have i1 : At g₅ X.a (InstO 244 X.dx) := hD.i
  have i2 := hD.x
  refine hnQ _ _ ?_; clear hnQ hrQ Qx; refine EvF.consQ fun Qx hnQ hrQ => ?_; refine EvF.assignS ?_; refine EvF.cbool ?_; refine EvF.assignSub ?_; refine EvF.attr ?_; refine EvF.loc (.head _) ?_; refine EvF.of (.getOwn (by assumption) (by assumption) (by rfl) (by rfl) (by rfl) ?_); refine EvF.loc (.tail _ (.tail _ (.tail _ (.tail _ (.head _))))) ?_
  refine .of (.dicSet (knd := intKind prog w) (kvs := X.kvs) (k := (n : Int)) hD.n (by simp [intKind, Value.isInt]) (by have : sizeLine = 2 ^ 24 := rfl; exact line (Nat.le_trans (m := 100) (by assumption) (by decide))) fun o ho => ?_)
  have hN := hD.putN (kvs := stored X.kvs (n : Int) (.bool true)) ho
  have stN := stD.trans (Step.put (fp := X.fp) (a := X.nd) (o := o) (by simp [SR.fp]))
  refine hnQ _ _ ?_; clear hnQ hrQ Qx; refine EvF.consQ fun Qx hnQ hrQ => ?_; refine EvF.ret ?_; refine EvF.cbool ?_; refine hrQ _ _ _ rfl ?_; clear hnQ hrQ Qx
  exact ⟨_, hN, rfl, stN, stored_length_le _ _ _⟩

theorem decide_ok (ok : Ok A 6) (h : StoreAt prog w g X S) (z : Small S) {n : Nat} {k : Int} {d : List (Int × Int)} {lv : Value} (hn : S.doms[n]? = some d) (hx : Lit g (n, k) lv) (hk : X.kvs.length ≤ 100)
    (h0 : without d k ≠ []) (h1 : without d k ≠ d) :
    Ev prog w (KK w.params) A (PySem.call (.ref 206) [.ref X.a, lv] []) g fun r g' => Turned prog w g X g' (struckSt S n d k) (X.kvs.length + 1) := by
  refine Ev.defV ok [("self", .ref X.a), ("literal", lv)] ["self", "literal"] [("self", some (.ref X.a)), ("literal", some lv)] (by rfl) (fun L g₁ A ok hL e hcell => ?_)
  have h := h.ext e
  have i1 := h.i
  have i2 := h.x
  refine EvF.consQ fun Qx hnQ hrQ => ?_; refine EvF.ret ?_; refine EvF.meth ?_; refine EvF.loc (.head _) ?_; refine EvF.of (.method (by assumption) (by assumption) (by rfl) (by rfl) ?_); refine ⟨by first | exact KeepOk.b | exact KeepOk.t | exact KeepOk.k (by rfl), ?_⟩; refine EvF.args1 ?_; refine EvF.loc (.tail _ (.head _)) ?_; refine EvF.args1 ?_; refine EvF.cnone ?_; refine EvF.args1 ?_; refine EvF.negate ?_; refine EvF.cint fun _ => ?_; refine ⟨_, _, rfl, fun _ => ?_⟩; refine EvF.args0 ?_; refine EvF.callApp ?_
  refine .of ((enter_ok (ok.le (by omega)) h z hn (Stays.lit.go hx e) hk h0 h1).mono fun r g₂ hr => ?_)
  obtain ⟨X', h', ha, st, hk'⟩ := hr
  refine hrQ _ _ _ rfl ?_; clear hnQ hrQ Qx
  exact ⟨X', h', ha, (Step.ext e).trans st, hk'⟩
end Mine
end SFn4

section SFn5
open PySem PySem.W PySem.Calls PyProof.Rows PySem.SeqAt
set_option maxRecDepth 100000
namespace Mine
variable {prog : Program} {w : World} {A : Around} {g : Led} {X : SR} {S : St}
theorem new_var_ok (ok : Ok A 2) (h : StoreAt prog w g X S) (z : Small S) {d : List (Int × Int)} {dv : Value} (hd : Dom g d dv) (h0 : d ≠ []) :
    Ev prog w (KK w.params) A (PySem.call (.ref 115) [.ref X.a, dv] []) g fun r g' => IsI S.doms.length r ∧ Turned prog w g X g' { S with doms := S.doms ++ [d], firsts := S.firsts ++ [d] } X.kvs.length := by
  refine Ev.defV ok [("self", .ref X.a), ("domain", dv)] ["self", "domain"] [("self", some (.ref X.a)), ("domain", some dv)] (by rfl) (fun L g₁ A ok hL e hcell => ?_)
  have h := h.ext e
  have hd := Stays.dom.go hd e
  have i1 := h.i
  have i2 := h.x
  have i3 := h.d
  have hs : sizeLine = 2 ^ 24 := rfl
  have b1 : X.ds.length ≤ sizeLine := by have := z.1; have := h.rd.len; exact line (Nat.le_trans (Nat.le_of_eq (Eq.symm (by assumption))) (Nat.le_trans (m := 100) (by assumption) (by decide)))
  have b2 : X.fs.length ≤ sizeLine := by have := z.2.1; have := h.rf.len; exact line (Nat.le_trans (Nat.le_of_eq (Eq.symm (by assumption))) (Nat.le_trans (m := 100) (by assumption) (by decide)))
  refine EvF.consQ fun Qx hnQ hrQ => ?_; refine EvF.exprD ?_; refine EvF.meth ?_; refine EvF.attr ?_; refine EvF.loc (.head _) ?_; refine EvF.of (.getOwn (by assumption) (by assumption) (by rfl) (by rfl) (by rfl) ?_); refine' EvF.of (.methL ?h1 F.slot_list_append F.type_list_append ?_); (case h1 => assumption); refine ⟨by first | exact KeepOk.b | exact KeepOk.t | exact KeepOk.k (by rfl), ?_⟩; refine EvF.args1 ?_; refine EvF.loc (.tail _ (.head _)) ?_; refine EvF.args0 ?_; refine EvF.callApp ?_; refine' EvF.of (.append ?h1 ?h2 fun _ => ?_); (case h1 => assumption); (case h2 => assumption); refine hnQ _ _ ?_; clear hnQ hrQ Qx; refine EvF.consQ fun Qx hnQ hrQ => ?_; refine EvF.exprD ?_; refine EvF.meth ?_; refine EvF.attr ?_; refine EvF.loc (.head _) ?_
  rename_i m
  have hD := h.putD (doms := S.doms ++ [d]) (ds := X.ds ++ [dv]) (h.rd.snoc hd) m
  have hd' := Stays.dom.kp hd (Kp.lst (o := lstV (X.ds ++ [dv]) m) h.d)
  have st := (Step.ext (fp := X.fp) e).trans (Step.put (fp := X.fp) (a := X.aD) (o := lstV (X.ds ++ [dv]) m) (by simp [SR.fp]))
  generalize g₁.put X.aD (lstV (X.ds ++ [dv]) m) = g₂ at hD hd' st ⊢
  clear i1 i2 i3
  have i1 : At g₂ X.a (InstO 244 X.dx) := hD.i
  have i2 := hD.x
  have i3 : At g₂ X.aF (LstO X.fs) := hD.f
  refine EvF.of (.getOwn (by assumption) (by assumption) (by rfl) (by rfl) (by rfl) ?_); refine' EvF.of (.methL ?h1 F.slot_list_append F.type_list_append ?_); (case h1 => assumption); refine ⟨by first | exact KeepOk.b | exact KeepOk.t | exact KeepOk.k (by rfl), ?_⟩; refine EvF.args1 ?_; refine EvF.loc (.tail _ (.head _)) ?_; refine EvF.args0 ?_; refine EvF.callApp ?_; refine' EvF.of (.append ?h1 ?h2 fun _ => ?_); (case h1 => assumption); (case h2 => assumption); refine hnQ _ _ ?_; clear hnQ hrQ Qx; refine EvF.consQ fun Qx hnQ hrQ => ?_; refine EvF.ifS ?_; refine EvF.test ?_; refine EvF.loc (.tail _ (.head _)) ?_; refine EvF.tuple ?_; refine EvF.args0 ?_; refine ⟨Nat.le_trans (m := 9) (by simp only [List.length_cons, List.length_nil]; decide) (by decide), fun _ _ => ?_⟩
  rename_i m a ha
  have hF := hD.putF (firsts := S.firsts ++ [d]) (fs := X.fs ++ [dv]) (hD.rf.snoc hd') m
  have hd'' := Stays.dom.kp hd' (Kp.lst (o := lstV (X.fs ++ [dv]) m) hD.f)
  have st := st.trans (Step.put (fp := X.fp) (a := X.aF) (o := lstV (X.fs ++ [dv]) m) (by simp [SR.fp]))
  show EvF _ _ _ _ _ _ _ ((g₂.put X.aF (lstV (X.fs ++ [dv]) m)).put a _) _
  change (g₂.put X.aF (lstV (X.fs ++ [dv]) m)) a = none at ha
  generalize g₂.put X.aF (lstV (X.fs ++ [dv]) m) = g₃ at hF hd'' st ha ⊢
  clear i1 i2 i3
  have i1 : At g₃ X.a (InstO 244 X.dx) := hF.i
  have i2 := hF.x
  have i3 : At g₃ X.aD (LstO (X.ds ++ [dv])) := hF.d
  have b3 : (X.ds ++ [dv]).length < 2 ^ 62 := by have := z.1; have := h.rd.len; simp; omega
  refine .of (.eqTp EqOn.pair (ps := d) (qs := []) (Stays.dom.go hd'' (Ext.trans (Ext.refl _) (Ext.new _ (by assumption)))) ⟨_, [], rfl, (⟨_, put_self .., _, rfl⟩), .nil⟩ ok.cl ?_)
  rw [decide_eq_false h0]
  refine EvF.truthyBool ?_; refine iteF ?_; refine EvF.nil ?_; refine hnQ _ _ ?_; clear hnQ hrQ Qx; refine EvF.consQ fun Qx hnQ hrQ => ?_; refine EvF.ret ?_; refine EvF.binOp ?_; refine EvF.call ?_; refine EvF.boot (by rfl) (bv_len) ?_; refine ⟨by first | exact KeepOk.b | exact KeepOk.t | exact KeepOk.k (by rfl), ?_⟩; refine EvF.args1 ?_; refine EvF.attr ?_; refine EvF.loc (.head _) ?_; refine EvF.of (.getOwn (At.ext (by assumption) (Ext.new _ (by assumption))) (At.ext (by assumption) (Ext.new _ (by assumption))) (by rfl) (by rfl) (by rfl) ?_); refine EvF.args0 ?_; refine' EvF.of (.lenL ?h1 ?h2 fun _ => ?_); (case h1 => refine At.ext ?_ (Ext.new _ (by assumption)); assumption); (case h2 => assumption); refine EvF.cint fun _ => ?_; refine EvF.subI fun _ => ?_; refine hrQ _ _ _ rfl ?_; clear hnQ hrQ Qx
  have key : ∀ (i : Int) t, i = S.doms.length → IsI (S.doms.length : Int) (.int i t) := fun i t e => ⟨t, by rw [e]⟩
  refine ⟨key _ _ ?_, _, hF.ext (Ext.new _ ha), rfl, st.trans (Step.ext (Ext.new _ ha)), Nat.le_refl _⟩
  rw [h.rd.len]; simp

/-- all that the trail tells is undone, the last first -/
noncomputable def undo (doms : List (List (Int × Int))) (trail : List (Int × List (Int × Int))) : List (List (Int × Int)) := trail.foldr (fun p d => d.set p.1.toNat p.2) doms
noncomputable def TrOk (doms : List (List (Int × Int))) (trail : List (Int × List (Int × Int))) : Prop := ∀ p ∈ trail, 0 ≤ p.1 ∧ p.1 < doms.length
theorem undo_len (doms : List (List (Int × Int))) : ∀ trail, (undo doms trail).length = doms.length
  | [] => rfl
  | p :: r => by
    show ((undo doms r).set _ _).length = _
    rw [List.length_set, undo_len doms r]
theorem undo_snoc (doms : List (List (Int × Int))) (t : List (Int × List (Int × Int))) (p : Int × List (Int × Int)) : undo doms (t ++ [p]) = undo (doms.set p.1.toNat p.2) t := by
  unfold undo; rw [List.foldr_append]; rfl
theorem all2_snoc_inv {α β : Type} {R : α → β → Prop} {a : List α} {x : α} {b : List β} (h : All2 R (a ++ [x]) b) : ∃ b' y, b = b' ++ [y] ∧ All2 R a b' ∧ R x y := by
  induction a generalizing b with
  | nil => cases h with | cons r h => cases h; exact ⟨[], _, rfl, .nil, r⟩
  | cons z a ih => cases h with | cons r h => refine x22 (ih h) fun b' y z1 h' ry => ?_; subst z1; exact ⟨_ :: b', y, rfl, .cons r h', ry⟩

end Mine
end SFn5

section SFn6
open PySem PySem.W PySem.Calls PyProof.Rows PySem.SeqAt
set_option maxRecDepth 100000
set_option maxHeartbeats 4000000
namespace Mine
variable {prog : Program} {w : World} {A : Around} {g : Led} {X : SR} {S : St}
theorem len3 {l : List Value} (h : l.length = 3) : ∃ a b c, l = [a, b, c] := by
  cases l with
  | nil => cases h
  | cons a l =>
    cases l with
    | nil => cases h
    | cons b l =>
      cases l with
      | nil => cases h
      | cons c l => cases l with | nil => exact ⟨_, _, _, rfl⟩ | cons _ _ => cases h
theorem pop_ok (ok : Ok A 2) (h : StoreAt prog w g X S) (z : Small S) {m1 m2 : Int} (hm : S.marks = [0, m1, m2]) (ht : TrOk S.doms S.trail) {nv : Value} (hn : IsI 3 nv) (hf : [] ∉ S.firsts) :
    Ev prog w (KK w.params) A (PySem.call (.ref 227) [.ref X.a, nv] []) g fun r g' => Turned prog w g X g' { S with doms := undo S.doms S.trail, trail := [], marks := [], failed := false, clash := [] } 0 := by
  refine x10 hn fun t z1 => ?_; clear hn; subst z1
  refine Ev.defV ok [("self", .ref X.a), ("n", .int 3 t)] ["self", "n", "mark", "entry"] [("self", some (.ref X.a)), ("n", some (.int 3 t)), ("mark", none), ("entry", none)] (by rfl) (fun L g₁ A ok hL e hcell => ?_)
  have h := h.ext e
  have i1 := h.i
  have i2 := h.x
  have i3 := h.m
  have hs : sizeLine = 2 ^ 24 := rfl
  have hml : X.ms.length = 3 := by rw [← h.rm.len, hm]; rfl
  refine x30 (len3 hml) fun v0 v1 v2 hms => ?_
  have hv0 : IsI 0 v0 := by
    have := h.rm; rw [hm, hms] at this; cases this with | cons r _ => exact r
  refine x10 hv0 fun t0 z41 => ?_; clear hv0; subst z41
  have b1 : X.ms.length < 2 ^ 62 := (by omega)
  refine EvF.consQ fun Qx hnQ hrQ => ?_; refine EvF.ifS ?_; refine EvF.test ?_; refine EvF.loc (.tail _ (.head _)) ?_; refine EvF.cint fun _ => ?_; refine EvF.ltI ?_; refine EvF.truthyBool ?_
  rw [show decide ((3 : Int) < 1) = false by decide]
  refine iteF ?_; refine EvF.nil ?_; refine hnQ _ _ ?_; clear hnQ hrQ Qx; refine EvF.consQ fun Qx hnQ hrQ => ?_; refine EvF.assignS ?_; refine EvF.sub ?_; refine EvF.attr ?_; refine EvF.loc (.head _) ?_; refine EvF.of (.getOwn (by assumption) (by assumption) (by rfl) (by rfl) (by rfl) ?_); refine EvF.binOp ?_; refine EvF.call ?_; refine EvF.boot (by rfl) (bv_len) ?_; refine ⟨by first | exact KeepOk.b | exact KeepOk.t | exact KeepOk.k (by rfl), ?_⟩; refine EvF.args1 ?_; refine EvF.attr ?_; refine EvF.loc (.head _) ?_; refine EvF.of (.getOwn (by assumption) (by assumption) (by rfl) (by rfl) (by rfl) ?_); refine EvF.args0 ?_; refine' EvF.of (.lenL ?h1 ?h2 fun _ => ?_); (case h1 => assumption); (case h2 => assumption); refine EvF.loc (.tail _ (.head _)) ?_; refine EvF.subI fun _ => ?_; refine' subLst ?h1 ?_; (case h1 => assumption)
  have hsl : (slicePick X.ms.toArray none (some ((X.ms.length : Int) - 3)) none).toList = [] := by rw [hms]; rfl
  refine .of (.lstAt i3 0 (by rw [hml]; rfl) (by rw [hms]; rfl) (by decide) ?_)
  refine EvF.assignName ?_; refine EvF.store (.tail (.tail .head)) ?_; refine hnQ _ _ ?_; clear hnQ hrQ Qx; refine EvF.consQ fun Qx hnQ hrQ => ?_; refine EvF.assignS ?_; refine EvF.sub ?_; refine EvF.attr ?_; refine EvF.loc (.head _) ?_; refine EvF.of (.getOwn (by assumption) (by assumption) (by rfl) (by rfl) (by rfl) ?_); refine EvF.sliceE ?_; refine EvF.partN ?_; refine EvF.partS ?_; refine EvF.binOp ?_; refine EvF.call ?_; refine EvF.boot (by rfl) (bv_len) ?_; refine ⟨by first | exact KeepOk.b | exact KeepOk.t | exact KeepOk.k (by rfl), ?_⟩; refine EvF.args1 ?_; refine EvF.attr ?_; refine EvF.loc (.head _) ?_; refine EvF.of (.getOwn (by assumption) (by assumption) (by rfl) (by rfl) (by rfl) ?_); refine EvF.args0 ?_; refine' EvF.of (.lenL ?h1 ?h2 fun _ => ?_); (case h1 => assumption); (case h2 => assumption); refine EvF.loc (.tail _ (.head _)) ?_; refine EvF.subI fun _ => ?_; intro _ _; refine' subLst ?h1 ?_; (case h1 => refine At.ext ?_ (Ext.new _ (by assumption)); assumption)
  rename_i tk cs hcs
  have es : Ext g₁ (g₁.put cs (slcV .none (.int ((X.ms.length : Int) - 3) tk))) := Ext.new _ hcs
  refine .of (.lstSlice (i3.ext es) (put_self ..) .none (.int _ _) (by omega) fun c hc => ?_)
  rw [hsl]
  generalize g₁.put cs (slcV .none (.int ((X.ms.length : Int) - 3) tk)) = gs at es hc ⊢
  have h := h.ext es
  have e := e.trans es
  have i1 := h.i
  have i2 := h.x
  refine EvF.assignAttr ?_; refine EvF.loc (.head _) ?_
  refine EvF.setOwn (i1.ext (Ext.new _ hc)) (i2.ext (Ext.new _ hc)) (by exact of_decide_eq_true rfl) fun o ho => ?_
  have hM := h.newM (n := 0) hc ho
  have st := (Step.ext (fp := X.fp) e).trans (Step.newM (X := X) (o := lstV [] 0) (o' := o) hc)
  clear ho
  generalize (gs.put c (lstV [] 0)).put X.dx o = g₂ at hM st ⊢
  refine hnQ _ _ ?_; clear hnQ hrQ Qx; refine EvF.consQ fun Qx hnQ hrQ => ?_
  refine EvF.whileS (fun n vs g' => ∃ X' T doms u, StoreAt prog w g' X' { S with marks := [], doms := doms, trail := T } ∧ X'.a = X.a ∧ Step g g' X.fp X'.fp ∧ undo doms T = undo S.doms S.trail ∧ TrOk doms T ∧ T.length = n ∧ T.length ≤ 100 ∧ doms.length = S.doms.length ∧
    vs = ([("self", some (.ref X.a)), ("n", some (.int 3 t)), ("mark", some (.int 0 t0)), ("entry", u)] : Vars)) S.trail.length ⟨_, S.trail, S.doms, _, hM, rfl, st, rfl, ht, rfl, z.2.2.1, rfl, rfl⟩ fun n vs g' hI => ?_
  refine x45 hI fun X' T doms u hX ea st hu hT z61 => ?_; clear hI; refine x03 z61 fun hn hz hdl z62 => ?_; clear z61; subst z62
  have i1 : At g' X.a (InstO 244 X'.dx) := ea ▸ hX.i
  have i2 := hX.x
  have i3 := hX.t
  have b1 : X'.ts.length < 2 ^ 62 := by have := hX.rt.len; simp only at this; exact bits (Nat.le_trans (Nat.le_of_eq (Eq.symm (by assumption))) (Nat.le_trans (m := 100) (by assumption) (by decide)))
  have hts : X'.ts.length = T.length := hX.rt.len.symm
  refine EvF.test ?_; refine EvF.call ?_; refine EvF.boot (by rfl) (bv_len) ?_; refine ⟨by first | exact KeepOk.b | exact KeepOk.t | exact KeepOk.k (by rfl), ?_⟩; refine EvF.args1 ?_; refine EvF.attr ?_; refine EvF.loc (.head _) ?_; refine EvF.of (.getOwn (by assumption) (by assumption) (by rfl) (by rfl) (by rfl) ?_); refine EvF.args0 ?_; refine' EvF.of (.lenL ?h1 ?h2 fun _ => ?_); (case h1 => assumption); (case h2 => assumption); refine EvF.loc (.tail _ (.tail _ (.head _))) ?_; refine EvF.gtI ?_; refine EvF.truthyBool ?_
  rw [hts]
  by_cases hT0 : T = []
  · subst hT0
    rw [show decide (((([] : List (Int × List (Int × Int))).length : Nat) : Int) > 0) = false by decide]
    refine iteF ?_; refine EvF.nil ?_; refine hnQ _ _ ?_; clear hnQ hrQ Qx; refine EvF.consQ fun Qx hnQ hrQ => ?_; refine EvF.assignS ?_; refine EvF.dic0 fun _ _ => ?_; refine EvF.assignAttr ?_; refine EvF.loc (.head _) ?_
    rename_i nd hnd
    have e1 := Ext.new ({ cls := .type "dict", data := .dict #[] } : Obj) hnd
    refine EvF.setOwn (i1.ext e1) (i2.ext e1) (by exact of_decide_eq_true rfl) fun o ho => ?_
    have hN := hX.newN hnd ho
    have st := st.trans (Step.newN (X := X') (o := { cls := .type "dict", data := .dict #[] }) (o' := o) hnd)
    have hdu : doms = undo S.doms S.trail := hu
    clear ho e1
    generalize (g'.put nd { cls := .type "dict", data := .dict #[] }).put X'.dx o = g₃ at hN st ⊢
    clear i1 i2 i3
    have i1 : At g₃ X.a (InstO 244 X'.dx) := ea ▸ hN.i
    have i2 := hN.x
    refine hnQ _ _ ?_; clear hnQ hrQ Qx; refine EvF.consQ fun Qx hnQ hrQ => ?_; refine EvF.assignS ?_; refine EvF.compare ?_; refine EvF.tuple ?_; refine EvF.args0 ?_; refine ⟨Nat.le_trans (m := 9) (by simp only [List.length_cons, List.length_nil]; decide) (by decide), fun _ _ => ?_⟩; refine EvF.attr ?_; refine EvF.loc (.head _) ?_; refine EvF.of (.getOwn (At.ext (by assumption) (Ext.new _ (by assumption))) (At.ext (by assumption) (Ext.new _ (by assumption))) (by rfl) (by rfl) (by rfl) ?_)
    rename_i tu htu
    have e1 : Ext g₃ (g₃.put tu (tupV [] 0)) := Ext.new _ htu
    refine .of (.inLs (ps := S.firsts) (p := []) EqOn.dom Func.dom ⟨_, _, rfl, hN.f.ext e1, Stays.dom.all hN.rf e1.kp⟩ ⟨tu, [], rfl, (⟨_, put_self .., _, rfl⟩), .nil⟩ ok.cl false ⟨fun q => absurd q Bool.false_ne_true, fun q => absurd q hf⟩ ?_)
    have hN := hN.ext e1
    have st := st.trans (Step.ext e1)
    generalize g₃.put tu (tupV [] 0) = g₄ at hN st ⊢
    clear i1 i2
    have i1 : At g₄ X.a (InstO 244 X'.dx) := ea ▸ hN.i
    have i2 := hN.x
    refine EvF.assignAttr ?_; refine EvF.loc (.head _) ?_
    refine EvF.setOwn i1 i2 (by exact of_decide_eq_true rfl) fun o ho => ?_
    have hQ := Parts.putX (X := { X' with nd := nd, kvs := [] }) (S := { S with marks := [], doms := doms, trail := [], failed := false }) ⟨hN.i, hN.d, hN.f, hN.t, hN.m, hN.n, hN.rd, hN.rf, hN.rt, hN.rm, hN.rc, hN.sep⟩ i2 ho
    have st := st.trans (Step.put (fp := SR.fp { X' with nd := nd, kvs := [] }) (a := X'.dx) (o := o) (.head _))
    clear ho
    generalize g₄.put X'.dx o = g₅ at hQ st ⊢
    clear i1 i2
    have i1 : At g₅ X.a (InstO 244 X'.dx) := ea ▸ hQ.i
    have i2 := hQ.x
    refine hnQ _ _ ?_; clear hnQ hrQ Qx; refine EvF.consQ fun Qx hnQ hrQ => ?_; refine EvF.assignS ?_; refine EvF.tuple ?_; refine EvF.args0 ?_; refine ⟨Nat.le_trans (m := 9) (by simp only [List.length_cons, List.length_nil]; decide) (by decide), fun _ _ => ?_⟩; refine EvF.assignAttr ?_; refine EvF.loc (.head _) ?_
    rename_i tv htv
    have e1 : Ext g₅ (g₅.put tv (tupV [] 0)) := Ext.new _ htv
    refine EvF.setOwn (i1.ext e1) (i2.ext e1) (by exact of_decide_eq_true rfl) fun o ho => ?_
    have hQ := hQ.ext e1
    have hE : Tp Lit (g₅.put tv (tupV [] 0)) [] (.ref tv) := ⟨tv, [], rfl, (⟨_, put_self .., _, rfl⟩), .nil⟩
    have hZ := Parts.putX (X := { X' with nd := nd, kvs := [], cv := .ref tv }) (S := { S with marks := [], doms := doms, trail := [], failed := false, clash := [] }) ⟨hQ.i, hQ.d, hQ.f, hQ.t, hQ.m, hQ.n, hQ.rd, hQ.rf, hQ.rt, hQ.rm, hE, hQ.sep⟩ hQ.x ho
    have st := (st.trans (Step.ext e1)).trans (Step.put (fp := SR.fp { X' with nd := nd, kvs := [] }) (a := X'.dx) (o := o) (.head _))
    refine hnQ _ _ ?_; clear hnQ hrQ Qx; refine EvF.nil ?_
    rw [← hdu]
    exact ⟨_, hZ, ea, st, Nat.le_refl _⟩
  · obtain ⟨T', p, rfl⟩ : ∃ T' p, T = T' ++ [p] := ⟨T.dropLast, T.getLast hT0, (List.dropLast_concat_getLast hT0).symm⟩
    rw [show decide ((((T' ++ [p]).length : Nat) : Int) > 0) = true from decide_eq_true (by simp)]
    refine x22 (all2_snoc_inv hX.rt) fun ts' y hte hT' hy => ?_
    have i3' : At g' X'.aT (LstO (ts' ++ [y])) := hte ▸ i3
    have hp := hT p (List.mem_append_right _ (.head _))
    have b2 : (ts' ++ [y]).length ≤ sizeLine := by rw [← hte]; exact line (Nat.le_trans (Nat.le_of_eq (by assumption)) (Nat.le_trans (m := 100) (by assumption) (by decide)))
    refine iteT ?_; refine EvF.consQ fun Qx hnQ hrQ => ?_; refine EvF.assignS ?_; refine EvF.meth0 ?_; refine EvF.attr ?_; refine EvF.loc (.head _) ?_; refine EvF.of (.getOwn (by assumption) (by assumption) (by rfl) (by rfl) (by rfl) ?_); refine' EvF.of (.methL ?h1 F.slot_list_pop F.type_list_pop ?_); (case h1 => assumption); refine ⟨by first | exact KeepOk.b | exact KeepOk.t | exact KeepOk.k (by rfl), ?_⟩
    refine .of (.popLast i3' (y := y) (by simp) b2 fun m => ?_)
    rw [List.dropLast_concat]
    have hP := hX.putT (trail := T') (ts := ts') hT' m
    have hy := Stays.tre.kp hy (Kp.lst (o := lstV ts' m) hX.t)
    have st := st.trans (Step.put (fp := X'.fp) (a := X'.aT) (o := lstV ts' m) (.tail _ (.tail _ (.tail _ (.head _)))))
    generalize g'.put X'.aT (lstV ts' m) = g₃ at hP hy st ⊢
    clear i1 i2 i3 i3'
    obtain ⟨ya, yx, yo, yl, yr, ys, rfl, hya, ⟨tx, rfl⟩, hyo⟩ := hy
    have i1 : At g₃ X.a (InstO 244 X'.dx) := ea ▸ hP.i
    have i2 := hP.x
    have i3 : At g₃ X'.aD (LstO X'.ds) := hP.d
    refine EvF.assignName ?_; refine EvF.store (.tail (.tail (.tail .head))) ?_; refine hnQ _ _ ?_; clear hnQ hrQ Qx; refine EvF.consQ fun Qx hnQ hrQ => ?_; refine EvF.assignS ?_; refine EvF.sub ?_; refine EvF.loc (.tail _ (.tail _ (.tail _ (.head _)))) ?_; refine EvF.cint fun _ => ?_; refine' subTup ?h1 ?_; (case h1 => assumption); refine' EvF.of (.tupAt ?h1 1 rfl ?h2 (by decide) ?_); (case h1 => assumption); (case h2 => rfl); refine EvF.assignSub ?_; refine EvF.attr ?_; refine EvF.loc (.head _) ?_; refine EvF.of (.getOwn (by assumption) (by assumption) (by rfl) (by rfl) (by rfl) ?_); refine EvF.sub ?_; refine EvF.loc (.tail _ (.tail _ (.tail _ (.head _)))) ?_; refine EvF.cint fun _ => ?_; refine' subTup ?h1 ?_; (case h1 => assumption); refine' EvF.of (.tupAt ?h1 0 rfl ?h2 (by decide) ?_); (case h1 => assumption); (case h2 => rfl)
    have hpn : p.1 = (p.1.toNat : Int) := (Int.toNat_of_nonneg hp.1).symm
    have hpl : p.1.toNat < X'.ds.length := by have := hP.rd.len; simp only at this; omega
    refine .of (.setAt i3 p.1.toNat hpn hpl (by have := z.1; omega) fun m => ?_)
    have hD := hP.putD (doms := doms.set p.1.toNat p.2) (ds := X'.ds.set p.1.toNat yo) (hP.rd.setted _ hyo) m
    have st := st.trans (Step.put (fp := X'.fp) (a := X'.aD) (o := lstV (X'.ds.set p.1.toNat yo) m) (.tail _ (.head _)))
    refine hnQ _ _ ?_; clear hnQ hrQ Qx; refine EvF.nil ?_
    refine ⟨T'.length, by rw [← hn]; simp, _, T', doms.set p.1.toNat p.2, _, hD, ea, st, ?_, ?_, rfl, by simp at hz; omega, by rw [List.length_set]; exact hdl, rfl⟩
    · rw [← hu, undo_snoc]
    · intro q hq
      rw [List.length_set]
      exact hT q (List.mem_append_left _ hq)
end Mine
end SFn6

section SFn7
open PySem PySem.W PySem.Calls PyProof.Rows PySem.SeqAt
set_option maxRecDepth 100000
set_option maxHeartbeats 4000000
namespace Mine
variable {prog : Program} {w : World} {A : Around} {g : Led} {X : SR} {S : St}
noncomputable def st0 : St := ⟨[], [], [], [], false, []⟩
theorem store_new (ok : Ok A 3) : Ev prog w (KK w.params) A (PySem.call (.ref 244) [] []) g fun r g' => ∃ X, r = .ref X.a ∧ StoreAt prog w g' X st0 ∧ Ext g g' ∧ (∀ b ∈ X.fp, g b = none) ∧ X.kvs = [] := by
  refine Ev.make (f := 108) (by rfl) fun x dx hx hdx hne => ?_
  have ok := under_ok (C := 244) (args := []) (ok.le (m := 2 + 1) (by omega))
  refine EvC.defV ok [("self", .ref x)] ["self"] [("self", some (.ref x))] (by rfl) (fun L g₁ A ok hL e hcell => ?_)
  have H := (Half.start (P := w.params) (C := 244) hx hdx hne).ext e
  refine EvF.consQ fun Qx hnQ hrQ => ?_; refine EvF.assignS ?_; refine EvF.list ?_; refine EvF.args0 ?_; refine ⟨Nat.le_trans (m := 9) (by simp only [List.length_cons, List.length_nil]; decide) (by decide), fun _ _ => ?_⟩; refine EvF.assignAttr ?_; refine EvF.loc (.head _) ?_
  rename_i c1 hc1
  have H := H.new (o := (lstV [] 0)) hc1
  refine EvF.setOwn H.i H.d (by exact of_decide_eq_true rfl) fun o ho => ?_
  have H := H.set ho
  clear ho
  generalize (g₁.put c1 (lstV [] 0)).put dx o = g₂ at H ⊢
  refine hnQ _ _ ?_; clear hnQ hrQ Qx; refine EvF.consQ fun Qx hnQ hrQ => ?_; refine EvF.assignS ?_; refine EvF.list ?_; refine EvF.args0 ?_; refine ⟨Nat.le_trans (m := 9) (by simp only [List.length_cons, List.length_nil]; decide) (by decide), fun _ _ => ?_⟩; refine EvF.assignAttr ?_; refine EvF.loc (.head _) ?_
  rename_i c2 hc2
  have H := H.new (o := (lstV [] 0)) hc2
  refine EvF.setOwn H.i H.d (by exact of_decide_eq_true rfl) fun o ho => ?_
  have H := H.set ho
  clear ho
  generalize (g₂.put c2 (lstV [] 0)).put dx o = g₃ at H ⊢
  refine hnQ _ _ ?_; clear hnQ hrQ Qx; refine EvF.consQ fun Qx hnQ hrQ => ?_; refine EvF.assignS ?_; refine EvF.list ?_; refine EvF.args0 ?_; refine ⟨Nat.le_trans (m := 9) (by simp only [List.length_cons, List.length_nil]; decide) (by decide), fun _ _ => ?_⟩; refine EvF.assignAttr ?_; refine EvF.loc (.head _) ?_
  rename_i c3 hc3
  have H := H.new (o := (lstV [] 0)) hc3
  refine EvF.setOwn H.i H.d (by exact of_decide_eq_true rfl) fun o ho => ?_
  have H := H.set ho
  clear ho
  generalize (g₃.put c3 (lstV [] 0)).put dx o = g₄ at H ⊢
  refine hnQ _ _ ?_; clear hnQ hrQ Qx; refine EvF.consQ fun Qx hnQ hrQ => ?_; refine EvF.assignS ?_; refine EvF.list ?_; refine EvF.args0 ?_; refine ⟨Nat.le_trans (m := 9) (by simp only [List.length_cons, List.length_nil]; decide) (by decide), fun _ _ => ?_⟩; refine EvF.assignAttr ?_; refine EvF.loc (.head _) ?_
  rename_i c4 hc4
  have H := H.new (o := (lstV [] 0)) hc4
  refine EvF.setOwn H.i H.d (by exact of_decide_eq_true rfl) fun o ho => ?_
  have H := H.set ho
  clear ho
  generalize (g₄.put c4 (lstV [] 0)).put dx o = g₅ at H ⊢
  refine hnQ _ _ ?_; clear hnQ hrQ Qx; refine EvF.consQ fun Qx hnQ hrQ => ?_; refine EvF.assignS ?_; refine EvF.dic0 fun _ _ => ?_; refine EvF.assignAttr ?_; refine EvF.loc (.head _) ?_
  rename_i c5 hc5
  have H := H.new (o := ({ cls := .type "dict", data := .dict #[] } : Obj)) hc5
  refine EvF.setOwn H.i H.d (by exact of_decide_eq_true rfl) fun o ho => ?_
  have H := H.set ho
  clear ho
  generalize (g₅.put c5 ({ cls := .type "dict", data := .dict #[] } : Obj)).put dx o = g₆ at H ⊢
  refine hnQ _ _ ?_; clear hnQ hrQ Qx; refine EvF.consQ fun Qx hnQ hrQ => ?_; refine EvF.assignS ?_; refine EvF.negate ?_; refine EvF.cint fun _ => ?_; refine ⟨_, _, rfl, fun _ => ?_⟩; refine EvF.assignAttr ?_; refine EvF.loc (.head _) ?_
  refine EvF.setOwn H.i H.d (by exact of_decide_eq_true rfl) fun o ho => ?_
  have H := H.set ho
  clear ho
  generalize g₆.put dx o = g₇ at H ⊢
  refine hnQ _ _ ?_; clear hnQ hrQ Qx; refine EvF.consQ fun Qx hnQ hrQ => ?_; refine EvF.assignS ?_; refine EvF.cbool ?_; refine EvF.assignAttr ?_; refine EvF.loc (.head _) ?_
  refine EvF.setOwn H.i H.d (by exact of_decide_eq_true rfl) fun o ho => ?_
  have H := H.set ho
  clear ho
  generalize g₇.put dx o = g₈ at H ⊢
  refine hnQ _ _ ?_; clear hnQ hrQ Qx; refine EvF.consQ fun Qx hnQ hrQ => ?_; refine EvF.assignS ?_; refine EvF.tuple ?_; refine EvF.args0 ?_; refine ⟨Nat.le_trans (m := 9) (by simp only [List.length_cons, List.length_nil]; decide) (by decide), fun _ _ => ?_⟩; refine EvF.assignAttr ?_; refine EvF.loc (.head _) ?_
  rename_i c6 hc6
  have H := H.new (o := (tupV [] 0)) hc6
  refine EvF.setOwn H.i H.d (by exact of_decide_eq_true rfl) fun o ho => ?_
  have H := H.set ho
  clear ho
  generalize (g₈.put c6 (tupV [] 0)).put dx o = g₉ at H ⊢
  refine hnQ _ _ ?_; clear hnQ hrQ Qx; refine EvF.nil ?_
  have o1 := H.o (c1, lstV [] 0) (.tail _ (.tail _ (.tail _ (.tail _ (.tail _ (.head _))))))
  have o2 := H.o (c2, lstV [] 0) (.tail _ (.tail _ (.tail _ (.tail _ (.head _)))))
  have o3 := H.o (c3, lstV [] 0) (.tail _ (.tail _ (.tail _ (.head _))))
  have o4 := H.o (c4, lstV [] 0) (.tail _ (.tail _ (.head _)))
  have o5 := H.o (c5, { cls := .type "dict", data := .dict #[] }) (.tail _ (.head _))
  have o6 := H.o (c6, tupV [] 0) (.head _)
  have nd : [c6, c5, c4, c3, c2, c1].Nodup := H.nd
  have hx : ∀ b ∈ [c6, c5, c4, c3, c2, c1], b ≠ dx ∧ g b = none := fun b m => by
    simp only [List.mem_cons, List.not_mem_nil, or_false] at m
    rcases m with rfl | rfl | rfl | rfl | rfl | rfl
    · exact H.n1 _ (.head _)
    · exact H.n1 _ (.tail _ (.head _))
    · exact H.n1 _ (.tail _ (.tail _ (.head _)))
    · exact H.n1 _ (.tail _ (.tail _ (.tail _ (.head _))))
    · exact H.n1 _ (.tail _ (.tail _ (.tail _ (.tail _ (.head _)))))
    · exact H.n1 _ (.tail _ (.tail _ (.tail _ (.tail _ (.tail _ (.head _))))))
  have fp1 : ∀ b ∈ [c1, c2, c3, c4, c5], b ∈ [c6, c5, c4, c3, c2, c1] := fun b m => .tail _ (List.mem_reverse.mp (show b ∈ [c5, c4, c3, c2, c1].reverse from m))
  have sep : [dx, c1, c2, c3, c4, c5].Nodup := List.nodup_cons.mpr ⟨fun m => (hx _ (fp1 _ m)).1 rfl, ((List.reverse_perm [c5, c4, c3, c2, c1]).nodup_iff.mpr (List.nodup_cons.mp nd).2 : _)⟩
  exact ⟨rfl, ⟨x, dx, c1, c2, c3, c4, c5, [], [], [], [], _, .ref c6, []⟩, rfl, ⟨⟨H.i, ⟨_, o1, 0, rfl⟩, ⟨_, o2, 0, rfl⟩, ⟨_, o3, 0, rfl⟩, ⟨_, o4, 0, rfl⟩, ⟨_, o5, DicO.new⟩, .nil, .nil, .nil, .nil, ⟨c6, [], rfl, ⟨_, o6, 0, rfl⟩, .nil⟩, sep⟩, H.d⟩, H.e, fun b m => (List.mem_cons.mp m).elim (fun q => q ▸ H.n0) fun m => (hx b (fp1 b m)).2, rfl⟩
end Mine
end SFn7

section SFn8
open PySem PySem.W PySem.Calls PyProof.Rows PySem.SeqAt
set_option maxRecDepth 100000
set_option maxHeartbeats 4000000
namespace Mine
variable {prog : Program} {w : World} {A : Around} {g : Led}
/-- the tape: its cells, and where it stands -/
structure TapeAt (prog : Program) (w : World) (g : Led) (a ca : Addr) (cells : List Int) (n : Nat) : Prop where
  d : ∃ sv, At g a (DicO (strKind prog w) [(("cells" : Str), .ref ca), (("spot" : Str), sv)]) ∧ IsI n sv
  c : ∃ cs, At g ca (LstO cs) ∧ All2 IsI cells cs
theorem TapeAt.ext {g' : Led} {a ca : Addr} {cells : List Int} {n : Nat} (h : TapeAt prog w g a ca cells n) (e : Ext g g') : TapeAt prog w g' a ca cells n :=
  ⟨x11 h.d fun sv h1 h2 => ⟨sv, h1.ext e, h2⟩, x11 h.c fun cs h3 h4 => ⟨cs, h3.ext e, h4⟩⟩
theorem TapeAt.ne {a ca : Addr} {cells : List Int} {n : Nat} (h : TapeAt prog w g a ca cells n) : ca ≠ a := by
  obtain ⟨⟨sv, ⟨o, ho, es, ep, e, _⟩, _⟩, ⟨cs, ⟨o', ho', m, rfl⟩, _⟩⟩ := h
  rintro rfl
  rw [ho] at ho'; cases ho'
  have := e.1; simp at this
theorem take_ok (ok : Ok A 1) {a ca : Addr} {cells : List Int} {n : Nat} {wide : Int} {wv : Value} (h : TapeAt prog w g a ca cells n) (hn : n ≤ 1000) (hc : cells.length ≤ 100) (hw : 0 < wide) (hwv : IsI wide wv) :
    Ev prog w (KK w.params) A (PySem.call (.ref 358) [.ref a, wv] []) g fun r g' => (∃ v, IsI v r ∧ 0 ≤ v ∧ v < wide) ∧ TapeAt prog w g' a ca cells (n + 1) ∧ Step g g' [a] [a] := by
  refine x10 hwv fun tw z21 => ?_; clear hwv; subst z21
  refine Ev.defV ok [("tape", .ref a), ("wide", .int wide tw)] ["tape", "wide", "spot"] [("tape", some (.ref a)), ("wide", some (.int wide tw)), ("spot", none)] (by rfl) (fun L g₁ A ok hL e hcell => ?_)
  have h := h.ext e
  have hne := h.ne
  obtain ⟨⟨sv, h1, ⟨ts, rfl⟩⟩, ⟨cs, h3, h4⟩⟩ := h
  refine EvF.consQ fun Qx hnQ hrQ => ?_; refine EvF.assignS ?_; refine EvF.sub ?_; refine EvF.loc (.head _) ?_; refine EvF.cstr fun _ => ?_; refine' subDic (knd := strKind _ _) ?h1 ?_; (case h1 => assumption)
  refine .of (.dicAt (k := ("spot" : Str)) (v := .int n ts) h1 rfl rfl ?_)
  refine EvF.assignName ?_; refine EvF.store (.tail (.tail .head)) ?_; refine hnQ _ _ ?_; clear hnQ hrQ Qx; refine EvF.consQ fun Qx hnQ hrQ => ?_; refine EvF.assignS ?_; refine EvF.binOp ?_; refine EvF.loc (.tail _ (.tail _ (.head _))) ?_; refine EvF.cint fun _ => ?_; refine EvF.addI fun _ => ?_; refine EvF.assignSub ?_; refine EvF.loc (.head _) ?_; refine EvF.cstr fun _ => ?_
  rename_i tk _
  refine .of (.dicSet (k := ("spot" : Str)) h1 rfl (of_decide_eq_true rfl) fun o ho => ?_)
  have ho : DicO (strKind prog w) [(("cells" : Str), .ref ca), (("spot" : Str), .int ((n : Int) + 1) tk)] o := ho
  have h1 : At (g₁.put a o) a (DicO (strKind prog w) [(("cells" : Str), .ref ca), (("spot" : Str), .int ((n : Int) + 1) tk)]) := ⟨_, put_self .., ho⟩
  have h3 : At (g₁.put a o) ca (LstO cs) := h3.off hne
  have st : Step g (g₁.put a o) [a] [a] := (Step.ext e).trans (Step.put (.head _))
  generalize g₁.put a o = g₂ at h1 h3 st ⊢
  have T : TapeAt prog w g₂ a ca cells (n + 1) := ⟨⟨_, h1, ⟨_, rfl⟩⟩, ⟨cs, h3, h4⟩⟩
  have b1 : cs.length < 2 ^ 62 := by have := h4.len; exact bits (Nat.le_trans (Nat.le_of_eq (Eq.symm (by assumption))) (Nat.le_trans (m := 100) (by assumption) (by decide)))
  refine hnQ _ _ ?_; clear hnQ hrQ Qx; refine EvF.consQ fun Qx hnQ hrQ => ?_; refine EvF.ifS ?_; refine EvF.test ?_; refine EvF.loc (.tail _ (.tail _ (.head _))) ?_; refine EvF.call ?_; refine EvF.boot (by rfl) (bv_len) ?_; refine ⟨by first | exact KeepOk.b | exact KeepOk.t | exact KeepOk.k (by rfl), ?_⟩; refine EvF.args1 ?_; refine EvF.sub ?_; refine EvF.loc (.head _) ?_; refine EvF.cstr fun _ => ?_; refine' subDic (knd := strKind _ _) ?h1 ?_; (case h1 => assumption)
  refine .of (.dicAt (k := ("cells" : Str)) (v := .ref ca) h1 rfl rfl ?_)
  refine EvF.args0 ?_; refine' EvF.of (.lenL ?h1 ?h2 fun _ => ?_); (case h1 => assumption); (case h2 => assumption); refine EvF.ltI ?_; refine EvF.truthyBool ?_
  by_cases q : (n : Int) < (cs.length : Int)
  · rw [decide_eq_true q]
    refine iteT ?_; refine EvF.consQ fun Qx hnQ hrQ => ?_; refine EvF.ret ?_; refine EvF.binOp ?_; refine EvF.sub ?_; refine EvF.sub ?_; refine EvF.loc (.head _) ?_; refine EvF.cstr fun _ => ?_; refine' subDic (knd := strKind _ _) ?h1 ?_; (case h1 => assumption)
    refine .of (.dicAt (k := ("cells" : Str)) (v := .ref ca) h1 rfl rfl ?_)
    refine EvF.loc (.tail _ (.tail _ (.head _))) ?_; refine' subLst ?h1 ?_; (case h1 => assumption)
    have hlt : n < cs.length := (by omega)
    obtain ⟨y, hy⟩ : ∃ y, cs[n]? = some y := ⟨_, List.getElem?_eq_getElem hlt⟩
    refine x11 (h4.at hy) fun c _ z61 => ?_; refine x10 z61 fun tc z62 => ?_; clear z61; subst z62
    refine .of (.lstAt h3 n rfl hy (by omega) ?_)
    refine EvF.loc (.tail _ (.head _)) ?_
    refine .of (.modI hw fun t => ?_)
    refine hrQ _ _ _ rfl ?_; clear hnQ hrQ Qx; refine hrQ _ _ _ rfl ?_; clear hnQ hrQ Qx
    exact ⟨⟨_, ⟨_, rfl⟩, Int.emod_nonneg _ (by omega), Int.emod_lt_of_pos _ hw⟩, T, st⟩
  · rw [decide_eq_false q]
    refine iteF ?_; refine EvF.nil ?_; refine hnQ _ _ ?_; clear hnQ hrQ Qx; refine EvF.consQ fun Qx hnQ hrQ => ?_; refine EvF.ret ?_; refine EvF.binOp ?_; refine EvF.binOp ?_; refine EvF.binOp ?_; refine EvF.binOp ?_; refine EvF.binOp ?_; refine EvF.binOp ?_; refine EvF.binOp ?_; refine EvF.cint fun _ => ?_; refine EvF.loc (.tail _ (.tail _ (.head _))) ?_
    refine .of (.mulI (by mul_fits) fun t => ?_)
    refine EvF.loc (.tail _ (.tail _ (.head _))) ?_
    refine .of (.mulI (.of_right (intBits_le_64 (by omega) (by omega))) fun t => ?_)
    refine EvF.binOp ?_; refine EvF.cint fun _ => ?_; refine EvF.loc (.tail _ (.tail _ (.head _))) ?_
    refine .of (.mulI (.of_right (intBits_le_64 (by omega) (by omega))) fun t => ?_)
    refine EvF.addI fun _ => ?_; refine EvF.binOp ?_; refine EvF.cint fun _ => ?_; refine EvF.call ?_; refine EvF.boot (by rfl) (bv_len) ?_; refine ⟨by first | exact KeepOk.b | exact KeepOk.t | exact KeepOk.k (by rfl), ?_⟩; refine EvF.args1 ?_; refine EvF.sub ?_; refine EvF.loc (.head _) ?_; refine EvF.cstr fun _ => ?_; refine' subDic (knd := strKind _ _) ?h1 ?_; (case h1 => assumption)
    refine .of (.dicAt (k := ("cells" : Str)) (v := .ref ca) h1 rfl rfl ?_)
    refine EvF.args0 ?_; refine' EvF.of (.lenL ?h1 ?h2 fun _ => ?_); (case h1 => assumption); (case h2 => assumption)
    refine .of (.mulI (.of_right (intBits_le_64 (by have := h4.len; omega) (by have := h4.len; omega))) fun t => ?_)
    refine EvF.addI fun _ => ?_; refine EvF.cint fun _ => ?_; refine EvF.addI fun _ => ?_; refine EvF.cint fun _ => ?_
    refine .of (.modI (by decide) fun t => ?_)
    refine EvF.loc (.tail _ (.head _)) ?_
    refine .of (.modI hw fun t => ?_)
    refine hrQ _ _ _ rfl ?_; clear hnQ hrQ Qx
    exact ⟨⟨_, ⟨_, rfl⟩, Int.emod_nonneg _ (by omega), Int.emod_lt_of_pos _ hw⟩, T, st⟩
end Mine
end SFn8

section SFn9a
open PySem PySem.W PySem.Calls PyProof.Rows PySem.SeqAt
set_option maxRecDepth 100000
set_option maxHeartbeats 4000000
namespace Mine
variable {prog : Program} {w : World} {A : Around} {g : Led} {X : SR} {S : St}
/-- the circuit: its instance, and the tuple of its scope -/
structure CircAt (w : World) (g : Led) (a dx sc : Addr) (row : List Nat) : Prop where
  i : At g a (InstO 349 dx)
  d : ∃ n s, At g dx (NsO w.params [(("number" : Str), n), (("scope" : Str), .ref sc), (("strength" : Str), s)])
  s : ∃ xs, At g sc (TupO xs) ∧ All2 (fun (n : Nat) v => IsI (n : Int) v) row xs
theorem CircAt.ext {g' : Led} {a dx sc : Addr} {row : List Nat} (h : CircAt w g a dx sc row) (e : Ext g g') : CircAt w g' a dx sc row :=
  ⟨h.i.ext e, let ⟨n, s, x⟩ := h.d; ⟨n, s, x.ext e⟩, let ⟨xs, x, y⟩ := h.s; ⟨xs, x.ext e, y⟩⟩
/-- a way from place i to place v -/
noncomputable def edge (S : St) (row : List Nat) (i v : Int) : Bool := match row[(i - 1).toNat]? with
  | some x => (match S.doms[x]? with | some d => nextFrom d v == some v | none => false)
  | none => false
theorem CircAt.on {g' : Led} {a dx sc : Addr} {row : List Nat} (h : CircAt w g a dx sc row) (k : On g g' [a, dx]) (kp : Kp g g') : CircAt w g' a dx sc row :=
  ⟨k.at h.i (by simp), let ⟨n, s, x⟩ := h.d; ⟨n, s, k.at x (by simp)⟩, let ⟨xs, x, y⟩ := h.s; ⟨xs, x.tkp kp, y⟩⟩
theorem CircAt.putCell {a dx sc : Addr} {row : List Nat} (h : CircAt w g a dx sc row) {c : Addr} {u : Option Value} {o : Obj} (x : At g c (CellO u)) : CircAt w (g.put c o) a dx sc row := by
  refine x20 h.d fun n s y => ?_
  refine h.on (On.put ?_) (Kp.cell x)
  simp only [List.mem_cons, List.not_mem_nil, or_false, not_or]
  exact ⟨x.ne h.i cell_inst, x.ne y cell_ns⟩
theorem CircAt.putLst {a dx sc : Addr} {row : List Nat} (h : CircAt w g a dx sc row) {c : Addr} {xs : List Value} {o : Obj} (x : At g c (LstO xs)) : CircAt w (g.put c o) a dx sc row := by
  refine x20 h.d fun n s y => ?_
  refine h.on (On.put ?_) (Kp.lst x)
  simp only [List.mem_cons, List.not_mem_nil, or_false, not_or]
  exact ⟨x.ne h.i lst_inst, x.ne y lst_ns⟩
inductive Reach (S : St) (row : List Nat) : Int → Prop
  | one : Reach S row 1
  | step {i v : Int} : Reach S row i → 1 ≤ v → v ≤ row.length → edge S row i v = true → Reach S row v
theorem nodup_le {α : Type} [DecidableEq α] : ∀ {a b : List α}, a.Nodup → (∀ x ∈ a, x ∈ b) → a.length ≤ b.length
  | [], _, _, _ => Nat.zero_le _
  | x :: a, b, h, k => by
    rw [List.nodup_cons] at h
    have := nodup_le (b := b.erase x) h.2 fun y hy => (List.mem_erase_of_ne (fun e : y = x => h.1 (by rw [← e]; exact hy))).mpr (k y (List.mem_cons_of_mem _ hy))
    rw [List.length_erase_of_mem (k x (.head _))] at this
    have : 0 < b.length := List.length_pos_of_mem (k x (.head _))
    simp only [List.length_cons]; lia
/-- what stands at the loop's head -/
structure Seek (S : St) (row : List Nat) (found : List Int) (spot : Nat) : Prop where
  nd : found.Nodup
  one : (1 : Int) ∈ found
  near : ∀ v ∈ found, v = 1 ∨ (1 ≤ v ∧ v ≤ row.length)
  done : ∀ j : Nat, ∀ i : Int, j < spot → found[j]? = some i → ∀ v : Int, 1 ≤ v → v ≤ row.length → edge S row i v = true → v ∈ found
  sure : ∀ v ∈ found, Reach S row v
theorem mem_intsF {x v : Int} {n : Nat} : v ∈ intsF x n ↔ x ≤ v ∧ v < x + n := by
  unfold intsF
  rw [List.mem_map]
  constructor
  · rintro ⟨i, hi, rfl⟩
    have := List.mem_range.mp hi; lia
  · rintro ⟨h1, h2⟩
    exact ⟨(v - x).toNat, List.mem_range.mpr (by lia), by lia⟩
theorem nodup_intsF (x : Int) (n : Nat) : (intsF x n).Nodup := by
  unfold intsF
  refine List.Pairwise.map _ (fun a b h => ?_) List.nodup_range
  intro e; exact h (by lia)
theorem Seek.next {S : St} {row : List Nat} {found : List Int} {spot : Nat} {i : Int} (h : Seek S row found spot) (hi : found[spot]? = some i) :
    Seek S row (found ++ (intsF 1 row.length).filter fun v => !decide (v ∈ found) && edge S row i v) (spot + 1) := by
  have hm : ∀ v, v ∈ ((intsF 1 row.length).filter fun v => !decide (v ∈ found) && edge S row i v) ↔ (1 ≤ v ∧ v ≤ row.length) ∧ v ∉ found ∧ edge S row i v = true := fun v => by
    rw [List.mem_filter, mem_intsF]; simp only [Bool.and_eq_true, Bool.not_eq_true', decide_eq_false_iff_not]
    constructor
    · rintro ⟨h1, h2, h3⟩; exact ⟨⟨h1.1, by lia⟩, h2, h3⟩
    · rintro ⟨h1, h2, h3⟩; exact ⟨⟨h1.1, by lia⟩, h2, h3⟩
  refine ⟨?_, List.mem_append_left _ h.one, fun v hv => ?_, fun j i' hj hi' v h1 h2 he => ?_, fun v hv => ?_⟩
  · rw [List.nodup_append]
    refine ⟨h.nd, (nodup_intsF _ _).filter _, fun a ha b hb e => ?_⟩
    subst e; exact ((hm a).mp hb).2.1 ha
  · rcases List.mem_append.mp hv with hv | hv
    · exact h.near v hv
    · exact .inr ((hm v).mp hv).1
  · have hlt : spot < found.length := (List.getElem?_eq_some_iff.mp hi).1
    rw [List.getElem?_append_left (by lia)] at hi'
    rcases Nat.lt_succ_iff_lt_or_eq.mp hj with hj | rfl
    · exact List.mem_append_left _ (h.done j i' hj hi' v h1 h2 he)
    · rw [hi] at hi'; cases hi'
      by_cases q : v ∈ found
      · exact List.mem_append_left _ q
      · exact List.mem_append_right _ ((hm v).mpr ⟨⟨h1, h2⟩, q, he⟩)
  · rcases List.mem_append.mp hv with hv | hv
    · exact h.sure v hv
    · refine x02 ((hm v).mp hv) fun z41 _ he => ?_; refine x01 z41 fun h1 h2 => ?_; clear z41
      exact .step (h.sure i (List.mem_of_getElem? hi)) h1 h2 he
theorem Seek.start (S : St) (row : List Nat) : Seek S row [1] 0 :=
  ⟨by simp, by simp, fun v hv => .inl (by simpa using hv), fun j i hj => absurd hj (Nat.not_lt_zero _), fun v hv => by rw [List.mem_singleton] at hv; subst hv; exact .one⟩
theorem Seek.end {S : St} {row : List Nat} {found : List Int} {spot : Nat} (h : Seek S row found spot) (hs : found.length ≤ spot) (v : Int) : v ∈ found ↔ Reach S row v := by
  refine ⟨h.sure v, fun r => ?_⟩
  induction r with
  | one => exact h.one
  | step _ h1 h2 he ih =>
    refine x10 (List.getElem_of_mem ih) fun j z61 => ?_; obtain ⟨hj, e⟩ := z61
    exact h.done j _ (by lia) (by rw [List.getElem?_eq_getElem hj, e]) _ h1 h2 he
theorem Seek.len {S : St} {row : List Nat} {found : List Int} {spot : Nat} (h : Seek S row found spot) (h0 : 0 < row.length) : found.length ≤ row.length := by
  have := nodup_le (b := intsF 1 row.length) h.nd fun x hx => mem_intsF.mpr (by rcases h.near x hx with rfl | ⟨a, b⟩ <;> lia)
  rwa [intsF_len] at this
theorem nne {a b : Nat} (h : a ≠ b) : @Ne Addr a b := h
theorem ext_put_new {g' : Led} {c : Addr} {o : Obj} (e : Ext g g') (h : g c = none) : Ext g (g'.put c o) := fun b x y => by rw [put_ne _ _ (ne_of_none h y)]; exact e _ _ y
/-- what stands in reach's loop -/
structure RI (prog : Program) (w : World) (g g' : Led) (X : SR) (S : St) (a dx sc : Addr) (row : List Nat) (L : Nat) (aF pl : Addr) (ps : List Value) (found : List Int) : Prop where
  hc : CircAt w g' a dx sc row
  h : StoreAt prog w g' X S
  kSelf : At g' (L + 1) (CellO (some (.ref a)))
  kStore : At g' (L + 1 + 1) (CellO (some (.ref X.a)))
  kFound : At g' (L + 1 + 1 + 1) (CellO (some (.ref aF)))
  kX : ∃ u, At g' (L + 1 + 1 + 1 + 1) (CellO u)
  kOut : ∃ u, At g' (L + 1 + 1 + 1 + 1 + 1) (CellO u)
  oF : ∃ fs, At g' aF (LstO fs) ∧ All2 IsI found fs
  oP : At g' pl (LstO ps)
  e : Ext g g'
section
variable {a dx sc aF pl : Addr} {row : List Nat} {L : Nat} {ps : List Value} {found : List Int} {g' g'' : Led}
theorem RI.ext (r : RI prog w g g' X S a dx sc row L aF pl ps found) (e : Ext g' g'') : RI prog w g g'' X S a dx sc row L aF pl ps found :=
  ⟨r.hc.ext e, r.h.ext e, r.kSelf.ext e, r.kStore.ext e, r.kFound.ext e, let ⟨u, x⟩ := r.kX; ⟨u, x.ext e⟩, let ⟨u, x⟩ := r.kOut; ⟨u, x.ext e⟩, let ⟨fs, x, y⟩ := r.oF; ⟨fs, x.ext e, y⟩, r.oP.ext e, r.e.trans e⟩
theorem RI.putX (r : RI prog w g g' X S a dx sc row L aF pl ps found) (hn : g (L + 1 + 1 + 1 + 1) = none) {o : Obj} {v : Value} (ho : CellO (some v) o) :
    RI prog w g (g'.put (L + 1 + 1 + 1 + 1) o) X S a dx sc row L aF pl ps found ∧ At (g'.put (L + 1 + 1 + 1 + 1) o) (L + 1 + 1 + 1 + 1) (CellO (some v)) := by
  refine x10 r.kX fun u x => ?_
  refine x10 r.kOut fun u' x' => ?_
  refine x11 r.oF fun fs f1 f2 => ?_
  exact ⟨⟨r.hc.putCell x, r.h.putCell x, r.kSelf.off (nne (by lia)), r.kStore.off (nne (by lia)), r.kFound.off (nne (by lia)), ⟨_, _, put_self .., ho⟩, ⟨_, x'.off (nne (by lia))⟩, ⟨fs, f1.off (x.ne f1 cell_lst).symm, f2⟩, r.oP.off (x.ne r.oP cell_lst).symm, ext_put_new r.e hn⟩, ⟨_, put_self .., ho⟩⟩
theorem RI.putOut (r : RI prog w g g' X S a dx sc row L aF pl ps found) (hn : g (L + 1 + 1 + 1 + 1 + 1) = none) {o : Obj} {v : Value} (ho : CellO (some v) o) :
    RI prog w g (g'.put (L + 1 + 1 + 1 + 1 + 1) o) X S a dx sc row L aF pl ps found ∧ At (g'.put (L + 1 + 1 + 1 + 1 + 1) o) (L + 1 + 1 + 1 + 1 + 1) (CellO (some v)) := by
  refine x10 r.kX fun u x => ?_
  refine x10 r.kOut fun u' x' => ?_
  refine x11 r.oF fun fs f1 f2 => ?_
  exact ⟨⟨r.hc.putCell x', r.h.putCell x', r.kSelf.off (nne (by lia)), r.kStore.off (nne (by lia)), r.kFound.off (nne (by lia)), ⟨_, x.off (nne (by lia))⟩, ⟨_, _, put_self .., ho⟩, ⟨fs, f1.off (x'.ne f1 cell_lst).symm, f2⟩, r.oP.off (x'.ne r.oP cell_lst).symm, ext_put_new r.e hn⟩, ⟨_, put_self .., ho⟩⟩
theorem RI.putF (r : RI prog w g g' X S a dx sc row L aF pl ps found) (hn : g aF = none) (h0 : StoreAt prog w g X S) (ne : aF ≠ pl) {fs' : List Value} {found' : List Int} (hf : All2 IsI found' fs') (n : Nat) :
    RI prog w g (g'.put aF (lstV fs' n)) X S a dx sc row L aF pl ps found' := by
  refine x10 r.kX fun u x => ?_
  refine x10 r.kOut fun u' x' => ?_
  refine x11 r.oF fun fs f1 f2 => ?_
  have nf : aF ∉ X.fp := by
    have := h0.fresh hn
    simp only [SR.fp, List.mem_cons, List.not_mem_nil, or_false, not_or]
    exact this.2
  exact ⟨r.hc.putLst f1, r.h.putLst f1 nf, r.kSelf.off (r.kSelf.ne f1 cell_lst), r.kStore.off (r.kStore.ne f1 cell_lst), r.kFound.off (r.kFound.ne f1 cell_lst), ⟨_, x.off (x.ne f1 cell_lst)⟩, ⟨_, x'.off (x'.ne f1 cell_lst)⟩, ⟨fs', ⟨_, put_self .., n, rfl⟩, hf⟩, r.oP.off ne.symm, ext_put_new r.e hn⟩
end
theorem Seek.zero {S : St} {row : List Nat} {found : List Int} {spot : Nat} (h : Seek S row found spot) (h0 : row.length = 0) (v : Int) : v ∈ found ↔ Reach S row v := by
  refine ⟨h.sure v, fun r => ?_⟩
  cases r with
  | one => exact h.one
  | step _ h1 h2 _ => lia
end Mine
end SFn9a

section SPl5
open PySem
set_option maxRecDepth 100000
namespace Mine
theorem Reach.near {S : St} {row : List Nat} {v : Int} (h : Reach S row v) : v = 1 ∨ (1 ≤ v ∧ v ≤ row.length) := by
  cases h with
  | one => exact .inl rfl
  | step _ a b _ => exact .inr ⟨a, b⟩
theorem reached_iff {S : St} {row : List Nat} {W : List (List Bool)} (h : Sq row.length W)
    (hE : ∀ i j : Nat, i < row.length → j < row.length → (at2 W i j = true ↔ (i = j ∨ edge S row ((i : Int) + 1) ((j : Int) + 1) = true))) (h0 : 0 < row.length) :
    ∀ j : Nat, j < row.length → (at2 (wall row.length W) 0 j = true ↔ Reach S row ((j : Int) + 1)) := by
  intro j hj
  obtain ⟨_, h2, h3⟩ := wall_ok (E := fun i j => decide (i = j) || edge S row ((i : Int) + 1) ((j : Int) + 1)) (R := fun i j => Reach S row ((i : Int) + 1) → Reach S row ((j : Int) + 1)) h
    (fun i j hi hj => by rw [hE i j hi hj]; simp) (fun i l j a b x => b (a x)) (fun i j hi hj e => by
      rw [Bool.or_eq_true_iff] at e
      rcases e with e | e
      · have := of_decide_eq_true e; subst this; exact id
      · exact fun r => .step r (by omega) (by omega) e) row.length (Nat.le_refl _)
  refine ⟨fun x => h2 0 j h0 hj x (by simpa using Reach.one), fun r => h3 0 j h0 hj ?_⟩
  have key : ∀ v : Int, Reach S row v → ∀ j : Nat, v = (j : Int) + 1 → j < row.length → Way (fun a b => decide (a < row.length) && decide (b < row.length) && (decide (a = b) || edge S row ((a : Int) + 1) ((b : Int) + 1))) row.length 0 j := by
    intro v r
    induction r with
    | one =>
      intro j e hj
      have : j = 0 := by omega
      subst this
      exact .base (by simp [h0])
    | @step i v r' a b e ih =>
      intro j ej hj
      have hi : 1 ≤ i ∧ i ≤ row.length := by rcases r'.near with rfl | x <;> omega
      have hil : (i - 1).toNat < row.length := by omega
      refine .cat (ih (i - 1).toNat (by omega) hil) (.base ?_) hil
      have e1 : (((i - 1).toNat : Nat) : Int) + 1 = i := by omega
      simp only [Bool.and_eq_true, decide_eq_true_eq, Bool.or_eq_true]
      exact ⟨⟨hil, hj⟩, .inr (by rw [e1, ← ej]; exact e)⟩
  exact key _ r j rfl hj
end Mine
end SPl5

section SPl7
open PySem
set_option maxRecDepth 100000
namespace Mine
theorem set_back {α : Type} : ∀ {l : List α} {n : Nat} {a d : α}, l[n]? = some d → (l.set n a).set n d = l
  | [], _, _, _, h => by cases h
  | x :: l, 0, _, _, h => by simp at h; subst h; rfl
  | x :: l, n + 1, _, _, h => by
    simp only [List.set_cons_succ, List.cons.injEq, true_and]
    exact set_back (by simpa using h)
/-- a decision's trail undoes it -/
theorem undo_struck {S : St} {n : Nat} {d : List (Int × Int)} {k : Int} (h : S.doms[n]? = some d) : undo (struckSt S n d k).doms (struckSt S n d k).trail = undo S.doms S.trail := by
  show undo (S.doms.set n (without d k)) (S.trail ++ [((n : Int), d)]) = _
  rw [undo_snoc]
  show undo ((S.doms.set n (without d k)).set ((n : Int)).toNat d) S.trail = _
  rw [show ((n : Int)).toNat = n from rfl, set_back h]
theorem trok_struck {S : St} {n : Nat} {d : List (Int × Int)} {k : Int} (h : S.doms[n]? = some d) (t : TrOk S.doms S.trail) : TrOk (struckSt S n d k).doms (struckSt S n d k).trail := by
  intro p hp
  show 0 ≤ p.1 ∧ p.1 < (((S.doms.set n (without d k)).length : Nat) : Int)
  rw [List.length_set]
  rcases List.mem_append.mp hp with hp | hp
  · exact t p hp
  · rw [List.mem_singleton] at hp; subst hp
    have := (List.getElem?_eq_some_iff.mp h).1
    exact ⟨by show (0 : Int) ≤ (n : Int); omega, by show (n : Int) < _; omega⟩
/-- the strike leaves ranges that are apart -/
theorem Norm.without {d : List (Int × Int)} {k : Int} (h : Norm d) : Norm (Mine.without d k) := by
  have hu : ∀ p ∈ upTo d (k - 1), p.2 ≤ k - 1 ∧ p.1 ≤ p.2 ∧ ∃ q ∈ d, p = (q.1, min q.2 (k - 1)) := fun p hp => by
    unfold upTo at hp
    refine x11 (List.mem_map.mp hp) fun q hq z1 => ?_; subst z1
    refine x01 (List.mem_filter.mp hq) fun hq a => ?_
    have a := of_decide_eq_true a
    have := h.2 q hq
    exact ⟨by simp only; omega, by simp only; omega, q, hq, rfl⟩
  have hf : ∀ p ∈ fromOn d (k + 1), k + 1 ≤ p.1 ∧ p.1 ≤ p.2 := fun p hp => by
    unfold fromOn at hp
    refine x11 (List.mem_map.mp hp) fun q hq z41 => ?_; subst z41
    refine x01 (List.mem_filter.mp hq) fun hq a => ?_
    have a := of_decide_eq_true a
    have := h.2 q hq
    exact ⟨by simp only; omega, by simp only; omega⟩
  refine ⟨?_, fun p hp => ?_⟩
  · unfold Mine.without
    refine List.pairwise_append.mpr ⟨?_, ?_, fun p hp q hq => by have := (hu p hp).1; have := (hf q hq).1; omega⟩
    · unfold upTo
      refine List.Pairwise.map _ (fun p q hpq => ?_) (h.1.filter _)
      simp only; omega
    · unfold fromOn
      refine List.Pairwise.map _ (fun p q hpq => ?_) (h.1.filter _)
      simp only; omega
  · unfold Mine.without at hp
    rcases List.mem_append.mp hp with hp | hp
    · exact (hu p hp).2.1
    · exact (hf p hp).2
end Mine
end SPl7

section SFn9
open PySem PySem.W PySem.Calls PyProof.Rows PySem.SeqAt
set_option maxRecDepth 100000
set_option maxHeartbeats 4000000
namespace Mine
variable {prog : Program} {w : World} {A : Around} {g : Led} {X : SR} {S : St}
noncomputable def outsideOf (row : List Nat) (found : List Int) : List Int := (intsF 1 row.length).filter fun v => !decide (v ∈ found)
noncomputable def litsOf (row : List Nat) (found out : List Int) : List (Int × Int) := found.flatMap fun here => out.map fun v => (((row[(here - 1).toNat]?.getD 0 : Nat) : Int), v)
theorem litsOf_len (row : List Nat) (out : List Int) : ∀ found, (litsOf row found out).length = found.length * out.length
  | [] => by simp [litsOf]
  | h :: r => by
    have := litsOf_len row out r
    unfold litsOf at this ⊢
    rw [List.flatMap_cons, List.length_append, this, List.length_map, List.length_cons, Nat.succ_mul, Nat.add_comm]
theorem litsOf_snoc (row : List Nat) (out : List Int) (a : List Int) (h : Int) (n : Nat) (e : row[(h - 1).toNat]? = some n) : litsOf row (a ++ [h]) out = litsOf row a out ++ out.map fun v => ((n : Int), v) := by
  unfold litsOf
  rw [List.flatMap_append, List.flatMap_cons, List.flatMap_nil, List.append_nil, e]; rfl
theorem reach_ok (ok : Ok A 8) {a dx sc : Addr} {row : List Nat} (hc : CircAt w g a dx sc row) (h : StoreAt prog w g X S) (z : Small S) (hr : ∀ x ∈ row, x < S.doms.length) (hl : row.length ≤ 50) :
    Ev prog w (KK w.params) A (PySem.call (.ref 332) [.ref a, .ref X.a] []) g fun r g' => ∃ found : List Int, found.Nodup ∧ found.length ≤ 60 ∧ (∀ v, v ∈ found ↔ Reach S row v) ∧ (∀ v ∈ found, v = 1 ∨ (1 ≤ v ∧ v ≤ row.length)) ∧
      ((outsideOf row found = [] ∧ r = .bool true ∧ TurnedT prog w g X g' S X.kvs.length) ∨ (outsideOf row found ≠ [] ∧ r = .bool false ∧ TurnedT prog w g X g' { S with failed := true, clash := litsOf row found (outsideOf row found) } X.kvs.length)) := by
  refine Ev.defV ok [("self", .ref a), ("store", .ref X.a)] ["places", "spot"] [("places", none), ("spot", none)] (by rfl) (fun L g₁ A ok hL e hcell => ?_)
  have cSelf := hcell "self" (L + 1) (by rfl)
  have cStore := hcell "store" (L + 1 + 1) (by rfl)
  have cFound := hcell "found" (L + 1 + 1 + 1) (by rfl)
  have cX := hcell "x" (L + 1 + 1 + 1 + 1) (by rfl)
  have cOut := hcell "outside" (L + 1 + 1 + 1 + 1 + 1) (by rfl)
  have kSelf : At g₁ (L + 1) (CellO (some (.ref a))) := cSelf.2
  have kStore : At g₁ (L + 1 + 1) (CellO (some (.ref X.a))) := cStore.2
  have hst0 := h
  have hc := hc.ext e
  have h := h.ext e
  have i1 := hc.i
  refine x20 hc.d fun cn cs i2 => ?_
  refine x11 hc.s fun xs i3 hxs => ?_
  have b1 : xs.length < 2 ^ 62 := by have := hxs.len; exact bits (Nat.le_trans (Nat.le_of_eq (Eq.symm (by assumption))) (Nat.le_trans (m := 50) (by assumption) (by decide)))
  refine EvF.consQ fun Qx hnQ hrQ => ?_; refine EvF.assignS ?_; refine EvF.tuple ?_; refine EvF.args1 ?_; refine EvF.list ?_; refine EvF.args1 ?_; refine EvF.cint fun _ => ?_; refine EvF.args0 ?_; refine ⟨Nat.le_trans (m := 9) (by simp only [List.length_cons, List.length_nil]; decide) (by decide), fun _ _ => ?_⟩; refine EvF.args1 ?_; refine EvF.call ?_; refine EvF.boot (by rfl) (bv_list) ?_; refine ⟨by first | exact KeepOk.b | exact KeepOk.t | exact KeepOk.k (by rfl), ?_⟩; refine EvF.args1 ?_; refine EvF.call ?_; refine EvF.boot (by rfl) (bv_range) ?_; refine ⟨by first | exact KeepOk.b | exact KeepOk.t | exact KeepOk.k (by rfl), ?_⟩; refine EvF.args1 ?_; refine EvF.cint fun _ => ?_; refine EvF.args1 ?_; refine EvF.binOp ?_; refine EvF.call ?_; refine EvF.boot (by rfl) (bv_len) ?_; refine ⟨by first | exact KeepOk.b | exact KeepOk.t | exact KeepOk.k (by rfl), ?_⟩; refine EvF.args1 ?_; refine EvF.attr ?_; refine' EvF.cell ?h1 ?_; (case h1 => refine At.ext ?_ (Ext.new _ (by assumption)); assumption); refine EvF.of (.getOwn (At.ext (by assumption) (Ext.new _ (by assumption))) (At.ext (by assumption) (Ext.new _ (by assumption))) (by rfl) (by rfl) (by rfl) ?_); refine EvF.args0 ?_; refine' EvF.of (.lenT ?h1 ?h2 fun _ => ?_); (case h1 => refine At.ext ?_ (Ext.new _ (by assumption)); assumption); (case h2 => assumption); refine EvF.cint fun _ => ?_; refine EvF.addI fun _ => ?_; refine EvF.args0 ?_; refine EvF.range2 fun _ _ _ => ?_; refine EvF.args0 ?_
  rename_i t1 aF haF t2 t3 t4 t7 rg t6 hrg
  have hxl : xs.length = row.length := hxs.len.symm
  refine .of (.listRange ok.h (put_self ..) (by omega) (by omega) (by omega) (by omega) (by omega) fun pl ps mp hpl hps => ?_)
  have hps : All2 IsI (intsF 1 row.length) ps := by
    have e1 : ((xs.length : Int) + 1 - 1).toNat = row.length := (by omega)
    rw [e1] at hps; exact hps
  refine EvF.args1 ?_; refine EvF.cint fun _ => ?_; refine EvF.args0 ?_; refine ⟨Nat.le_trans (m := 9) (by simp only [List.length_cons, List.length_nil]; decide) (by decide), fun _ _ => ?_⟩; refine EvF.unpack (Ok.h (by assumption)) (⟨_, put_self .., _, rfl⟩) (by rfl) (by rfl) ?_; refine EvF.order1 ?_; refine EvF.assignName ?_
  rename_i t8 tp htp
  have e2 : Ext g₁ ((((g₁.put aF (lstV [.int 1 t1] 0)).put rg (rngV 1 ((xs.length : Int) + 1) t2 t7 t6)).put pl (lstV ps mp)).put tp (tupV [.ref aF, .ref pl, .int 0 t8] 0)) := (((Ext.new _ haF).trans (Ext.new _ hrg)).trans (Ext.new _ hpl)).trans (Ext.new _ htp)
  have oF : At ((((g₁.put aF (lstV [.int 1 t1] 0)).put rg (rngV 1 ((xs.length : Int) + 1) t2 t7 t6)).put pl (lstV ps mp)).put tp (tupV [.ref aF, .ref pl, .int 0 t8] 0)) aF (LstO [.int 1 t1]) := (At.ext (At.ext (At.ext (⟨_, put_self .., _, rfl⟩) (Ext.new _ (by assumption))) (Ext.new _ (by assumption))) (Ext.new _ (by assumption)))
  have oP : At ((((g₁.put aF (lstV [.int 1 t1] 0)).put rg (rngV 1 ((xs.length : Int) + 1) t2 t7 t6)).put pl (lstV ps mp)).put tp (tupV [.ref aF, .ref pl, .int 0 t8] 0)) pl (LstO ps) := (At.ext (⟨_, put_self .., _, rfl⟩) (Ext.new _ (by assumption)))
  have nFP : aF ≠ pl := fun q => by
    have := (none_put (none_put hpl).2).1
    exact this q.symm
  have fF : g aF = none := by
    cases q : g aF with
    | none => rfl
    | some o => have := e _ _ q; rw [haF] at this; cases this
  generalize (((g₁.put aF (lstV [.int 1 t1] 0)).put rg (rngV 1 ((xs.length : Int) + 1) t2 t7 t6)).put pl (lstV ps mp)).put tp (tupV [.ref aF, .ref pl, .int 0 t8] 0) = g₂ at e2 oF oP ⊢
  refine EvF.storeCell (cFound.2.ext e2) fun o ho => ?_
  have hr0 : RI prog w g (g₂.put (L + 1 + 1 + 1) o) X S a dx sc row L aF pl ps [1] := by
    have c := cFound.2.ext e2
    exact ⟨(hc.ext e2).putCell c, (h.ext e2).putCell c, (kSelf.ext e2).off (nne (by omega)), (kStore.ext e2).off (nne (by omega)), ⟨_, put_self .., ho⟩, ⟨_, (cX.2.ext e2).off (nne (by omega))⟩, ⟨_, (cOut.2.ext e2).off (nne (by omega))⟩,
      ⟨_, oF.off (c.ne oF cell_lst).symm, .cons ⟨_, rfl⟩ .nil⟩, oP.off (c.ne oP cell_lst).symm, ext_put_new (e.trans e2) cFound.1⟩
  clear i1 i2 i3 h hc kSelf kStore oF oP ho e2 haF hrg hpl htp
  generalize g₂.put (L + 1 + 1 + 1) o = g₃ at hr0 ⊢
  refine EvF.order1 ?_; refine EvF.assignName ?_; refine EvF.store .head ?_; refine EvF.order1 ?_; refine EvF.assignName ?_; refine EvF.store (.tail .head) ?_; refine EvF.order0 ?_; refine hnQ _ _ ?_; clear hnQ hrQ Qx; refine EvF.consQ fun Qx hnQ hrQ => ?_
  refine EvF.mono (P := fun fl vs g' => fl = Flow.next ∧ ∃ found spot t, RI prog w g g' X S a dx sc row L aF pl ps found ∧ Seek S row found spot ∧ found.length ≤ 60 ∧ (∀ v, v ∈ found ↔ Reach S row v) ∧ vs = ([("places", some (.ref pl)), ("spot", some (.int (spot : Int) t))] : Vars)) ?loop fun fl vs g' hx => ?after
  case loop =>
    refine EvF.whileS (fun n vs g' => ∃ found spot t, RI prog w g g' X S a dx sc row L aF pl ps found ∧ Seek S row found spot ∧ spot ≤ 60 ∧ n = 60 - spot ∧ vs = ([("places", some (.ref pl)), ("spot", some (.int (spot : Int) t))] : Vars)) 60 ⟨[1], 0, t8, hr0, Seek.start S row, (by omega), rfl, rfl⟩ fun n vs g' hI => ?_
    refine x34 hI fun found spot t R sk hsp z41 z42 => ?_; clear hI; subst z41; subst z42
    have hfl : found.length ≤ 60 := by
      by_cases q : 0 < row.length
      · have := sk.len q; omega
      · have := nodup_le (b := [(1 : Int)]) sk.nd fun x hx => by
          rcases sk.near x hx with e | ⟨p, p'⟩
          · rw [e]; exact .head _
          · exact absurd p' (by omega)
        exact Nat.le_trans this (by decide)
    have kSelf := R.kSelf
    have kStore := R.kStore
    have kFound := R.kFound
    have oP := R.oP
    refine x11 R.oF fun fs oF hfs => ?_
    have b2 : fs.length < 2 ^ 62 := by have := hfs.len; exact bits (Nat.le_trans (Nat.le_of_eq (Eq.symm (by assumption))) (Nat.le_trans (m := 60) (by assumption) (by decide)))
    have hfl' : fs.length = found.length := hfs.len.symm
    refine EvF.testAnd ?_; refine EvF.test ?_; refine EvF.loc (.tail _ (.head _)) ?_; refine EvF.call ?_; refine EvF.boot (by rfl) (bv_len) ?_; refine ⟨by first | exact KeepOk.b | exact KeepOk.t | exact KeepOk.k (by rfl), ?_⟩; refine EvF.args1 ?_; refine' EvF.cell ?h1 ?_; (case h1 => assumption); refine EvF.args0 ?_; refine' EvF.of (.lenL ?h1 ?h2 fun _ => ?_); (case h1 => assumption); (case h2 => assumption); refine EvF.ltI ?_; refine EvF.truthyBool ?_
    by_cases q : (spot : Int) < (fs.length : Int)
    · rw [decide_eq_true q]
      refine EvF.test ?_; refine EvF.loc (.head _) ?_; refine EvF.list ?_; refine EvF.args0 ?_; refine ⟨Nat.le_trans (m := 9) (by simp only [List.length_cons, List.length_nil]; decide) (by decide), fun _ _ => ?_⟩
      rename_i ae hae
      have e3 := Ext.new (lstV [] 0) hae
      refine .of (.neLs (R := fun _ => IsI) (ps := intsF 1 row.length) (qs := []) EqOn.int ⟨pl, ps, rfl, oP.ext e3, hps⟩ ⟨ae, [], rfl, (⟨_, put_self .., _, rfl⟩), .nil⟩ ok.cl ?_)
      have R := R.ext e3
      generalize g'.put ae (lstV [] 0) = g₄ at R ⊢
      refine EvF.truthyBool ?_
      by_cases q0 : row.length = 0
      · rw [show (!decide (intsF 1 row.length = [])) = false by rw [q0]; rfl]
        refine iteF ?_; refine EvF.nil ?_
        exact ⟨rfl, found, spot, t, R, sk, hfl, sk.zero q0, rfl⟩
      · rw [show (!decide (intsF 1 row.length = [])) = true by
          have : intsF 1 row.length ≠ [] := fun e => q0 (by have := intsF_len 1 row.length; rw [e] at this; exact this.symm)
          simp [this]]
        clear kSelf kStore kFound oP oF
        have kSelf := R.kSelf
        have kStore := R.kStore
        have kFound := R.kFound
        have oP := R.oP
        have i1 := R.hc.i
        refine x20 R.hc.d fun cn cs i2 => ?_
        refine x11 R.hc.s fun xs' i3 hxs' => ?_
        refine x11 R.oF fun fs' oF hfs' => ?_
        have hspot : spot < fs'.length := by have := hfs'.len; omega
        refine x11 (hfs'.at (List.getElem?_eq_getElem hspot)) fun i hi z141 => ?_; refine x10 z141 fun ti hti => ?_; clear z141
        have hfi : fs'[spot]? = some (.int i ti) := by rw [List.getElem?_eq_getElem hspot, hti]
        have hin : 1 ≤ i ∧ i ≤ row.length := by rcases sk.near i (List.mem_of_getElem? hi) with rfl | p <;> omega
        obtain ⟨nx, hnx⟩ : ∃ nx, row[(i - 1).toNat]? = some nx := ⟨_, List.getElem?_eq_getElem (natz2 (by assumption))⟩
        refine x11 (hxs'.at' hnx) fun vx hvx z161 => ?_; refine x10 z161 fun tx z162 => ?_; clear z161; subst z162
        have hnd : nx < S.doms.length := hr nx (List.mem_of_getElem? hnx)
        obtain ⟨d, hd⟩ : ∃ d, S.doms[nx]? = some d := ⟨_, List.getElem?_eq_getElem hnd⟩
        refine iteT ?_; refine EvF.consQ fun Qx hnQ hrQ => ?_; refine EvF.assignS ?_; refine EvF.sub ?_; refine EvF.attr ?_; refine' EvF.cell ?h1 ?_; (case h1 => assumption); refine EvF.of (.getOwn (by assumption) (by assumption) (by rfl) (by rfl) (by rfl) ?_); refine EvF.binOp ?_; refine EvF.sub ?_; refine' EvF.cell ?h1 ?_; (case h1 => assumption); refine EvF.loc (.tail _ (.head _)) ?_; refine' subLst ?h1 ?_; (case h1 => assumption)
        refine .of (.lstAt oF spot rfl hfi (bits (Nat.le_trans (m := 60) (by assumption) (by decide))) ?_)
        refine EvF.cint fun _ => ?_; refine EvF.subI fun _ => ?_; refine' subTup ?h1 ?_; (case h1 => assumption)
        refine .of (.tupAt i3 (i - 1).toNat (natz1 (by assumption)) hvx (by omega) ?_)
        refine EvF.assignName ?_
        refine EvF.storeCell (R.kX.choose_spec) fun o ho => ?_
        refine x01 (R.putX cX.1 ho) fun R kX => ?_
        generalize g₄.put (L + 1 + 1 + 1 + 1) o = g₅ at R kX ⊢
        clear kSelf kStore kFound oP oF i1 i2 i3 hxs' hfs' hfi hti
        have kSelf := R.kSelf
        have kStore := R.kStore
        have kFound := R.kFound
        have oP := R.oP
        refine x11 R.oF fun fs' oF hfs' => ?_
        have h := R.h
        refine hnQ _ _ ?_; clear hnQ hrQ Qx; refine EvF.consQ fun Qx hnQ hrQ => ?_; refine EvF.exprD ?_; refine EvF.meth ?_; refine' EvF.cell ?h1 ?_; (case h1 => assumption); refine' EvF.of (.methL ?h1 F.slot_list_extend F.type_list_extend ?_); (case h1 => assumption); refine ⟨by first | exact KeepOk.b | exact KeepOk.t | exact KeepOk.k (by rfl), ?_⟩; refine EvF.args1 ?_
        have i1 := h.i
        have i2 := h.x
        have hedge : ∀ v, edge S row i v = (nextFrom d v == some v) := fun v => by unfold edge; rw [hnx]; simp only [hd]
        refine EvF.compL (γ := Int) ["v"] ok ?_
        refine EvF.loc (.head _) ?_
        refine ⟨_, _, _, fun k => ((intsF 1 row.length).take k).filter (fun v => !decide (v ∈ found) && edge S row i v), fun _ => IsI, Src.lst (by assumption), rfl, fun k => ?_, fun C e₁ ee hcc => ⟨fun k vs e' => (∃ u, vs = ([("v", u)] : Vars)) ∧ Ext e₁ e', Ext, ⟨⟨_, rfl⟩, Ext.refl _⟩, fun k vs e' j b _ o ho => j.2 _ _ (ee _ _ ho), fun e e' b v x r => r, fun k y vs e' hk hy j => ?_, fun vs e' ys D m j nD ha => ?_⟩⟩
        · refine Nat.le_trans (List.length_filter_le _ _) ?_
          rw [List.length_take, intsF_len]
          have : sizeLine = 2 ^ 24 := rfl
          omega
        · refine x01 j fun z221 e2 => ?_; clear j; refine x10 z221 fun u1 z222 => ?_; clear z221; subst z222
          refine x11 (hps.at hy) fun v hv z241 => ?_; refine x10 z241 fun tv z242 => ?_; clear z241; subst z242
          have hcut : ((intsF 1 row.length).take (k + 1)).filter (fun v => !decide (v ∈ found) && edge S row i v) = ((intsF 1 row.length).take k).filter (fun v => !decide (v ∈ found) && edge S row i v) ++ [v].filter (fun v => !decide (v ∈ found) && edge S row i v) := by
            rw [take_succ_of hv, List.filter_append]
          refine EvF.bind ?_; refine EvF.assignName ?_; refine EvF.store .head ?_; refine EvF.tests1 ?_; refine EvF.testAnd ?_; refine EvF.test ?_; refine EvF.loc (.head _) ?_; refine' EvF.cell ?h1 ?_; (case h1 => refine At.ext ?_ (by assumption); refine At.ext ?_ (by assumption); assumption)
          refine .of (.notInLs (ps := found) (p := v) EqOn.int Func.int ⟨aF, fs', rfl, (At.ext (At.ext (by assumption) (by assumption)) (by assumption)), hfs'⟩ ⟨_, rfl⟩ ok.cl (decide (v ∈ found)) (by simp) ?_)
          by_cases qf : v ∈ found
          · rw [decide_eq_true qf]
            refine EvF.truthyBool ?_
            refine ⟨⟨⟨_, rfl⟩, (by assumption)⟩, (Ext.refl _), ?_⟩
            show ((intsF 1 row.length).take (k + 1)).filter (fun v => !decide (v ∈ found) && edge S row i v) = _
            rw [hcut]; simp [qf]
          · rw [decide_eq_false qf, Bool.not_false]
            refine EvF.truthyBool ?_; refine EvF.testVal ?_; refine EvF.meth ?_; refine' EvF.cell ?h1 ?_; (case h1 => refine At.ext ?_ (by assumption); refine At.ext ?_ (by assumption); assumption); refine EvF.of (.method (At.ext (At.ext (by assumption) (by assumption)) (by assumption)) (At.ext (At.ext (by assumption) (by assumption)) (by assumption)) (by rfl) (by rfl) ?_); refine ⟨by first | exact KeepOk.b | exact KeepOk.t | exact KeepOk.k (by rfl), ?_⟩; refine EvF.args1 ?_; refine' EvF.cell ?h1 ?_; (case h1 => refine At.ext ?_ (by assumption); refine At.ext ?_ (by assumption); assumption); refine EvF.args1 ?_; refine EvF.loc (.head _) ?_; refine EvF.args0 ?_; refine EvF.callApp ?_
            refine .of ((shas_ok (ok.le (by omega)) ((h.ext ee).ext e2) z hd ⟨_, rfl⟩ ⟨_, rfl⟩).mono fun r g₆ hr6 => ?_)
            refine x01 hr6 fun e6 z261 => ?_; clear hr6; subst z261
            refine EvF.truthyBool ?_
            rw [← hedge]
            have qf' : decide (v ∈ found) = false := decide_eq_false qf
            cases qe : edge S row i v with
            | true =>
              refine iteT ?_; refine EvF.loc (.head _) ?_
              refine ⟨⟨⟨_, rfl⟩, (Ext.trans (by assumption) (by assumption))⟩, (by assumption), v, ?_, ⟨_, rfl⟩⟩
              show ((intsF 1 row.length).take (k + 1)).filter (fun v => !decide (v ∈ found) && edge S row i v) = _
              rw [hcut]; simp [qf, qe]
            | false =>
              refine iteF ?_
              refine ⟨⟨⟨_, rfl⟩, (Ext.trans (by assumption) (by assumption))⟩, (by assumption), ?_⟩
              show ((intsF 1 row.length).take (k + 1)).filter (fun v => !decide (v ∈ found) && edge S row i v) = _
              rw [hcut]; simp [qf, qe]
        · refine x01 j fun z281 e2 => ?_; clear j; refine x10 z281 fun u1 z282 => ?_; clear z281; subst z282
          have hfull : (intsF 1 row.length).take ps.length = intsF 1 row.length := by rw [← hps.len, List.take_length]
          have ha : All2 IsI ((intsF 1 row.length).filter (fun v => !decide (v ∈ found) && edge S row i v)) ys := by simpa only [hfull] using ha
          have R := ((R.ext ee).ext e2).ext (Ext.new (lstV ys m) nD)
          have oF : At (e'.put D (lstV ys m)) aF (LstO fs') := ((oF.ext ee).ext e2).ext (Ext.new _ nD)
          have oD : At (e'.put D (lstV ys m)) D (LstO ys) := ⟨_, put_self .., m, rfl⟩
          have sk' := sk.next hi
          have hlen : (found ++ (intsF 1 row.length).filter (fun v => !decide (v ∈ found) && edge S row i v)).length ≤ 60 := by have := sk'.len (by omega); omega
          generalize e'.put D (lstV ys m) = g₆ at R oF oD ⊢
          refine EvF.args0 ?_; refine EvF.callApp ?_
          refine .of (.extend oF oD (by have := hfs'.len; have := ha.len; rw [List.length_append] at hlen; have : sizeLine = 2 ^ 24 := rfl; omega) fun m' => ?_)
          have R := R.putF fF hst0 nFP (hfs'.app ha) m'
          refine hnQ _ _ ?_; clear hnQ hrQ Qx; refine EvF.consQ fun Qx hnQ hrQ => ?_; refine EvF.assignS ?_; refine EvF.binOp ?_; refine EvF.loc (.tail _ (.head _)) ?_; refine EvF.cint fun _ => ?_; refine EvF.addI fun _ => ?_; refine EvF.assignName ?_; refine EvF.store (.tail .head) ?_; refine hnQ _ _ ?_; clear hnQ hrQ Qx; refine EvF.nil ?_
          rename_i tk9
          refine ⟨60 - (spot + 1), by have := sk.len (by omega); have := hfs'.len; omega, _, spot + 1, tk9, R, sk', by have := sk.len (by omega); have := hfs'.len; omega, rfl, ?_⟩
          simp
    · have hle : found.length ≤ spot := (by omega)
      rw [decide_eq_false q]
      refine iteF ?_; refine EvF.nil ?_
      exact ⟨rfl, found, spot, t, R, sk, hfl, sk.end hle, rfl⟩
  case after =>
    refine x01 hx fun z301 z302 => ?_; clear hx; subst z301; refine x34 z302 fun found spot t R sk hfl hreach z303 => ?_; clear z302; subst z303
    have kFound := R.kFound
    have oP := R.oP
    refine x11 R.oF fun fs oF hfs => ?_
    refine hnQ _ _ ?_; clear hnQ hrQ Qx; refine EvF.consQ fun Qx hnQ hrQ => ?_; refine EvF.assignS ?_
    refine EvF.compL (γ := Int) ["v"] ok ?_
    refine EvF.loc (.head _) ?_
    refine ⟨_, _, _, fun k => ((intsF 1 row.length).take k).filter (fun v => !decide (v ∈ found)), fun _ => IsI, Src.lst (by assumption), rfl, fun k => ?_, fun C e₁ ee hcc => ⟨fun k vs e' => (∃ u, vs = ([("v", u)] : Vars)) ∧ Ext e₁ e', Ext, ⟨⟨_, rfl⟩, Ext.refl _⟩, fun k vs e' j b _ o ho => j.2 _ _ (ee _ _ ho), fun e e' b v x r => r, fun k y vs e' hk hy j => ?_, fun vs e' ys D m j nD ha => ?_⟩⟩
    · refine Nat.le_trans (List.length_filter_le _ _) ?_
      rw [List.length_take, intsF_len]
      have : sizeLine = 2 ^ 24 := rfl
      omega
    · refine x01 j fun z341 e2 => ?_; clear j; refine x10 z341 fun u1 z342 => ?_; clear z341; subst z342
      refine x11 (hps.at hy) fun v hv z361 => ?_; refine x10 z361 fun tv z362 => ?_; clear z361; subst z362
      have hcut : ((intsF 1 row.length).take (k + 1)).filter (fun v => !decide (v ∈ found)) = ((intsF 1 row.length).take k).filter (fun v => !decide (v ∈ found)) ++ [v].filter (fun v => !decide (v ∈ found)) := by
        rw [take_succ_of hv, List.filter_append]
      refine EvF.bind ?_; refine EvF.assignName ?_; refine EvF.store .head ?_; refine EvF.tests1 ?_; refine EvF.test ?_; refine EvF.loc (.head _) ?_; refine' EvF.cell ?h1 ?_; (case h1 => refine At.ext ?_ (by assumption); refine At.ext ?_ (by assumption); assumption)
      refine .of (.notInLs (ps := found) (p := v) EqOn.int Func.int ⟨aF, fs, rfl, (At.ext (At.ext (by assumption) (by assumption)) (by assumption)), hfs⟩ ⟨_, rfl⟩ ok.cl (decide (v ∈ found)) (by simp) ?_)
      by_cases qf : v ∈ found
      · rw [decide_eq_true qf]
        refine EvF.truthyBool ?_
        refine ⟨⟨⟨_, rfl⟩, (by assumption)⟩, (Ext.refl _), ?_⟩
        show ((intsF 1 row.length).take (k + 1)).filter (fun v => !decide (v ∈ found)) = _
        rw [hcut]; simp [qf]
      · rw [decide_eq_false qf, Bool.not_false]
        refine EvF.truthyBool ?_; refine iteT ?_; refine EvF.loc (.head _) ?_
        refine ⟨⟨⟨_, rfl⟩, (by assumption)⟩, (Ext.refl _), v, ?_, ⟨_, rfl⟩⟩
        show ((intsF 1 row.length).take (k + 1)).filter (fun v => !decide (v ∈ found)) = _
        rw [hcut]; simp [qf]
    · refine x01 j fun z381 e2 => ?_; clear j; refine x10 z381 fun u1 z382 => ?_; clear z381; subst z382
      have hfull : (intsF 1 row.length).take ps.length = intsF 1 row.length := by rw [← hps.len, List.take_length]
      have ha : All2 IsI (outsideOf row found) ys := by unfold outsideOf; simpa only [hfull] using ha
      have R := ((R.ext ee).ext e2).ext (Ext.new (lstV ys m) nD)
      have oD : At (e'.put D (lstV ys m)) D (LstO ys) := ⟨_, put_self .., m, rfl⟩
      generalize e'.put D (lstV ys m) = g₆ at R oD ⊢
      refine EvF.assignName ?_
      refine EvF.storeCell (R.kOut.choose_spec) fun o ho => ?_
      have oD' := oD.off (b := L + 1 + 1 + 1 + 1 + 1) (o := o) (R.kOut.choose_spec.ne oD cell_lst).symm
      refine x01 (R.putOut cOut.1 ho) fun R kOut => ?_
      generalize g₆.put (L + 1 + 1 + 1 + 1 + 1) o = g₇ at R kOut oD' ⊢
      refine hnQ _ _ ?_; clear hnQ hrQ Qx; refine EvF.consQ fun Qx hnQ hrQ => ?_; refine EvF.ifS ?_; refine EvF.test ?_; refine' EvF.cell ?h1 ?_; (case h1 => assumption); refine EvF.list ?_; refine EvF.args0 ?_; refine ⟨Nat.le_trans (m := 9) (by simp only [List.length_cons, List.length_nil]; decide) (by decide), fun _ _ => ?_⟩
      rename_i al hal
      have e8 := Ext.new (lstV [] 0) hal
      refine .of (.eqLs (R := fun _ => IsI) (ps := outsideOf row found) (qs := []) EqOn.int ⟨D, ys, rfl, oD'.ext e8, ha⟩ ⟨al, [], rfl, (⟨_, put_self .., _, rfl⟩), .nil⟩ ok.cl ?_)
      have R := R.ext e8
      have kOut := kOut.ext e8
      have oD' := oD'.ext e8
      generalize g₇.put al (lstV [] 0) = g₈ at R kOut oD' ⊢
      by_cases qo : outsideOf row found = []
      · rw [decide_eq_true qo]
        refine EvF.truthyBool ?_; refine iteT ?_; refine EvF.consQ fun Qx hnQ hrQ => ?_; refine EvF.ret ?_; refine EvF.cbool ?_; refine hrQ _ _ _ rfl ?_; clear hnQ hrQ Qx; refine hrQ _ _ _ rfl ?_; clear hnQ hrQ Qx
        exact ⟨found, sk.nd, hfl, hreach, sk.near, .inl ⟨qo, rfl, X, R.h, rfl, Step.ext R.e, Nat.le_refl _, rfl⟩⟩
      · rw [decide_eq_false qo]
        have kStore := R.kStore
        have kFound := R.kFound
        have h := R.h
        have i1 := h.i
        have i2 := h.x
        refine x11 R.oF fun fs oF hfs => ?_
        have hout : (outsideOf row found).length ≤ 50 := by
          unfold outsideOf
          exact Nat.le_trans (List.length_filter_le _ _) (by rw [intsF_len]; exact hl)
        have hsz : sizeLine = 2 ^ 24 := rfl
        refine EvF.truthyBool ?_; refine iteF ?_; refine EvF.nil ?_; refine hnQ _ _ ?_; clear hnQ hrQ Qx; refine EvF.consQ fun Qx hnQ hrQ => ?_; refine EvF.ret ?_; refine EvF.meth ?_; refine' EvF.cell ?h1 ?_; (case h1 => assumption); refine EvF.of (.method (by assumption) (by assumption) (by rfl) (by rfl) ?_); refine ⟨by first | exact KeepOk.b | exact KeepOk.t | exact KeepOk.k (by rfl), ?_⟩; refine EvF.args1 ?_; refine EvF.call ?_; refine EvF.boot (by rfl) (bv_tuple) ?_; refine ⟨by first | exact KeepOk.b | exact KeepOk.t | exact KeepOk.k (by rfl), ?_⟩; refine EvF.args1 ?_
        refine EvF.compL2 (γ := Int × Int) ["here", "v"] ok ?_
        refine' EvF.cell ?h1 ?_; (case h1 => assumption)
        refine ⟨_, _, _, fun k => litsOf row (found.take k) (outsideOf row found), Lit, Src.lst (by assumption), rfl, fun C e₁ ee hcc => ⟨fun k vs e' => (∃ u1 u2, vs = ([("here", u1), ("v", u2)] : Vars)) ∧ Ext e₁ e', Ext, ⟨⟨_, _, rfl⟩, Ext.refl _⟩, fun k vs e' j b _ o ho => j.2 _ _ (ee _ _ ho), fun e e' b v x r => Stays.lit.go r x, fun k y vs e₄ hk hy j => ?_, fun vs e' ys' D' m' j nD ha' => ?_⟩⟩
        · refine x01 j fun z441 e2 => ?_; clear j; refine x20 z441 fun u1 u2 z442 => ?_; clear z441; subst z442
          refine x11 (hfs.at hy) fun hv hhv z461 => ?_; refine x10 z461 fun th z462 => ?_; clear z461; subst z462
          have hin : 1 ≤ hv ∧ hv ≤ row.length := by
            have h0 : 0 < row.length := by
              rcases Nat.eq_zero_or_pos row.length with q | q
              · exact absurd (by unfold outsideOf; rw [q]; rfl) qo
              · exact q
            rcases sk.near hv (List.mem_of_getElem? hhv) with rfl | p <;> omega
          obtain ⟨nx, hnx⟩ : ∃ nx, row[(hv - 1).toNat]? = some nx := ⟨_, List.getElem?_eq_getElem (natz2 (by assumption))⟩
          refine EvF.assignName ?_; refine EvF.store .head ?_
          refine ⟨Ext.refl _, ?_⟩
          refine' EvF.cell ?h1 ?_; (case h1 => refine At.ext ?_ (by assumption); refine At.ext ?_ (by assumption); assumption)
          refine ⟨Ext.refl _, _, _, _, fun j => litsOf row (found.take k) (outsideOf row found) ++ ((outsideOf row found).take j).map (fun v => ((nx : Int), v)), fun j vs e' => (∃ u2, vs = ([("here", some (.int hv th)), ("v", u2)] : Vars)) ∧ Ext e₄ e', Src.lst (xs := ys) (At.ext (At.ext (by assumption) (by assumption)) (by assumption)), ⟨⟨_, rfl⟩, Ext.refl _⟩, fun j vs e'' i b m o ho => i.2 _ _ ho, ?_, ?_, fun j => ?_, fun j y vs e'' hj hy2 i => ?_, fun vs e'' i => ?_⟩
          · show litsOf row (found.take k) (outsideOf row found) ++ ((outsideOf row found).take 0).map _ = litsOf row (found.take k) (outsideOf row found)
            simp
          · show litsOf row (found.take k) (outsideOf row found) ++ ((outsideOf row found).take ys.length).map _ = litsOf row (found.take (k + 1)) (outsideOf row found)
            rw [take_succ_of hhv, litsOf_snoc _ _ _ _ _ hnx, ← ha.len, List.take_length]
          · rw [List.length_append, litsOf_len, List.length_map, List.length_take, List.length_take]
            have h1 : min k found.length * (outsideOf row found).length ≤ 60 * 50 := Nat.mul_le_mul (by omega) hout
            omega
          · refine x01 i fun z481 e5 => ?_; clear i; refine x10 z481 fun u3 z482 => ?_; clear z481; subst z482
            refine x11 (ha.at hy2) fun v hvv z501 => ?_; refine x10 z501 fun tv z502 => ?_; clear z501; subst z502
            have hcut : ((outsideOf row found).take (j + 1)).map (fun v => ((nx : Int), v)) = ((outsideOf row found).take j).map (fun v => ((nx : Int), v)) ++ [((nx : Int), v)] := by
              rw [take_succ_of hvv, List.map_append]; rfl
            have kSelf := R.kSelf
            have j1 := R.hc.i
            refine x20 R.hc.d fun cn cs j2 => ?_
            refine x11 R.hc.s fun xs' j3 hxs' => ?_
            refine x11 (hxs'.at' hnx) fun vx hvx z561 => ?_; refine x10 z561 fun tx z562 => ?_; clear z561; subst z562
            refine EvF.assignName ?_; refine EvF.store (.tail .head) ?_
            refine ⟨Ext.refl _, ?_⟩
            refine EvF.tuple ?_; refine EvF.args1 ?_; refine EvF.sub ?_; refine EvF.attr ?_; refine' EvF.cell ?h1 ?_; (case h1 => refine At.ext ?_ (by assumption); refine At.ext ?_ (by assumption); refine At.ext ?_ (by assumption); assumption); refine EvF.of (.getOwn (At.ext (At.ext (At.ext (by assumption) (by assumption)) (by assumption)) (by assumption)) (At.ext (At.ext (At.ext (by assumption) (by assumption)) (by assumption)) (by assumption)) (by rfl) (by rfl) (by rfl) ?_); refine EvF.binOp ?_; refine EvF.loc (.head _) ?_; refine EvF.cint fun _ => ?_; refine EvF.subI fun _ => ?_; refine' subTup ?h1 ?_; (case h1 => refine At.ext ?_ (by assumption); refine At.ext ?_ (by assumption); refine At.ext ?_ (by assumption); assumption)
            refine .of (.tupAt (xs := xs') (At.ext (At.ext (At.ext (by assumption) (by assumption)) (by assumption)) (by assumption)) (hv - 1).toNat (natz1 (by assumption)) hvx (by omega) ?_)
            refine EvF.args1 ?_; refine EvF.cstr fun _ => ?_; refine EvF.args1 ?_; refine EvF.loc (.tail _ (.head _)) ?_; refine EvF.args0 ?_; refine ⟨Nat.le_trans (m := 9) (by simp only [List.length_cons, List.length_nil]; decide) (by decide), fun _ _ => ?_⟩
            refine ⟨⟨⟨_, rfl⟩, (Ext.trans (by assumption) (Ext.new _ (by assumption)))⟩, (Ext.trans (Ext.refl _) (Ext.new _ (by assumption))), ((nx : Int), v), ?_, Lit.mk ⟨_, put_self .., _, rfl⟩⟩
            show litsOf row (found.take k) (outsideOf row found) ++ ((outsideOf row found).take (j + 1)).map _ = _
            rw [hcut, List.append_assoc]
          · refine x01 i fun z581 e5 => ?_; clear i; refine x10 z581 fun u3 z582 => ?_; clear z581; subst z582
            exact ⟨⟨_, _, rfl⟩, e2.trans e5⟩
        · refine x01 j fun z601 e2 => ?_; clear j; refine x20 z601 fun u1 u2 z602 => ?_; clear z601; subst z602
          have hfull : found.take fs.length = found := by rw [← hfs.len, List.take_length]
          have ha' : All2 (Lit e') (litsOf row found (outsideOf row found)) ys' := by simpa only [hfull] using ha'
          have R := ((R.ext ee).ext e2).ext (Ext.new (lstV ys' m') nD)
          have hL : At (e'.put D' (lstV ys' m')) D' (LstO ys') := ⟨_, put_self .., m', rfl⟩
          have ha' := Stays.lit.all ha' (Ext.new (lstV ys' m') nD).kp
          generalize e'.put D' (lstV ys' m') = g₉ at R hL ha' ⊢
          have b5 : ys'.length ≤ sizeLine := by
            rw [← ha'.len, litsOf_len]
            have h1 : found.length * (outsideOf row found).length ≤ 60 * 50 := Nat.mul_le_mul hfl hout
            omega
          refine EvF.args0 ?_; refine' EvF.of (.tupleOf ?h1 ?h2 fun _ _ => ?_); (case h1 => assumption); (case h2 => assumption); refine EvF.args0 ?_; refine EvF.callApp ?_
          rename_i at' hat
          have e9 := Ext.new (tupV ys' 0) hat
          refine .of ((sfail_ok (ok.le (by omega)) (R.h.ext e9) (cl := litsOf row found (outsideOf row found)) ⟨at', ys', rfl, (⟨_, put_self .., _, rfl⟩), Stays.lit.all ha' e9.kp⟩).mono fun r g' hr => ?_)
          refine x01 hr fun z621 z622 => ?_; clear hr; subst z621; obtain ⟨X', hX', ea, st, hk, hts⟩ := z622
          refine hrQ _ _ _ rfl ?_; clear hnQ hrQ Qx
          exact ⟨found, sk.nd, hfl, hreach, sk.near, .inr ⟨qo, rfl, X', hX', ea, (Step.ext (R.e.trans e9)).trans st, hk, hts⟩⟩
end Mine
end SFn9

section SFn10
open PySem PySem.W PySem.Calls PyProof.Rows PySem.SeqAt
set_option maxRecDepth 100000
set_option maxHeartbeats 4000000
namespace Mine
variable {prog : Program} {w : World} {A : Around} {g : Led}
theorem ext_put_new' {g g' : Led} {c : Addr} {o : Obj} (e : Ext g g') (h : g c = none) : Ext g (g'.put c o) := fun b x y => by rw [put_ne _ _ (ne_of_none h y)]; exact e _ _ y
theorem ranges_snoc {sm : List Int} {k : Nat} {v : Int} (h : sm[k]? = some v) : rangesOf (sm.take (k + 1)) = rangesStep (rangesOf (sm.take k)) v := by
  rw [take_succ_of h]; unfold rangesOf; rw [List.foldl_append]; rfl
theorem all2_snoc_inv' {α β : Type} {R : α → β → Prop} {a : List α} {x : α} {b : List β} (h : All2 R (a ++ [x]) b) : ∃ b' y, b = b' ++ [y] ∧ All2 R a b' ∧ R x y := by
  induction a generalizing b with
  | nil => cases h with | cons r h => cases h; exact ⟨[], _, rfl, .nil, r⟩
  | cons z a ih => cases h with | cons r h => refine x22 (ih h) fun b' y z1 h' ry => ?_; subst z1; exact ⟨_ :: b', y, rfl, .cons r h', ry⟩
theorem ranges_ok (ok : Ok A 1) {sm : List Int} {sv' : Value} (hs : Ls (fun _ => IsI) g sm sv') (hl : sm.length ≤ 100) :
    Ev prog w (KK w.params) A (PySem.call (.ref 365) [sv'] []) g fun r g' => Ext g g' ∧ Dom g' (rangesOf sm) r := by
  obtain ⟨a, xs, rfl, hxs, ha⟩ := hs
  refine Ev.defV ok [("some", .ref a)] ["some", "ranges", "v"] [("some", some (.ref a)), ("ranges", none), ("v", none)] (by rfl) (fun L g₁ A ok hL e hcell => ?_)
  refine EvF.consQ fun Qx hnQ hrQ => ?_; refine EvF.assignS ?_; refine EvF.list ?_; refine EvF.args0 ?_; refine ⟨Nat.le_trans (m := 9) (by simp only [List.length_cons, List.length_nil]; decide) (by decide), fun _ _ => ?_⟩; refine EvF.assignName ?_; refine EvF.store (.tail .head) ?_; refine hnQ _ _ ?_; clear hnQ hrQ Qx; refine EvF.consQ fun Qx hnQ hrQ => ?_
  rename_i rl hrl
  refine EvF.forS ok.h ?_
  refine EvF.loc (.head _) ?_
  refine ⟨_, _, _, fun k vs g' => ∃ u rs, vs = ([("some", some (.ref a)), ("ranges", some (.ref rl)), ("v", u)] : Vars) ∧ Ext g g' ∧ At g' rl (LstO rs) ∧ All2 (Pair g') (rangesOf (sm.take k)) rs ∧ (rangesOf (sm.take k)).length ≤ k, Src.lst (At.ext (At.ext (by assumption) (by assumption)) (Ext.new _ (by assumption))), ⟨_, [], rfl, (Ext.trans (by assumption) (Ext.new _ (by assumption))), (⟨_, put_self .., _, rfl⟩), .nil, Nat.zero_le _⟩, fun k vs g' i b m o ho => ?_, fun k vs g' x hk hx i => ?_, fun vs g' i => ?_⟩
  · obtain ⟨oa, hoa, _⟩ := hxs
    refine x22 i fun _ _ _ eg _ => ?_; clear i
    rw [List.mem_singleton] at m; subst m
    have h1 : (g₁.put rl (lstV [] 0)) b = some oa := (Ext.new _ hrl) _ _ (e _ _ hoa)
    rw [h1] at ho; cases ho
    exact eg _ _ hoa
  · refine x24 i fun u rs z81 eg oR hrs hk' => ?_; clear i; subst z81
    refine x11 (ha.at hx) fun v hv z101 => ?_; refine x10 z101 fun tv z102 => ?_; clear z101; subst z102
    have hsz : sizeLine = 2 ^ 24 := rfl
    have hkl : k < 100 := by have := ha.len; omega
    have hrn : g rl = none := by
      cases q : g rl with
      | none => rfl
      | some o => have := e _ _ q; rw [hrl] at this; cases this
    refine EvF.bind ?_; refine EvF.assignName ?_; refine EvF.store (.tail (.tail .head)) ?_; refine EvF.consQ fun Qx hnQ hrQ => ?_; refine EvF.ifS ?_; refine EvF.testAnd ?_; refine EvF.test ?_; refine EvF.loc (.tail _ (.head _)) ?_; refine EvF.list ?_; refine EvF.args0 ?_; refine ⟨Nat.le_trans (m := 9) (by simp only [List.length_cons, List.length_nil]; decide) (by decide), fun _ _ => ?_⟩
    rename_i ae hae
    have e3 := Ext.new (lstV [] 0) hae
    refine .of (.neLs (ps := rangesOf (sm.take k)) (qs := []) EqOn.pair ⟨rl, rs, rfl, oR.ext e3, Stays.pair.all hrs e3.kp⟩ ⟨ae, [], rfl, (⟨_, put_self .., _, rfl⟩), .nil⟩ ok.cl ?_)
    have eg := eg.trans e3
    have oR := oR.ext e3
    have hrs := Stays.pair.all hrs e3.kp
    generalize g'.put ae (lstV [] 0) = g₄ at eg oR hrs ⊢
    have b1 : rs.length ≤ sizeLine := by have := hrs.len; omega
    by_cases q : rangesOf (sm.take k) = []
    · rw [show (!decide (rangesOf (sm.take k) = [])) = false by simp [q]]
      refine EvF.truthyBool ?_; refine iteF ?_; refine EvF.consQ fun Qx hnQ hrQ => ?_; refine EvF.exprD ?_; refine EvF.meth ?_; refine EvF.loc (.tail _ (.head _)) ?_; refine' EvF.of (.methL ?h1 F.slot_list_append F.type_list_append ?_); (case h1 => assumption); refine ⟨by first | exact KeepOk.b | exact KeepOk.t | exact KeepOk.k (by rfl), ?_⟩; refine EvF.args1 ?_; refine EvF.tuple ?_; refine EvF.args1 ?_; refine EvF.loc (.tail _ (.tail _ (.head _))) ?_; refine EvF.args1 ?_; refine EvF.loc (.tail _ (.tail _ (.head _))) ?_; refine EvF.args0 ?_; refine ⟨Nat.le_trans (m := 9) (by simp only [List.length_cons, List.length_nil]; decide) (by decide), fun _ _ => ?_⟩; refine EvF.args0 ?_; refine EvF.callApp ?_; refine' EvF.of (.append ?h1 ?h2 fun _ => ?_); (case h1 => refine At.ext ?_ (Ext.new _ (by assumption)); assumption); (case h2 => assumption); refine hnQ _ _ ?_; clear hnQ hrQ Qx; refine EvF.nil ?_; refine hnQ _ _ ?_; clear hnQ hrQ Qx; refine EvF.nil ?_
      rename_i t1 ht1 m1
      have e4 := Ext.new (tupV [.int v tv, .int v tv] 0) ht1
      refine ⟨_, rs ++ [.ref t1], rfl, ext_put_new' (eg.trans e4) hrn, ⟨_, put_self .., _, rfl⟩, ?_, ?_⟩
      · have kp : Kp (g₄.put t1 (tupV [.int v tv, .int v tv] 0)) ((g₄.put t1 (tupV [.int v tv, .int v tv] 0)).put rl (lstV (rs ++ [.ref t1]) m1)) := Kp.lst (oR.ext e4)
        rw [ranges_snoc hv, q]
        rw [q] at hrs; cases hrs
        exact Stays.pair.all (All2.cons (Pair.mk ⟨_, put_self .., _, rfl⟩) .nil) kp
      · rw [ranges_snoc hv, q]; simp [rangesStep]
    · rw [show (!decide (rangesOf (sm.take k) = [])) = true by simp [q]]
      obtain ⟨ps, p, hpp⟩ : ∃ ps p, rangesOf (sm.take k) = ps ++ [p] := ⟨_, _, (List.dropLast_concat_getLast q).symm⟩
      have hkl2 : ps.length + 1 ≤ k := by rw [hpp, List.length_append] at hk'; simpa using hk'
      rw [hpp] at hrs
      refine x22 (all2_snoc_inv' hrs) fun rs' y z121 hrs' hy => ?_; subst z121
      refine x33 hy.open fun pa x1 x2 z141 hpa z142 z143 => ?_; subst z141; refine x10 z142 fun ta z144 => ?_; clear z142; subst z144; refine x10 z143 fun tb z145 => ?_; clear z143; subst z145
      have hstep : rangesOf (sm.take (k + 1)) = if p.2 = v - 1 then ps ++ [(p.1, v)] else ps ++ [p] ++ [(v, v)] := by
        rw [ranges_snoc hv, hpp]
        unfold rangesStep
        simp
      refine EvF.truthyBool ?_; refine EvF.test ?_; refine EvF.sub ?_; refine EvF.sub ?_; refine EvF.loc (.tail _ (.head _)) ?_; refine EvF.negate ?_; refine EvF.cint fun _ => ?_; refine ⟨_, _, rfl, fun _ => ?_⟩; refine' subLst ?h1 ?_; (case h1 => assumption)
      refine .of (.lstLast (xs := rs' ++ [.ref pa]) (x := .ref pa) oR (by simp) ?_)
      refine EvF.cint fun _ => ?_; refine' subTup ?h1 ?_; (case h1 => assumption); refine' EvF.of (.tupAt ?h1 1 rfl ?h2 (by decide) ?_); (case h1 => assumption); (case h2 => rfl); refine EvF.binOp ?_; refine EvF.loc (.tail _ (.tail _ (.head _))) ?_; refine EvF.cint fun _ => ?_; refine EvF.subI fun _ => ?_; refine EvF.eqI ?_; refine EvF.truthyBool ?_
      by_cases qe : p.2 = v - 1
      · rw [show (p.2 == v - 1) = true by simpa using qe]
        rw [if_pos qe] at hstep
        refine iteT ?_; refine EvF.consQ fun Qx hnQ hrQ => ?_; refine EvF.assignS ?_; refine EvF.tuple ?_; refine EvF.args1 ?_; refine EvF.sub ?_; refine EvF.sub ?_; refine EvF.loc (.tail _ (.head _)) ?_; refine EvF.negate ?_; refine EvF.cint fun _ => ?_; refine ⟨_, _, rfl, fun _ => ?_⟩; refine' subLst ?h1 ?_; (case h1 => assumption)
        refine .of (.lstLast (xs := rs' ++ [.ref pa]) (x := .ref pa) oR (by simp) ?_)
        refine EvF.cint fun _ => ?_; refine' subTup ?h1 ?_; (case h1 => assumption); refine' EvF.of (.tupAt ?h1 0 rfl ?h2 (by decide) ?_); (case h1 => assumption); (case h2 => rfl); refine EvF.args1 ?_; refine EvF.loc (.tail _ (.tail _ (.head _))) ?_; refine EvF.args0 ?_; refine ⟨Nat.le_trans (m := 9) (by simp only [List.length_cons, List.length_nil]; decide) (by decide), fun _ _ => ?_⟩; refine EvF.assignSub ?_; refine EvF.loc (.tail _ (.head _)) ?_; refine EvF.negate ?_; refine EvF.cint fun _ => ?_; refine ⟨_, _, rfl, fun _ => ?_⟩
        rename_i t1 ht1 _ _
        have e4 := Ext.new (tupV [.int p.1 ta, .int v tv] 0) ht1
        refine .of (.setLast (oR.ext e4) (by have := hrs'.len; omega) fun m1 => ?_)
        have kp : Kp (g₄.put t1 (tupV [.int p.1 ta, .int v tv] 0)) ((g₄.put t1 (tupV [.int p.1 ta, .int v tv] 0)).put rl (lstV (rs' ++ [.ref t1]) m1)) := Kp.lst (oR.ext e4)
        refine hnQ _ _ ?_; clear hnQ hrQ Qx; refine EvF.nil ?_; refine hnQ _ _ ?_; clear hnQ hrQ Qx; refine EvF.nil ?_
        refine ⟨_, rs' ++ [.ref t1], rfl, ext_put_new' (eg.trans e4) hrn, ⟨_, put_self .., _, rfl⟩, ?_, ?_⟩
        · rw [hstep]
          exact Stays.pair.all ((Stays.pair.all hrs' e4.kp).snoc (Pair.mk ⟨_, put_self .., _, rfl⟩)) kp
        · rw [hstep]; simp; omega
      · rw [show (p.2 == v - 1) = false by simpa using qe]
        rw [if_neg qe] at hstep
        refine iteF ?_; refine EvF.consQ fun Qx hnQ hrQ => ?_; refine EvF.exprD ?_; refine EvF.meth ?_; refine EvF.loc (.tail _ (.head _)) ?_; refine' EvF.of (.methL ?h1 F.slot_list_append F.type_list_append ?_); (case h1 => assumption); refine ⟨by first | exact KeepOk.b | exact KeepOk.t | exact KeepOk.k (by rfl), ?_⟩; refine EvF.args1 ?_; refine EvF.tuple ?_; refine EvF.args1 ?_; refine EvF.loc (.tail _ (.tail _ (.head _))) ?_; refine EvF.args1 ?_; refine EvF.loc (.tail _ (.tail _ (.head _))) ?_; refine EvF.args0 ?_; refine ⟨Nat.le_trans (m := 9) (by simp only [List.length_cons, List.length_nil]; decide) (by decide), fun _ _ => ?_⟩; refine EvF.args0 ?_; refine EvF.callApp ?_; refine' EvF.of (.append ?h1 ?h2 fun _ => ?_); (case h1 => refine At.ext ?_ (Ext.new _ (by assumption)); assumption); (case h2 => assumption); refine hnQ _ _ ?_; clear hnQ hrQ Qx; refine EvF.nil ?_; refine hnQ _ _ ?_; clear hnQ hrQ Qx; refine EvF.nil ?_
        rename_i t1 ht1 m1
        have e4 := Ext.new (tupV [.int v tv, .int v tv] 0) ht1
        have kp : Kp (g₄.put t1 (tupV [.int v tv, .int v tv] 0)) ((g₄.put t1 (tupV [.int v tv, .int v tv] 0)).put rl (lstV (rs' ++ [.ref pa] ++ [.ref t1]) m1)) := Kp.lst (oR.ext e4)
        refine ⟨_, rs' ++ [.ref pa] ++ [.ref t1], rfl, ext_put_new' (eg.trans e4) hrn, ⟨_, put_self .., _, rfl⟩, ?_, ?_⟩
        · rw [hstep]
          exact Stays.pair.all ((Stays.pair.all hrs e4.kp).snoc (Pair.mk ⟨_, put_self .., _, rfl⟩)) kp
        · rw [hstep]; simp; assumption
  · refine x24 i fun u rs z161 eg oR hrs hk' => ?_; clear i; subst z161
    have hsz : sizeLine = 2 ^ 24 := rfl
    have b1 : rs.length ≤ sizeLine := by have := hrs.len; have := ha.len; omega
    have hfull : sm.take xs.length = sm := by rw [← ha.len, List.take_length]
    refine EvF.nil ?_; refine hnQ _ _ ?_; clear hnQ hrQ Qx; refine EvF.consQ fun Qx hnQ hrQ => ?_; refine EvF.ret ?_; refine EvF.call ?_; refine EvF.boot (by rfl) (bv_tuple) ?_; refine ⟨by first | exact KeepOk.b | exact KeepOk.t | exact KeepOk.k (by rfl), ?_⟩; refine EvF.args1 ?_; refine EvF.loc (.tail _ (.head _)) ?_; refine EvF.args0 ?_; refine' EvF.of (.tupleOf ?h1 ?h2 fun _ _ => ?_); (case h1 => assumption); (case h2 => assumption); refine hrQ _ _ _ rfl ?_; clear hnQ hrQ Qx
    rename_i tt htt
    have e4 := Ext.new (tupV rs 0) htt
    exact ⟨eg.trans e4, tt, rs, rfl, ⟨_, put_self .., _, rfl⟩, hfull ▸ Stays.pair.all hrs e4.kp⟩
end Mine
end SFn10

section SFn11
open PySem PySem.W PySem.Calls PyProof.Rows PySem.SeqAt
set_option maxRecDepth 100000
set_option maxHeartbeats 4000000
namespace Mine
variable {prog : Program} {w : World} {A : Around} {g g₀ : Led}
theorem prop_init_okC (ok : Ok A 1) {x dx sc : Addr} {xs : List Value} {st : Value} (H : Half w.params g₀ g 349 x dx [] []) (hs : At g sc (TupO xs)) :
    EvC prog w (KK w.params) A (.call (.ref 262) ⟨[.ref x, .ref sc, st], []⟩) g fun r g' => r = .none ∧ ∃ n, Half w.params g₀ g' 349 x dx [(("number" : Str), n), (("scope" : Str), .ref sc), (("strength" : Str), st)] [] ∧ Kp g g' := by
  refine EvC.defV ok [("self", .ref x), ("scope", .ref sc), ("strength", st)] ["self", "scope", "strength"] [("self", some (.ref x)), ("scope", some (.ref sc)), ("strength", some st)] (by rfl) (fun L g₁ A ok hL e hcell => ?_)
  have H := H.ext e
  have hs := hs.ext e
  have kp := e.kp
  refine EvF.consQ fun Qx hnQ hrQ => ?_; refine EvF.assignS ?_; refine EvF.negate ?_; refine EvF.cint fun _ => ?_; refine ⟨_, _, rfl, fun _ => ?_⟩; refine EvF.assignAttr ?_; refine EvF.loc (.head _) ?_
  refine EvF.setOwn H.i H.d (by exact of_decide_eq_true rfl) fun o ho => ?_
  have hs := hs.tkp (Kp.ns (o := o) H.d)
  have kp := kp.trans (Kp.ns (o := o) H.d)
  have H := H.set ho
  clear ho
  generalize g₁.put dx o = g₂ at H hs kp ⊢
  refine hnQ _ _ ?_; clear hnQ hrQ Qx; refine EvF.consQ fun Qx hnQ hrQ => ?_; refine EvF.assignS ?_; refine EvF.call ?_; refine EvF.boot (by rfl) (bv_tuple) ?_; refine ⟨by first | exact KeepOk.b | exact KeepOk.t | exact KeepOk.k (by rfl), ?_⟩; refine EvF.args1 ?_; refine EvF.loc (.tail _ (.head _)) ?_; refine EvF.args0 ?_; refine' EvF.of (.tupleSame ?h1 ?_); (case h1 => assumption); refine EvF.assignAttr ?_; refine EvF.loc (.head _) ?_
  refine EvF.setOwn H.i H.d (by exact of_decide_eq_true rfl) fun o ho => ?_
  have hs := hs.tkp (Kp.ns (o := o) H.d)
  have kp := kp.trans (Kp.ns (o := o) H.d)
  have H := H.set ho
  clear ho
  generalize g₂.put dx o = g₃ at H hs kp ⊢
  refine hnQ _ _ ?_; clear hnQ hrQ Qx; refine EvF.consQ fun Qx hnQ hrQ => ?_; refine EvF.assignS ?_; refine EvF.loc (.tail _ (.tail _ (.head _))) ?_; refine EvF.assignAttr ?_; refine EvF.loc (.head _) ?_
  refine EvF.setOwn H.i H.d (by exact of_decide_eq_true rfl) fun o ho => ?_
  have hs := hs.tkp (Kp.ns (o := o) H.d)
  have kp := kp.trans (Kp.ns (o := o) H.d)
  have H := H.set ho
  refine hnQ _ _ ?_; clear hnQ hrQ Qx; refine EvF.nil ?_
  exact ⟨rfl, _, H, kp⟩
end Mine
end SFn11

section SFn12
open PySem PySem.W PySem.Calls PyProof.Rows PySem.SeqAt
set_option maxRecDepth 100000
set_option maxHeartbeats 4000000
namespace Mine
variable {prog : Program} {w : World} {A : Around} {g : Led}
noncomputable abbrev IL : Led → List Int → Value → Prop := Ls (fun _ => IsI)
theorem IL.ext {g g' : Led} {bs : List Int} {v : Value} (x : IL g bs v) (e : Ext g g') : IL g' bs v := let ⟨a, xs, h1, h2, h3⟩ := x; ⟨a, xs, h1, h2.ext e, h3⟩
theorem ext_put_new2 {g g' : Led} {c : Addr} {o : Obj} (e : Ext g g') (h : g c = none) : Ext g (g'.put c o) := fun b x y => by rw [put_ne _ _ (ne_of_none h y)]; exact e _ _ y
noncomputable def expand (v : Int) (o : List Int) (j : Nat) : List (List Int) := (List.range j).map fun t => o.take (t + 1) ++ [v] ++ o.drop (t + 1)
theorem expand_len (v : Int) (o : List Int) (j : Nat) : (expand v o j).length = j := by unfold expand; simp
noncomputable def allMore (v : Int) (os : List (List Int)) : List (List Int) := os.flatMap fun o => expand v o o.length
theorem allMore_snoc (v : Int) (os : List (List Int)) (o : List Int) : allMore v (os ++ [o]) = allMore v os ++ expand v o o.length := by unfold allMore; simp
theorem allMore_len {v : Int} {n : Nat} : ∀ {os : List (List Int)}, (∀ o ∈ os, o.length = n) → (allMore v os).length = os.length * n
  | [], _ => by simp [allMore]
  | o :: os, h => by
    have ih := allMore_len (v := v) (os := os) fun x hx => h x (.tail _ hx)
    unfold allMore at ih ⊢
    rw [List.flatMap_cons, List.length_append, ih, expand_len, h o (.head _), List.length_cons, Nat.succ_mul, Nat.add_comm]
theorem allMore_ok {n : Nat} {os : List (List Int)} (h : ∀ o ∈ os, OrdOk n o) : ∀ o ∈ allMore ((n : Int) + 1) os, OrdOk (n + 1) o := fun o ho => by
  unfold allMore at ho
  refine x11 (List.mem_flatMap.mp ho) fun p hp ho => ?_
  unfold expand at ho
  refine x11 (List.mem_map.mp ho) fun t ht z21 => ?_; subst z21
  have := (h p hp).len
  exact (h p hp).more (by omega) (by have := List.mem_range.mp ht; omega)
theorem rings_ok (ok : Ok A 1) {m : Nat} (hm : m ≤ 5) (h1 : 1 ≤ m) {mv : Value} (hmv : IsI m mv) :
    Ev prog w (KK w.params) A (PySem.call (.ref 375) [mv] []) g fun r g' => Ext g g' ∧ ∃ rs, Ls IL g' rs r ∧ ∀ b ∈ rs, RingOf m b := by
  refine x10 hmv fun tm z41 => ?_; clear hmv; subst z41
  refine Ev.defV ok [("many", .int m tm)] ["many", "orders", "order", "k", "rings", "behind"] [("many", some (.int m tm)), ("orders", none), ("order", none), ("k", none), ("rings", none), ("behind", none)] (by rfl) (fun L g₁ A ok hL e hcell => ?_)
  have cV := hcell "v" (L + 1) (by rfl)
  have hsz : sizeLine = 2 ^ 24 := rfl
  refine EvF.consQ fun Qx hnQ hrQ => ?_; refine EvF.assignS ?_; refine EvF.list ?_; refine EvF.args1 ?_; refine EvF.list ?_; refine EvF.args1 ?_; refine EvF.cint fun _ => ?_; refine EvF.args0 ?_; refine ⟨Nat.le_trans (m := 9) (by simp only [List.length_cons, List.length_nil]; decide) (by decide), fun _ _ => ?_⟩; refine EvF.args0 ?_; refine ⟨Nat.le_trans (m := 9) (by simp only [List.length_cons, List.length_nil]; decide) (by decide), fun _ _ => ?_⟩; refine EvF.assignName ?_; refine EvF.store (.tail .head) ?_; refine hnQ _ _ ?_; clear hnQ hrQ Qx; refine EvF.consQ fun Qx hnQ hrQ => ?_
  rename_i t1 a1 hn1 a2 hn2
  have e2 : Ext g ((g₁.put a1 (lstV [.int 1 t1] 0)).put a2 (lstV [.ref a1] 0)) := (e.trans (Ext.new _ hn1)).trans (Ext.new _ hn2)
  have e2' : Ext g₁ ((g₁.put a1 (lstV [.int 1 t1] 0)).put a2 (lstV [.ref a1] 0)) := (Ext.new _ hn1).trans (Ext.new _ hn2)
  have o1 : IL ((g₁.put a1 (lstV [.int 1 t1] 0)).put a2 (lstV [.ref a1] 0)) [1] (.ref a1) := ⟨a1, _, rfl, At.ext ⟨_, put_self .., 0, rfl⟩ (Ext.new _ hn2), .cons ⟨_, rfl⟩ .nil⟩
  have o2 : At ((g₁.put a1 (lstV [.int 1 t1] 0)).put a2 (lstV [.ref a1] 0)) a2 (LstO [.ref a1]) := ⟨_, put_self .., 0, rfl⟩
  have kV := cV.2.ext e2'
  clear hn2 hn1 e2' cV
  have cV := hcell "v" (L + 1) (by rfl)
  generalize (g₁.put a1 (lstV [.int 1 t1] 0)).put a2 (lstV [.ref a1] 0) = g₂ at *
  refine EvF.forS ok.h ?_
  refine EvF.call ?_; refine EvF.boot (by rfl) (bv_range) ?_; refine ⟨by first | exact KeepOk.b | exact KeepOk.t | exact KeepOk.k (by rfl), ?_⟩; refine EvF.args1 ?_; refine EvF.cint fun _ => ?_; refine EvF.args1 ?_; refine EvF.binOp ?_; refine EvF.loc (.head _) ?_; refine EvF.cint fun _ => ?_; refine EvF.addI fun _ => ?_; refine EvF.args0 ?_; refine EvF.range2 fun _ _ _ => ?_
  rename_i t2 t3 t4 ar t5 har
  have hrg : (g₂.put ar (rngV 2 ((m : Int) + 1) t2 t4 t5)) ar = some (rngV 2 ((m : Int) + 1) t2 t4 t5) := put_self ..
  have eR := Ext.new (rngV 2 ((m : Int) + 1) t2 t4 t5) har
  have kV := kV.ext eR
  have o1 := o1.ext eR
  have o2 := o2.ext eR
  have e2 := e2.trans eR
  clear eR har
  generalize g₂.put ar (rngV 2 ((m : Int) + 1) t2 t4 t5) = g₃ at *
  refine ⟨_, _, _, fun n vs g' => ∃ ao xs ords, vs = ([("many", some (.int m tm)), ("orders", some (.ref ao)), ("order", none), ("k", none), ("rings", none), ("behind", none)] : Vars) ∧ Ext g g' ∧ (∃ u, At g' (L + 1) (CellO u)) ∧ At g' ao (LstO xs) ∧ All2 (IL g') ords xs ∧ (∀ o ∈ ords, OrdOk (n + 1) o) ∧ ords.length ≤ 6 ^ n, Src.rng hrg (by omega) (by omega) (by omega) (by omega),
    ⟨a2, _, [[1]], rfl, e2, ⟨_, kV⟩, o2, .cons o1 .nil, fun o h => by rw [List.mem_singleton] at h; subst h; exact OrdOk.one, by simp⟩, fun k vs g' i b m => (nomatch m), fun n vs g' x hn hx i => ?_, fun vs g' i => ?_⟩
  · refine x35 i fun ao xs ords z61 eg z62 oA hA z63 => ?_; clear i; subst z61; refine x10 z62 fun u hu => ?_; clear z62; refine x01 z63 fun hO hl => ?_; clear z63
    refine x10 hx fun tv z81 => ?_; clear hx; subst z81
    have hn5 : n + 2 ≤ 5 := (by omega)
    refine EvF.bind ?_; refine EvF.assignName ?_
    refine EvF.storeCell hu fun o ho => ?_
    have kV : At (g'.put (L + 1) o) (L + 1) (CellO (some (.int (2 + (n : Int)) tv))) := ⟨_, put_self .., ho⟩
    have oA := oA.off (hu.ne oA cell_lst).symm (o := o)
    have hA : All2 (IL (g'.put (L + 1) o)) ords xs := hA.mono fun p v r => by
      obtain ⟨a, ys, h1, h2, h3⟩ := r
      exact ⟨a, ys, h1, h2.off (hu.ne h2 cell_lst).symm, h3⟩
    have eg := ext_put_new2 eg cV.1 (o := o)
    clear hu
    generalize g'.put (L + 1) o = g₄ at *
    refine EvF.consQ fun Qx hnQ hrQ => ?_
    refine EvF.compL2To (γ := List Int) ["order", "k"] ok ?_
    refine EvF.loc (.tail _ (.head _)) ?_
    have hml : ∀ os : List (List Int), (∀ o ∈ os, o ∈ ords) → (allMore (2 + (n : Int)) os).length = os.length * (n + 1) := fun os h => allMore_len fun o ho => (hO o (h o ho)).len
    have h6 : (6 : Nat) ^ n ≤ 6 ^ 3 := Nat.pow_le_pow_right (by decide) (by omega)
    refine ⟨_, _, _, fun k => allMore (2 + (n : Int)) (ords.take k), IL, Src.lst oA, rfl, fun C e₁ ee hcc => ⟨fun k vs e' => (∃ u1 u2, vs = ([("order", u1), ("k", u2)] : Vars)) ∧ Ext e₁ e', Ext, ⟨⟨_, _, rfl⟩, Ext.refl _⟩, fun k vs e' j b _ o ho => j.2 _ _ (ee _ _ ho), fun e e' b v x r => r.ext x, fun k y vs e₄ hk hy j => ?_, fun vs e' ys' D' m' j nD ha' => ?_⟩⟩
    · refine x01 j fun z121 e3 => ?_; clear j; refine x20 z121 fun u1 u2 z122 => ?_; clear z121; subst z122
      refine x11 (hA.at hy) fun od hod z141 => ?_; obtain ⟨ai, yi, rfl, oi, hyi⟩ := z141
      have hoo := hO od (List.mem_of_getElem? hod)
      have hol := hoo.len
      have hyl := hyi.len
      have eo := ee.trans e3
      have oi := oi.ext eo
      have kV := kV.ext eo
      have b1 : yi.length < 2 ^ 62 := (by omega)
      refine EvF.assignName ?_; refine EvF.store .head ?_
      refine ⟨Ext.refl _, ?_⟩
      refine EvF.call ?_; refine EvF.boot (by rfl) (bv_range) ?_; refine ⟨by first | exact KeepOk.b | exact KeepOk.t | exact KeepOk.k (by rfl), ?_⟩; refine EvF.args1 ?_; refine EvF.cint fun _ => ?_; refine EvF.args1 ?_; refine EvF.binOp ?_; refine EvF.call ?_; refine EvF.boot (by rfl) (bv_len) ?_; refine ⟨by first | exact KeepOk.b | exact KeepOk.t | exact KeepOk.k (by rfl), ?_⟩; refine EvF.args1 ?_; refine EvF.loc (.head _) ?_; refine EvF.args0 ?_; refine' EvF.of (.lenL ?h1 ?h2 fun _ => ?_); (case h1 => assumption); (case h2 => assumption); refine EvF.cint fun _ => ?_; refine EvF.addI fun _ => ?_; refine EvF.args0 ?_; refine EvF.range2 fun _ _ _ => ?_
      rename_i r1 rA rB r3 ar4 r5 har4
      have hrg4 : (e₄.put ar4 (rngV 1 ((yi.length : Int) + 1) r1 r3 r5)) ar4 = some (rngV 1 ((yi.length : Int) + 1) r1 r3 r5) := put_self ..
      have eR := Ext.new (rngV 1 ((yi.length : Int) + 1) r1 r3 r5) har4
      have oi := oi.ext eR
      have kV := kV.ext eR
      refine ⟨eR, _, _, _, fun j => allMore (2 + (n : Int)) (ords.take k) ++ expand (2 + (n : Int)) od (min j od.length), fun j vs e' => (∃ u2, vs = ([("order", some (.ref ai)), ("k", u2)] : Vars)) ∧ Ext (e₄.put ar4 (rngV 1 ((yi.length : Int) + 1) r1 r3 r5)) e', Src.rng hrg4 (by omega) (by omega) (by omega) (by omega), ⟨⟨_, rfl⟩, Ext.refl _⟩, fun j vs e'' i b m => (nomatch m), ?_, ?_, fun j => ?_, fun j y vs e'' hj hy2 i => ?_, fun vs e'' i => ?_⟩
      · show allMore (2 + (n : Int)) (ords.take k) ++ expand (2 + (n : Int)) od (min 0 od.length) = allMore (2 + (n : Int)) (ords.take k)
        simp [expand]
      · show allMore (2 + (n : Int)) (ords.take k) ++ expand (2 + (n : Int)) od (min ((yi.length : Int) + 1 - 1).toNat od.length) = allMore (2 + (n : Int)) (ords.take (k + 1))
        rw [take_succ_of hod, allMore_snoc, show min ((yi.length : Int) + 1 - 1).toNat od.length = od.length by omega]
      · rw [List.length_append, expand_len, hml _ (fun o h => List.mem_of_mem_take h), List.length_take]
        have : min k ords.length * (n + 1) ≤ 6 ^ 3 * 5 := Nat.mul_le_mul (by omega) (by omega)
        omega
      · refine x01 i fun z161 e5 => ?_; clear i; refine x10 z161 fun u3 z162 => ?_; clear z161; subst z162
        refine x10 hy2 fun tj z181 => ?_; clear hy2; subst z181
        have hjl : j < od.length := (by omega)
        have oi := oi.ext e5
        have kV := kV.ext e5
        refine EvF.assignName ?_; refine EvF.store (.tail .head) ?_
        refine ⟨Ext.refl _, ?_⟩
        refine EvF.binOp ?_; refine EvF.binOp ?_; refine EvF.sub ?_; refine EvF.loc (.head _) ?_; refine EvF.sliceE ?_; refine EvF.partN ?_; refine EvF.partS ?_; refine EvF.loc (.tail _ (.head _)) ?_; intro _ _; refine' subLst ?h1 ?_; (case h1 => refine At.ext ?_ (Ext.new _ (by assumption)); assumption)
        rename_i c1 hc1
        refine .of (.lstUpto (xs := yi) (k := 1 + j) (oi.ext (Ext.new _ hc1)) (put_self ..) (by omega) (by omega) fun c2 hc2 => ?_)
        have eA := (Ext.new (slcV .none (.int (1 + (j : Int)) tj)) hc1).trans (Ext.new (lstV (yi.take (1 + j)) 0) hc2)
        have oA1 : At ((e''.put c1 (slcV .none (.int (1 + (j : Int)) tj))).put c2 (lstV (yi.take (1 + j)) 0)) c2 (LstO (yi.take (1 + j))) := ⟨_, put_self .., 0, rfl⟩
        have oi := oi.ext eA
        have kV := kV.ext eA
        generalize (e''.put c1 (slcV .none (.int (1 + (j : Int)) tj))).put c2 (lstV (yi.take (1 + j)) 0) = f₁ at *
        refine EvF.list ?_; refine EvF.args1 ?_; refine' EvF.cell ?h1 ?_; (case h1 => assumption); refine EvF.args0 ?_; refine ⟨Nat.le_trans (m := 9) (by simp only [List.length_cons, List.length_nil]; decide) (by decide), fun _ _ => ?_⟩
        rename_i c3 hc3
        have oA3 : At (f₁.put c3 (lstV [.int (2 + (n : Int)) tv] 0)) c3 (LstO [.int (2 + (n : Int)) tv]) := ⟨_, put_self .., 0, rfl⟩
        refine .of (.addL (oA1.ext (Ext.new _ hc3)) oA3 (by simp; omega) fun c4 hc4 => ?_)
        have eB := (Ext.new (lstV [.int (2 + (n : Int)) tv] 0) hc3).trans (Ext.new (lstV (yi.take (1 + j) ++ [.int (2 + (n : Int)) tv]) 0) hc4)
        have oA4 : At ((f₁.put c3 (lstV [.int (2 + (n : Int)) tv] 0)).put c4 (lstV (yi.take (1 + j) ++ [.int (2 + (n : Int)) tv]) 0)) c4 (LstO (yi.take (1 + j) ++ [.int (2 + (n : Int)) tv])) := ⟨_, put_self .., 0, rfl⟩
        have oi := oi.ext eB
        have eA := eA.trans eB
        generalize (f₁.put c3 (lstV [.int (2 + (n : Int)) tv] 0)).put c4 (lstV (yi.take (1 + j) ++ [.int (2 + (n : Int)) tv]) 0) = f₂ at *
        refine EvF.sub ?_; refine EvF.loc (.head _) ?_; refine EvF.sliceE ?_; refine EvF.partS ?_; refine EvF.loc (.tail _ (.head _)) ?_; refine EvF.partN ?_; intro _ _; refine' subLst ?h1 ?_; (case h1 => refine At.ext ?_ (Ext.new _ (by assumption)); assumption)
        rename_i c5 hc5
        refine .of (.lstFrom (xs := yi) (k := 1 + j) (oi.ext (Ext.new _ hc5)) (put_self ..) (by omega) (by omega) fun c6 hc6 => ?_)
        have eC := (Ext.new (slcV (.int (1 + (j : Int)) tj) .none) hc5).trans (Ext.new (lstV (yi.drop (1 + j)) 0) hc6)
        have oA6 : At ((f₂.put c5 (slcV (.int (1 + (j : Int)) tj) .none)).put c6 (lstV (yi.drop (1 + j)) 0)) c6 (LstO (yi.drop (1 + j))) := ⟨_, put_self .., 0, rfl⟩
        have oA4 := oA4.ext eC
        have eA := eA.trans eC
        generalize (f₂.put c5 (slcV (.int (1 + (j : Int)) tj) .none)).put c6 (lstV (yi.drop (1 + j)) 0) = f₃ at *
        skip
        refine .of (.addL oA4 oA6 (by simp; omega) fun c7 hc7 => ?_)
        refine ⟨⟨⟨_, rfl⟩, e5.trans (eA.trans (Ext.new _ hc7))⟩, eA.trans (Ext.new _ hc7), od.take (j + 1) ++ [2 + (n : Int)] ++ od.drop (j + 1), ?_, c7, _, rfl, ⟨_, put_self .., 0, rfl⟩, ?_⟩
        · show allMore (2 + (n : Int)) (ords.take k) ++ expand (2 + (n : Int)) od (min (j + 1) od.length) = allMore (2 + (n : Int)) (ords.take k) ++ expand (2 + (n : Int)) od (min j od.length) ++ _
          rw [show min (j + 1) od.length = j + 1 by omega, show min j od.length = j by omega, List.append_assoc]
          congr 1
          unfold expand
          rw [List.range_succ, List.map_append]; rfl
        · rw [Nat.add_comm 1 j]
          exact ((hyi.taken _).app (.cons ⟨_, rfl⟩ .nil)).app (hyi.dropped _)
      · refine x01 i fun z201 e5 => ?_; clear i; refine x10 z201 fun u3 z202 => ?_; clear z201; subst z202
        exact ⟨⟨_, _, rfl⟩, (e3.trans eR).trans e5⟩
    · refine x01 j fun z221 e3 => ?_; clear j; refine x20 z221 fun u1 u2 z222 => ?_; clear z221; subst z222
      have hfull : ords.take xs.length = ords := by rw [← hA.len, List.take_length]
      have ha' : All2 (IL e') (allMore (2 + (n : Int)) ords) ys' := by simpa only [hfull] using ha'
      have eD := (ee.trans e3).trans (Ext.new (lstV ys' m') nD)
      refine ⟨_, .tail .head, ?_⟩
      refine hnQ _ _ ?_; clear hnQ hrQ Qx; refine EvF.nil ?_
      have e1 : (2 + (n : Int)) = ((n + 1 : Nat) : Int) + 1 := (by omega)
      refine ⟨D', ys', _, rfl, eg.trans eD, ⟨_, kV.ext eD⟩, ⟨_, put_self .., _, rfl⟩, ha'.mono fun p v r => r.ext (Ext.new _ nD), ?_, ?_⟩
      · rw [e1]; exact allMore_ok hO
      · rw [hml _ (fun o h => h), Nat.pow_succ]
        exact Nat.mul_le_mul hl (by omega)
  · refine x35 i fun ao xs ords z241 eg z242 oA hA z243 => ?_; clear i; subst z241; refine x10 z242 fun u hu => ?_; clear z242; refine x01 z243 fun hO hl => ?_; clear z243
    have hnm : ((m : Int) + 1 - 2).toNat + 1 = m := (by omega)
    rw [hnm] at hO
    have h6 : (6 : Nat) ^ ((m : Int) + 1 - 2).toNat ≤ 6 ^ 4 := Nat.pow_le_pow_right (by decide) (by omega)
    refine EvF.nil ?_; refine hnQ _ _ ?_; clear hnQ hrQ Qx; refine EvF.consQ fun Qx hnQ hrQ => ?_; refine EvF.assignS ?_; refine EvF.list ?_; refine EvF.args0 ?_; refine ⟨Nat.le_trans (m := 9) (by simp only [List.length_cons, List.length_nil]; decide) (by decide), fun _ _ => ?_⟩; refine EvF.assignName ?_; refine EvF.store (.tail (.tail (.tail (.tail .head)))) ?_; refine hnQ _ _ ?_; clear hnQ hrQ Qx; refine EvF.consQ fun Qx hnQ hrQ => ?_
    rename_i aG hnG
    have eG := Ext.new (lstV [] 0) hnG
    have oG : At (g'.put aG (lstV [] 0)) aG (LstO []) := ⟨_, put_self .., 0, rfl⟩
    have nG : g aG = none := by
      cases q : g aG with
      | none => rfl
      | some x => have := eg _ _ q; rw [hnG] at this; cases this
    have nAO : ao ≠ aG := by
      obtain ⟨x, hx, _⟩ := oA
      exact ne_of_none hnG hx
    have hA' : All2 (fun b v => ∃ a xs, v = .ref a ∧ a ≠ aG ∧ At g' a (LstO xs) ∧ All2 IsI b xs) ords xs := hA.mono fun p v r => by
      obtain ⟨a, ys, h1, h2, h3⟩ := r
      exact ⟨a, ys, h1, by obtain ⟨x, hx, _⟩ := h2; exact ne_of_none hnG hx, h2, h3⟩
    have hml : ords.length = xs.length := hA.len
    refine EvF.forS ok.h ?_
    refine EvF.loc (.tail _ (.head _)) ?_
    refine ⟨_, _, _, fun n vs gg => ∃ u1 u2 u3 rl rs, vs = ([("many", some (.int m tm)), ("orders", some (.ref ao)), ("order", u1), ("k", u2), ("rings", some (.ref aG)), ("behind", u3)] : Vars) ∧ (∀ b o, b ≠ aG → g' b = some o → gg b = some o) ∧ At gg aG (LstO rl) ∧ All2 (fun b v => ∃ a xs, v = .ref a ∧ a ≠ aG ∧ At gg a (LstO xs) ∧ All2 IsI b xs) rs rl ∧ rs.length = n ∧ (∀ b ∈ rs, RingOf m b), Src.lst (oA.ext eG),
      ⟨none, none, none, [], [], rfl, fun b o nb e => by rw [put_ne _ _ nb]; exact e, oG, .nil, rfl, fun b m => (nomatch m)⟩, fun n vs gg i b mb o ho => ?_, fun n vs gg x hn hx i => ?_, fun vs gg i => ?_⟩
    · refine x40 i fun _ _ _ _ z321 => ?_; clear i; refine x12 z321 fun _ _ kp _ => ?_; clear z321
      rw [List.mem_singleton] at mb; subst mb
      rw [put_ne _ _ nAO] at ho
      exact kp _ _ nAO ho
    · refine x40 i fun u1 u2 u3 rl z341 => ?_; clear i; refine x15 z341 fun rs z342 kp oR hR hrn hRO => ?_; clear z341; subst z342
      refine x11 (hA'.at hx) fun od hod z361 => ?_; refine x23 z361 fun ai yi z362 nai oi hyi => ?_; clear z361; subst z362
      have hoo := hO od (List.mem_of_getElem? hod)
      have hol := hoo.len
      have hyl := hyi.len
      have oi : At gg ai (LstO yi) := by
        obtain ⟨x, hx, q⟩ := oi
        exact ⟨x, kp _ _ nai hx, q⟩
      have ngg : ∀ b, gg b = none → b ≠ aG ∧ g b = none ∧ (∀ o, g' b ≠ some o) := fun b hb => by
        have h1 : b ≠ aG := by rintro rfl; obtain ⟨x, hx, _⟩ := oR; rw [hb] at hx; cases hx
        have h2 : ∀ o, g' b ≠ some o := fun o ho => by have := kp _ _ h1 ho; rw [hb] at this; cases this
        exact ⟨h1, by cases q : g b with
          | none => rfl
          | some x => exact absurd (eg _ _ q) (h2 x), h2⟩
      refine EvF.bind ?_; refine EvF.assignName ?_; refine EvF.store (.tail (.tail .head)) ?_; refine EvF.consQ fun Qx hnQ hrQ => ?_; refine EvF.assignS ?_; refine EvF.binOp ?_; refine EvF.list ?_; refine EvF.args1 ?_; refine EvF.cint fun _ => ?_; refine EvF.args0 ?_; refine ⟨Nat.le_trans (m := 9) (by simp only [List.length_cons, List.length_nil]; decide) (by decide), fun _ _ => ?_⟩; refine EvF.loc (.head _) ?_
      rename_i tz c1 hc1
      refine .of (.mulOne (n := m) (i := (m : Int)) ⟨_, put_self .., 0, rfl⟩ rfl (by omega) fun ab hab => ?_)
      have eM := Ext.new (lstV [.int 0 tz] 0) hc1
      refine x01 (none_put hab) fun nab hab' => ?_
      refine x02 (ngg ab hab') fun nabG nabg nabg' => ?_
      have eb0 : Ext gg ((gg.put c1 (lstV [.int 0 tz] 0)).put ab (lstV (List.replicate m (.int 0 tz)) 0)) := eM.trans (Ext.new _ hab)
      have ob0 : At ((gg.put c1 (lstV [.int 0 tz] 0)).put ab (lstV (List.replicate m (.int 0 tz)) 0)) ab (LstO (List.replicate m (.int 0 tz))) := ⟨_, put_self .., 0, rfl⟩
      have hb0 : ∀ m, All2 IsI (List.replicate m 0) (List.replicate m (.int 0 tz)) := fun m => by
        induction m with
        | zero => exact .nil
        | succ m ih => rw [List.replicate_succ, List.replicate_succ]; exact .cons ⟨_, rfl⟩ ih
      have hb0 := hb0 m
      clear hab
      generalize (gg.put c1 (lstV [.int 0 tz] 0)).put ab (lstV (List.replicate m (.int 0 tz)) 0) = f₁ at *
      refine EvF.assignName ?_; refine EvF.store (.tail (.tail (.tail (.tail (.tail .head))))) ?_; refine hnQ _ _ ?_; clear hnQ hrQ Qx; refine EvF.consQ fun Qx hnQ hrQ => ?_
      refine EvF.forS ok.h ?_
      refine EvF.call ?_; refine EvF.boot (by rfl) (bv_range) ?_; refine ⟨by first | exact KeepOk.b | exact KeepOk.t | exact KeepOk.k (by rfl), ?_⟩; refine EvF.args1 ?_; refine EvF.loc (.head _) ?_; refine EvF.args0 ?_; refine EvF.range1 fun _ _ _ _ => ?_
      rename_i rr t6 t7 hrr
      have eR := Ext.new (rngV 0 (m : Int) t6 tm t7) hrr
      have hrg2 : (f₁.put rr (rngV 0 (m : Int) t6 tm t7)) rr = some (rngV 0 (m : Int) t6 tm t7) := put_self ..
      have ob0 := ob0.ext eR
      have eb0 := eb0.trans eR
      clear eR hrr
      generalize f₁.put rr (rngV 0 (m : Int) t6 tm t7) = f₂ at *
      refine ⟨_, _, _, fun k vs g2 => ∃ u2 bs, vs = ([("many", some (.int m tm)), ("orders", some (.ref ao)), ("order", some (.ref ai)), ("k", u2), ("rings", some (.ref aG)), ("behind", some (.ref ab))] : Vars) ∧ Ext gg g2 ∧ At g2 ab (LstO bs) ∧ All2 IsI ((List.range k).foldl (ringSet od m) (List.replicate m 0)) bs, Src.rng hrg2 (by omega) (by omega) (bitsN) (bitsI (Nat.le_trans (m := 5) (by assumption) (by decide))),
        ⟨_, _, rfl, eb0, ob0, hb0⟩, fun k vs g' i b m => (nomatch m), fun k vs g2 y hk hy i => ?_, fun vs g2 i => ?_⟩
      · refine x23 i fun u2 bs z461 e2 ob hb => ?_; clear i; subst z461
        refine x10 hy fun tk z481 => ?_; clear hy; subst z481
        have hkm : k < m := (lt0 (by assumption))
        have oi2 := oi.ext e2
        have hmod : (0 + (k : Int) + 1) % (m : Int) = (((k + 1) % m : Nat) : Int) := by rw [Int.zero_add]; exact (Int.natCast_emod (k + 1) m).symm
        have hml2 : (k + 1) % m < m := Nat.mod_lt _ (by omega)
        obtain ⟨i1, hi1⟩ : ∃ i, od[k]? = some i := ⟨_, List.getElem?_eq_getElem (Nat.lt_of_lt_of_eq (by assumption) (Eq.symm (by assumption)))⟩
        obtain ⟨i2, hi2⟩ : ∃ i, od[(k + 1) % m]? = some i := ⟨_, List.getElem?_eq_getElem (Nat.lt_of_lt_of_eq (by assumption) (Eq.symm (by assumption)))⟩
        refine x11 (hyi.at' hi1) fun v1 hv1 z501 => ?_; refine x10 z501 fun tv1 z502 => ?_; clear z501; subst z502
        refine x11 (hyi.at' hi2) fun v2 hv2 z521 => ?_; refine x10 z521 fun tv2 z522 => ?_; clear z521; subst z522
        have hr1 := hoo.into i1 (List.mem_of_getElem? hi1)
        have hbl : bs.length = m := by
          rw [← hb.len]
          exact (ring_made hoo k (by omega)).1
        refine EvF.bind ?_; refine EvF.assignName ?_; refine EvF.store (.tail (.tail (.tail .head))) ?_; refine EvF.consQ fun Qx hnQ hrQ => ?_; refine EvF.assignS ?_; refine EvF.sub ?_; refine EvF.loc (.tail _ (.tail _ (.head _))) ?_; refine EvF.binOp ?_; refine EvF.binOp ?_; refine EvF.loc (.tail _ (.tail _ (.tail _ (.head _)))) ?_; refine EvF.cint fun _ => ?_; refine EvF.addI fun _ => ?_; refine EvF.loc (.head _) ?_
        refine .of (.modI (by omega) fun _ => ?_)
        refine' subLst ?h1 ?_; (case h1 => assumption)
        refine .of (.lstAt (xs := yi) oi2 ((k + 1) % m) hmod hv2 (bits (Nat.le_of_lt (Nat.lt_of_lt_of_le (by assumption) (Nat.le_trans (m := 5) (by assumption) (by decide))))) ?_)
        refine EvF.assignSub ?_; refine EvF.loc (.tail _ (.tail _ (.tail _ (.tail _ (.tail _ (.head _)))))) ?_; refine EvF.binOp ?_; refine EvF.sub ?_; refine EvF.loc (.tail _ (.tail _ (.head _))) ?_; refine EvF.loc (.tail _ (.tail _ (.tail _ (.head _)))) ?_; refine' subLst ?h1 ?_; (case h1 => assumption)
        refine .of (.lstAt (xs := yi) oi2 k (by omega) hv1 (bits (Nat.le_of_lt (Nat.lt_of_lt_of_le (by assumption) (Nat.le_trans (m := 5) (by assumption) (by decide))))) ?_)
        refine EvF.cint fun _ => ?_; refine EvF.subI fun _ => ?_
        refine .of (.setAt (xs := bs) ob (i1 - 1).toNat (natz1 (by assumption)) (by omega) (by omega) fun m' => ?_)
        refine hnQ _ _ ?_; clear hnQ hrQ Qx; refine EvF.nil ?_
        refine ⟨_, _, rfl, ext_put_new2 e2 hab', ⟨_, put_self .., m', rfl⟩, ?_⟩
        rw [List.range_succ, List.foldl_append]
        show All2 IsI (ringSet od m _ k) _
        unfold ringSet
        rw [hi1, hi2]
        exact hb.setted _ ⟨tv2, rfl⟩
      · refine x23 i fun u2 bs z541 e2 ob hb => ?_; clear i; subst z541
        have hm0 : ((m : Int) - 0).toNat = m := (toN0 _)
        rw [hm0] at hb
        have oR2 := oR.ext e2
        have b1 : rl.length ≤ sizeLine := by rw [← hR.len]; omega
        refine EvF.nil ?_; refine hnQ _ _ ?_; clear hnQ hrQ Qx; refine EvF.consQ fun Qx hnQ hrQ => ?_; refine EvF.exprD ?_; refine EvF.meth ?_; refine EvF.loc (.tail _ (.tail _ (.tail _ (.tail _ (.head _))))) ?_; refine' EvF.of (.methL ?h1 F.slot_list_append F.type_list_append ?_); (case h1 => assumption); refine ⟨by first | exact KeepOk.b | exact KeepOk.t | exact KeepOk.k (by rfl), ?_⟩; refine EvF.args1 ?_; refine EvF.loc (.tail _ (.tail _ (.tail _ (.tail _ (.tail _ (.head _)))))) ?_; refine EvF.args0 ?_; refine EvF.callApp ?_; refine' EvF.of (.append ?h1 ?h2 fun _ => ?_); (case h1 => assumption); (case h2 => assumption); refine hnQ _ _ ?_; clear hnQ hrQ Qx; refine EvF.nil ?_
        refine ⟨_, _, _, rl ++ [.ref ab], rs ++ [(List.range m).foldl (ringSet od m) (List.replicate m 0)], rfl, fun b o nb ho => by rw [put_ne _ _ nb]; exact e2 _ _ (kp b o nb ho), ⟨_, put_self .., _, rfl⟩,
          All2.snoc (hR.mono fun b v r => ?_) ⟨ab, bs, rfl, nabG, ob.off nabG, hb⟩, by rw [List.length_append, hrn]; rfl, fun b hb' => ?_⟩
        · refine x23 r fun a ys h1 h2 h3 h4 => ?_; clear r
          exact ⟨a, ys, h1, h2, (h3.ext e2).off h2, h4⟩
        · rcases List.mem_append.mp hb' with hb' | hb'
          · exact hRO b hb'
          · rw [List.mem_singleton] at hb'; subst hb'
            exact ring_of hoo
    · refine x40 i fun u1 u2 u3 rl z581 => ?_; clear i; refine x15 z581 fun rs z582 kp oR hR hrn hRO => ?_; clear z581; subst z582
      refine EvF.nil ?_; refine hnQ _ _ ?_; clear hnQ hrQ Qx; refine EvF.consQ fun Qx hnQ hrQ => ?_; refine EvF.ret ?_; refine EvF.loc (.tail _ (.tail _ (.tail _ (.tail _ (.head _))))) ?_; refine hrQ _ _ _ rfl ?_; clear hnQ hrQ Qx
      refine ⟨fun b o ho => kp b o (ne_of_none nG ho) (eg _ _ ho), rs, ⟨aG, rl, rfl, oR, hR.mono fun b v r => ?_⟩, hRO⟩
      refine x23 r fun a ys h1 h2 h3 h4 => ?_; clear r
      exact ⟨a, ys, h1, h3, h4⟩
end Mine
end SFn12

section SFn13
open PySem PySem.W PySem.Calls PyProof.Rows PySem.SeqAt
set_option maxRecDepth 100000
set_option maxHeartbeats 4000000
namespace Mine
variable {prog : Program} {w : World} {A : Around} {g : Led}
noncomputable def IsB (b : Bool) (v : Value) : Prop := v = .bool b
noncomputable abbrev BL : Led → List Bool → Value → Prop := Ls (fun _ => IsB)
/-- all but cells stay -/
noncomputable def Xc (g g' : Led) : Prop := ∀ b o, g b = some o → (∀ u, ¬ CellO u o) → g' b = some o
theorem Xc.trans {a b c : Led} (x : Xc a b) (y : Xc b c) : Xc a c := fun d o e n => y d o (x d o e n) n
theorem Ext.xc {a b : Led} (x : Ext a b) : Xc a b := fun d o e _ => x d o e
theorem Xc.cell {g : Led} {c : Addr} {u : Option Value} {o : Obj} (x : At g c (CellO u)) : Xc g (g.put c o) := fun b y e n => by
  obtain ⟨o', ho', hc⟩ := x
  rw [put_ne]; exact e
  rintro rfl; rw [e] at ho'; cases ho'; exact n u hc
theorem At.xc {g g' : Led} {a : Addr} {xs : List Value} (x : At g a (LstO xs)) (k : Xc g g') : At g' a (LstO xs) := let ⟨o, ho, n, e⟩ := x; ⟨o, k _ _ ho (fun u h => cell_lst o h ⟨n, e⟩), n, e⟩
theorem BL.xc {g g' : Led} {bs : List Bool} {v : Value} (x : BL g bs v) (k : Xc g g') : BL g' bs v := let ⟨a, xs, h1, h2, h3⟩ := x; ⟨a, xs, h1, h2.xc k, h3⟩
theorem Ls.ext {α : Type} {R : Led → α → Value → Prop} {g g' : Led} {ps : List α} {v : Value} (x : Ls R g ps v) (e : Ext g g') (hR : ∀ p v, R g p v → R g' p v) : Ls R g' ps v := let ⟨a, xs, h1, h2, h3⟩ := x; ⟨a, xs, h1, h2.ext e, h3.mono hR⟩
structure RJ (g0 g : Led) (L : Addr) (rv lv : Value) (m : Nat) (tm : Tok) (aW : Addr) (W : List (List Bool)) : Prop where
  kRow : At g (L + 1) (CellO (some rv))
  kLots : At g (L + 1 + 1) (CellO (some lv))
  kMany : At g (L + 1 + 1 + 1) (CellO (some (.int m tm)))
  kI : ∃ u, At g (L + 1 + 1 + 1 + 1) (CellO u)
  kWays : At g (L + 1 + 1 + 1 + 1 + 1) (CellO (some (.ref aW)))
  kK : ∃ u, At g (L + 1 + 1 + 1 + 1 + 1 + 1) (CellO u)
  oW : ∃ rows, At g aW (LstO rows) ∧ All2 (BL g) W rows
  e : Ext g0 g
  nW : g0 aW = none
variable {g0 : Led} {L : Nat} {rv lv : Value} {m : Nat} {tm : Tok} {aW : Addr} {W : List (List Bool)}
theorem RJ.ext {g' : Led} (R : RJ g0 g L rv lv m tm aW W) (e : Ext g g') : RJ g0 g' L rv lv m tm aW W := by
  refine x11 R.oW fun rows h1 h2 => ?_
  exact ⟨R.kRow.ext e, R.kLots.ext e, R.kMany.ext e, ⟨_, R.kI.choose_spec.ext e⟩, R.kWays.ext e, ⟨_, R.kK.choose_spec.ext e⟩, ⟨rows, h1.ext e, h2.mono fun p v r => BL.xc r e.xc⟩, R.e.trans e, R.nW⟩
theorem RJ.putK {o : Obj} {v : Value} (R : RJ g0 g L rv lv m tm aW W) (h0 : g0 (L + 1 + 1 + 1 + 1 + 1 + 1) = none) (ho : CellO (some v) o) : RJ g0 (g.put (L + 1 + 1 + 1 + 1 + 1 + 1) o) L rv lv m tm aW W ∧ At (g.put (L + 1 + 1 + 1 + 1 + 1 + 1) o) (L + 1 + 1 + 1 + 1 + 1 + 1) (CellO (some v)) := by
  refine x11 R.oW fun rows h1 h2 => ?_
  refine x10 R.kK fun u hu => ?_
  exact ⟨⟨R.kRow.off (nne (by omega)), R.kLots.off (nne (by omega)), R.kMany.off (nne (by omega)), ⟨_, R.kI.choose_spec.off (nne (by omega))⟩, R.kWays.off (nne (by omega)), ⟨_, _, put_self .., ho⟩, ⟨rows, h1.off (hu.ne h1 cell_lst).symm, h2.mono fun p v r => BL.xc r (Xc.cell hu)⟩, ext_put_new R.e h0, R.nW⟩, _, put_self .., ho⟩
theorem RJ.putI {o : Obj} {v : Value} (R : RJ g0 g L rv lv m tm aW W) (h0 : g0 (L + 1 + 1 + 1 + 1) = none) (ho : CellO (some v) o) : RJ g0 (g.put (L + 1 + 1 + 1 + 1) o) L rv lv m tm aW W ∧ At (g.put (L + 1 + 1 + 1 + 1) o) (L + 1 + 1 + 1 + 1) (CellO (some v)) := by
  refine x11 R.oW fun rows h1 h2 => ?_
  refine x10 R.kI fun u hu => ?_
  exact ⟨⟨R.kRow.off (nne (by omega)), R.kLots.off (nne (by omega)), R.kMany.off (nne (by omega)), ⟨_, _, put_self .., ho⟩, R.kWays.off (nne (by omega)), ⟨_, R.kK.choose_spec.off (nne (by omega))⟩, ⟨rows, h1.off (hu.ne h1 cell_lst).symm, h2.mono fun p v r => BL.xc r (Xc.cell hu)⟩, ext_put_new R.e h0, R.nW⟩, _, put_self .., ho⟩
theorem BL.off {rows : List Value} (hw : At g aW (LstO rows)) {r : Addr} (hr : Value.ref r ∈ rows) {bs : List Bool} {v : Value} (x : BL g bs v) (o : Obj) : BL (g.put aW o) bs v := by
  obtain ⟨a, xs, rfl, hxs, ha⟩ := x
  refine ⟨a, xs, rfl, hxs.off ?_, ha⟩
  rintro rfl
  obtain ⟨o1, h1, n1, rfl⟩ := hw
  obtain ⟨o2, h2, n2, e⟩ := hxs
  rw [h1] at h2; cases h2
  have : rows = xs := by simpa [lstV] using congrArg (fun o : Obj => match o.data with | .seq x _ => x.toList | _ => []) e
  subst this
  refine x10 (List.getElem_of_mem hr) fun j z181 => ?_; obtain ⟨hj, e⟩ := z181
  refine x11 (ha.nth hj) fun b _ rb => ?_
  rw [e] at rb; cases rb
theorem wrow_fold_sq {m k : Nat} : ∀ (l : List Nat) (W : List (List Bool)), Sq m W → Sq m (l.foldl (wrow m k) W)
  | [], W, h => h
  | i :: l, W, h => wrow_fold_sq l _ (wrow_sq h)
theorem wk_fold_sq {m : Nat} : ∀ (l : List Nat) (W : List (List Bool)), Sq m W → Sq m (l.foldl (wk m) W)
  | [], W, h => h
  | i :: l, W, h => wk_fold_sq l _ (wrow_fold_sq _ _ h)
theorem fold_succ {β : Type} (f : β → Nat → β) (n : Nat) (W : β) : (List.range (n + 1)).foldl f W = f ((List.range n).foldl f W) n := by
  rw [List.range_succ, List.foldl_append]; rfl
/-- the first table: a way where the lot of the place holds the next -/
noncomputable def rowW (row : List Nat) (lots : List (List Int)) (i : Nat) : List Bool := (List.range row.length).map fun (j : Nat) => decide (i = j) || decide (((j : Int) + 1) ∈ (lots[row[i]?.getD 0]?.getD []))
noncomputable def ways0 (row : List Nat) (lots : List (List Int)) : List (List Bool) := (List.range row.length).map (rowW row lots)
theorem reached_ok (ok : Ok A 1) {row : List Nat} {lots : List (List Int)} {rv lv : Value} (hr : Ls (fun _ (n : Nat) v => IsI n v) g row rv) (hl : Ls (Ls fun _ => IsI) g lots lv) (hin : ∀ x ∈ row, x < lots.length) (hm : row.length ≤ 50) (hll50 : lots.length ≤ 50) (h0 : 0 < row.length) :
    Ev prog w (KK w.params) A (PySem.call (.ref 370) [rv, lv] []) g fun r g' => Ext g g' ∧ Ls (fun _ => IsI) g' (((List.range row.length).filter fun j => at2 (wall row.length (ways0 row lots)) 0 j).map fun (j : Nat) => (j : Int) + 1) r := by
  obtain ⟨aR, xr, rfl, hxr, har⟩ := hr
  obtain ⟨aL, xl, rfl, hxl, hal⟩ := hl
  refine Ev.defV ok [("row", .ref aR), ("lots", .ref aL)] [] [] (by rfl) (fun L g₁ A ok hL e hcell => ?_)
  have cRow := hcell "row" (L + 1) (by rfl)
  have cLots := hcell "lots" (L + 1 + 1) (by rfl)
  have cMany := hcell "many" (L + 1 + 1 + 1) (by rfl)
  have cI := hcell "i" (L + 1 + 1 + 1 + 1) (by rfl)
  have cWays := hcell "ways" (L + 1 + 1 + 1 + 1 + 1) (by rfl)
  have cK := hcell "k" (L + 1 + 1 + 1 + 1 + 1 + 1) (by rfl)
  have kRow : At g₁ (L + 1) (CellO (some (.ref aR))) := cRow.2
  have kLots : At g₁ (L + 1 + 1) (CellO (some (.ref aL))) := cLots.2
  have hxr1 := hxr.ext e
  have b1 : xr.length < 2 ^ 62 := by have := har.len; exact bits (Nat.le_trans (Nat.le_of_eq (Eq.symm (by assumption))) (Nat.le_trans (m := 50) (by assumption) (by decide)))
  refine EvF.consQ fun Qx hnQ hrQ => ?_; refine EvF.assignS ?_; refine EvF.call ?_; refine EvF.boot (by rfl) (bv_len) ?_; refine ⟨by first | exact KeepOk.b | exact KeepOk.t | exact KeepOk.k (by rfl), ?_⟩; refine EvF.args1 ?_; refine' EvF.cell ?h1 ?_; (case h1 => assumption); refine EvF.args0 ?_; refine' EvF.of (.lenL ?h1 ?h2 fun _ => ?_); (case h1 => assumption); (case h2 => assumption); refine EvF.assignName ?_
  rename_i tm
  refine EvF.storeCell cMany.2 fun o ho => ?_
  have hxl' : xr.length = row.length := har.len.symm
  rw [hxl'] at ho
  have e2 : Ext g (g₁.put (L + 1 + 1 + 1) o) := ext_put_new e cMany.1
  have kRow := kRow.off (b := L + 1 + 1 + 1) (o := o) (nne (by omega))
  have kLots := kLots.off (b := L + 1 + 1 + 1) (o := o) (nne (by omega))
  have kMany : At (g₁.put (L + 1 + 1 + 1) o) (L + 1 + 1 + 1) (CellO (some (.int row.length tm))) := ⟨_, put_self .., ho⟩
  have kI := cI.2.off (b := L + 1 + 1 + 1) (o := o) (nne (by omega))
  have kWays := cWays.2.off (b := L + 1 + 1 + 1) (o := o) (nne (by omega))
  have kK := cK.2.off (b := L + 1 + 1 + 1) (o := o) (nne (by omega))
  clear hxr1
  generalize g₁.put (L + 1 + 1 + 1) o = g₂ at e2 kRow kLots kMany kI kWays kK ⊢
  have hxr2 := hxr.ext e2
  have hxl2 := hxl.ext e2
  have hal2 : All2 (Ls (fun _ => IsI) g₂) lots xl := hal.mono fun p v r => r.ext e2 fun _ _ z => z
  refine hnQ _ _ ?_; clear hnQ hrQ Qx; refine EvF.consQ fun Qx hnQ hrQ => ?_; refine EvF.assignS ?_
  refine EvF.compL (γ := List Bool) [] ok ?_
  refine EvF.call ?_; refine EvF.boot (by rfl) (bv_range) ?_; refine ⟨by first | exact KeepOk.b | exact KeepOk.t | exact KeepOk.k (by rfl), ?_⟩; refine EvF.args1 ?_; refine' EvF.cell ?h1 ?_; (case h1 => assumption); refine EvF.args0 ?_; refine EvF.range1 fun _ _ _ _ => ?_
  rename_i ar t1 t2 har'
  have e3 := e2.trans (Ext.new (rngV 0 (row.length : Int) t1 tm t2) har')
  have hrg : (g₂.put ar (rngV 0 (row.length : Int) t1 tm t2)) ar = some (rngV 0 (row.length : Int) t1 tm t2) := put_self ..
  have eR := Ext.new (rngV 0 (row.length : Int) t1 tm t2) har'
  have kRow := kRow.ext eR
  have kLots := kLots.ext eR
  have kMany := kMany.ext eR
  have kI := kI.ext eR
  have kWays := kWays.ext eR
  have kK := kK.ext eR
  have hxr3 := hxr2.ext eR
  have hxl3 := hxl2.ext eR
  have hal3 : All2 (Ls (fun _ => IsI) (g₂.put ar (rngV 0 (row.length : Int) t1 tm t2))) lots xl := hal2.mono fun p v r => r.ext eR fun _ _ z => z
  clear eR hal2 hxl2 hxr2 e2
  generalize g₂.put ar (rngV 0 (row.length : Int) t1 tm t2) = g₃ at *
  have hsz : sizeLine = 2 ^ 24 := rfl
  have hwl : (ways0 row lots).length = row.length := by unfold ways0; simp
  refine ⟨_, _, _, fun k => (ways0 row lots).take k, BL, Src.rng hrg (by omega) (by omega) (bitsN) (bitsI (Nat.le_trans (m := 50) (by assumption) (by decide))), by simp, fun k => by rw [List.length_take]; exact line2 (Nat.le_trans (Nat.le_of_eq (by assumption)) (Nat.le_trans (m := 50) (by assumption) (by decide))), fun C e₁ ee hcc => ⟨fun k vs e' => vs = ([] : Vars) ∧ Ext g₃ e' ∧ ∃ u, At e' (C + 1) (CellO u), Xc, ⟨rfl, ee, _, (hcc "i" (C + 1) (by rfl)).2⟩, fun k vs e' j b m => (nomatch m), fun e e' b v t r => r.xc t, fun k y vs e' hk hy j => ?_, fun vs e' ys D m j nD ha => ?_⟩⟩
  · refine x02 j fun z261 e4 z262 => ?_; clear j; subst z261; refine x10 z262 fun u hu => ?_; clear z262
    refine x10 hy fun ti z281 => ?_; clear hy; subst z281
    have hkm : k < row.length := (lt0 (by assumption))
    have cI := hcc "i" (C + 1) (by rfl)
    refine EvF.bind ?_; refine EvF.assignName ?_
    refine EvF.storeCell hu fun o ho => ?_
    have e5 : Ext g₃ (e'.put (C + 1) o) := ext_put_new e4 cI.1
    have xc5 : Xc e' (e'.put (C + 1) o) := Xc.cell hu
    have kI' : At (e'.put (C + 1) o) (C + 1) (CellO (some (.int (0 + (k : Int)) ti))) := ⟨_, put_self .., ho⟩
    clear hu e4
    generalize e'.put (C + 1) o = e₅ at e5 xc5 kI' ⊢
    have kRow := kRow.ext e5
    have kLots := kLots.ext e5
    have kMany := kMany.ext e5
    refine EvF.tests0 ?_; refine iteT ?_
    refine EvF.compL (γ := Bool) ["j"] ok ?_
    refine EvF.call ?_; refine EvF.boot (by rfl) (bv_range) ?_; refine ⟨by first | exact KeepOk.b | exact KeepOk.t | exact KeepOk.k (by rfl), ?_⟩; refine EvF.args1 ?_; refine' EvF.cell ?h1 ?_; (case h1 => assumption); refine EvF.args0 ?_; refine EvF.range1 fun _ _ _ _ => ?_
    rename_i ar2 t3 t4 har2
    have eR := Ext.new (rngV 0 (row.length : Int) t3 tm t4) har2
    have hrg2 : (e₅.put ar2 (rngV 0 (row.length : Int) t3 tm t4)) ar2 = some (rngV 0 (row.length : Int) t3 tm t4) := put_self ..
    have e6 := e5.trans eR
    have xc6 := xc5.trans eR.xc
    have kI' := kI'.ext eR
    have kRow := kRow.ext eR
    have kLots := kLots.ext eR
    clear kMany e5 xc5 eR har2
    generalize e₅.put ar2 (rngV 0 (row.length : Int) t3 tm t4) = e₆ at *
    have hrl : (rowW row lots k).length = row.length := by unfold rowW; simp
    refine ⟨_, _, _, fun j => (rowW row lots k).take j, fun _ => IsB, Src.rng hrg2 (by omega) (by omega) (bitsN) (bitsI (Nat.le_trans (m := 50) (by assumption) (by decide))), by simp, fun k => by rw [List.length_take]; exact line2 (Nat.le_trans (Nat.le_of_eq (by assumption)) (Nat.le_trans (m := 50) (by assumption) (by decide))), fun C₂ e₁ ee2 hcc2 => ⟨fun k vs e' => (∃ u, vs = ([("j", u)] : Vars)) ∧ Ext e₆ e', Ext, ⟨⟨_, rfl⟩, ee2⟩, fun k vs e' j b m => (nomatch m), fun e e' b v t r => r, fun j y vs e' hj hy jj => ?_, fun vs e' ys D m jj nD ha => ?_⟩⟩
    · refine x01 jj fun z301 e7 => ?_; clear jj; refine x10 z301 fun u1 z302 => ?_; clear z301; subst z302
      refine x10 hy fun tj z321 => ?_; clear hy; subst z321
      have kI' := kI'.ext e7
      have kRow := kRow.ext e7
      have kLots := kLots.ext e7
      have hjm : j < row.length := (lt0 (by assumption))
      have hgj : (rowW row lots k)[j]? = some (decide (k = j) || decide (((j : Int) + 1) ∈ (lots[row[k]?.getD 0]?.getD []))) := by unfold rowW; simp [hjm]
      have hcut : (rowW row lots k).take (j + 1) = (rowW row lots k).take j ++ [decide (k = j) || decide (((j : Int) + 1) ∈ (lots[row[k]?.getD 0]?.getD []))] := take_succ_of hgj
      refine EvF.bind ?_; refine EvF.assignName ?_; refine EvF.store .head ?_; refine EvF.tests0 ?_; refine iteT ?_; refine EvF.orVal ?_; refine EvF.compare ?_; refine' EvF.cell ?h1 ?_; (case h1 => assumption); refine EvF.loc (.head _) ?_; refine EvF.eqI ?_; refine EvF.truthyBool ?_
      by_cases qkj : k = j
      · rw [show ((0 + (k : Int)) == (0 + (j : Int))) = true by simp [qkj]]
        exact ⟨⟨⟨_, rfl⟩, e7⟩, Ext.refl _, true, by show (rowW row lots k).take (j + 1) = _; rw [hcut]; simp [qkj], rfl⟩
      · rw [show ((0 + (k : Int)) == (0 + (j : Int))) = false by rw [beq_eq_false_iff_ne]; omega]
        obtain ⟨nx, hnx⟩ : ∃ nx, row[k]? = some nx := ⟨_, List.getElem?_eq_getElem hkm⟩
        refine x11 (har.at' hnx) fun vx hvx z341 => ?_; refine x10 z341 fun tx z342 => ?_; clear z341; subst z342
        obtain ⟨lt, hlt⟩ : ∃ lt, lots[nx]? = some lt := ⟨_, List.getElem?_eq_getElem (hin nx (List.mem_of_getElem? hnx))⟩
        refine x11 (hal3.at' hlt) fun vl hvl z361 => ?_; obtain ⟨al, yl, rfl, hyl, hal4⟩ := z361
        have hll : lots.length = xl.length := hal3.len
        have hnl := hin nx (List.mem_of_getElem? hnx)
        refine EvF.compare ?_; refine EvF.binOp ?_; refine EvF.loc (.head _) ?_; refine EvF.cint fun _ => ?_; refine EvF.addI fun _ => ?_; refine EvF.sub ?_; refine' EvF.cell ?h1 ?_; (case h1 => assumption); refine EvF.sub ?_; refine' EvF.cell ?h1 ?_; (case h1 => assumption); refine' EvF.cell ?h1 ?_; (case h1 => assumption); refine' subLst ?h1 ?_; (case h1 => refine At.ext ?_ (by assumption); refine At.ext ?_ (by assumption); assumption)
        refine .of (.lstAt (xs := xr) (At.ext (At.ext (by assumption) (by assumption)) (by assumption)) k (by omega) hvx (bits (Nat.le_of_lt (Nat.lt_of_lt_of_le (by assumption) (Nat.le_trans (m := 50) (by assumption) (by decide))))) ?_)
        refine' subLst ?h1 ?_; (case h1 => refine At.ext ?_ (by assumption); refine At.ext ?_ (by assumption); assumption)
        refine .of (.lstAt (xs := xl) (At.ext (At.ext (by assumption) (by assumption)) (by assumption)) nx rfl hvl (bits (Nat.le_of_lt (Nat.lt_of_lt_of_le (by assumption) (Nat.le_trans (m := 50) (by assumption) (by decide))))) ?_)
        skip
        refine .of (.inLs (R := fun _ => IsI) (ps := lt) (p := 0 + (j : Int) + 1) EqOn.int Func.int ⟨al, yl, rfl, (At.ext (At.ext (by assumption) (by assumption)) (by assumption)), hal4⟩ ⟨_, rfl⟩ ok.cl (decide (((j : Int) + 1) ∈ lt)) (by simp) ?_)
        refine ⟨⟨⟨_, rfl⟩, e7⟩, Ext.refl _, decide (((j : Int) + 1) ∈ lt), ?_, rfl⟩
        show (rowW row lots k).take (j + 1) = _
        rw [hcut, hnx]
        simp [qkj, hlt]
    · refine x01 jj fun z381 e7 => ?_; clear jj; refine x10 z381 fun u1 z382 => ?_; clear z381; subst z382
      have hfull : (rowW row lots k).take ((row.length : Int) - 0).toNat = rowW row lots k := List.take_of_length_le (by rw [hrl]; exact ge0)
      have ha : All2 IsB (rowW row lots k) ys := by simpa only [hfull] using ha
      have eD := Ext.new (lstV ys m) nD
      have hgk : (ways0 row lots)[k]? = some (rowW row lots k) := by unfold ways0; simp [hkm]
      refine ⟨⟨rfl, (e6.trans e7).trans eD, _, (kI'.ext e7).ext eD⟩, xc6.trans (e7.xc.trans eD.xc), rowW row lots k, take_succ_of hgk, D, ys, rfl, ⟨_, put_self .., m, rfl⟩, ha⟩
  · refine x02 j fun z401 e4 z402 => ?_; clear j; subst z401; refine x10 z402 fun u hu => ?_; clear z402
    have hfull : (ways0 row lots).take ((row.length : Int) - 0).toNat = ways0 row lots := List.take_of_length_le (by rw [hwl]; exact ge0)
    have ha : All2 (BL e') (ways0 row lots) ys := by simpa only [hfull] using ha
    have eD := Ext.new (lstV ys m) nD
    have e5 := e4.trans eD
    have oW : At (e'.put D (lstV ys m)) D (LstO ys) := ⟨_, put_self .., m, rfl⟩
    have ha := ha.mono fun p v r => BL.xc r eD.xc
    have nW : g D = none := by
      cases q : g D with
      | none => rfl
      | some x => have := e4 _ _ (e3 _ _ q); rw [nD] at this; cases this
    clear nD
    generalize e'.put D (lstV ys m) = g₄ at *
    have kRow := kRow.ext e5
    have kLots := kLots.ext e5
    have kMany := kMany.ext e5
    have kI := kI.ext e5
    have kWays := kWays.ext e5
    have kK := kK.ext e5
    refine EvF.assignName ?_
    refine EvF.storeCell kWays fun o ho => ?_
    have R0 : RJ g (g₄.put (L + 1 + 1 + 1 + 1 + 1) o) L (.ref aR) (.ref aL) row.length tm D (ways0 row lots) :=
      ⟨kRow.off (nne (by omega)), kLots.off (nne (by omega)), kMany.off (nne (by omega)), ⟨_, kI.off (nne (by omega))⟩, ⟨_, put_self .., ho⟩, ⟨_, kK.off (nne (by omega))⟩, ⟨ys, oW.off (kWays.ne oW cell_lst).symm, ha.mono fun p v r => BL.xc r (Xc.cell kWays)⟩, ext_put_new (e3.trans e5) cWays.1, nW⟩
    generalize g₄.put (L + 1 + 1 + 1 + 1 + 1) o = g₅ at R0
    clear kRow kLots kMany kI kWays kK oW ha e5 e4 hu ee hrg e3 hxr3 hxl3 hal3
    have hsq0 : Sq row.length (ways0 row lots) := ⟨hwl, fun r hr => by
      unfold ways0 at hr
      refine x11 (List.mem_map.mp hr) fun i _ z421 => ?_; subst z421
      unfold rowW; simp⟩
    refine hnQ _ _ ?_; clear hnQ hrQ Qx; refine EvF.consQ fun Qx hnQ hrQ => ?_
    refine EvF.forS ok.h ?_
    have kMany := R0.kMany
    refine EvF.call ?_; refine EvF.boot (by rfl) (bv_range) ?_; refine ⟨by first | exact KeepOk.b | exact KeepOk.t | exact KeepOk.k (by rfl), ?_⟩; refine EvF.args1 ?_; refine' EvF.cell ?h1 ?_; (case h1 => assumption); refine EvF.args0 ?_; refine EvF.range1 fun _ _ _ _ => ?_
    rename_i ar5 t5 t6 har5
    have hrg5 : (g₅.put ar5 (rngV 0 (row.length : Int) t5 tm t6)) ar5 = some (rngV 0 (row.length : Int) t5 tm t6) := put_self ..
    have R0 := R0.ext (Ext.new (rngV 0 (row.length : Int) t5 tm t6) har5)
    clear kMany har5
    generalize g₅.put ar5 (rngV 0 (row.length : Int) t5 tm t6) = g₆ at R0 hrg5 ⊢
    refine ⟨_, _, _, fun n vs g' => vs = ([] : Vars) ∧ RJ g g' L (.ref aR) (.ref aL) row.length tm D ((List.range n).foldl (wk row.length) (ways0 row lots)), Src.rng hrg5 (by omega) (by omega) (bitsN) (bitsI (Nat.le_trans (m := 50) (by assumption) (by decide))), ⟨rfl, R0⟩, fun k vs g' i b m => (nomatch m), fun k vs g' x hk hx i => ?_, fun vs g' i => ?_⟩
    · refine x01 i fun z441 R => ?_; clear i; subst z441
      refine x10 hx fun tk z461 => ?_; clear hx; subst z461
      have hkm : k < row.length := (lt0 (by assumption))
      refine EvF.bind ?_; refine EvF.assignName ?_
      refine EvF.storeCell (R.kK.choose_spec) fun o ho => ?_
      refine x01 (R.putK cK.1 ho) fun R kK => ?_
      generalize g'.put (L + 1 + 1 + 1 + 1 + 1 + 1) o = g₇ at R kK ⊢
      refine EvF.consQ fun Qx hnQ hrQ => ?_
      refine EvF.forS ok.h ?_
      have kMany := R.kMany
      refine EvF.call ?_; refine EvF.boot (by rfl) (bv_range) ?_; refine ⟨by first | exact KeepOk.b | exact KeepOk.t | exact KeepOk.k (by rfl), ?_⟩; refine EvF.args1 ?_; refine' EvF.cell ?h1 ?_; (case h1 => assumption); refine EvF.args0 ?_; refine EvF.range1 fun _ _ _ _ => ?_
      rename_i ar7 t7 t8 har7
      have hrg7 : (g₇.put ar7 (rngV 0 (row.length : Int) t7 tm t8)) ar7 = some (rngV 0 (row.length : Int) t7 tm t8) := put_self ..
      have eR7 := Ext.new (rngV 0 (row.length : Int) t7 tm t8) har7
      have R := R.ext eR7
      have kK := kK.ext eR7
      clear kMany har7 eR7
      generalize g₇.put ar7 (rngV 0 (row.length : Int) t7 tm t8) = g₈ at R kK hrg7 ⊢
      generalize hWk : (List.range k).foldl (wk row.length) (ways0 row lots) = Wk at R
      have hsqk : Sq row.length Wk := by rw [← hWk]; exact wk_fold_sq _ _ hsq0
      refine ⟨_, _, _, fun n vs g' => vs = ([] : Vars) ∧ RJ g g' L (.ref aR) (.ref aL) row.length tm D ((List.range n).foldl (wrow row.length k) Wk) ∧ At g' (L + 1 + 1 + 1 + 1 + 1 + 1) (CellO (some (.int (0 + (k : Int)) tk))), Src.rng hrg7 (by omega) (by omega) (bitsN) (bitsI (Nat.le_trans (m := 50) (by assumption) (by decide))), ⟨rfl, R, kK⟩, fun k vs g' i b m => (nomatch m), fun i vs g' x hi hx j => ?_, fun vs g' j => ?_⟩
      · refine x02 j fun z501 R kK => ?_; clear j; subst z501
        refine x10 hx fun ti z521 => ?_; clear hx; subst z521
        have him : i < row.length := (lt0 (by assumption))
        generalize hWi : (List.range i).foldl (wrow row.length k) Wk = Wi at R
        have hsqi : Sq row.length Wi := by rw [← hWi]; exact wrow_fold_sq _ _ hsqk
        refine EvF.bind ?_; refine EvF.assignName ?_
        refine EvF.storeCell (R.kI.choose_spec) fun o ho => ?_
        have kK := kK.off (b := L + 1 + 1 + 1 + 1) (o := o) (nne (by omega))
        refine x01 (R.putI cI.1 ho) fun R kI => ?_
        generalize g'.put (L + 1 + 1 + 1 + 1) o = g₉ at R kI kK ⊢
        have kWays := R.kWays
        refine x11 R.oW fun rows oW hW => ?_
        obtain ⟨bi, hbi⟩ : ∃ bi, Wi[i]? = some bi := ⟨_, List.getElem?_eq_getElem (by rw [hsqi.1]; exact him)⟩
        obtain ⟨bk, hbk⟩ : ∃ bk, Wi[k]? = some bk := ⟨_, List.getElem?_eq_getElem (by rw [hsqi.1]; exact hkm)⟩
        refine x11 (hW.at' hbi) fun vi hvi z581 => ?_; obtain ⟨ai, yi, rfl, oi, hyi⟩ := z581
        have hbil := hsqi.2 bi (List.mem_of_getElem? hbi)
        have hbkl := hsqi.2 bk (List.mem_of_getElem? hbk)
        have hyil := hyi.len
        obtain ⟨b, hb⟩ : ∃ b, bi[k]? = some b := ⟨_, List.getElem?_eq_getElem (Nat.lt_of_lt_of_eq (by assumption) (Eq.symm (by assumption)))⟩
        refine x11 (hyi.at' hb) fun vb hvb z601 => ?_; subst z601
        have hat : at2 Wi i k = b := by unfold at2; rw [hbi]; simp [hb]
        refine EvF.consQ fun Qx hnQ hrQ => ?_; refine EvF.ifS ?_; refine EvF.testVal ?_; refine EvF.sub ?_; refine EvF.sub ?_; refine' EvF.cell ?h1 ?_; (case h1 => assumption); refine' EvF.cell ?h1 ?_; (case h1 => assumption); refine' subLst ?h1 ?_; (case h1 => assumption)
        refine .of (.lstAt (xs := rows) oW i (by omega) hvi (bits (Nat.le_of_lt (Nat.lt_of_lt_of_le (by assumption) (Nat.le_trans (m := 50) (by assumption) (by decide))))) ?_)
        refine' EvF.cell ?h1 ?_; (case h1 => assumption); refine' subLst ?h1 ?_; (case h1 => assumption)
        refine .of (.lstAt (xs := yi) oi k (by omega) hvb (bits (Nat.le_of_lt (Nat.lt_of_lt_of_le (by assumption) (Nat.le_trans (m := 50) (by assumption) (by decide))))) ?_)
        refine EvF.truthyBool ?_
        cases b with
        | true =>
          refine iteT ?_; refine EvF.consQ fun Qx hnQ hrQ => ?_; refine EvF.assignS ?_
          refine EvF.compL (γ := Bool) ["j"] ok ?_
          have kMany := R.kMany
          refine EvF.call ?_; refine EvF.boot (by rfl) (bv_range) ?_; refine ⟨by first | exact KeepOk.b | exact KeepOk.t | exact KeepOk.k (by rfl), ?_⟩; refine EvF.args1 ?_; refine' EvF.cell ?h1 ?_; (case h1 => assumption); refine EvF.args0 ?_; refine EvF.range1 fun _ _ _ _ => ?_
          rename_i ar9 t9 t10 har9
          have hrg9 : (g₉.put ar9 (rngV 0 (row.length : Int) t9 tm t10)) ar9 = some (rngV 0 (row.length : Int) t9 tm t10) := put_self ..
          have eR9 := Ext.new (rngV 0 (row.length : Int) t9 tm t10) har9
          have R := R.ext eR9
          have kK := kK.ext eR9
          have kI := kI.ext eR9
          clear kMany har9 eR9 oW hW hvi oi hyi hvb kWays
          generalize g₉.put ar9 (rngV 0 (row.length : Int) t9 tm t10) = g₁₀ at R kK kI hrg9 ⊢
          have kWays := R.kWays
          refine x11 R.oW fun rows oW hW => ?_
          refine x11 (hW.at' hbi) fun vi hvi z641 => ?_; obtain ⟨ai, yi, rfl, oi, hyi⟩ := z641
          refine x11 (hW.at' hbk) fun vk hvk z661 => ?_; obtain ⟨ak, yk, rfl, ok', hyk⟩ := z661
          have hnl : (newRow row.length Wi i k).length = row.length := by unfold newRow; simp
          refine ⟨_, _, _, fun j => (newRow row.length Wi i k).take j, fun _ => IsB, Src.rng hrg9 (by omega) (by omega) (bitsN) (bitsI (Nat.le_trans (m := 50) (by assumption) (by decide))), by simp, fun k => by rw [List.length_take]; exact line2 (Nat.le_trans (Nat.le_of_eq (by assumption)) (Nat.le_trans (m := 50) (by assumption) (by decide))), fun C₂ e₁ ee2 hcc2 => ⟨fun k vs e' => (∃ u, vs = ([("j", u)] : Vars)) ∧ Ext g₁₀ e', Ext, ⟨⟨_, rfl⟩, ee2⟩, fun k vs e' j b m => (nomatch m), fun e e' b v t r => r, fun j y vs e' hj hy jj => ?_, fun vs e' ys D2 m jj nD ha => ?_⟩⟩
          · refine x01 jj fun z681 e7 => ?_; clear jj; refine x10 z681 fun u1 z682 => ?_; clear z681; subst z682
            refine x10 hy fun tj z701 => ?_; clear hy; subst z701
            have hjm : j < row.length := (lt0 (by assumption))
            have kWays := kWays.ext e7
            have kI := kI.ext e7
            have kK := kK.ext e7
            obtain ⟨b1', hb1⟩ : ∃ b, bi[j]? = some b := ⟨_, List.getElem?_eq_getElem (Nat.lt_of_lt_of_eq (by assumption) (Eq.symm (by assumption)))⟩
            obtain ⟨b2', hb2⟩ : ∃ b, bk[j]? = some b := ⟨_, List.getElem?_eq_getElem (Nat.lt_of_lt_of_eq (by assumption) (Eq.symm (by assumption)))⟩
            refine x11 (hyi.at' hb1) fun vb1 hvb1 z721 => ?_; subst z721
            refine x11 (hyk.at' hb2) fun vb2 hvb2 z741 => ?_; subst z741
            have hgj : (newRow row.length Wi i k)[j]? = some (b1' || b2') := by
              unfold newRow at2
              rw [hbi, hbk]
              simp [hjm, hb1, hb2]
            have hcut : (newRow row.length Wi i k).take (j + 1) = (newRow row.length Wi i k).take j ++ [b1' || b2'] := take_succ_of hgj
            refine EvF.bind ?_; refine EvF.assignName ?_; refine EvF.store .head ?_; refine EvF.tests0 ?_; refine iteT ?_; refine EvF.orVal ?_; refine EvF.sub ?_; refine EvF.sub ?_; refine' EvF.cell ?h1 ?_; (case h1 => assumption); refine' EvF.cell ?h1 ?_; (case h1 => assumption); refine' subLst ?h1 ?_; (case h1 => refine At.ext ?_ (by assumption); assumption)
            refine .of (.lstAt (xs := rows) (oW.ext e7) i (by omega) hvi (bits (Nat.le_of_lt (Nat.lt_of_lt_of_le (by assumption) (Nat.le_trans (m := 50) (by assumption) (by decide))))) ?_)
            refine EvF.loc (.head _) ?_; refine' subLst ?h1 ?_; (case h1 => refine At.ext ?_ (by assumption); assumption)
            refine .of (.lstAt (xs := yi) (oi.ext e7) j (by omega) hvb1 (bits (Nat.le_of_lt (Nat.lt_of_lt_of_le (by assumption) (Nat.le_trans (m := 50) (by assumption) (by decide))))) ?_)
            refine EvF.truthyBool ?_
            cases b1' with
            | true => exact ⟨⟨⟨_, rfl⟩, e7⟩, Ext.refl _, true, hcut, rfl⟩
            | false =>
              refine EvF.sub ?_; refine EvF.sub ?_; refine' EvF.cell ?h1 ?_; (case h1 => assumption); refine' EvF.cell ?h1 ?_; (case h1 => assumption); refine' subLst ?h1 ?_; (case h1 => refine At.ext ?_ (by assumption); assumption)
              refine .of (.lstAt (xs := rows) (oW.ext e7) k (by omega) hvk (bits (Nat.le_of_lt (Nat.lt_of_lt_of_le (by assumption) (Nat.le_trans (m := 50) (by assumption) (by decide))))) ?_)
              refine EvF.loc (.head _) ?_; refine' subLst ?h1 ?_; (case h1 => refine At.ext ?_ (by assumption); assumption)
              refine .of (.lstAt (xs := yk) (ok'.ext e7) j (by omega) hvb2 (bits (Nat.le_of_lt (Nat.lt_of_lt_of_le (by assumption) (Nat.le_trans (m := 50) (by assumption) (by decide))))) ?_)
              exact ⟨⟨⟨_, rfl⟩, e7⟩, Ext.refl _, b2', hcut, rfl⟩
          · refine x01 jj fun z761 e7 => ?_; clear jj; refine x10 z761 fun u1 z762 => ?_; clear z761; subst z762
            have hfull : (newRow row.length Wi i k).take ((row.length : Int) - 0).toNat = newRow row.length Wi i k := List.take_of_length_le (by rw [hnl]; exact ge0)
            have ha : All2 IsB (newRow row.length Wi i k) ys := by simpa only [hfull] using ha
            have eD := e7.trans (Ext.new (lstV ys m) nD)
            have oD : At (e'.put D2 (lstV ys m)) D2 (LstO ys) := ⟨_, put_self .., m, rfl⟩
            have R := R.ext eD
            have kK := kK.ext eD
            have kI := kI.ext eD
            have oW := oW.ext eD
            have hW := hW.mono fun p v r => BL.xc r eD.xc
            generalize e'.put D2 (lstV ys m) = g₁₁ at R kK kI oD oW hW ⊢
            have kWays := R.kWays
            refine EvF.assignSub ?_; refine' EvF.cell ?h1 ?_; (case h1 => assumption); refine' EvF.cell ?h1 ?_; (case h1 => assumption)
            refine .of (.setAt (xs := rows) oW i (by omega) (by have := hW.len; have := hsqi.1; omega) (bits (Nat.le_of_lt (Nat.lt_of_lt_of_le (by assumption) (Nat.le_trans (m := 50) (by assumption) (by decide))))) fun m' => ?_)
            refine hnQ _ _ ?_; clear hnQ hrQ Qx; refine EvF.nil ?_; refine hnQ _ _ ?_; clear hnQ hrQ Qx; refine EvF.nil ?_
            have hnew : BL (g₁₁.put D (lstV (rows.set i (Value.ref D2)) m')) (newRow row.length Wi i k) (.ref D2) := BL.off oW (List.mem_of_getElem? hvi) ⟨D2, ys, rfl, oD, ha⟩ _
            have hrow : wrow row.length k Wi i = Wi.set i (newRow row.length Wi i k) := by unfold wrow; rw [if_pos hat]
            refine ⟨rfl, ?_, kK.off (kK.ne oW cell_lst)⟩
            rw [fold_succ, hWi, hrow]
            exact ⟨R.kRow.off (R.kRow.ne oW cell_lst), R.kLots.off (R.kLots.ne oW cell_lst), R.kMany.off (R.kMany.ne oW cell_lst), ⟨_, R.kI.choose_spec.off (R.kI.choose_spec.ne oW cell_lst)⟩, R.kWays.off (R.kWays.ne oW cell_lst), ⟨_, R.kK.choose_spec.off (R.kK.choose_spec.ne oW cell_lst)⟩,
              ⟨_, ⟨_, put_self .., m', rfl⟩, (hW.mono fun p v r => BL.off oW (List.mem_of_getElem? hvi) r _).setted i hnew⟩, ext_put_new R.e R.nW, R.nW⟩
        | false =>
          refine iteF ?_; refine EvF.nil ?_; refine hnQ _ _ ?_; clear hnQ hrQ Qx; refine EvF.nil ?_
          have hrow : wrow row.length k Wi i = Wi := by unfold wrow; rw [if_neg (by rw [hat]; exact Bool.false_ne_true)]
          refine ⟨rfl, ?_, kK⟩
          rw [fold_succ, hWi, hrow]
          exact R
      · refine x02 j fun z781 R kK => ?_; clear j; subst z781
        refine EvF.nil ?_; refine hnQ _ _ ?_; clear hnQ hrQ Qx; refine EvF.nil ?_
        skip
        refine ⟨rfl, ?_⟩
        rw [fold_succ, hWk]
        have : ((row.length : Int) - 0).toNat = row.length := (toN0 _)
        rw [this] at R
        exact R
    · refine x01 i fun z801 R => ?_; clear i; subst z801
      have e0 : ((row.length : Int) - 0).toNat = row.length := (toN0 _)
      rw [e0] at R
      have R : RJ g g' L (.ref aR) (.ref aL) row.length tm D (wall row.length (ways0 row lots)) := R
      have hsq : Sq row.length (wall row.length (ways0 row lots)) := wk_fold_sq _ _ hsq0
      generalize hWf : wall row.length (ways0 row lots) = Wf at R hsq ⊢
      refine EvF.nil ?_; refine hnQ _ _ ?_; clear hnQ hrQ Qx; refine EvF.consQ fun Qx hnQ hrQ => ?_; refine EvF.ret ?_
      refine EvF.compL (γ := Int) ["j"] ok ?_
      have kMany := R.kMany
      refine EvF.call ?_; refine EvF.boot (by rfl) (bv_range) ?_; refine ⟨by first | exact KeepOk.b | exact KeepOk.t | exact KeepOk.k (by rfl), ?_⟩; refine EvF.args1 ?_; refine' EvF.cell ?h1 ?_; (case h1 => assumption); refine EvF.args0 ?_; refine EvF.range1 fun _ _ _ _ => ?_
      rename_i arA tA tB harA
      have hrgA : (g'.put arA (rngV 0 (row.length : Int) tA tm tB)) arA = some (rngV 0 (row.length : Int) tA tm tB) := put_self ..
      have R := R.ext (Ext.new (rngV 0 (row.length : Int) tA tm tB) harA)
      clear kMany harA
      generalize g'.put arA (rngV 0 (row.length : Int) tA tm tB) = gA at R hrgA ⊢
      have kWays := R.kWays
      refine x11 R.oW fun rows oW hW => ?_
      obtain ⟨b0, hb0⟩ : ∃ b, Wf[0]? = some b := ⟨_, List.getElem?_eq_getElem (by rw [hsq.1]; exact h0)⟩
      refine x11 (hW.at' hb0) fun v0 hv0 z841 => ?_; obtain ⟨a0, y0, rfl, o0, hy0⟩ := z841
      have hb0l := hsq.2 b0 (List.mem_of_getElem? hb0)
      refine ⟨_, _, _, fun n => (((List.range row.length).take n).filter fun j => at2 Wf 0 j).map fun (j : Nat) => (j : Int) + 1, fun _ => IsI, Src.rng hrgA (by omega) (by omega) (bitsN) (bitsI (Nat.le_trans (m := 50) (by assumption) (by decide))), rfl, fun n => ?_, fun C₂ e₁ ee2 hcc2 => ⟨fun k vs e' => (∃ u, vs = ([("j", u)] : Vars)) ∧ Ext gA e', Ext, ⟨⟨_, rfl⟩, ee2⟩, fun k vs e' j b m => (nomatch m), fun e e' b v t r => r, fun j y vs e' hj hy jj => ?_, fun vs e' ys D2 m jj nD ha => ?_⟩⟩
      · rw [List.length_map]
        refine Nat.le_trans (List.length_filter_le _ _) ?_
        rw [List.length_take, List.length_range]; exact line2 (Nat.le_trans (m := 50) (by assumption) (by decide))
      · refine x01 jj fun z861 e7 => ?_; clear jj; refine x10 z861 fun u1 z862 => ?_; clear z861; subst z862
        refine x10 hy fun tj z881 => ?_; clear hy; subst z881
        have hjm : j < row.length := (lt0 (by assumption))
        have kWays := kWays.ext e7
        obtain ⟨b1', hb1⟩ : ∃ b, b0[j]? = some b := ⟨_, List.getElem?_eq_getElem (Nat.lt_of_lt_of_eq (by assumption) (Eq.symm (by assumption)))⟩
        refine x11 (hy0.at' hb1) fun vb1 hvb1 z901 => ?_; subst z901
        have hat : at2 Wf 0 j = b1' := by unfold at2; rw [hb0]; simp [hb1]
        have hcut : (((List.range row.length).take (j + 1)).filter fun j => at2 Wf 0 j).map (fun (j : Nat) => (j : Int) + 1) = (((List.range row.length).take j).filter fun j => at2 Wf 0 j).map (fun (j : Nat) => (j : Int) + 1) ++ (if b1' then [(j : Int) + 1] else []) := by
          rw [take_succ_of (show (List.range row.length)[j]? = some j by simp [hjm]), List.filter_append, List.map_append]
          cases b1' <;> simp [hat]
        refine EvF.bind ?_; refine EvF.assignName ?_; refine EvF.store .head ?_; refine EvF.tests1 ?_; refine EvF.testVal ?_; refine EvF.sub ?_; refine EvF.sub ?_; refine' EvF.cell ?h1 ?_; (case h1 => assumption); refine EvF.cint fun _ => ?_; refine' subLst ?h1 ?_; (case h1 => refine At.ext ?_ (by assumption); assumption)
        refine .of (.lstAt (xs := rows) (oW.ext e7) 0 rfl hv0 (bits (Nat.le_of_lt (Nat.lt_of_lt_of_le (by assumption) (Nat.le_trans (m := 50) (by assumption) (by decide))))) ?_)
        refine EvF.loc (.head _) ?_; refine' subLst ?h1 ?_; (case h1 => refine At.ext ?_ (by assumption); assumption)
        refine .of (.lstAt (xs := y0) (o0.ext e7) j (by omega) hvb1 (bits (Nat.le_of_lt (Nat.lt_of_lt_of_le (by assumption) (Nat.le_trans (m := 50) (by assumption) (by decide))))) ?_)
        refine EvF.truthyBool ?_
        cases b1' with
        | true =>
          refine iteT ?_; refine EvF.binOp ?_; refine EvF.loc (.head _) ?_; refine EvF.cint fun _ => ?_; refine EvF.addI fun _ => ?_
          exact ⟨⟨⟨_, rfl⟩, e7⟩, Ext.refl _, (j : Int) + 1, hcut, ⟨_, by rw [Int.zero_add]⟩⟩
        | false =>
          refine iteF ?_
          exact ⟨⟨⟨_, rfl⟩, e7⟩, Ext.refl _, by show List.map _ _ = _; rw [hcut]; simp⟩
      · refine x01 jj fun z921 e7 => ?_; clear jj; refine x10 z921 fun u1 z922 => ?_; clear z921; subst z922
        rw [e0] at ha
        have ha : All2 IsI (((List.range row.length).filter fun j => at2 Wf 0 j).map fun (j : Nat) => (j : Int) + 1) ys := by
          have e := List.take_of_length_le (l := List.range row.length) (i := row.length) (by rw [List.length_range]; exact Nat.le_refl _)
          simpa only [e] using ha
        refine hrQ _ _ _ rfl ?_; clear hnQ hrQ Qx
        rw [hWf]
        exact ⟨(R.e.trans e7).trans (Ext.new _ nD), D2, ys, rfl, ⟨_, put_self .., _, rfl⟩, ha⟩
end Mine
end SFn13

section SFn14
open PySem PySem.W PySem.Calls PyProof.Rows PySem.SeqAt
set_option maxRecDepth 100000
set_option maxHeartbeats 4000000
namespace Mine
variable {prog : Program} {w : World} {A : Around} {g g₀ : Led}
theorem FrOk.more {L : Addr} {vs : Vars} {F : Led} {h h' : Heap} {a : Addr} {o : Obj} (f : FrOk L vs g F h) (hn : h.get? a = none) (k : ∀ b x, h.get? b = some x → h'.get? b = some x) : FrOk L vs (g.put a o) F h' := by
  refine x31 f.ns fun oL es ep hL r => ?_
  refine ⟨⟨oL, es, ep, k _ _ hL, r⟩, f.nd, ?_, f.nf, f.low⟩
  rw [put_ne]; exact f.ng
  rintro rfl; rw [hn] at hL; cases hL
theorem circ_init (ok : Ok A 3) (hfile : ((prog.main.file : Str) == Str.ofString "/claim/cut.py") = true) (htop : (prog.main.scope.names.lookup ("super" : Str)).isSome = false) {x dx sc : Addr} {xs : List Value} (H : Half w.params g₀ g 349 x dx [] []) (hs : At g sc (TupO xs)) :
    EvC prog w (KK w.params) A (.call (.ref 306) ⟨[.ref x, .ref sc], []⟩) g fun r g' => r = .none ∧ ∃ n s, Half w.params g₀ g' 349 x dx [(("number" : Str), n), (("scope" : Str), .ref sc), (("strength" : Str), s)] [] ∧ Kp g g' := by
  intro F s R r k
  have X := r.fx.in
  have hroom : A.depth < recursionLimit := by have := ok.d; omega
  refine ks_codeAny_call_defAt (binds := [("self", .ref x), ("places", .ref sc)]) hroom (X 306 _ (by rfl)) (by rfl) r.fx.lim (codeRec_of X (by rfl)) (by rfl) (BindsTo.of_eq (by rfl)) (by decide) (fun y hy => by simp only [List.mem_cons, List.not_mem_nil, or_false] at hy; rcases hy with rfl | rfl <;> rfl) (fun h₁ hns hk => ?_)
  have R₁ : Rep (KK w.params) g F h₁ := r.keeps hk
  have X₁ := R₁.fx.in
  have F₁ : FrOk s.heap.objs.size [("places", some (.ref sc)), ("self", some (.ref x))] g F h₁ := by
    refine ⟨?_, show ([("places" : Str), ("self" : Str)]).Nodup by decide, r.free.1, r.free.2, r.fx.n⟩
    have : getv [(("places" : Str), some (.ref sc)), (("self" : Str), some (.ref x))] = fun y => List.lookup y ([(("self" : Str), Value.ref x), (("places" : Str), Value.ref sc)].reverse) := by
      funext y
      unfold getv
      show (match y == ("places" : Str) with | true => some (some (Value.ref sc)) | false => (match y == ("self" : Str) with | true => some (some (Value.ref x)) | false => none)).bind id = (match y == ("places" : Str) with | true => some (Value.ref sc) | false => (match y == ("self" : Str) with | true => some (Value.ref x) | false => none))
      cases y == ("places" : Str) <;> cases y == ("self" : Str) <;> rfl
    rw [this]; exact hns
  have hx : h₁.get? x = some (instObj 349 dx) := by obtain ⟨o, ho, rfl⟩ := H.i; exact R₁.own _ _ ho
  refine ks_wpAt_execs_cons (ks_wpAt_Expr_any (ks_wpAt_MethodCall ?_))
  refine ks_wpAt_super_base (f := 306) (cc := 305) (by rfl) (by rfl) (by rfl) (by rfl) (X₁ 306 _ (by rfl)) (by rfl) (by rfl) (by rfl) (X₁ 305 _ (by rfl)) (by rfl) (by rfl) hfile htop ?_
  refine ks_loadName_global (by rfl) (by rfl) (loadGlobal_boot R₁.fx (by rfl) (by rfl) (by rfl) bv_super (by decide) ⟨rfl, ?_⟩)
  refine wpAny_loadName_free (by rfl) (by rfl) (by rfl) ⟨_, X₁ 294 _ (by rfl), rfl⟩ ?_
  refine wpAny_loadName_local (by rfl) (by rfl) F₁.ns (by rfl) ?_
  refine ks_wpAny_isType_cls (X₁ 349 _ (by rfl)) (by rfl) ⟨rfl, ?_⟩
  refine ks_wpAny_call_super (X₁ 349 _ (by rfl)) (by rfl) hx (by rfl) (fun c e => by cases e) (looks_mroIn X₁ (by rfl)) (fun h₂ e₂ k₂ => ?_)
  refine x01 (R₁.grown (fun b x e => Heap.lt_size e) k₂ e₂) fun n₂ R₂ => ?_
  have X₂ := R₂.fx.in
  have F₂ := F₁.more (a := h₁.objs.size) (o := { cls := .type "super", dict := none, data := .fields #[.ref 349, .ref x, .ref 349], slots := #[] }) (Heap.get?_none_of_le (Nat.le_refl _)) k₂
  have hx386 : 386 ≤ x := by obtain ⟨o, ho, _⟩ := H.i; exact r.lowg _ _ ho
  refine ks_wpAny_getMethod_super e₂ (looks_opaque X₂ (by rfl)) (l₀ := [.ref 349, .ref 286, .type "object"]) (fun A Q E s k q => wpAny_bind ((looks_clsIn X₂ (by rfl)) A _ E s k (wpAny_pure q))) (by rfl) X₂ (by rfl) (X₂ 262 _ (by rfl)) (by rfl) (fun q => absurd (q ▸ hx386 : (386 : Nat) ≤ 349) (by decide)) (by rfl) ?_
  have R₃ := R₂.push (o := methodObj (.ref 262) (.ref x)) rfl
  have F₃ := F₂.more (h' := h₂.push (methodObj (.ref 262) (.ref x))) (a := h₂.objs.size) (o := methodObj (.ref 262) (.ref x)) (Heap.get?_none_of_le (Nat.le_refl _)) (fun b y e => Heap.get?_push_of_some _ e)
  have e3 : Ext g ((g.put h₁.objs.size { cls := .type "super", dict := none, data := .fields #[.ref 349, .ref x, .ref 349], slots := #[] }).put h₂.objs.size (methodObj (.ref 262) (.ref x))) := (Ext.new _ n₂).trans (Ext.new _ R₂.free.1)
  have hq : ((g.put h₁.objs.size { cls := .type "super", dict := none, data := .fields #[.ref 349, .ref x, .ref 349], slots := #[] }).put h₂.objs.size (methodObj (.ref 262) (.ref x))) h₂.objs.size = some (methodObj (.ref 262) (.ref x)) := put_self ..
  have ok' : Ok (A.deeper (callEnv (fno "__init__" "Circuit.__init__" (inC (stm 18) 0) [(Str.ofString "__class__", 294)] .none (sv "fdsolve.order" 540) (.ref 305) (.ref 299)) s.heap.objs.size 306)) 2 := ok.deeper
  have H := H.ext e3
  have hs := hs.ext e3
  have kp3 := e3.kp
  generalize (g.put h₁.objs.size { cls := .type "super", dict := none, data := .fields #[.ref 349, .ref x, .ref 349], slots := #[] }).put h₂.objs.size (methodObj (.ref 262) (.ref x)) = g₃ at *
  refine EvF.callWithM (K := KK w.params) (f := 262) (self := .ref x) (P := fun v _ g' => v = .none ∧ ∃ n s, Half w.params g₀ g' 349 x dx [(("number" : Str), n), (("scope" : Str), .ref sc), (("strength" : Str), s)] [] ∧ Kp g g') (by rfl) ?_ (by rfl) (by rfl) F _ _ _ R₃ F₃ (fun a vs' g' h' d tk p r' f' => ?_)
  · refine EvF.args1 ?_; refine EvF.loc (.head _) ?_; refine EvF.args1 ?_; refine EvF.cstr fun _ => ?_; refine EvF.args0 ?_
    refine ⟨hq, (prop_init_okC (ok'.le (by decide)) H hs).mono fun r g' p => ?_⟩
    refine x01 p fun z81 z82 => ?_; clear p; subst z81; refine x11 z82 fun n H' kp => ?_; clear z82
    exact ⟨rfl, n, _, H', kp3.trans kp⟩
  · refine x01 p ?_; clear p; intro z101 p; subst z101
    show PySem.wpAt _ _ _ (execs [] _) _ _ _
    exact wpAt_of_wpAny (wpAny_pure (k _ _ _ _ _ ⟨rfl, p⟩ r'))
/-- Circuit(row) -/
theorem circ_new (ok : Ok A 4) (hfile : ((prog.main.file : Str) == Str.ofString "/claim/cut.py") = true) (htop : (prog.main.scope.names.lookup ("super" : Str)).isSome = false) {sc : Addr} {xs : List Value} {row : List Nat} (hs : At g sc (TupO xs)) (hx : All2 (fun (n : Nat) v => IsI (n : Int) v) row xs) :
    Ev prog w (KK w.params) A (PySem.call (.ref 349) [.ref sc] []) g fun r g' => ∃ a dx, r = .ref a ∧ CircAt w g' a dx sc row ∧ Ext g g' ∧ g a = none ∧ g dx = none := by
  refine Ev.make (f := 306) (by rfl) fun x dx hx' hdx hne => ?_
  have ok := under_ok (C := 349) (args := [.ref sc]) (ok.le (m := 3 + 1) (by omega))
  have H := Half.start (P := w.params) (C := 349) hx' hdx hne
  have hs2 := hs.ext H.e
  refine (circ_init (ok.le (by decide)) hfile htop H hs2).mono fun r g' p => ?_
  refine x01 p fun z121 z122 => ?_; clear p; subst z121; refine x21 z122 fun n s H' kp => ?_; clear z122
  exact ⟨rfl, x, dx, rfl, ⟨H'.i, ⟨n, s, H'.d⟩, xs, hs2.tkp kp, hx⟩, H'.e, hx', hdx⟩
end Mine
end SFn14

section SPl8
open PySem
set_option maxRecDepth 100000
namespace Mine
/-- the lots stand for the domains -/
noncomputable def LotsOk (S : St) (lots : List (List Int)) : Prop := S.doms.length = lots.length ∧ ∀ (x : Nat) d l, S.doms[x]? = some d → lots[x]? = some l → Norm d ∧ ∀ v, Mem d v ↔ v ∈ l
noncomputable def AllReach (S : St) (row : List Nat) : Prop := ∀ v : Int, 1 ≤ v → v ≤ row.length → Reach S row v
noncomputable def reachedL (row : List Nat) (lots : List (List Int)) : List Int := ((List.range row.length).filter fun j => at2 (wall row.length (ways0 row lots)) 0 j).map fun (j : Nat) => (j : Int) + 1
theorem mem_reachedL {S : St} {row : List Nat} {lots : List (List Int)} (hL : LotsOk S lots) (hin : ∀ x ∈ row, x < lots.length) (h0 : 0 < row.length) (v : Int) : v ∈ reachedL row lots ↔ Reach S row v := by
  have hsq : Sq row.length (ways0 row lots) := by
    constructor
    · unfold ways0; simp
    · intro r hr; unfold ways0 at hr; simp only [List.mem_map] at hr; refine x11 hr fun i _ z1 => ?_; clear hr; subst z1; unfold rowW; simp
  have hE : ∀ i j : Nat, i < row.length → j < row.length → (at2 (ways0 row lots) i j = true ↔ (i = j ∨ edge S row ((i : Int) + 1) ((j : Int) + 1) = true)) := by
    intro i j hi hj
    have h1 : at2 (ways0 row lots) i j = (decide (i = j) || decide (((j : Int) + 1) ∈ (lots[row[i]?.getD 0]?.getD []))) := by
      unfold at2 ways0 rowW; simp [hi, hj]
    rw [h1, Bool.or_eq_true, decide_eq_true_eq, decide_eq_true_eq]
    obtain ⟨x, hx⟩ : ∃ x, row[i]? = some x := ⟨_, List.getElem?_eq_getElem hi⟩
    have hxl := hin x (List.mem_of_getElem? hx)
    obtain ⟨l, hl⟩ : ∃ l, lots[x]? = some l := ⟨_, List.getElem?_eq_getElem hxl⟩
    obtain ⟨d, hd⟩ : ∃ d, S.doms[x]? = some d := ⟨_, List.getElem?_eq_getElem (by rw [hL.1]; exact hxl)⟩
    refine x01 (hL.2 x d l hd hl) fun hn hm => ?_
    have he : edge S row ((i : Int) + 1) ((j : Int) + 1) = (nextFrom d ((j : Int) + 1) == some ((j : Int) + 1)) := by
      unfold edge
      have : ((i : Int) + 1 - 1).toNat = i := by lia
      rw [this, hx]; simp only [hd]
    rw [he, nextFrom_mem hn, hm, hx, Option.getD_some, hl, Option.getD_some]
  have key := reached_iff (S := S) hsq hE h0
  unfold reachedL
  simp only [List.mem_map, List.mem_filter, List.mem_range]
  constructor
  · rintro ⟨j, ⟨hj, h⟩, rfl⟩
    exact (key j hj).mp h
  · intro h
    have hv : 1 ≤ v ∧ v ≤ row.length := by rcases h.near with rfl | q <;> lia
    refine ⟨(v - 1).toNat, ⟨by lia, (key _ (by lia)).mpr ?_⟩, by lia⟩
    rw [show (((v - 1).toNat : Nat) : Int) + 1 = v by lia]; exact h
theorem reachedL_nodup (row : List Nat) (lots : List (List Int)) : (reachedL row lots).Nodup := by
  unfold reachedL
  rw [List.nodup_iff_pairwise_ne, List.pairwise_map]
  exact ((List.nodup_iff_pairwise_ne.mp List.nodup_range).filter _).imp fun h e => h (by lia)
theorem reachedL_le (row : List Nat) (lots : List (List Int)) : (reachedL row lots).length ≤ row.length := by
  unfold reachedL
  rw [List.length_map]
  exact Nat.le_trans (List.length_filter_le _ _) (by simp)
theorem reachedL_full {S : St} {row : List Nat} {lots : List (List Int)} (hL : LotsOk S lots) (hin : ∀ x ∈ row, x < lots.length) (h0 : 0 < row.length) : (reachedL row lots).length = row.length ↔ AllReach S row := by
  constructor
  · intro h v v1 v2
    rw [← mem_reachedL hL hin h0]
    unfold reachedL at h ⊢
    rw [List.length_map] at h
    have h' := (List.length_filter_eq_length_iff (l := List.range row.length)).mp (by rw [h, List.length_range])
    rw [List.mem_map]
    exact ⟨(v - 1).toNat, List.mem_filter.mpr ⟨by simp; lia, h' _ (by simp; lia)⟩, by lia⟩
  · intro h
    refine Nat.le_antisymm (reachedL_le row lots) ?_
    have hs : ∀ x ∈ (List.range row.length).map (fun (j : Nat) => (j : Int) + 1), x ∈ reachedL row lots := fun x hx => by
      rw [List.mem_map] at hx
      refine x11 hx fun j hj z41 => ?_; clear hx; subst z41
      rw [List.mem_range] at hj
      exact (mem_reachedL hL hin h0 _).mpr (h _ (by lia) (by lia))
    have hn : ((List.range row.length).map (fun (j : Nat) => (j : Int) + 1)).Nodup := by
      rw [List.nodup_iff_pairwise_ne, List.pairwise_map]
      exact (List.nodup_iff_pairwise_ne.mp List.nodup_range).imp fun h e => h (by lia)
    have := nodup_len hn hs
    simpa using this
theorem allReach_iff {S : St} {row : List Nat} {found : List Int} (fmem : ∀ v, v ∈ found ↔ Reach S row v) : AllReach S row ↔ outsideOf row found = [] := by
  unfold outsideOf
  rw [List.filter_eq_nil_iff]
  constructor
  · intro q v hv
    have := mem_intsF.mp hv
    simp [(fmem v).mpr (q v (by lia) (by lia))]
  · intro q v v1 v2
    have := q v (mem_intsF.mpr (by lia))
    exact (fmem v).mp (by simpa using this)
theorem reach_doms {S S' : St} {row : List Nat} (d : S'.doms = S.doms) (v : Int) : Reach S' row v ↔ Reach S row v := by
  have hedge : ∀ i v, edge S' row i v = edge S row i v := fun i v => by unfold edge; rw [d]
  constructor
  · intro q
    induction q with
    | one => exact .one
    | step _ a b e ih => exact .step ih a b (by rw [← hedge]; exact e)
  · intro q
    induction q with
    | one => exact .one
    | step _ a b e ih => exact .step ih a b (by rw [hedge]; exact e)
theorem mem_litsOf {row : List Nat} {found out : List Int} {q : Int × Int} : q ∈ litsOf row found out ↔ ∃ here ∈ found, ∃ v ∈ out, q = (((row[(here - 1).toNat]?.getD 0 : Nat) : Int), v) := by
  unfold litsOf
  simp only [List.mem_flatMap, List.mem_map]
  exact ⟨fun z => x11 z fun h a z => x11 z fun v b e => ⟨h, a, v, b, e.symm⟩, fun z => x11 z fun h a z => x11 z fun v b e => ⟨h, a, v, b, e.symm⟩⟩
theorem intsF_nodup (x : Int) (n : Nat) : (intsF x n).Nodup := by
  unfold intsF
  rw [List.nodup_iff_pairwise_ne, List.pairwise_map]
  exact (List.nodup_iff_pairwise_ne.mp List.nodup_range).imp fun h e => h (by lia)
theorem lits_few {row : List Nat} {found : List Int} (hm : row.length ≤ 5) (nd : found.Nodup) (hr : ∀ v ∈ found, 1 ≤ v ∧ v ≤ row.length) : (litsOf row found (outsideOf row found)).length ≤ 6 := by
  rw [litsOf_len]
  have hn : (found ++ outsideOf row found).Nodup := by
    rw [List.nodup_append]
    refine ⟨nd, ?_, fun a ha b hb e => ?_⟩
    · unfold outsideOf
      rw [List.nodup_iff_pairwise_ne]
      exact (List.nodup_iff_pairwise_ne.mp (intsF_nodup 1 row.length)).filter _
    · subst e
      unfold outsideOf at hb
      rw [List.mem_filter] at hb
      simp [ha] at hb
  have h1 := nodup_len (b := intsF 1 row.length) hn fun x hx => by
    rw [List.mem_append] at hx
    rw [mem_intsF]
    rcases hx with hx | hx
    · have := hr x hx; lia
    · unfold outsideOf at hx
      have := mem_intsF.mp (List.mem_filter.mp hx).1
      lia
  rw [List.length_append, intsF_len] at h1
  generalize found.length = a at *
  generalize (outsideOf row found).length = b at *
  have ha : a = 0 ∨ a = 1 ∨ a = 2 ∨ a = 3 ∨ a = 4 ∨ a = 5 := by lia
  rcases ha with rfl | rfl | rfl | rfl | rfl | rfl <;> lia
theorem mem_outside {row : List Nat} {found : List Int} {v : Int} : v ∈ outsideOf row found ↔ 1 ≤ v ∧ v ≤ row.length ∧ v ∉ found := by
  unfold outsideOf
  rw [List.mem_filter, mem_intsF]
  constructor
  · intro ⟨a, b⟩; exact ⟨by lia, by lia, by simpa using b⟩
  · intro ⟨a, b, c⟩; exact ⟨by lia, by simpa using c⟩
theorem lit_holds {S : St} {row : List Nat} {lots : List (List Int)} {found : List Int} (hL : LotsOk S lots) (hin : ∀ x ∈ row, x < lots.length) (fmem : ∀ v, v ∈ found ↔ Reach S row v) (hr : ∀ v ∈ found, 1 ≤ v ∧ v ≤ row.length) {q : Int × Int} (hq : q ∈ litsOf row found (outsideOf row found)) :
    ∃ (n : Nat) (d : List (Int × Int)), q.1 = n ∧ S.doms[n]? = some d ∧ saidOf d q.2 = 1 := by
  refine x11 (mem_litsOf.mp hq) fun here hh z61 => ?_; refine x11 z61 fun v hv z62 => ?_; clear z61; subst z62
  refine x02 (mem_outside.mp hv) fun v1 v2 v3 => ?_
  have hb := hr here hh
  obtain ⟨x, hx⟩ : ∃ x, row[(here - 1).toNat]? = some x := ⟨_, List.getElem?_eq_getElem (by lia)⟩
  have hxl := hin x (List.mem_of_getElem? hx)
  obtain ⟨l, hl⟩ : ∃ l, lots[x]? = some l := ⟨_, List.getElem?_eq_getElem hxl⟩
  obtain ⟨d, hd⟩ : ∃ d, S.doms[x]? = some d := ⟨_, List.getElem?_eq_getElem (by rw [hL.1]; exact hxl)⟩
  refine ⟨x, d, by rw [hx]; rfl, hd, ?_⟩
  refine x01 (hL.2 x d l hd hl) fun hn hm => ?_
  have he : edge S row here v = (nextFrom d v == some v) := by
    unfold edge
    rw [hx]; simp only [hd]
  have hne : ¬ Mem d v := fun m => by
    rw [← nextFrom_mem hn, ← he] at m
    exact v3 ((fmem v).mpr (.step ((fmem here).mp hh) v1 v2 m))
  show saidOf d v = 1
  unfold saidOf
  rw [without_same hn hne, if_pos rfl]
theorem ring_cut {row : List Nat} {found behind : List Int} {m : Nat} (hm : m = row.length) (hb : RingOf m behind) (h1 : (1 : Int) ∈ found) (ho : outsideOf row found ≠ []) :
    ∃ (i : Nat) (x : Nat) (b : Int), row[i]? = some x ∧ behind[i]? = some b ∧ ((x : Int), b) ∈ litsOf row found (outsideOf row found) := by
  subst hm
  refine x10 (List.exists_mem_of_ne_nil _ ho) fun o hoo => ?_
  refine x02 (mem_outside.mp hoo) fun o1 o2 o3 => ?_
  refine x25 (ring_leaves hb h1 o1 o2 o3) fun a b ha hbn a1 a2 b1 z161 => ?_; refine x01 z161 fun b2 e => ?_; clear z161
  obtain ⟨x, hx⟩ : ∃ x, row[(a - 1).toNat]? = some x := ⟨_, List.getElem?_eq_getElem (by lia)⟩
  exact ⟨_, x, b, hx, e, mem_litsOf.mpr ⟨a, ha, b, mem_outside.mpr ⟨b1, b2, hbn⟩, by rw [hx]; rfl⟩⟩
theorem ring_len {m : Nat} {b : List Int} (h : RingOf m b) : b.length = m := by refine x15 h ?_; clear h; intro _ _ _ _ _ h _; exact h
theorem outside_same {row : List Nat} {a b : List Int} (h : ∀ v, v ∈ a ↔ v ∈ b) : outsideOf row a = outsideOf row b := by
  unfold outsideOf
  refine List.filter_congr fun x _ => ?_
  by_cases q : x ∈ a
  · rw [decide_eq_true q, decide_eq_true ((h x).mp q)]
  · rw [decide_eq_false q, decide_eq_false fun k => q ((h x).mpr k)]
theorem sorted_same {a b c d : List (Int × Int)} (ha : a.Perm c) (hb : b.Perm d) (hc : c.Nodup) (hd : d.Nodup) (hm : ∀ q, q ∈ c ↔ q ∈ d) (sa : a.Pairwise fun p q => litOrd.kle p q) (sb : b.Pairwise fun p q => litOrd.kle p q) : a = b := by
  have hp : a.Perm b := ha.trans (((List.perm_ext_iff_of_nodup hc hd).mpr hm).trans hb.symm)
  refine hp.eq_of_pairwise (fun x y _ _ h1 h2 => ?_) sa sb
  exact litOrd.total x y h2 h1
end Mine
end SPl8

section SPl9
open PySem
set_option maxRecDepth 100000
namespace Mine
noncomputable def LotOk (l : List Int) : Prop := l.Pairwise (· < ·) ∧ l ≠ [] ∧ l.length ≤ 2
structure P1 (S : St) (row : List Nat) (lots : List (List Int)) (k : Nat) : Prop where
  d : S.doms = lots.map rangesOf
  f : S.firsts = lots.map rangesOf
  t : S.trail = []
  m : S.marks = []
  fl : S.failed = false
  lo : ∀ l ∈ lots, LotOk l
  rin : ∀ x ∈ row, x < lots.length
  rl : row.length = k
  ll : lots.length ≤ k
structure P2 (S : St) (row : List Nat) (lots : List (List Int)) (F0 : List (List (Int × Int))) (j : Nat) : Prop where
  u : undo S.doms S.trail = F0
  f : S.firsts = F0
  tk : TrOk S.doms S.trail
  ok : LotsOk S lots
  lo : ∀ l ∈ lots, LotOk l
  fl : S.failed = true → ¬ AllReach S row
  ml : S.marks.length = j
  m0 : ∀ m, S.marks[0]? = some m → m = 0
  tl : S.trail.length ≤ j - 1
  dl : ∀ d ∈ S.doms, d.length ≤ 2 ^ (S.trail.length + 1)
theorem step_len (rs : List (Int × Int)) (v : Int) : (rangesStep rs v).length ≤ rs.length + 1 := by
  unfold rangesStep
  split
  · split
    · rw [List.length_append, List.length_dropLast]; simp <;> lia
    · rw [List.length_append]; simp
  · rw [List.length_append]; simp
theorem ranges_len : ∀ (sm : List Int) (rs : List (Int × Int)), (sm.foldl rangesStep rs).length ≤ rs.length + sm.length
  | [], rs => by simp
  | v :: sm, rs => by
    have h1 := ranges_len sm (rangesStep rs v)
    have h2 := step_len rs v
    rw [List.foldl_cons, List.length_cons]
    lia
theorem LotOk.dom {l : List Int} (h : LotOk l) : Norm (rangesOf l) ∧ (∀ v, Mem (rangesOf l) v ↔ v ∈ l) ∧ rangesOf l ≠ [] ∧ (rangesOf l).length ≤ 2 := by
  have ⟨h1, h2⟩ := ranges_norm h.1
  refine ⟨h1, h2, fun e => ?_, ?_⟩
  · refine x10 (List.exists_mem_of_ne_nil _ h.2.1) fun v hv => ?_
    have := (h2 v).mpr hv
    rw [e] at this
    exact Mem.nil this
  · have := ranges_len l []
    have h3 := h.2.2
    unfold rangesOf
    simp at this
    lia
theorem P1.small {S : St} {row : List Nat} {lots : List (List Int)} {k : Nat} (p : P1 S row lots k) (h : k ≤ 5) : Small S := by
  have := p.ll
  refine ⟨by rw [p.d, List.length_map]; lia, by rw [p.f, List.length_map]; lia, by rw [p.t]; exact Nat.zero_le _, by rw [p.m]; exact Nat.zero_le _, fun d hd => ?_⟩
  rw [p.d, List.mem_map] at hd
  refine x11 hd fun l hl z21 => ?_; clear hd; subst z21
  exact Nat.le_trans (p.lo l hl).dom.2.2.2 (by decide)
theorem P1.old {S : St} {row : List Nat} {lots : List (List Int)} {k x : Nat} (p : P1 S row lots k) (hx : x < lots.length) : P1 S (row ++ [x]) lots (k + 1) :=
  ⟨p.d, p.f, p.t, p.m, p.fl, p.lo, fun y hy => by
    rcases List.mem_append.mp hy with h | h
    · exact p.rin y h
    · rw [List.mem_singleton] at h; rw [h]; exact hx, by rw [List.length_append, p.rl]; rfl, Nat.le_succ_of_le p.ll⟩
theorem P1.new {S : St} {row : List Nat} {lots : List (List Int)} {k : Nat} {l : List Int} (p : P1 S row lots k) (hl : LotOk l) : P1 { S with doms := S.doms ++ [rangesOf l], firsts := S.firsts ++ [rangesOf l] } (row ++ [S.doms.length]) (lots ++ [l]) (k + 1) := by
  refine ⟨by show S.doms ++ _ = _; rw [p.d]; simp, by show S.firsts ++ _ = _; rw [p.f]; simp, p.t, p.m, p.fl, fun x hx => ?_, fun y hy => ?_, by rw [List.length_append, p.rl]; rfl, by rw [List.length_append]; have := p.ll; simp; lia⟩
  · rcases List.mem_append.mp hx with h | h
    · exact p.lo x h
    · rw [List.mem_singleton] at h; rw [h]; exact hl
  · rw [List.length_append]
    rcases List.mem_append.mp hy with h | h
    · have := p.rin y h; lia
    · rw [List.mem_singleton] at h; rw [h, p.d, List.length_map]; simp
theorem P1.start : P1 ⟨[], [], [], [], false, []⟩ [] [] 0 := ⟨rfl, rfl, rfl, rfl, rfl, fun _ h => (nomatch h), fun _ h => (nomatch h), rfl, Nat.le_refl _⟩
theorem P1.p2 {S : St} {row : List Nat} {lots : List (List Int)} {k : Nat} (p : P1 S row lots k) : P2 S row lots (lots.map rangesOf) 0 := by
  refine ⟨by rw [p.t, p.d]; rfl, p.f, by rw [p.t]; exact fun _ h => (nomatch h), ⟨by rw [p.d, List.length_map], fun x d l hd hl => ?_⟩, p.lo, fun h => (by rw [p.fl] at h; cases h), by rw [p.m]; rfl, fun m h => (by rw [p.m] at h; cases h), by rw [p.t]; exact Nat.zero_le _, fun d hd => ?_⟩
  · rw [p.d, List.getElem?_map, hl] at hd
    obtain rfl : rangesOf l = d := Option.some.inj hd
    have := (p.lo l (List.mem_of_getElem? hl)).dom
    exact ⟨this.1, this.2.1⟩
  · rw [p.d, List.mem_map] at hd
    refine x11 hd fun l hl z41 => ?_; clear hd; subst z41
    rw [p.t]
    exact (p.lo l hl).dom.2.2.2
theorem P2.small {S : St} {row : List Nat} {lots : List (List Int)} {F0 : List (List (Int × Int))} {j : Nat} (p : P2 S row lots F0 j) (h : lots.length ≤ 5) (hj : j ≤ 3) : Small S := by
  have h1 := p.ok.1
  have h2 := p.tl
  have h3 : F0.length = S.doms.length := by rw [← p.u, undo_len]
  refine ⟨by lia, by rw [p.f]; lia, by lia, by rw [p.ml]; lia, fun d hd => ?_⟩
  refine Nat.le_trans (p.dl d hd) (Nat.le_trans (Nat.pow_le_pow_right (by decide) (show S.trail.length + 1 ≤ 4 by lia)) (by decide))
theorem P2.push {S : St} {row : List Nat} {lots : List (List Int)} {F0 : List (List (Int × Int))} {j : Nat} (p : P2 S row lots F0 j) : P2 { S with marks := S.marks ++ [(S.trail.length : Int)] } row lots F0 (j + 1) := by
  refine ⟨p.u, p.f, p.tk, p.ok, p.lo, fun h a => p.fl h fun v v1 v2 => (reach_doms (S := S) (S' := { S with marks := S.marks ++ [(S.trail.length : Int)] }) rfl v).mp (a v v1 v2), by show (S.marks ++ _).length = _; rw [List.length_append, p.ml]; rfl, fun m h => ?_, Nat.le_trans p.tl (by lia), p.dl⟩
  have h : (S.marks ++ [(S.trail.length : Int)])[0]? = some m := h
  have ml := p.ml
  have tl := p.tl
  cases hm : S.marks with
  | nil =>
    rw [hm] at h ml
    simp at h ml
    lia
  | cons a r =>
    rw [hm] at h
    exact p.m0 m (by rw [hm]; simpa using h)
theorem P2.same {S S' : St} {row : List Nat} {lots : List (List Int)} {F0 : List (List (Int × Int))} {j : Nat} (p : P2 S row lots F0 j) (d1 : S'.doms = S.doms) (d2 : S'.firsts = S.firsts) (d3 : S'.trail = S.trail) (d4 : S'.marks = S.marks) (h : S'.failed = true ↔ ¬ AllReach S row) : P2 S' row lots F0 j :=
  ⟨by rw [d1, d3]; exact p.u, by rw [d2]; exact p.f, by rw [d1, d3]; exact p.tk, by unfold LotsOk; rw [d1]; exact p.ok, p.lo, fun q a => h.mp q fun v v1 v2 => (reach_doms d1 v).mp (a v v1 v2), by rw [d4]; exact p.ml, by rw [d4]; exact p.m0, by rw [d3]; exact p.tl, by rw [d1, d3]; exact p.dl⟩
theorem reach_mono {S S' : St} {row : List Nat} {lots lots' : List (List Int)} (h : LotsOk S lots) (h' : LotsOk S' lots') (sub : ∀ (x : Nat) l', lots'[x]? = some l' → ∃ l, lots[x]? = some l ∧ ∀ v ∈ l', v ∈ l) {v : Int} (r : Reach S' row v) : Reach S row v := by
  induction r with
  | one => exact .one
  | @step i v _ v1 v2 e ih =>
    refine .step ih v1 v2 ?_
    unfold edge at e ⊢
    cases hx : row[(i - 1).toNat]? with
    | none => rw [hx] at e; cases e
    | some x =>
      rw [hx] at e
      simp only at e ⊢
      cases hd' : S'.doms[x]? with
      | none => rw [hd'] at e; cases e
      | some d' =>
        rw [hd'] at e
        simp only at e
        obtain ⟨l', hl'⟩ : ∃ l', lots'[x]? = some l' := ⟨_, List.getElem?_eq_getElem (by rw [← h'.1]; exact (List.getElem?_eq_some_iff.mp hd').1)⟩
        refine x11 (sub x l' hl') fun l hl hs => ?_
        obtain ⟨d, hd⟩ : ∃ d, S.doms[x]? = some d := ⟨_, List.getElem?_eq_getElem (by rw [h.1]; exact (List.getElem?_eq_some_iff.mp hl).1)⟩
        have a' := h'.2 x d' l' hd' hl'
        have a := h.2 x d l hd hl
        rw [hd]
        simp only
        rw [nextFrom_mem a.1, a.2]
        rw [nextFrom_mem a'.1, a'.2] at e
        exact hs v e
theorem struck_some {d : List (Int × Int)} {l : List Int} {v : Int} (hn : Norm d) (hm : ∀ v, Mem d v ↔ v ∈ l) (hl : LotOk l) (h1 : 1 < l.length) (hv : v ∈ l) : without d v ≠ [] ∧ without d v ≠ d ∧ LotOk (l.filter fun u => !decide (u = v)) := by
  obtain ⟨u, hu, huv⟩ : ∃ u ∈ l, u ≠ v := by
    match l, h1, hl with
    | a :: b :: r, _, hl =>
      by_cases q : a = v
      · have : a < b := (List.pairwise_cons.mp hl.1).1 b (.head _)
        exact ⟨b, .tail _ (.head _), by lia⟩
      · exact ⟨a, .head _, q⟩
  have w1 : Mem (without d v) u := (without_mem hn).mpr ⟨(hm u).mpr hu, huv⟩
  refine ⟨fun e => ?_, fun e => ?_, hl.1.filter _, fun e => ?_, Nat.le_trans (List.length_filter_le _ _) hl.2.2⟩
  · rw [e] at w1; exact Mem.nil w1
  · have : Mem (without d v) v := by rw [e]; exact (hm v).mpr hv
    exact ((without_mem hn).mp this).2 rfl
  · have : u ∈ l.filter fun u => !decide (u = v) := List.mem_filter.mpr ⟨hu, by simp [huv]⟩
    rw [e] at this; cases this
theorem P2.decide {S : St} {row : List Nat} {lots : List (List Int)} {F0 : List (List (Int × Int))} {j x : Nat} {d : List (Int × Int)} {l : List Int} {v : Int} (p : P2 S row lots F0 j) (hj : S.trail.length + 2 ≤ j) (hd : S.doms[x]? = some d) (hl : lots[x]? = some l) (h1 : 1 < l.length) (hv : v ∈ l) :
    P2 (struckSt S x d v) row (lots.set x (l.filter fun u => !Decidable.decide (u = v))) F0 j := by
  refine x01 (p.ok.2 x d l hd hl) fun hn hm => ?_
  have hlo := p.lo l (List.mem_of_getElem? hl)
  refine x02 (struck_some hn hm hlo h1 hv) fun s1 s2 s3 => ?_
  have hxd : x < S.doms.length := (List.getElem?_eq_some_iff.mp hd).1
  have hxl : x < lots.length := (List.getElem?_eq_some_iff.mp hl).1
  have hok : LotsOk (struckSt S x d v) (lots.set x (l.filter fun u => !Decidable.decide (u = v))) := by
    refine ⟨by show (S.doms.set x _).length = _; rw [List.length_set, List.length_set]; exact p.ok.1, fun y d' l' hd' hl' => ?_⟩
    have hd' : (S.doms.set x (without d v))[y]? = some d' := hd'
    by_cases q : y = x
    · subst q
      rw [List.getElem?_set_self hxd] at hd'
      rw [List.getElem?_set_self hxl] at hl'
      cases hd'; cases hl'
      refine ⟨hn.without, fun u => ?_⟩
      rw [without_mem hn, hm, List.mem_filter]
      simp
    · rw [List.getElem?_set_ne (Ne.symm q)] at hd' hl'
      exact p.ok.2 y d' l' hd' hl'
  refine ⟨by rw [undo_struck hd]; exact p.u, p.f, trok_struck hd p.tk, hok, fun y hy => ?_, fun h a => ?_, p.ml, p.m0, ?_, fun y hy => ?_⟩
  · rcases List.mem_or_eq_of_mem_set hy with h | h
    · exact p.lo y h
    · rw [h]; exact s3
  · refine p.fl h fun u u1 u2 => reach_mono p.ok hok (fun y l' hl' => ?_) (a u u1 u2)
    by_cases q : y = x
    · subst q
      rw [List.getElem?_set_self hxl] at hl'
      cases hl'
      exact ⟨l, hl, fun u hu => (List.mem_filter.mp hu).1⟩
    · rw [List.getElem?_set_ne (Ne.symm q)] at hl'
      exact ⟨l', hl', fun u hu => hu⟩
  · show (S.trail ++ _).length ≤ _
    rw [List.length_append]; simp; lia
  · have hy : y ∈ S.doms.set x (without d v) := hy
    show y.length ≤ 2 ^ ((S.trail ++ [((x : Int), d)]).length + 1)
    rw [List.length_append, List.length_singleton, Nat.pow_succ]
    rcases List.mem_or_eq_of_mem_set hy with h | h
    · have := p.dl y h; lia
    · have := p.dl d (List.mem_of_getElem? hd)
      have h3 := upTo_len d (v - 1)
      have h4 := fromOn_len d (v + 1)
      rw [h]
      unfold without
      rw [List.length_append]
      lia
theorem P2.marks {S : St} {row : List Nat} {lots : List (List Int)} {F0 : List (List (Int × Int))} (p : P2 S row lots F0 3) : ∃ m1 m2, S.marks = [0, m1, m2] := by
  have h := p.ml
  match hm : S.marks with
  | [] => rw [hm] at h; cases h
  | [_] => rw [hm] at h; cases h
  | [_, _] => rw [hm] at h; cases h
  | [a, b, c] =>
    have := p.m0 a (by rw [hm]; rfl)
    exact ⟨b, c, by rw [this]⟩
  | _ :: _ :: _ :: _ :: _ => rw [hm] at h; simp at h
end Mine
end SPl9

section SFn15a
open PySem PySem.W PySem.Calls PyProof.Rows PySem.SeqAt
set_option maxRecDepth 100000
set_option maxHeartbeats 4000000
namespace Mine
variable {prog : Program} {w : World} {A : Around} {g : Led} {X : SR} {S : St}
/-- the cells of the frame -/
noncomputable def FC (g : Led) (L : Nat) (n : Nat) (c : Nat → Option Value) : Prop := ∀ i, i < n → At g (L + 1 + i) (CellO (c i))
theorem FC.ext {g' : Led} {L n : Nat} {c : Nat → Option Value} (h : FC g L n c) (e : Ext g g') : FC g' L n c := fun i hi => (h i hi).ext e
noncomputable def upd (c : Nat → Option Value) (i : Nat) (v : Value) : Nat → Option Value := fun j => if j = i then some v else c j
theorem FC.put {L n i : Nat} {c : Nat → Option Value} {v : Value} {o : Obj} (h : FC g L n c) (ho : CellO (some v) o) : FC (g.put (L + 1 + i) o) L n (upd c i v) := fun j hj => by
  unfold upd
  by_cases q : j = i
  · subst q; rw [if_pos rfl]; exact ⟨_, put_self .., ho⟩
  · rw [if_neg q]; exact (h j hj).off (nne (by omega))
theorem FC.keep {g' : Led} {L n : Nat} {c : Nat → Option Value} (h : FC g L n c) {fp : List Addr} (hk : ∀ b o, g b = some o → b ∉ fp → g' b = some o) (hn : ∀ i, i < n → ∀ u, At g (L + 1 + i) (CellO u) → L + 1 + i ∉ fp) : FC g' L n c := fun i hi => by
  obtain ⟨o, ho, e⟩ := h i hi
  exact ⟨o, hk _ _ ho (hn i hi _ ⟨o, ho, e⟩), e⟩
/-- a list that lies apart from bad -/
inductive RowB {α : Type} (R : α → Value → Prop) (bad : List Addr) (g : Led) (ps : List α) (v : Value) : Prop
  | mk (a : Addr) (xs : List Value) (e : v = .ref a) (n : a ∉ bad) (h : At g a (LstO xs)) (r : All2 R ps xs) : RowB R bad g ps v
theorem RowB.keep {α : Type} {R : α → Value → Prop} {bad bad' : List Addr} {g' : Led} {ps : List α} {v : Value} (h : RowB R bad g ps v) (hk : ∀ b o, g b = some o → b ∉ bad → g' b = some o) (hb : ∀ b ∈ bad', b ∈ bad ∨ g b = none) : RowB R bad' g' ps v := by
  obtain ⟨a, xs, rfl, h1, ⟨o, ho, e⟩, h3⟩ := h
  refine ⟨a, xs, rfl, fun m => ?_, ⟨o, hk _ _ ho h1, e⟩, h3⟩
  rcases hb a m with m | m
  · exact h1 m
  · rw [ho] at m; cases m
theorem RowB.ext {α : Type} {R : α → Value → Prop} {bad : List Addr} {g' : Led} {ps : List α} {v : Value} (h : RowB R bad g ps v) (e : Ext g g') : RowB R bad g' ps v := let ⟨a, xs, h0, h1, h2, h3⟩ := h; ⟨a, xs, h0, h1, h2.ext e, h3⟩
theorem RowB.cell {α : Type} {R : α → Value → Prop} {bad : List Addr} {ps : List α} {v : Value} (h : RowB R bad g ps v) {c : Addr} {u : Option Value} {o : Obj} (x : At g c (CellO u)) : RowB R bad (g.put c o) ps v := let ⟨a, xs, h0, h1, h2, h3⟩ := h; ⟨a, xs, h0, h1, h2.off (x.ne h2 cell_lst).symm, h3⟩
inductive LotsB (bad : List Addr) (g : Led) (ls : List (List Int)) (v : Value) : Prop
  | mk (a : Addr) (xs : List Value) (e : v = .ref a) (n : a ∉ bad) (h : At g a (LstO xs)) (r : All2 (fun l v => RowB IsI bad g l v) ls xs) : LotsB bad g ls v
theorem LotsB.keep {bad bad' : List Addr} {g' : Led} {ls : List (List Int)} {v : Value} (h : LotsB bad g ls v) (hk : ∀ b o, g b = some o → b ∉ bad → g' b = some o) (hb : ∀ b ∈ bad', b ∈ bad ∨ g b = none) : LotsB bad' g' ls v := by
  obtain ⟨a, xs, rfl, h1, ⟨o, ho, e⟩, h3⟩ := h
  refine ⟨a, xs, rfl, fun m => ?_, ⟨o, hk _ _ ho h1, e⟩, h3.mono fun l v r => r.keep hk hb⟩
  rcases hb a m with m | m
  · exact h1 m
  · rw [ho] at m; cases m
theorem LotsB.ext {bad : List Addr} {g' : Led} {ls : List (List Int)} {v : Value} (h : LotsB bad g ls v) (e : Ext g g') : LotsB bad g' ls v := h.keep (fun b o q _ => e _ _ q) fun b m => .inl m
theorem LotsB.cell {bad : List Addr} {ls : List (List Int)} {v : Value} (h : LotsB bad g ls v) {c : Addr} {u : Option Value} {o : Obj} (x : At g c (CellO u)) : LotsB bad (g.put c o) ls v := let ⟨a, xs, h0, h1, h2, h3⟩ := h; ⟨a, xs, h0, h1, h2.off (x.ne h2 cell_lst).symm, h3.mono fun l v r => r.cell x⟩
theorem LotsB.ls {bad : List Addr} {ls : List (List Int)} {v : Value} (h : LotsB bad g ls v) : Ls (Ls fun _ => IsI) g ls v := let ⟨a, xs, h0, h1, h2, h3⟩ := h; ⟨a, xs, h0, h2, h3.mono fun l v ⟨a, ys, k0, k1, k2, k3⟩ => ⟨a, ys, k0, k2, k3⟩⟩
noncomputable abbrev IsN (n : Nat) (v : Value) : Prop := IsI (n : Int) v
theorem EqOn.nat : EqOn 0 (fun _ => IsN) := EqOn.int.via (fun n : Nat => (n : Int)) fun a b h => by omega
/-- all but the frame's cells stay -/
noncomputable def Fr (L n : Nat) (g g' : Led) : Prop := ∀ b o, g b = some o → (∀ i, i < n → b ≠ L + 1 + i) → g' b = some o
theorem Fr.lst {L n : Nat} {g' : Led} {c : Nat → Option Value} {a : Addr} {xs : List Value} (k : Fr L n g g') (F : FC g L n c) (x : At g a (LstO xs)) : At g' a (LstO xs) := by
  obtain ⟨o, ho, e⟩ := x
  exact ⟨o, k _ _ ho fun i hi => ((F i hi).ne ⟨o, ho, e⟩ cell_lst).symm, e⟩
theorem Fr.kp {L n : Nat} {g' : Led} {c : Nat → Option Value} (k : Fr L n g g') (F : FC g L n c) : Kp g g' := fun a o ho ht => by
  refine x10 ht ?_; clear ht; intro xs ht
  exact k _ _ ho fun i hi => ((F i hi).ne ⟨o, ho, ht⟩ cell_tup).symm
structure TB (prog : Program) (w : World) (g₀ g : Led) (L : Nat) (X : SR) (S : St) (row : List Nat) (lots : List (List Int)) (rv lv : Value) (c : Nat → Option Value) : Prop where
  F : FC g L 6 c
  h : StoreAt prog w g X S
  r : RowB IsN [] g row rv
  l : LotsB [] g lots lv
  k : Fr L 6 g₀ g
theorem TB.ext {g₀ g' : Led} {L : Nat} {row : List Nat} {lots : List (List Int)} {rv lv : Value} {c : Nat → Option Value} (T : TB prog w g₀ g L X S row lots rv lv c) (e : Ext g g') : TB prog w g₀ g' L X S row lots rv lv c :=
  ⟨T.F.ext e, T.h.ext e, T.r.ext e, T.l.ext e, fun b o q n => e _ _ (T.k b o q n)⟩
theorem TB.putC {g₀ : Led} {L i : Nat} {row : List Nat} {lots : List (List Int)} {rv lv v : Value} {c : Nat → Option Value} {o : Obj} (T : TB prog w g₀ g L X S row lots rv lv c) (hi : i < 6) (ho : CellO (some v) o) : TB prog w g₀ (g.put (L + 1 + i) o) L X S row lots rv lv (upd c i v) :=
  ⟨T.F.put ho, T.h.putCell (T.F i hi), T.r.cell (T.F i hi), T.l.cell (T.F i hi), fun b p q n => by rw [put_ne _ _ (n i hi)]; exact T.k b p q n⟩
theorem SetO.mono {α : Type} {R R' : α → Value → Prop} {qs : List α} {o : Obj} (x : SetO w R qs o) (h : ∀ q v, R q v → R' q v) : SetO w R' qs o := x35 x fun es ep t a b c d e z => x11 z fun qs' f k => ⟨es, ep, t, a, b, c, d, e, qs', f, k.mono h⟩
theorem intsF_get {x : Int} {n k : Nat} (h : k < n) : (intsF x n)[k]? = some (x + (k : Int)) := by simp [intsF, h]
noncomputable def cutP (row : List Nat) (bs : List Int) (ss : List (Int × Int)) (i : Nat) : Bool := decide ((((row[i]?.getD 0 : Nat) : Int), bs[i]?.getD 0) ∈ ss)
theorem range_cut {p : Nat → Bool} {k n : Nat} (h : k < n) : (List.range (min (k + 1) n)).filter p = (List.range (min k n)).filter p ++ [k].filter p := by
  rw [Nat.min_eq_left (by omega), Nat.min_eq_left (by omega), List.range_succ, List.filter_append]
noncomputable def restOf (n : Nat) : List Stmt := match stm 24 with | .FunctionDef _ _ body _ _ _ _ _ _ _ => body.drop n | _ => []
noncomputable abbrev rightEnv (L : Addr) : Env := callEnvC (fno "_law_is_right" "_law_is_right" (stm 24) [] Value.none (sv "law_qd0015_01" 613) (Value.ref 379) Value.none) L 380
theorem right_neg (ok : Ok A 11) {L : Nat} {row : List Nat} {lots : List (List Int)} {aT D : Value} {a ra la va dc : Addr} {c : Nat → Option Value} {found : List Int} {P : Flow → Vars → Led → Prop} {vxs cxs : List Value} {ss qs : List (Int × Int)}
    (T : TB prog w g g L X S row lots (.ref ra) (.ref la) c) (hc0 : c 0 = some (.ref X.a)) (hc1 : c 1 = some (.ref ra)) (hc2 : c 2 = some (.ref va)) (hc3 : c 3 = some (.ref dc)) (z : Small S) (hin : ∀ x ∈ row, x < lots.length) (hm : row.length ≤ 5) (h0 : 0 < row.length) (hL : LotsOk S lots)
    (fnd : found.Nodup) (fmem : ∀ v, v ∈ found ↔ Reach S row v) (hout : outsideOf row found ≠ []) (hfl : S.failed = true)
    (oV : At g va (LstO vxs)) (hvx : All2 IsI (reachedL row lots) vxs) (oC : At g dc (LstO cxs)) (hcx : All2 (Lit g) ss cxs) (hp : ss.Perm qs) (hqn : qs.Nodup) (hqm : ∀ q, q ∈ qs ↔ q ∈ litsOf row found (outsideOf row found)) (hs : ss.Pairwise fun p q => litOrd.kle p q)
    (hP : ∀ vs g', Fr L 6 g g' → P (.ret (.bool true)) vs g') :
    EvF prog w (KK w.params) A L [(Str.ofString "rule", some (.ref a)), (Str.ofString "lots", some (.ref la)), (Str.ofString "trail", some aT), (Str.ofString "boxes", some D), (Str.ofString "stands", some (.bool false)), (Str.ofString "due", none)] (execs (restOf 6) (rightEnv L)) g P := by
  have hsz : sizeLine = 2 ^ 24 := rfl
  have kRow : At g (L + 1 + 1) (CellO (some (.ref ra))) := hc1 ▸ T.F 1 (by decide)
  have kReached : At g (L + 1 + 1 + 1) (CellO (some (.ref va))) := hc2 ▸ T.F 2 (by decide)
  obtain ⟨ra', rxs, hra, -, oR, hrx⟩ := T.r
  cases hra
  have hmem : ∀ v, v ∈ reachedL row lots ↔ v ∈ found := fun v => (mem_reachedL hL hin h0 v).trans (fmem v).symm
  have hfr : ∀ v ∈ found, 1 ≤ v ∧ v ≤ row.length := fun v hv => by rcases ((fmem v).mp hv).near with rfl | k <;> omega
  have hrl : (reachedL row lots).length ≤ 5 := Nat.le_trans (reachedL_le row lots) hm
  have b3 : rxs.length < 2 ^ 62 := by have := hrx.len; exact bits (Nat.le_trans (Nat.le_of_eq (Eq.symm (by assumption))) (Nat.le_trans (m := 5) (by assumption) (by decide)))
  have b4 : vxs.length < 2 ^ 62 := by have := hvx.len; exact bits (Nat.le_trans (Nat.le_of_eq (Eq.symm (by assumption))) (Nat.le_trans (m := 5) (by assumption) (by decide)))
  show EvF _ _ _ _ _ _ (execs (_ :: _) _) _ _
  refine EvF.consQ fun Qx hnQ hrQ => ?_; refine EvF.assignS ?_
  refine EvF.compL (γ := Int) ["v"] ok ?_
  refine EvF.call ?_; refine EvF.boot (by rfl) (bv_range) ?_; refine ⟨by first | exact KeepOk.b | exact KeepOk.t | exact KeepOk.k (by rfl), ?_⟩; refine EvF.args1 ?_; refine EvF.cint fun _ => ?_; refine EvF.args1 ?_; refine EvF.binOp ?_; refine EvF.call ?_; refine EvF.boot (by rfl) (bv_len) ?_; refine ⟨by first | exact KeepOk.b | exact KeepOk.t | exact KeepOk.k (by rfl), ?_⟩; refine EvF.args1 ?_; refine' EvF.cell ?h1 ?_; (case h1 => assumption); refine EvF.args0 ?_; refine' EvF.of (.lenL ?h1 ?h2 fun _ => ?_); (case h1 => assumption); (case h2 => assumption); refine EvF.cint fun _ => ?_; refine EvF.addI fun _ => ?_; refine EvF.args0 ?_; refine EvF.range2 fun _ _ _ => ?_
  rename_i t0 t1 t2 t3 ar t4 har
  have hrg : (g.put ar (rngV 1 ((rxs.length : Int) + 1) t0 t3 t4)) ar = some (rngV 1 ((rxs.length : Int) + 1) t0 t3 t4) := put_self ..
  have eR := Ext.new (rngV 1 ((rxs.length : Int) + 1) t0 t3 t4) har
  have hxl : rxs.length = row.length := hrx.len.symm
  have T0 := T.ext eR
  have oV := oV.ext eR
  have oC := oC.ext eR
  have hcx := Stays.lit.all hcx eR.kp
  have kReached := kReached.ext eR
  have hk0 : Fr L 6 g (g.put ar (rngV 1 ((rxs.length : Int) + 1) t0 t3 t4)) := fun b o q n => eR _ _ q
  clear eR har kRow oR hrx b3 T
  generalize g.put ar (rngV 1 ((rxs.length : Int) + 1) t0 t3 t4) = g₁ at *
  have T : TB prog w g g₁ L X S row lots (.ref ra) (.ref la) c := ⟨T0.F, T0.h, T0.r, T0.l, T0.k⟩
  clear T0
  refine ⟨_, _, _, fun k => ((intsF 1 row.length).take k).filter (fun v => !decide (v ∈ reachedL row lots)), fun _ => IsI, Src.rng hrg (by omega) (by omega) (by omega) (by omega), rfl, fun k => ?_, fun C e₁ ee hcc => ⟨fun k vs e' => (∃ u, vs = ([("v", u)] : Vars)) ∧ Ext e₁ e', Ext, ⟨⟨_, rfl⟩, Ext.refl _⟩, fun k vs e' j b m => (nomatch m), fun e e' b v x r => r, fun k y vs e' hk hy j => ?_, fun vs e' ys D2 m j nD ha => ?_⟩⟩
  · refine Nat.le_trans (List.length_filter_le _ _) ?_
    rw [List.length_take, intsF_len]
    omega
  · refine x01 j fun z121 e2 => ?_; clear j; refine x10 z121 fun u1 z122 => ?_; clear z121; subst z122
    refine x10 hy fun tv z141 => ?_; clear hy; subst z141
    have hv : (intsF 1 row.length)[k]? = some (1 + (k : Int)) := intsF_get (by omega)
    have hcut : ((intsF 1 row.length).take (k + 1)).filter (fun v => !decide (v ∈ reachedL row lots)) = ((intsF 1 row.length).take k).filter (fun v => !decide (v ∈ reachedL row lots)) ++ [1 + (k : Int)].filter (fun v => !decide (v ∈ reachedL row lots)) := by
      rw [take_succ_of hv, List.filter_append]
    have eo := ee.trans e2
    have kReached := kReached.ext eo
    refine EvF.bind ?_; refine EvF.assignName ?_; refine EvF.store .head ?_; refine EvF.tests1 ?_; refine EvF.test ?_; refine EvF.loc (.head _) ?_; refine' EvF.cell ?h1 ?_; (case h1 => assumption)
    refine .of (.notInLs (ps := reachedL row lots) (p := 1 + (k : Int)) EqOn.int Func.int ⟨va, vxs, rfl, oV.ext eo, hvx⟩ ⟨_, rfl⟩ ok.cl (decide (1 + (k : Int) ∈ reachedL row lots)) (by simp) ?_)
    by_cases qf : 1 + (k : Int) ∈ reachedL row lots
    · rw [decide_eq_true qf]
      refine EvF.truthyBool ?_
      refine ⟨⟨⟨_, rfl⟩, e2⟩, Ext.refl _, ?_⟩
      show ((intsF 1 row.length).take (k + 1)).filter (fun v => !decide (v ∈ reachedL row lots)) = _
      rw [hcut]; simp [qf]
    · rw [decide_eq_false qf, Bool.not_false]
      refine EvF.truthyBool ?_; refine iteT ?_; refine EvF.loc (.head _) ?_
      refine ⟨⟨⟨_, rfl⟩, e2⟩, Ext.refl _, 1 + (k : Int), ?_, ⟨_, rfl⟩⟩
      show ((intsF 1 row.length).take (k + 1)).filter (fun v => !decide (v ∈ reachedL row lots)) = _
      rw [hcut]; simp [qf]
  refine x01 j fun z161 e2 => ?_; clear j; refine x10 z161 fun u1 z162 => ?_; clear z161; subst z162
  have hfull : (intsF 1 row.length).take ((rxs.length : Int) + 1 - 1).toNat = intsF 1 row.length := List.take_of_length_le (by rw [intsF_len]; omega)
  have ha : All2 IsI (outsideOf row (reachedL row lots)) ys := by unfold outsideOf; simpa only [hfull] using ha
  have eD := (ee.trans e2).trans (Ext.new (lstV ys m) nD)
  have oB : At (e'.put D2 (lstV ys m)) D2 (LstO ys) := ⟨_, put_self .., m, rfl⟩
  have T := T.ext eD
  have oV := oV.ext eD
  have oC := oC.ext eD
  have hcx := Stays.lit.all hcx eD.kp
  clear eD nD ee e2 hcc kReached hrg hk0
  generalize e'.put D2 (lstV ys m) = g₂ at *
  refine EvF.assignName ?_
  refine EvF.storeCell (T.F 4 (by decide)) fun o ho => ?_
  have kc := T.F 4 (by decide)
  have oV := oV.off (kc.ne oV cell_lst).symm (o := o)
  have oC := oC.off (kc.ne oC cell_lst).symm (o := o)
  have oB := oB.off (kc.ne oB cell_lst).symm (o := o)
  have hcx := Stays.lit.all hcx (Kp.cell kc (o := o))
  have T := T.putC (i := 4) (by decide) ho
  clear kc ho
  generalize g₂.put (L + 1 + 4) o = g₃ at *
  have kReached : At g₃ (L + 1 + 1 + 1) (CellO (some (.ref va))) := hc2 ▸ T.F 2 (by decide)
  have kRow : At g₃ (L + 1 + 1) (CellO (some (.ref ra))) := hc1 ▸ T.F 1 (by decide)
  have kBeyond : At g₃ (L + 1 + 1 + 1 + 1 + 1) (CellO (some (.ref D2))) := T.F 4 (by decide)
  obtain ⟨ra', rxs, hra, -, oR, hrx⟩ := T.r
  cases hra
  refine hnQ _ _ ?_; clear hnQ hrQ Qx; refine EvF.consQ fun Qx hnQ hrQ => ?_; refine EvF.assignS ?_; refine EvF.call ?_; refine EvF.boot (by rfl) (bv_sorted) ?_; refine ⟨by first | exact KeepOk.b | exact KeepOk.t | exact KeepOk.k (by rfl), ?_⟩; refine EvF.args1 ?_; refine EvF.call ?_; refine EvF.boot (by rfl) (bv_set) ?_; refine ⟨by first | exact KeepOk.b | exact KeepOk.t | exact KeepOk.k (by rfl), ?_⟩; refine EvF.args1 ?_
  have hbo : (outsideOf row (reachedL row lots)).length ≤ 5 := by
    unfold outsideOf
    exact Nat.le_trans (List.length_filter_le _ _) (by rw [intsF_len]; exact hm)
  have hll : (litsOf row (reachedL row lots) (outsideOf row (reachedL row lots))).length ≤ 6 := lits_few hm (reachedL_nodup row lots) fun v hv => hfr v ((hmem v).mp hv)
  refine EvF.compL2 (γ := Int × Int) ["here", "v"] ok ?_
  refine' EvF.cell ?h1 ?_; (case h1 => assumption)
  refine ⟨_, _, _, fun k => litsOf row ((reachedL row lots).take k) (outsideOf row (reachedL row lots)), Lit, Src.lst oV, rfl, fun C e₁ ee hcc => ⟨fun k vs e' => (∃ u1 u2, vs = ([("here", u1), ("v", u2)] : Vars)) ∧ Ext e₁ e', Ext, ⟨⟨_, _, rfl⟩, Ext.refl _⟩, fun k vs e' j b _ o ho => j.2 _ _ (ee _ _ ho), fun e e' b v x r => Stays.lit.go r x, fun k y vs e₄ hk hy j => ?_, fun vs e' ys' D' m' j nD ha' => ?_⟩⟩
  · refine x01 j fun z201 e2 => ?_; clear j; refine x20 z201 fun u1 u2 z202 => ?_; clear z201; subst z202
    refine x11 (hvx.at hy) fun hv hhv z221 => ?_; refine x10 z221 fun th z222 => ?_; clear z221; subst z222
    have hin2 : 1 ≤ hv ∧ hv ≤ row.length := hfr hv ((hmem hv).mp (List.mem_of_getElem? hhv))
    obtain ⟨nx, hnx⟩ : ∃ nx, row[(hv - 1).toNat]? = some nx := ⟨_, List.getElem?_eq_getElem (natz2 (by assumption))⟩
    have eo := ee.trans e2
    have kRow := kRow.ext eo
    have kBeyond := kBeyond.ext eo
    have oB := oB.ext eo
    have oR := oR.ext eo
    refine EvF.assignName ?_; refine EvF.store .head ?_
    refine ⟨Ext.refl _, ?_⟩
    refine' EvF.cell ?h1 ?_; (case h1 => assumption)
    refine ⟨Ext.refl _, _, _, _, fun j => litsOf row ((reachedL row lots).take k) (outsideOf row (reachedL row lots)) ++ ((outsideOf row (reachedL row lots)).take j).map (fun v => ((nx : Int), v)), fun j vs e' => (∃ u2, vs = ([("here", some (.int hv th)), ("v", u2)] : Vars)) ∧ Ext e₄ e', Src.lst oB, ⟨⟨_, rfl⟩, Ext.refl _⟩, fun j vs e'' i b m o ho => i.2 _ _ ho, ?_, ?_, fun j => ?_, fun j y vs e'' hj hy2 i => ?_, fun vs e'' i => ?_⟩
    · show litsOf row ((reachedL row lots).take k) (outsideOf row (reachedL row lots)) ++ ((outsideOf row (reachedL row lots)).take 0).map _ = litsOf row ((reachedL row lots).take k) (outsideOf row (reachedL row lots))
      simp
    · show litsOf row ((reachedL row lots).take k) (outsideOf row (reachedL row lots)) ++ ((outsideOf row (reachedL row lots)).take ys.length).map _ = litsOf row ((reachedL row lots).take (k + 1)) (outsideOf row (reachedL row lots))
      rw [take_succ_of hhv, litsOf_snoc _ _ _ _ _ hnx, ← ha.len, List.take_length]
    · rw [List.length_append, litsOf_len, List.length_map, List.length_take, List.length_take]
      have h1 : min k (reachedL row lots).length * (outsideOf row (reachedL row lots)).length ≤ 5 * 5 := Nat.mul_le_mul (by omega) hbo
      omega
    · refine x01 i fun z241 e5 => ?_; clear i; refine x10 z241 fun u3 z242 => ?_; clear z241; subst z242
      refine x11 (ha.at hy2) fun v hvv z261 => ?_; refine x10 z261 fun tv z262 => ?_; clear z261; subst z262
      have hcut : ((outsideOf row (reachedL row lots)).take (j + 1)).map (fun v => ((nx : Int), v)) = ((outsideOf row (reachedL row lots)).take j).map (fun v => ((nx : Int), v)) ++ [((nx : Int), v)] := by
        rw [take_succ_of hvv, List.map_append]; rfl
      refine x11 (hrx.at' hnx) fun vx hvx z281 => ?_; refine x10 z281 fun tx z282 => ?_; clear z281; subst z282
      have kRow := kRow.ext e5
      have oR := oR.ext e5
      refine EvF.assignName ?_; refine EvF.store (.tail .head) ?_
      refine ⟨Ext.refl _, ?_⟩
      refine EvF.tuple ?_; refine EvF.args1 ?_; refine EvF.sub ?_; refine' EvF.cell ?h1 ?_; (case h1 => assumption); refine EvF.binOp ?_; refine EvF.loc (.head _) ?_; refine EvF.cint fun _ => ?_; refine EvF.subI fun _ => ?_; refine' subLst ?h1 ?_; (case h1 => assumption)
      refine .of (.lstAt (xs := rxs) oR (hv - 1).toNat (natz1 (by assumption)) hvx (by omega) ?_)
      refine EvF.args1 ?_; refine EvF.cstr fun _ => ?_; refine EvF.args1 ?_; refine EvF.loc (.tail _ (.head _)) ?_; refine EvF.args0 ?_; refine ⟨Nat.le_trans (m := 9) (by simp only [List.length_cons, List.length_nil]; decide) (by decide), fun _ _ => ?_⟩
      refine ⟨⟨⟨_, rfl⟩, (Ext.trans (by assumption) (Ext.new _ (by assumption)))⟩, (Ext.trans (Ext.refl _) (Ext.new _ (by assumption))), ((nx : Int), v), ?_, Lit.mk ⟨_, put_self .., _, rfl⟩⟩
      show litsOf row ((reachedL row lots).take k) (outsideOf row (reachedL row lots)) ++ ((outsideOf row (reachedL row lots)).take (j + 1)).map _ = _
      rw [hcut, List.append_assoc]
    · refine x01 i fun z301 e5 => ?_; clear i; refine x10 z301 fun u3 z302 => ?_; clear z301; subst z302
      exact ⟨⟨_, _, rfl⟩, e2.trans e5⟩
  refine x01 j fun z321 e2 => ?_; clear j; refine x20 z321 fun u1 u2 z322 => ?_; clear z321; subst z322
  have hfull : (reachedL row lots).take vxs.length = reachedL row lots := by rw [← hvx.len, List.take_length]
  have ha' : All2 (Lit e') (litsOf row (reachedL row lots) (outsideOf row (reachedL row lots))) ys' := by simpa only [hfull] using ha'
  have eD := (ee.trans e2).trans (Ext.new (lstV ys' m') nD)
  have oD : At (e'.put D' (lstV ys' m')) D' (LstO ys') := ⟨_, put_self .., m', rfl⟩
  have ha' := Stays.lit.all ha' (Ext.new (lstV ys' m') nD).kp
  have T := T.ext eD
  have oC := oC.ext eD
  have hcx := Stays.lit.all hcx eD.kp
  clear ee e2 nD hcc eD kReached kRow kBeyond oR hrx oB oV
  generalize e'.put D' (lstV ys' m') = g₄ at *
  refine EvF.args0 ?_
  refine .of (.setLits ok.h oD ha' ok.cl (fun qs nd m => Nat.le_trans (nodup_len nd m) (by omega)) fun Sa o qs2 hSa hSO hqn2 hqm2 => ?_)
  have eS := Ext.new o hSa
  have hSO' : At (g₄.put Sa o) Sa (SetO w (Lit (g₄.put Sa o)) qs2) := ⟨o, put_self .., hSO.mono fun q v r => Stays.lit.go r eS⟩
  have hql : qs2.length ≤ 6 := Nat.le_trans (nodup_len hqn2 fun q m => (hqm2 q).mp m) hll
  refine EvF.args0 ?_
  refine .of (.sortedLits ok.h hSO' (by omega) fun D1 ss2 vs2 c1 hD1 hp2 hs2 ha2 => ?_)
  have e1 := eS.trans (Ext.new (lstV vs2 c1) hD1)
  have oD2 : At ((g₄.put Sa o).put D1 (lstV vs2 c1)) D1 (LstO vs2) := ⟨_, put_self .., c1, rfl⟩
  have ha2 : All2 (Lit ((g₄.put Sa o).put D1 (lstV vs2 c1))) ss2 vs2 := Stays.lit.all ha2 (Ext.new _ hD1).kp
  have T := T.ext e1
  have oC := oC.ext e1
  have hcx := Stays.lit.all hcx e1.kp
  have hsame : ss = ss2 := sorted_same hp hp2 hqn hqn2 (fun q => by rw [hqm, hqm2, outside_same hmem, mem_litsOf, mem_litsOf]; simp only [hmem]) hs hs2
  subst hsame
  clear hSO' hSO eS hSa hD1 e1 oD ha' hs2 hp2 hqn2 hqm2 hql
  generalize (g₄.put Sa o).put D1 (lstV vs2 c1) = g₅ at *
  have kStore : At g₅ (L + 1) (CellO (some (.ref X.a))) := hc0 ▸ T.F 0 (by decide)
  have kClash : At g₅ (L + 1 + 1 + 1 + 1) (CellO (some (.ref dc))) := hc3 ▸ T.F 3 (by decide)
  have i1 := T.h.i
  have i2 := T.h.x
  refine EvF.assignName ?_; refine EvF.store (.tail (.tail (.tail (.tail (.tail .head))))) ?_; refine hnQ _ _ ?_; clear hnQ hrQ Qx; refine EvF.consQ fun Qx hnQ hrQ => ?_; refine EvF.ifS ?_
  refine EvF.testOrs (.orCons ?_)
  refine EvF.test ?_; refine EvF.loc (.tail _ (.tail _ (.tail _ (.tail _ (.head _))))) ?_; refine EvF.cbool ?_
  refine .of (.neBB ?_)
  refine EvF.truthyBool ?_
  show EvF _ _ _ _ _ _ (allTrue _ _ _) _ _
  refine .orCons ?_
  refine EvF.testNot ?_; refine EvF.testVal ?_; refine EvF.attr ?_; refine' EvF.cell ?h1 ?_; (case h1 => assumption); refine EvF.of (.getOwn (by assumption) (by assumption) (by rfl) (by rfl) (by rfl) ?_); refine EvF.truthyBool ?_
  rw [hfl]
  show EvF _ _ _ _ _ _ (allTrue _ _ _) _ _
  refine .orCons ?_
  refine EvF.test ?_; refine' EvF.cell ?h1 ?_; (case h1 => assumption); refine EvF.loc (.tail _ (.tail _ (.tail _ (.tail _ (.tail _ (.head _)))))) ?_
  refine .of (.neLs (R := Lit) (ps := ss) (qs := ss) EqOn.lit ⟨dc, cxs, rfl, oC, hcx⟩ ⟨D1, vs2, rfl, oD2, ha2⟩ ok.cl ?_)
  rw [decide_eq_true rfl]
  refine EvF.truthyBool ?_
  show EvF _ _ _ _ _ _ (allTrue _ _ _) _ _
  refine .orCons ?_
  refine EvF.test ?_
  refine EvF.compL (γ := Int) ["one"] ok ?_
  refine' EvF.cell ?h1 ?_; (case h1 => assumption)
  refine ⟨_, _, _, fun _ => [], fun _ => IsI, Src.lst oC, rfl, fun k => Nat.zero_le _, fun C e₁ ee hcc => ⟨fun k vs e' => (∃ u, vs = ([("one", u)] : Vars)) ∧ Ext e₁ e', Ext, ⟨⟨_, rfl⟩, Ext.refl _⟩, fun k vs e' j b _ o ho => j.2 _ _ (ee _ _ ho), fun e e' b v x r => r, fun k y vs e' hk hy j => ?_, fun vs e' ys D3 m j nD ha => ?_⟩⟩
  · refine x01 j fun z341 e2 => ?_; clear j; refine x10 z341 fun u1 z342 => ?_; clear z341; subst z342
    refine x11 (hcx.at hy) fun z361 hq hql => ?_; obtain ⟨q1, q2⟩ := z361
    refine x22 (lit_holds hL hin fmem hfr ((hqm _).mp (hp.mem_iff.mp (List.mem_of_getElem? hq)))) fun n d hqn1 hd hsd => ?_
    subst hqn1
    have eo := ee.trans e2
    have kStore := kStore.ext eo
    have h6 := T.h.ext eo
    have i1 := h6.i
    have i2 := h6.x
    refine EvF.bind ?_; refine EvF.assignName ?_; refine EvF.store .head ?_; refine EvF.tests1 ?_; refine EvF.test ?_; refine EvF.meth ?_; refine' EvF.cell ?h1 ?_; (case h1 => assumption); refine EvF.of (.method (by assumption) (by assumption) (by rfl) (by rfl) ?_); refine ⟨by first | exact KeepOk.b | exact KeepOk.t | exact KeepOk.k (by rfl), ?_⟩; refine EvF.args1 ?_; refine EvF.loc (.head _) ?_; refine EvF.args0 ?_; refine EvF.callApp ?_
    refine .of ((holds_ok (ok.le (by decide)) h6 z hd (Stays.lit.go hql eo)).mono fun r g₆ hr => ?_)
    refine x01 hr fun e6 z401 => ?_; clear hr; refine x10 z401 fun tr z402 => ?_; clear z401; subst z402
    rw [hsd]
    refine EvF.cint fun _ => ?_; refine EvF.neI ?_; refine EvF.truthyBool ?_
    refine ⟨⟨⟨_, rfl⟩, e2.trans e6⟩, e6, rfl⟩
  refine x01 j fun z421 e2 => ?_; clear j; refine x10 z421 fun u1 z422 => ?_; clear z421; subst z422
  cases ha
  have eD := (ee.trans e2).trans (Ext.new (lstV [] m) nD)
  have oE : At (e'.put D3 (lstV [] m)) D3 (LstO []) := ⟨_, put_self .., m, rfl⟩
  have T := T.ext eD
  have oC := oC.ext eD
  have hcx := Stays.lit.all hcx eD.kp
  clear ee e2 hcc eD nD kStore kClash i1 i2 oD2 ha2
  generalize e'.put D3 (lstV [] m) = g₆ at *
  refine EvF.list ?_; refine EvF.args0 ?_; refine ⟨Nat.le_trans (m := 9) (by simp only [List.length_cons, List.length_nil]; decide) (by decide), fun _ _ => ?_⟩
  rename_i aE haE
  have eE := Ext.new (lstV [] 0) haE
  refine .of (.neLs (R := fun _ => IsI) (ps := []) (qs := []) EqOn.int ⟨D3, [], rfl, oE.ext eE, .nil⟩ ⟨aE, [], rfl, ⟨_, put_self .., _, rfl⟩, .nil⟩ ok.cl ?_)
  have T := T.ext eE
  have oC := oC.ext eE
  have hcx := Stays.lit.all hcx eE.kp
  clear eE haE oE
  generalize g₆.put aE (lstV [] 0) = g₇ at *
  refine EvF.truthyBool ?_
  show EvF _ _ _ _ _ _ (allTrue _ _ _) _ _
  refine .orNil ?_
  have kRow : At g₇ (L + 1 + 1) (CellO (some (.ref ra))) := hc1 ▸ T.F 1 (by decide)
  obtain ⟨ra', rxs, hra, -, oR, hrx⟩ := T.r
  cases hra
  have b5 : rxs.length < 2 ^ 62 := by have := hrx.len; exact bits (Nat.le_trans (Nat.le_of_eq (Eq.symm (by assumption))) (Nat.le_trans (m := 5) (by assumption) (by decide)))
  refine iteF ?_; refine EvF.nil ?_; refine hnQ _ _ ?_; clear hnQ hrQ Qx; refine EvF.consQ fun Qx hnQ hrQ => ?_
  refine EvF.forS ok.h ?_
  refine EvF.call ?_; refine EvF.top (by rfl) ?_; refine ⟨by first | exact KeepOk.b | exact KeepOk.t | exact KeepOk.k (by rfl), ?_⟩; refine EvF.args1 ?_; refine EvF.call ?_; refine EvF.boot (by rfl) (bv_len) ?_; refine ⟨by first | exact KeepOk.b | exact KeepOk.t | exact KeepOk.k (by rfl), ?_⟩; refine EvF.args1 ?_; refine' EvF.cell ?h1 ?_; (case h1 => assumption); refine EvF.args0 ?_; refine' EvF.of (.lenL ?h1 ?h2 fun _ => ?_); (case h1 => assumption); (case h2 => assumption); refine EvF.args0 ?_
  refine .of ((rings_ok (ok.le (by decide)) hm h0 ⟨_, by rw [hrx.len]⟩).mono fun r g₈ hr => ?_)
  refine x01 hr fun e8 z461 => ?_; clear hr; refine x11 z461 fun rs z462 hring => ?_; clear z461; obtain ⟨ar, rvs, rfl, oRs, hRs⟩ := z462
  have T := T.ext e8
  have oC := oC.ext e8
  have hcx := Stays.lit.all hcx e8.kp
  have kc3 : upd c 4 (Value.ref D2) 3 = some (.ref dc) := hc3
  have kc1 : upd c 4 (Value.ref D2) 1 = some (.ref ra) := hc1
  have F8 := T.F
  clear e8 kRow oR hrx b5
  refine ⟨_, _, _, fun k vs gg => vs = ([(Str.ofString "rule", some (.ref a)), (Str.ofString "lots", some (.ref la)), (Str.ofString "trail", some aT), (Str.ofString "boxes", some D), (Str.ofString "stands", some (.bool false)), (Str.ofString "due", some (Value.ref D1))] : Vars) ∧ (∃ c', TB prog w g gg L X S row lots (.ref ra) (.ref la) c' ∧ c' 1 = some (.ref ra) ∧ c' 3 = some (.ref dc)) ∧ Fr L 6 g₈ gg, Src.lst oRs, ⟨rfl, ⟨_, T, kc1, kc3⟩, fun b o q n => q⟩, fun k vs gg i b m o ho => ?_, fun k vs gg y hk hy i => ?_, fun vs gg i => ?_⟩
  · refine x02 i fun _ _ fr => ?_; clear i
    rw [List.mem_singleton] at m; subst m
    refine fr _ _ ho fun i hi => ((F8 i hi).ne oRs cell_lst).symm
  · refine x02 i fun z501 z502 fr => ?_; clear i; subst z501; refine x12 z502 fun c' T d1 d3 => ?_; clear z502
    refine x11 (hRs.at hy) fun bs hbs z521 => ?_; obtain ⟨ab, bxs, rfl, oB, hB⟩ := z521
    have hrg := hring bs (List.mem_of_getElem? hbs)
    have oB := fr.lst F8 oB
    have oC := fr.lst F8 oC
    have hcx := Stays.lit.all hcx (fr.kp F8)
    refine EvF.bind ?_; refine EvF.assignName ?_
    refine EvF.storeCell (T.F 5 (by decide)) fun o ho => ?_
    have kc := T.F 5 (by decide)
    have oB := oB.off (kc.ne oB cell_lst).symm (o := o)
    have oC := oC.off (kc.ne oC cell_lst).symm (o := o)
    have hcx := Stays.lit.all hcx (Kp.cell kc (o := o))
    have T := T.putC (i := 5) (by decide) ho
    have fr : Fr L 6 g₈ (gg.put (L + 1 + 5) o) := fun b p q n => by rw [put_ne _ _ (n 5 (by decide))]; exact fr b p q n
    have kc3 : upd c' 5 (Value.ref ab) 3 = some (.ref dc) := d3
    have kc1 : upd c' 5 (Value.ref ab) 1 = some (.ref ra) := d1
    clear kc ho d1 d3
    generalize gg.put (L + 1 + 5) o = g₉ at *
    have kRow : At g₉ (L + 1 + 1) (CellO (some (.ref ra))) := kc1 ▸ T.F 1 (by decide)
    have kClash : At g₉ (L + 1 + 1 + 1 + 1) (CellO (some (.ref dc))) := kc3 ▸ T.F 3 (by decide)
    have kBehind : At g₉ (L + 1 + 1 + 1 + 1 + 1 + 1) (CellO (some (.ref ab))) := T.F 5 (by decide)
    obtain ⟨ra', rxs, hra, -, oR, hrx⟩ := T.r
    cases hra
    refine EvF.consQ fun Qx hnQ hrQ => ?_; refine EvF.ifS ?_; refine EvF.test ?_
    refine EvF.compLE (γ := Nat) ["i", "x"] ok ?_
    refine EvF.call ?_; refine EvF.boot (by rfl) (bv_enumerate) ?_; refine ⟨by first | exact KeepOk.b | exact KeepOk.t | exact KeepOk.k (by rfl), ?_⟩; refine EvF.args1 ?_; refine' EvF.cell ?h1 ?_; (case h1 => assumption); refine EvF.args0 ?_
    refine .of (.enum oR fun en ie oi n1 n2 n3 hl => ?_)
    obtain ⟨ob, hob, hlo⟩ := oR
    have hbl : bxs.length = row.length := by rw [← hB.len]; exact ring_len hrg
    have hrl2 : rxs.length = row.length := hrx.len.symm
    refine ⟨en, ie, oi, ra, rxs, g₉, ob, rfl, rfl, n1, n2, n3, hl, hob, hlo, fun k => (List.range (min k row.length)).filter (cutP row bs ss), fun _ n v => IsI n v, by show (List.range (min 0 row.length)).filter _ = []; rw [Nat.min_eq_left (Nat.zero_le _)]; rfl, fun k => ?_, fun C e₁ ee hcc => ⟨fun k vs e' => (∃ u1 u2, vs = ([("i", u1), ("x", u2)] : Vars)) ∧ Ext e₁ e', Ext, ⟨⟨_, _, rfl⟩, Ext.refl _⟩, fun k vs e' j => j.2 _ _ (ee _ _ hob), fun e e' b v x r => r, fun k v t T' vs e' hk hv j nT => ?_, fun vs e' xs' D5 m j nD ha => ?_⟩⟩
    · refine Nat.le_trans (List.length_filter_le _ _) ?_
      rw [List.length_range, hsz]
      exact Nat.le_trans (Nat.min_le_right _ _) (Nat.le_trans hm (by decide))
    · refine x01 j fun z581 e2 => ?_; clear j; refine x20 z581 fun u1 u2 z582 => ?_; clear z581; subst z582
      refine x11 (hrx.at hv) fun n hn z601 => ?_; refine x10 z601 fun tn z602 => ?_; clear z601; subst z602
      obtain ⟨bk, hbk⟩ : ∃ bk, bs[k]? = some bk := ⟨_, List.getElem?_eq_getElem (by rw [ring_len hrg]; exact Nat.lt_of_lt_of_eq (by assumption) (by assumption))⟩
      refine x11 (hB.at' hbk) fun bv hbv z621 => ?_; refine x10 z621 fun tb z622 => ?_; clear z621; subst z622
      have eT := Ext.new (tupV [.int (k : Int) t, .int (n : Int) tn] 0) nT
      have oT : At (e'.put T' (tupV [.int (k : Int) t, .int (n : Int) tn] 0)) T' (TupO [.int (k : Int) t, .int (n : Int) tn]) := ⟨_, put_self .., 0, rfl⟩
      have eo := (ee.trans e2).trans eT
      have kClash := kClash.ext eo
      have kBehind := kBehind.ext eo
      have oB := oB.ext eo
      have oC := oC.ext eo
      have hcx := Stays.lit.all hcx eo.kp
      have hkr : k < row.length := (Nat.lt_of_lt_of_eq (by assumption) (by assumption))
      have hcp : cutP row bs ss k = decide (((n : Int), bk) ∈ ss) := by unfold cutP; rw [hn, hbk]; rfl
      clear eo ee hcc T kRow
      generalize e'.put T' (tupV [.int (k : Int) t, .int (n : Int) tn] 0) = e₂ at *
      refine EvF.bind ?_; refine EvF.unpack (Ok.h (by assumption)) (by assumption) (by rfl) (by rfl) ?_; refine EvF.order1 ?_; refine EvF.assignName ?_; refine EvF.store .head ?_; refine EvF.order1 ?_; refine EvF.assignName ?_; refine EvF.store (.tail .head) ?_; refine EvF.order0 ?_; refine EvF.tests1 ?_; refine EvF.test ?_; refine EvF.tuple ?_; refine EvF.args1 ?_; refine EvF.loc (.tail _ (.head _)) ?_; refine EvF.args1 ?_; refine EvF.cstr fun _ => ?_; refine EvF.args1 ?_; refine EvF.sub ?_; refine' EvF.cell ?h1 ?_; (case h1 => assumption); refine EvF.loc (.head _) ?_; refine' subLst ?h1 ?_; (case h1 => assumption)
      refine .of (.lstAt (xs := bxs) oB k rfl hbv (bits (Nat.le_of_lt (Nat.lt_of_lt_of_le (by assumption) (Nat.le_trans (m := 5) (by assumption) (by decide))))) ?_)
      refine EvF.args0 ?_; refine ⟨Nat.le_trans (m := 9) (by simp only [List.length_cons, List.length_nil]; decide) (by decide), fun _ _ => ?_⟩; refine' EvF.cell ?h1 ?_; (case h1 => refine At.ext ?_ (Ext.new _ (by assumption)); assumption)
      rename_i tk1 tp htp
      have eP := Ext.new (tupV [.int (n : Int) tn, .str (Str.ofString "!=") tk1, .int bk tb] 0) htp
      refine .of (.inLs (R := Lit) (ps := ss) (p := ((n : Int), bk)) EqOn.lit Func.lit ⟨dc, cxs, rfl, oC.ext eP, Stays.lit.all hcx eP.kp⟩ (Lit.mk ⟨_, put_self .., _, rfl⟩) ok.cl (cutP row bs ss k) (by rw [hcp]; simp) ?_)
      have hcut := range_cut (p := cutP row bs ss) hkr
      cases qp : cutP row bs ss k with
      | true =>
        refine EvF.truthyBool ?_; refine iteT ?_; refine EvF.loc (.head _) ?_
        refine ⟨⟨⟨_, _, rfl⟩, (e2.trans eT).trans eP⟩, eT.trans eP, k, ?_, ⟨_, rfl⟩⟩
        show (List.range (min (k + 1) row.length)).filter (cutP row bs ss) = _
        rw [hcut]; simp [qp]
      | false =>
        refine EvF.truthyBool ?_; refine iteF ?_
        refine ⟨⟨⟨_, _, rfl⟩, (e2.trans eT).trans eP⟩, eT.trans eP, ?_⟩
        show (List.range (min (k + 1) row.length)).filter (cutP row bs ss) = _
        rw [hcut]; simp [qp]
    · refine x01 j fun z641 e2 => ?_; clear j; refine x20 z641 fun u1 u2 z642 => ?_; clear z641; subst z642
      have eD := (ee.trans e2).trans (Ext.new (lstV xs' m) nD)
      have oN : At (e'.put D5 (lstV xs' m)) D5 (LstO xs') := ⟨_, put_self .., m, rfl⟩
      have T := T.ext eD
      have fr : Fr L 6 g₈ (e'.put D5 (lstV xs' m)) := fun b o q n => eD _ _ (fr b o q n)
      clear eD ee e2 nD hcc kRow kClash kBehind oB
      generalize e'.put D5 (lstV xs' m) = e₂ at *
      refine EvF.list ?_; refine EvF.args0 ?_; refine ⟨Nat.le_trans (m := 9) (by simp only [List.length_cons, List.length_nil]; decide) (by decide), fun _ _ => ?_⟩
      rename_i aE haE
      have eE := Ext.new (lstV [] 0) haE
      refine .of (.eqLs (R := fun _ (n : Nat) v => IsI n v) (ps := (List.range (min rxs.length row.length)).filter (cutP row bs ss)) (qs := []) EqOn.nat ⟨D5, xs', rfl, oN.ext eE, ha⟩ ⟨aE, [], rfl, ⟨_, put_self .., _, rfl⟩, .nil⟩ ok.cl ?_)
      have T := T.ext eE
      have fr : Fr L 6 g₈ (e₂.put aE (lstV [] 0)) := fun b o q n => eE _ _ (fr b o q n)
      clear eE haE oN
      generalize e₂.put aE (lstV [] 0) = e₃ at *
      have hne : (List.range (min rxs.length row.length)).filter (cutP row bs ss) ≠ [] := by
        refine x32 (ring_cut rfl hrg ((fmem 1).mpr .one) hout) fun i x b hx hb hm2 => ?_
        have hi : i < row.length := by
          rcases Nat.lt_or_ge i row.length with l | l
          · exact l
          · rw [List.getElem?_eq_none l] at hx; cases hx
        refine List.ne_nil_of_mem (a := i) (List.mem_filter.mpr ⟨List.mem_range.mpr (by omega), ?_⟩)
        unfold cutP
        rw [hx, hb]
        exact decide_eq_true (hp.mem_iff.mpr ((hqm _).mpr hm2))
      rw [decide_eq_false hne]
      refine EvF.truthyBool ?_; refine iteF ?_; refine EvF.nil ?_; refine hnQ _ _ ?_; clear hnQ hrQ Qx; refine EvF.nil ?_
      exact ⟨rfl, ⟨_, T, kc1, kc3⟩, fr⟩
  · refine x02 i fun z681 z682 fr => ?_; clear i; subst z681; refine x12 z682 fun c' T d1 d3 => ?_; clear z682
    refine EvF.nil ?_; refine hnQ _ _ ?_; clear hnQ hrQ Qx; refine EvF.consQ fun Qx hnQ hrQ => ?_; refine EvF.ret ?_; refine EvF.cbool ?_; refine hrQ _ _ _ rfl ?_; clear hnQ hrQ Qx
    exact hP _ _ T.k
end Mine
end SFn15a

section SFn15b
open PySem PySem.W PySem.Calls PyProof.Rows PySem.SeqAt
set_option maxRecDepth 100000
set_option maxHeartbeats 4000000
namespace Mine
variable {prog : Program} {w : World} {A : Around} {g : Led} {X : SR} {S : St}
theorem right_tail (ok : Ok A 11) {L : Nat} {row : List Nat} {lots : List (List Int)} {rv lv aT D : Value} {a : Addr} {b : Bool} {found : List Int} {P : Flow → Vars → Led → Prop}
    (T : TB prog w g g L X S row lots rv lv (fun i => if i = 0 then some (.ref X.a) else if i = 1 then some rv else none)) (z : Small S) (hin : ∀ x ∈ row, x < lots.length) (hm : row.length ≤ 5) (hll : lots.length ≤ 5) (hL : LotsOk S lots)
    (fnd : found.Nodup) (fmem : ∀ v, v ∈ found ↔ Reach S row v) (hbt : b = true → outsideOf row found = [] ∧ (S.failed = true → ¬ AllReach S row)) (hbf : b = false → outsideOf row found ≠ [] ∧ S.failed = true ∧ S.clash = litsOf row found (outsideOf row found))
    (hP : ∀ vs g', Fr L 6 g g' → P (.ret (.bool true)) vs g') :
    EvF prog w (KK w.params) A L [(Str.ofString "rule", some (.ref a)), (Str.ofString "lots", some lv), (Str.ofString "trail", some aT), (Str.ofString "boxes", some D), (Str.ofString "stands", some (.bool b)), (Str.ofString "due", none)] (execs (restOf 3) (rightEnv L)) g P := by
  obtain ⟨ra, rxs, rfl, -, oR0, hrx0⟩ := T.r
  obtain ⟨la, lxs, rfl, -, oL0, hlx0⟩ := T.l
  have hsz : sizeLine = 2 ^ 24 := rfl
  have hrl : rxs.length = row.length := hrx0.len.symm
  have kRow : At g (L + 1 + 1) (CellO (some (.ref ra))) := T.F 1 (by decide)
  show EvF _ _ _ _ _ _ (execs (_ :: _) _) _ _
  refine EvF.consQ fun Qx hnQ hrQ => ?_
  refine EvF.assignS ?_
  refine EvF.mono (P := fun v vs' g' => vs' = ([(Str.ofString "rule", some (.ref a)), (Str.ofString "lots", some (.ref la)), (Str.ofString "trail", some aT), (Str.ofString "boxes", some D), (Str.ofString "stands", some (.bool b)), (Str.ofString "due", none)] : Vars) ∧ Ext g g' ∧ Ls (fun _ => IsI) g' (reachedL row lots) v) ?_ (fun v vs' g₂ p => ?_)
  · refine EvF.ifExp ?_; refine EvF.test ?_; refine' EvF.cell ?h1 ?_; (case h1 => assumption); refine EvF.list ?_; refine EvF.args0 ?_; refine ⟨Nat.le_trans (m := 9) (by simp only [List.length_cons, List.length_nil]; decide) (by decide), fun _ _ => ?_⟩
    rename_i ae hae
    have e1 := Ext.new (lstV [] 0) hae
    refine .of (.neLs (R := fun _ => IsN) (ps := row) (qs := []) EqOn.nat ⟨ra, rxs, rfl, oR0.ext e1, hrx0⟩ ⟨ae, [], rfl, ⟨_, put_self .., _, rfl⟩, .nil⟩ ok.cl ?_)
    have kRow := kRow.ext e1
    have hR1 := T.r.ext e1
    have hL1 := T.l.ext e1
    generalize g.put ae (lstV [] 0) = g₁ at *
    refine EvF.truthyBool ?_
    by_cases q0 : row = []
    · subst q0
      rw [show (!decide (([] : List Nat) = [])) = false from rfl, if_neg (by decide)]
      refine EvF.list ?_; refine EvF.args0 ?_; refine ⟨Nat.le_trans (m := 9) (by simp only [List.length_cons, List.length_nil]; decide) (by decide), fun _ _ => ?_⟩
      rename_i a2 ha2
      exact ⟨rfl, e1.trans (Ext.new _ ha2), a2, [], rfl, ⟨_, put_self .., _, rfl⟩, .nil⟩
    · rw [show (!decide (row = [])) = true by simp [q0], if_pos rfl]
      refine EvF.call ?_; refine EvF.top (by rfl) ?_; refine ⟨by first | exact KeepOk.b | exact KeepOk.t | exact KeepOk.k (by rfl), ?_⟩; refine EvF.args1 ?_; refine' EvF.cell ?h1 ?_; (case h1 => assumption); refine EvF.args1 ?_; refine EvF.loc (.tail _ (.head _)) ?_; refine EvF.args0 ?_
      have h0 : 0 < row.length := List.length_pos_iff.mpr q0
      refine .of ((reached_ok (ok.le (by omega)) (let ⟨a, xs, h0, h1, h2, h3⟩ := hR1; ⟨a, xs, h0, h2, h3⟩) hL1.ls hin (by omega) (by omega) h0).mono fun r g' hr => ?_)
      refine x01 hr ?_; clear hr; intro e2 hr
      exact ⟨rfl, e1.trans e2, hr⟩
  refine x02 p fun z61 e2 hv => ?_; clear p; subst z61
  have T := T.ext e2
  obtain ⟨va, vxs, rfl, oV0, hvx⟩ := hv
  have hvl : vxs.length = (reachedL row lots).length := hvx.len.symm
  have hrle := reachedL_le row lots
  refine EvF.assignName ?_
  refine EvF.storeCell (T.F 2 (by decide)) fun o ho => ?_
  have oV : At (g₂.put (L + 1 + 2) o) va (LstO vxs) := oV0.off ((T.F 2 (by decide)).ne oV0 cell_lst).symm
  have T := T.putC (i := 2) (by decide) ho
  clear oV0 ho
  generalize g₂.put (L + 1 + 2) o = g₃ at *
  have kRow : At g₃ (L + 1 + 1) (CellO (some (.ref ra))) := T.F 1 (by decide)
  have kReached : At g₃ (L + 1 + 1 + 1) (CellO (some (.ref va))) := T.F 2 (by decide)
  have kStore : At g₃ (L + 1) (CellO (some (.ref X.a))) := T.F 0 (by decide)
  obtain ⟨ra', rxs', hra, -, oR, hrx⟩ := T.r
  cases hra
  have hrl' : rxs'.length = row.length := hrx.len.symm
  have i1 := T.h.i
  have i2 := T.h.x
  have b1 : vxs.length < 2 ^ 62 := (by omega)
  have b2 : rxs'.length < 2 ^ 62 := (bits (Nat.le_trans (Nat.le_of_eq (by assumption)) (Nat.le_trans (m := 5) (by assumption) (by decide))))
  refine hnQ _ _ ?_; clear hnQ hrQ Qx; refine EvF.consQ fun Qx hnQ hrQ => ?_; refine EvF.ifS ?_; refine EvF.test ?_; refine EvF.call ?_; refine EvF.boot (by rfl) (bv_len) ?_; refine ⟨by first | exact KeepOk.b | exact KeepOk.t | exact KeepOk.k (by rfl), ?_⟩; refine EvF.args1 ?_; refine' EvF.cell ?h1 ?_; (case h1 => assumption); refine EvF.args0 ?_; refine' EvF.of (.lenL ?h1 ?h2 fun _ => ?_); (case h1 => assumption); (case h2 => assumption); refine EvF.call ?_; refine EvF.boot (by rfl) (bv_len) ?_; refine ⟨by first | exact KeepOk.b | exact KeepOk.t | exact KeepOk.k (by rfl), ?_⟩; refine EvF.args1 ?_; refine' EvF.cell ?h1 ?_; (case h1 => assumption); refine EvF.args0 ?_; refine' EvF.of (.lenL ?h1 ?h2 fun _ => ?_); (case h1 => assumption); (case h2 => assumption); refine EvF.eqI ?_; refine EvF.truthyBool ?_
  have hmem : 0 < row.length → ∀ v, v ∈ reachedL row lots ↔ v ∈ found := fun h0 v => (mem_reachedL hL hin h0 v).trans (fmem v).symm
  have hAR := allReach_iff fmem
  by_cases q : ((vxs.length : Int) = (rxs'.length : Int))
  · rw [if_pos (show ((vxs.length : Int) == (rxs'.length : Int)) = true by rw [beq_iff_eq]; exact q)]
    have hall : AllReach S row := by
      by_cases h0 : 0 < row.length
      · exact (reachedL_full hL hin h0).mp (by omega)
      · intro v v1 v2; omega
    have hb : b = true := by
      cases b with
      | true => rfl
      | false => exact absurd (hAR.mp hall) (hbf rfl).1
    subst hb
    have hfl : S.failed = false := by
      cases e : S.failed with
      | false => rfl
      | true => exact absurd hall ((hbt rfl).2 e)
    refine EvF.consQ fun Qx hnQ hrQ => ?_; refine EvF.ret ?_; refine EvF.andVal ?_; refine EvF.compare ?_; refine EvF.loc (.tail _ (.tail _ (.tail _ (.tail _ (.head _))))) ?_; refine EvF.cbool ?_
    refine .of (.eqBB ?_)
    have i1 := T.h.i
    have i2 := T.h.x
    refine EvF.truthyBool ?_
    show EvF _ _ _ _ _ _ (eval _ _) _ _
    refine EvF.notVal ?_
    refine EvF.attr ?_; refine' EvF.cell ?h1 ?_; (case h1 => assumption); refine EvF.of (.getOwn (by assumption) (by assumption) (by rfl) (by rfl) (by rfl) ?_); refine EvF.truthyBool ?_; refine hrQ _ _ _ rfl ?_; clear hnQ hrQ Qx; refine hrQ _ _ _ rfl ?_; clear hnQ hrQ Qx
    rw [hfl]
    exact hP _ _ T.k
  · rw [if_neg (show ¬ (((vxs.length : Int) == (rxs'.length : Int)) = true) by rw [beq_iff_eq]; exact q)]
    have hna : ¬ AllReach S row := fun h => by
      by_cases h0 : 0 < row.length
      · exact q (by have := (reachedL_full hL hin h0).mpr h; omega)
      · exact q (by omega)
    have h0 : 0 < row.length := by
      rcases Nat.eq_zero_or_pos row.length with e | e
      · exact absurd (fun v v1 v2 => by omega) hna
      · exact e
    have hb : b = false := by
      cases b with
      | false => rfl
      | true => exact absurd (hAR.mpr (hbt rfl).1) hna
    subst hb
    refine x02 (hbf rfl) fun hout hfl hcl => ?_
    obtain ⟨ca, cxs, hcv, oC, hcx⟩ := T.h.rc
    refine EvF.nil ?_; refine hnQ _ _ ?_; clear hnQ hrQ Qx; refine EvF.consQ fun Qx hnQ hrQ => ?_; refine EvF.assignS ?_; refine EvF.call ?_; refine EvF.boot (by rfl) (bv_sorted) ?_; refine ⟨by first | exact KeepOk.b | exact KeepOk.t | exact KeepOk.k (by rfl), ?_⟩; refine EvF.args1 ?_; refine EvF.call ?_; refine EvF.boot (by rfl) (bv_set) ?_; refine ⟨by first | exact KeepOk.b | exact KeepOk.t | exact KeepOk.k (by rfl), ?_⟩; refine EvF.args1 ?_; refine EvF.attr ?_; refine' EvF.cell ?h1 ?_; (case h1 => assumption)
    refine EvF.of (.getOwn i1 i2 (by rfl) (by rfl) (by rw [hcv]; rfl) ?_)
    rw [hcv]
    refine EvF.args0 ?_
    have hfr : ∀ v ∈ found, 1 ≤ v ∧ v ≤ row.length := fun v hv => by rcases ((fmem v).mp hv).near with rfl | k <;> omega
    have few6 := lits_few hm fnd hfr
    have few : ∀ ps' : List (Int × Int), ps'.length ≤ 6 → ∀ qs : List (Int × Int), qs.Nodup → (∀ q ∈ qs, q ∈ ps') → qs.length ≤ 17 := fun ps' h qs nd m => Nat.le_trans (nodup_len nd m) (Nat.le_trans h (by decide))
    refine .of (.setLitsT ok.h oC hcx ok.cl (few _ (by rw [hcl]; exact few6)) fun Sa o qs hSa hSO hqn hqm => ?_)
    have eS := Ext.new o hSa
    have hSO' : At (g₃.put Sa o) Sa (SetO w (Lit (g₃.put Sa o)) qs) := ⟨o, put_self .., hSO.mono fun q v r => Stays.lit.go r eS⟩
    have hql : qs.length ≤ 6 := Nat.le_trans (nodup_len hqn fun q m => (hqm q).mp m) (by rw [hcl]; exact few6)
    refine EvF.args0 ?_
    refine .of (.sortedLits ok.h hSO' (by omega) fun D1 ss1 vs1 c1 hD1 hp1 hs1 ha1 => ?_)
    have e1 := eS.trans (Ext.new (lstV vs1 c1) hD1)
    have oC1 : At ((g₃.put Sa o).put D1 (lstV vs1 c1)) D1 (LstO vs1) := ⟨_, put_self .., c1, rfl⟩
    have ha1 : All2 (Lit ((g₃.put Sa o).put D1 (lstV vs1 c1))) ss1 vs1 := Stays.lit.all ha1 (Ext.new _ hD1).kp
    have T := T.ext e1
    have oV := oV.ext e1
    clear hSO' hSO eS hSa hD1 e1 oC hcx hcv kRow kReached kStore oR hrx hrl' i1 i2 b2
    generalize (g₃.put Sa o).put D1 (lstV vs1 c1) = g₄ at *
    refine EvF.assignName ?_
    refine EvF.storeCell (T.F 3 (by decide)) fun o2 ho2 => ?_
    have kC := T.F 3 (by decide)
    have oV := oV.off (kC.ne oV cell_lst).symm (o := o2)
    have oC1 := oC1.off (kC.ne oC1 cell_lst).symm (o := o2)
    have ha1 := Stays.lit.all ha1 (Kp.cell kC (o := o2))
    have T := T.putC (i := 3) (by decide) ho2
    clear kC ho2
    generalize g₄.put (L + 1 + 3) o2 = g₅ at *
    refine hnQ _ _ ?_; clear hnQ hrQ Qx
    exact right_neg ok (g := g₅) ⟨T.F, T.h, T.r, T.l, fun b o q _ => q⟩ rfl rfl rfl rfl z hin hm h0 hL fnd fmem hout hfl oV hvx oC1 ha1 hp1 hqn (fun q => by rw [hqm, hcl]) hs1 fun vs g' k => hP _ _ fun b o q n => k b o (T.k b o q n) n
end Mine
end SFn15b

section SFn15
open PySem PySem.W PySem.Calls PyProof.Rows PySem.SeqAt
set_option maxRecDepth 100000
set_option maxHeartbeats 4000000
namespace Mine
variable {prog : Program} {w : World} {A : Around} {g : Led} {X : SR} {S : St}
theorem is_right_ok (ok : Ok A 12) {a dx sc : Addr} {row : List Nat} {lots : List (List Int)} {rv lv : Value} (hc : CircAt w g a dx sc row) (h : StoreAt prog w g X S) (z : Small S) (hin : ∀ x ∈ row, x < lots.length) (hm : row.length ≤ 5) (hll : lots.length ≤ 5)
    (hrow : RowB IsN X.fp g row rv) (hlots : LotsB X.fp g lots lv) (hL : LotsOk S lots) (hf : S.failed = true → ¬ AllReach S row) :
    Ev prog w (KK w.params) A (PySem.call (.ref 380) [.ref X.a, .ref a, rv, lv] []) g fun r g' => r = .bool true ∧ ∃ S', Turned prog w g X g' S' X.kvs.length ∧ S'.doms = S.doms ∧ S'.firsts = S.firsts ∧ S'.trail = S.trail ∧ S'.marks = S.marks ∧ (S'.failed = true ↔ ¬ AllReach S row) := by
  refine Ev.defV ok [("store", .ref X.a), ("rule", .ref a), ("row", rv), ("lots", lv)] ["rule", "lots", "trail", "boxes", "stands", "due"] [("rule", some (.ref a)), ("lots", some lv), ("trail", none), ("boxes", none), ("stands", none), ("due", none)] (by rfl) (fun L g₁ A ok hL0 e hcell => ?_)
  have hF : FC g₁ L 6 (fun i => if i = 0 then some (.ref X.a) else if i = 1 then some rv else none) := by
    intro i hi
    have : i = 0 ∨ i = 1 ∨ i = 2 ∨ i = 3 ∨ i = 4 ∨ i = 5 := (by omega)
    rcases this with rfl | rfl | rfl | rfl | rfl | rfl
    · exact (hcell "store" (L + 1) (by rfl)).2
    · exact (hcell "row" (L + 1 + 1) (by rfl)).2
    · exact (hcell "reached" (L + 1 + 1 + 1) (by rfl)).2
    · exact (hcell "clash" (L + 1 + 1 + 1 + 1) (by rfl)).2
    · exact (hcell "beyond" (L + 1 + 1 + 1 + 1 + 1) (by rfl)).2
    · exact (hcell "behind" (L + 1 + 1 + 1 + 1 + 1 + 1) (by rfl)).2
  have hFn : ∀ i : Nat, i < 6 → g (L + 1 + i) = none := by
    intro i hi
    have : i = 0 ∨ i = 1 ∨ i = 2 ∨ i = 3 ∨ i = 4 ∨ i = 5 := (by omega)
    rcases this with rfl | rfl | rfl | rfl | rfl | rfl
    · exact (hcell "store" (L + 1) (by rfl)).1
    · exact (hcell "row" (L + 1 + 1) (by rfl)).1
    · exact (hcell "reached" (L + 1 + 1 + 1) (by rfl)).1
    · exact (hcell "clash" (L + 1 + 1 + 1 + 1) (by rfl)).1
    · exact (hcell "beyond" (L + 1 + 1 + 1 + 1 + 1) (by rfl)).1
    · exact (hcell "behind" (L + 1 + 1 + 1 + 1 + 1 + 1) (by rfl)).1
  clear hcell
  have h₁ := h.ext e
  have kStore : At g₁ (L + 1) (CellO (some (.ref X.a))) := hF 0 (by decide)
  have i1 := h₁.i
  have i2 := h₁.x
  have i3 := h₁.t
  have hsz : sizeLine = 2 ^ 24 := rfl
  have z1 := z.1; have z3 := z.2.2.1
  have hrow₁ := hrow.ext e
  have hlots₁ := hlots.ext e
  have hc₁ := hc.ext e
  have ts1 : X.ts.length = S.trail.length := h₁.rt.len.symm
  refine EvF.consQ fun Qx hnQ hrQ => ?_; refine EvF.assignSwap ?_; refine EvF.tuple ?_; refine EvF.args1 ?_; refine EvF.call ?_; refine EvF.boot (by rfl) (bv_list) ?_; refine ⟨by first | exact KeepOk.b | exact KeepOk.t | exact KeepOk.k (by rfl), ?_⟩; refine EvF.args1 ?_; refine EvF.attr ?_; refine' EvF.cell ?h1 ?_; (case h1 => assumption); refine EvF.of (.getOwn (by assumption) (by assumption) (by rfl) (by rfl) (by rfl) ?_); refine EvF.args0 ?_
  refine .of (.listOfL i3 (line (Nat.le_trans (Nat.le_of_eq (by assumption)) (Nat.le_trans (m := 100) (by assumption) (by decide)))) fun aT nT hT => ?_)
  have eT := Ext.new (lstV X.ts nT) hT
  have oT : At (g₁.put aT (lstV X.ts nT)) aT (LstO X.ts) := ⟨_, put_self .., _, rfl⟩
  have bT : aT ∉ X.fp := by
    have := h₁.fresh hT
    simp only [SR.fp, List.mem_cons, List.not_mem_nil, or_false, not_or]
    exact ⟨this.2.1, this.2.2.1, this.2.2.2.1, this.2.2.2.2.1, this.2.2.2.2.2.1, this.2.2.2.2.2.2⟩
  have h₂ := h₁.ext eT
  have hF := hF.ext eT
  have hrow₂ := hrow₁.ext eT
  have hlots₂ := hlots₁.ext eT
  have hc₂ := hc₁.ext eT
  have e₂ := e.trans eT
  clear hrow₁ hlots₁ hc₁ h₁ i1 i2 i3 kStore eT hT e
  generalize g₁.put aT (lstV X.ts nT) = g₂ at *
  have kStore : At g₂ (L + 1) (CellO (some (.ref X.a))) := hF 0 (by decide)
  have i1 := h₂.i
  have i2 := h₂.x
  refine EvF.args1 ?_
  refine EvF.compL (γ := List (Int × Int)) ["x"] ok ?_
  refine EvF.call ?_; refine EvF.boot (by rfl) (bv_range) ?_; refine ⟨by first | exact KeepOk.b | exact KeepOk.t | exact KeepOk.k (by rfl), ?_⟩; refine EvF.args1 ?_; refine EvF.meth0 ?_; refine' EvF.cell ?h1 ?_; (case h1 => assumption); refine EvF.of (.method (by assumption) (by assumption) (by rfl) (by rfl) ?_); refine ⟨by first | exact KeepOk.b | exact KeepOk.t | exact KeepOk.k (by rfl), ?_⟩
  refine .of ((size_ok (ok.le (by omega)) h₂ z).mono fun r g₃ hr => ?_)
  refine x01 hr fun e3 z1 => ?_; clear hr; refine x10 z1 fun tn z2 => ?_; clear z1; subst z2
  refine EvF.args0 ?_; refine EvF.range1 fun _ _ _ _ => ?_
  rename_i rr t3 t4 hrr
  have hrg : (g₃.put rr (rngV 0 (S.doms.length : Int) t3 tn t4)) rr = some (rngV 0 (S.doms.length : Int) t3 tn t4) := put_self ..
  have e4 := e3.trans (Ext.new (rngV 0 (S.doms.length : Int) t3 tn t4) hrr)
  have h₄ := h₂.ext e4
  have hF := hF.ext e4
  have hrow₄ := hrow₂.ext e4
  have hlots₄ := hlots₂.ext e4
  have hc₄ := hc₂.ext e4
  have oT := oT.ext e4
  have e₄ := e₂.trans e4
  clear h₂ hrow₂ hlots₂ hc₂ e₂ i1 i2 kStore hrr
  generalize g₃.put rr (rngV 0 (S.doms.length : Int) t3 tn t4) = g₄ at *
  have kStore : At g₄ (L + 1) (CellO (some (.ref X.a))) := hF 0 (by decide)
  clear e3 e4
  refine ⟨_, _, _, fun k => S.doms.take k, Dom, Src.rng hrg (by omega) (by omega) (bitsN) (bitsI (Nat.le_trans (m := 100) (by assumption) (by decide))), rfl, fun k => by rw [List.length_take]; exact line2 (Nat.le_trans (m := 100) (by assumption) (by decide)), fun C e₁ ee hcc => ⟨fun k vs e' => (∃ u, vs = ([("x", u)] : Vars)) ∧ Ext e₁ e', Ext, ⟨⟨_, rfl⟩, Ext.refl _⟩, fun k vs e' j b m => (nomatch m), fun e e' b v x r => Stays.dom.go r x, fun k y vs e' hk hy j => ?_, fun vs e' ys D m j nD ha => ?_⟩⟩
  · refine x01 j fun z21 e2 => ?_; clear j; refine x10 z21 fun u1 z22 => ?_; clear z21; subst z22
    refine x10 hy fun tx z41 => ?_; clear hy; subst z41
    have hkm : k < S.doms.length := (lt0 (by assumption))
    obtain ⟨d, hd⟩ : ∃ d, S.doms[k]? = some d := ⟨_, List.getElem?_eq_getElem hkm⟩
    have eo := ee.trans e2
    have h₅ := h₄.ext eo
    have i1 := h₅.i
    have i2 := h₅.x
    have kStore := kStore.ext eo
    refine EvF.bind ?_; refine EvF.assignName ?_; refine EvF.store .head ?_; refine EvF.tests0 ?_; refine iteT ?_; refine EvF.meth ?_; refine' EvF.cell ?h1 ?_; (case h1 => assumption); refine EvF.of (.method (by assumption) (by assumption) (by rfl) (by rfl) ?_); refine ⟨by first | exact KeepOk.b | exact KeepOk.t | exact KeepOk.k (by rfl), ?_⟩; refine EvF.args1 ?_; refine EvF.loc (.head _) ?_; refine EvF.args0 ?_; refine EvF.callApp ?_
    refine .of ((dom_ok (ok.le (by omega)) h₅ z hd ⟨_, by rw [Int.zero_add]⟩).mono fun r g₆ hr => ?_)
    refine x01 hr ?_; clear hr; intro e6 hr
    exact ⟨⟨⟨_, rfl⟩, e2.trans e6⟩, e6, d, take_succ_of hd, hr⟩
  · refine x01 j fun z81 e2 => ?_; clear j; refine x10 z81 fun u1 z82 => ?_; clear z81; subst z82
    have hfull : S.doms.take ((S.doms.length : Int) - 0).toNat = S.doms := List.take_of_length_le (ge0)
    have ha : All2 (Dom e') S.doms ys := by simpa only [hfull] using ha
    have eD := (ee.trans e2).trans (Ext.new (lstV ys m) nD)
    have bD : D ∉ X.fp := by
      have := ((h₄.ext ee).ext e2).fresh nD
      simp only [SR.fp, List.mem_cons, List.not_mem_nil, or_false, not_or]
      exact ⟨this.2.1, this.2.2.1, this.2.2.2.1, this.2.2.2.2.1, this.2.2.2.2.2.1, this.2.2.2.2.2.2⟩
    have oD : At (e'.put D (lstV ys m)) D (LstO ys) := ⟨_, put_self .., m, rfl⟩
    have ha := Stays.dom.all ha (Ext.new (lstV ys m) nD).kp
    have h₅ := h₄.ext eD
    have hF := hF.ext eD
    have hrow₅ := hrow₄.ext eD
    have hlots₅ := hlots₄.ext eD
    have hc₅ := hc₄.ext eD
    have oT := oT.ext eD
    have e₅ := e₄.trans eD
    clear h₄ hrow₄ hlots₄ hc₄ e₄ kStore nD eD hrg ee hcc e2
    generalize e'.put D (lstV ys m) = g₅ at *
    refine EvF.args0 ?_; refine ⟨Nat.le_trans (m := 9) (by simp only [List.length_cons, List.length_nil]; decide) (by decide), fun _ _ => ?_⟩; refine' EvF.of (.items (Ok.h (by assumption)) ?h1 ?h2 ?_); (case h1 => exact ⟨_, put_self .., _, rfl⟩); (case h2 => rfl); refine EvF.order1 ?_; refine EvF.bindNm ?_; refine EvF.store (.tail (.tail (.tail .head))) ?_; refine EvF.order1 ?_; refine EvF.bindNm ?_; refine EvF.store (.tail (.tail .head)) ?_; refine EvF.order0 ?_; refine hnQ _ _ ?_; clear hnQ hrQ Qx; refine EvF.consQ fun Qx hnQ hrQ => ?_; refine EvF.assignS ?_; refine EvF.meth ?_; refine EvF.loc (.head _) ?_
    rename_i tt htt
    have eU := Ext.new (tupV [.ref aT, .ref D] 0) htt
    have h₅ := h₅.ext eU
    have hF := hF.ext eU
    have hrow₅ := hrow₅.ext eU
    have hlots₅ := hlots₅.ext eU
    have hc₅ := hc₅.ext eU
    have oT := oT.ext eU
    have oD := oD.ext eU
    have ha := Stays.dom.all ha eU.kp
    have e₅ := e₅.trans eU
    clear eU htt
    generalize g₅.put tt (tupV [.ref aT, .ref D] 0) = g₅ at *
    have i1 := hc₅.i
    refine x20 hc₅.d fun cn cs i2 => ?_
    have kStore : At g₅ (L + 1) (CellO (some (.ref X.a))) := hF 0 (by decide)
    refine EvF.of (.method (by assumption) (by assumption) (by rfl) (by rfl) ?_); refine ⟨by first | exact KeepOk.b | exact KeepOk.t | exact KeepOk.k (by rfl), ?_⟩; refine EvF.args1 ?_; refine' EvF.cell ?h1 ?_; (case h1 => assumption); refine EvF.args0 ?_; refine EvF.callApp ?_
    have hrd : ∀ x ∈ row, x < S.doms.length := fun x hx => by rw [hL.1]; exact hin x hx
    refine .of ((reach_ok (ok.le (by omega)) hc₅ h₅ z hrd (by omega)).mono fun r g₆ hr => ?_)
    refine x14 hr ?_; clear hr; intro found fnd fl fmem frng hr
    have cellFp : ∀ i, i < 6 → ∀ u, At g₅ (L + 1 + i) (CellO u) → L + 1 + i ∉ X.fp := fun i hi u x m => h₅.noCell x (.tail _ m)
    have hR : ∃ (S' : St) (b : Bool), r = .bool b ∧ TurnedT prog w g₅ X g₆ S' X.kvs.length ∧ S'.doms = S.doms ∧ S'.firsts = S.firsts ∧ S'.trail = S.trail ∧ S'.marks = S.marks ∧ (b = true → outsideOf row found = [] ∧ S'.failed = S.failed) ∧ (b = false → outsideOf row found ≠ [] ∧ S'.failed = true ∧ S'.clash = litsOf row found (outsideOf row found)) := by
      rcases hr with ⟨q1, q2, q3⟩ | ⟨q1, q2, q3⟩
      · exact ⟨S, true, q2, q3, rfl, rfl, rfl, rfl, fun _ => ⟨q1, rfl⟩, fun x => by cases x⟩
      · exact ⟨_, false, q2, q3, rfl, rfl, rfl, rfl, (fun x => by cases x), fun _ => ⟨q1, rfl, rfl⟩⟩
    clear hr
    refine x25 hR fun S' b z141 hT' d1 d2 d3 z142 => ?_; clear hR; subst z141; refine x02 z142 fun d4 hbt hbf => ?_; clear z142
    obtain ⟨X', hX', hXa, st, hkv, hts⟩ := hT'
    have kp : Kp g₅ g₆ := fun b o ho ht => st.keep b o ho fun m => by
      refine x20 ht fun xs n z181 => ?_; clear ht; subst z181
      simp only [SR.fp, List.mem_cons, List.not_mem_nil, or_false] at m
      rcases m with rfl | rfl | rfl | rfl | rfl | rfl
      · obtain ⟨o', ho', q⟩ := h₅.x; rw [ho] at ho'; cases ho'; have := ns_cls q; simp at this
      · obtain ⟨o', ho', q⟩ := h₅.d; rw [ho] at ho'; cases ho'; have := lst_cls q; simp at this
      · obtain ⟨o', ho', q⟩ := h₅.f; rw [ho] at ho'; cases ho'; have := lst_cls q; simp at this
      · obtain ⟨o', ho', q⟩ := h₅.t; rw [ho] at ho'; cases ho'; have := lst_cls q; simp at this
      · obtain ⟨o', ho', q⟩ := h₅.m; rw [ho] at ho'; cases ho'; have := lst_cls q; simp at this
      · obtain ⟨o', ho', _, _, q, _⟩ := h₅.n; rw [ho] at ho'; cases ho'; have := q.1; simp at this
    have hF := hF.keep st.keep cellFp
    have hrow₆ : RowB IsN [] g₆ row rv := hrow₅.keep st.keep (fun _ m => (nomatch m))
    have hlots₆ : LotsB [] g₆ lots lv := hlots₅.keep st.keep (fun _ m => (nomatch m))
    have oT : At g₆ aT (LstO X'.ts) := by obtain ⟨o, ho, q⟩ := oT; rw [hts]; exact ⟨o, st.keep _ _ ho bT, q⟩
    have oD : At g₆ D (LstO ys) := by obtain ⟨o, ho, q⟩ := oD; exact ⟨o, st.keep _ _ ho bD, q⟩
    have ha : All2 (Dom g₆) S'.doms ys := by rw [d1]; exact Stays.dom.all ha kp
    have st₅ := (Step.ext e₅ (fp := X.fp)).trans st
    have z' : Small S' := by unfold Small; rw [d1, d2, d3, d4]; exact z
    have fin : ∀ g', Ext g₆ g' → Turned prog w g X g' S' X.kvs.length := fun g' e' => ⟨X', hX'.ext e', hXa, st₅.trans (Step.ext e'), hkv⟩
    have hLoff : LotsOk S' lots := by unfold LotsOk; rw [d1]; exact hL
    have hAR : AllReach S row ↔ outsideOf row found = [] := allReach_iff fmem
    have hreach' : ∀ v, Reach S' row v ↔ Reach S row v := reach_doms d1
    have hgoal : S'.failed = true ↔ ¬ AllReach S row := by
      cases b with
      | true =>
        refine x01 (hbt rfl) fun q1 q2 => ?_
        rw [q2]
        exact ⟨hf, fun q => absurd (hAR.mpr q1) q⟩
      | false =>
        refine x02 (hbf rfl) fun q1 q2 _ => ?_
        exact ⟨fun _ q => q1 (hAR.mp q), fun _ => q2⟩
    have kStore : At g₆ (L + 1) (CellO (some (.ref X'.a))) := by rw [hXa]; exact hF 0 (by decide)
    have i1 := hX'.i
    have i2 := hX'.x
    have i3 := hX'.t
    have ts1 : X'.ts.length = S'.trail.length := hX'.rt.len.symm
    have z3' := z'.2.2.1
    refine EvF.assignName ?_; refine EvF.store (.tail (.tail (.tail (.tail .head)))) ?_; refine hnQ _ _ ?_; clear hnQ hrQ Qx; refine EvF.consQ fun Qx hnQ hrQ => ?_; refine EvF.ifS ?_; refine EvF.testOr ?_; refine EvF.test ?_; refine EvF.call ?_; refine EvF.boot (by rfl) (bv_list) ?_; refine ⟨by first | exact KeepOk.b | exact KeepOk.t | exact KeepOk.k (by rfl), ?_⟩; refine EvF.args1 ?_; refine EvF.attr ?_; refine' EvF.cell ?h1 ?_; (case h1 => assumption); refine EvF.of (.getOwn (by assumption) (by assumption) (by rfl) (by rfl) (by rfl) ?_); refine EvF.args0 ?_
    refine .of (.listOfL i3 (line (Nat.le_trans (Nat.le_of_eq (by assumption)) (Nat.le_trans (m := 100) (by assumption) (by decide)))) fun aT2 nT2 hT2 => ?_)
    have eT := Ext.new (lstV X'.ts nT2) hT2
    have oT2 : At (g₆.put aT2 (lstV X'.ts nT2)) aT2 (LstO X'.ts) := ⟨_, put_self .., _, rfl⟩
    have h₇ := hX'.ext eT
    have hF := hF.ext eT
    have hrow₇ := hrow₆.ext eT
    have hlots₇ := hlots₆.ext eT
    have oT := oT.ext eT
    have oD := oD.ext eT
    have ha := Stays.dom.all ha eT.kp
    have e₇ := eT
    clear eT hT2 i1 i2 i3 kStore
    generalize g₆.put aT2 (lstV X'.ts nT2) = g₇ at *
    refine EvF.loc (.tail _ (.tail _ (.head _))) ?_
    refine .of (.neSame oT2 oT (Nat.lt_of_le_of_lt (Nat.le_add_right _ 0) ok.cl) ?_)
    have hT : TB prog w g₇ g₇ L X' S' row lots rv lv (fun i => if i = 0 then some (.ref X'.a) else if i = 1 then some rv else none) := ⟨by rw [hXa]; exact hF, h₇, hrow₇, hlots₇, fun b o q _ => q⟩
    clear hrow₆ hlots₆ hrow₇ hlots₇ oT oT2
    have kStore : At g₇ (L + 1) (CellO (some (.ref X'.a))) := hT.F 0 (by decide)
    have i1 := h₇.i
    have i2 := h₇.x
    have z1' := z'.1
    refine EvF.truthyBool ?_; refine EvF.test ?_
    refine EvF.compL (γ := List (Int × Int)) ["x"] ok ?_
    refine EvF.call ?_; refine EvF.boot (by rfl) (bv_range) ?_; refine ⟨by first | exact KeepOk.b | exact KeepOk.t | exact KeepOk.k (by rfl), ?_⟩; refine EvF.args1 ?_; refine EvF.meth0 ?_; refine' EvF.cell ?h1 ?_; (case h1 => assumption); refine EvF.of (.method (by assumption) (by assumption) (by rfl) (by rfl) ?_); refine ⟨by first | exact KeepOk.b | exact KeepOk.t | exact KeepOk.k (by rfl), ?_⟩
    refine .of ((size_ok (ok.le (by decide)) h₇ z').mono fun r g₈ hr => ?_)
    refine x01 hr fun e3 z401 => ?_; clear hr; refine x10 z401 fun tn z402 => ?_; clear z401; subst z402
    refine EvF.args0 ?_; refine EvF.range1 fun _ _ _ _ => ?_
    rename_i rr t3 t4 hrr
    have hrg : (g₈.put rr (rngV 0 (S'.doms.length : Int) t3 tn t4)) rr = some (rngV 0 (S'.doms.length : Int) t3 tn t4) := put_self ..
    have e4 := e3.trans (Ext.new (rngV 0 (S'.doms.length : Int) t3 tn t4) hrr)
    have T9 := hT.ext e4
    have oD := oD.ext e4
    have ha := Stays.dom.all ha e4.kp
    clear e3 e4 i1 i2 kStore hrr hF
    generalize g₈.put rr (rngV 0 (S'.doms.length : Int) t3 tn t4) = g₉ at *
    have kStore : At g₉ (L + 1) (CellO (some (.ref X'.a))) := T9.F 0 (by decide)
    refine ⟨_, _, _, fun k => S'.doms.take k, Dom, Src.rng hrg (by omega) (by omega) (bitsN) (bitsI (Nat.le_trans (m := 100) (by assumption) (by decide))), rfl, fun k => by rw [List.length_take]; exact line2 (Nat.le_trans (m := 100) (by assumption) (by decide)), fun C e₁ ee hcc => ⟨fun k vs e' => (∃ u, vs = ([("x", u)] : Vars)) ∧ Ext e₁ e', Ext, ⟨⟨_, rfl⟩, Ext.refl _⟩, fun k vs e' j b m => (nomatch m), fun e e' b v x r => Stays.dom.go r x, fun k y vs e' hk hy j => ?_, fun vs e' ys2 D2 m j nD ha2 => ?_⟩⟩
    · refine x01 j fun z421 e2 => ?_; clear j; refine x10 z421 fun u1 z422 => ?_; clear z421; subst z422
      refine x10 hy fun tx z441 => ?_; clear hy; subst z441
      have hkm : k < S'.doms.length := (lt0 (by assumption))
      obtain ⟨d, hd⟩ : ∃ d, S'.doms[k]? = some d := ⟨_, List.getElem?_eq_getElem hkm⟩
      have eo := ee.trans e2
      have h₅ := T9.h.ext eo
      have i1 := h₅.i
      have i2 := h₅.x
      have kStore := kStore.ext eo
      refine EvF.bind ?_; refine EvF.assignName ?_; refine EvF.store .head ?_; refine EvF.tests0 ?_; refine iteT ?_; refine EvF.meth ?_; refine' EvF.cell ?h1 ?_; (case h1 => assumption); refine EvF.of (.method (by assumption) (by assumption) (by rfl) (by rfl) ?_); refine ⟨by first | exact KeepOk.b | exact KeepOk.t | exact KeepOk.k (by rfl), ?_⟩; refine EvF.args1 ?_; refine EvF.loc (.head _) ?_; refine EvF.args0 ?_; refine EvF.callApp ?_
      refine .of ((dom_ok (ok.le (by decide)) h₅ z' hd ⟨_, by rw [Int.zero_add]⟩).mono fun r g₆ hr => ?_)
      refine x01 hr ?_; clear hr; intro e6 hr
      exact ⟨⟨⟨_, rfl⟩, e2.trans e6⟩, e6, d, take_succ_of hd, hr⟩
    refine x01 j fun z481 e2 => ?_; clear j; refine x10 z481 fun u1 z482 => ?_; clear z481; subst z482
    have hfull : S'.doms.take ((S'.doms.length : Int) - 0).toNat = S'.doms := List.take_of_length_le (ge0)
    have ha2 : All2 (Dom e') S'.doms ys2 := by simpa only [hfull] using ha2
    have eD := (ee.trans e2).trans (Ext.new (lstV ys2 m) nD)
    have oD2 : At (e'.put D2 (lstV ys2 m)) D2 (LstO ys2) := ⟨_, put_self .., m, rfl⟩
    have ha2 := Stays.dom.all ha2 (Ext.new (lstV ys2 m) nD).kp
    have T10 := T9.ext eD
    have oD := oD.ext eD
    have ha := Stays.dom.all ha eD.kp
    clear kStore nD eD hrg ee hcc e2 T9
    generalize e'.put D2 (lstV ys2 m) = g₁₀ at *
    refine EvF.loc (.tail _ (.tail _ (.tail _ (.head _)))) ?_
    refine .of (.neLs (R := Dom) (ps := S'.doms) (qs := S'.doms) EqOn.dom ⟨D2, ys2, rfl, oD2, ha2⟩ ⟨D, ys, rfl, oD, ha⟩ ok.cl ?_)
    rw [decide_eq_true rfl]
    refine EvF.truthyBool ?_
    refine iteF ?_
    refine EvF.nil ?_
    refine hnQ _ _ ?_; clear hnQ hrQ Qx
    have hb1 : b = true → outsideOf row found = [] ∧ (S'.failed = true → ¬ AllReach S' row) := fun q => ⟨(hbt q).1, fun f a => hgoal.mp f fun v v1 v2 => (hreach' v).mp (a v v1 v2)⟩
    refine right_tail (ok.le (by decide)) (g := g₁₀) ⟨T10.F, T10.h, T10.r, T10.l, fun b o q _ => q⟩ z' hin hm hll hLoff fnd (fun v => (fmem v).trans (hreach' v).symm) hb1 hbf fun vs g' k => ?_
    have hst : StoreAt prog w g' X' S' := T10.h.on (fun b m o ho => k b o ho fun i hi q => T10.h.noCell (T10.F i hi) (q ▸ m)) (k.kp T10.F)
    have hne : ∀ b o, g b = some o → ∀ i, i < 6 → b ≠ L + 1 + i := fun b o ho i hi q => by rw [q, hFn i hi] at ho; cases ho
    exact ⟨rfl, S', ⟨X', hst, hXa, ⟨fun b o ho hb => k _ _ (T10.k _ _ (e₇ _ _ (st₅.keep b o ho hb)) (hne b o ho)) (hne b o ho), st₅.new⟩, hkv⟩, d1, d2, d3, d4, hgoal⟩
end Mine
end SFn15

section SFn16a
open PySem PySem.W PySem.Calls PyProof.Rows PySem.SeqAt
set_option maxRecDepth 100000
set_option maxHeartbeats 4000000
namespace Mine
variable {prog : Program} {w : World} {A : Around} {g g₀ g' : Led} {X X' : SR} {S S' : St} {L ta ca ar al : Addr} {cells : List Int} {n : Nat} {row : List Nat} {lots : List (List Int)} {c : Nat → Option Value}
theorem TapeAt.keep {bad : List Addr} (h : TapeAt prog w g ta ca cells n) (hk : ∀ b o, g b = some o → b ∉ bad → g' b = some o) (h1 : ta ∉ bad) (h2 : ca ∉ bad) : TapeAt prog w g' ta ca cells n :=
  ⟨x11 h.d fun sv a h3 => ⟨sv, by cases a with | mk o ho q => exact ⟨o, hk _ _ ho h1, q⟩, h3⟩, x11 h.c fun cs a h4 => ⟨cs, by cases a with | mk o ho q => exact ⟨o, hk _ _ ho h2, q⟩, h4⟩⟩
theorem TapeAt.dict (h : TapeAt prog w g ta ca cells n) : ∃ o, g ta = some o ∧ o.cls = .type "dict" := x11 h.d fun _ a _ => by cases a with | mk o ho q => exact ⟨o, ho, x21 q fun _ _ q _ => q.1⟩
/-- what law has in hand -/
structure LB (prog : Program) (w : World) (g₀ g : Led) (L ta ca : Addr) (cells : List Int) (n : Nat) (X : SR) (S : St) (ar al : Addr) (row : List Nat) (lots : List (List Int)) (c : Nat → Option Value) : Prop where
  F : FC g L 4 c
  t : TapeAt prog w g ta ca cells n
  h : StoreAt prog w g X S
  r : ∃ rvs, At g ar (LstO rvs) ∧ All2 IsN row rvs
  l : ∃ lvs, At g al (LstO lvs) ∧ All2 (fun l v => RowB IsI (ar :: al :: X.fp) g l v) lots lvs
  ra : ar ∉ al :: X.fp
  la : al ∉ X.fp
  tn : ta ∉ X.a :: X.fp
  cn : ca ∉ ar :: al :: X.fp
  e : Ext g₀ g
  tz : g₀ ta = none
  rz : g₀ ar = none
  lz : g₀ al = none
  xz : ∀ b ∈ X.fp, g₀ b = none
  fz : ∀ i, i < 4 → g₀ (L + 1 + i) = none
theorem LB.ext (B : LB prog w g₀ g L ta ca cells n X S ar al row lots c) (e : Ext g g') : LB prog w g₀ g' L ta ca cells n X S ar al row lots c :=
  { B with F := B.F.ext e, t := B.t.ext e, h := B.h.ext e, r := let ⟨r, a, b⟩ := B.r; ⟨r, a.ext e, b⟩, l := let ⟨l, a, b⟩ := B.l; ⟨l, a.ext e, b.mono fun _ _ r => r.ext e⟩, e := B.e.trans e }
theorem mem_bad {a : Addr} {g : Led} {o : Obj} (h : g a = some o) {p q : List Addr} (hn : ∀ b ∈ q, b ∈ p ∨ g b = none) (hp : a ∉ p) : a ∉ q := fun m => by
  rcases hn a m with k | k
  · exact hp k
  · rw [h] at k; cases k
theorem LB.store (B : LB prog w g₀ g L ta ca cells n X S ar al row lots c) (h : StoreAt prog w g' X' S') (ha : X'.a = X.a) (st : Step g g' X.fp X'.fp) : LB prog w g₀ g' L ta ca cells n X' S' ar al row lots c := by
  refine x11 B.r fun rvs hr hr2 => ?_
  refine x11 B.l fun lvs hl hl2 => ?_
  have ra := B.ra
  rw [List.mem_cons, not_or] at ra
  have tn := B.tn
  rw [List.mem_cons, not_or] at tn
  have cn := B.cn
  rw [List.mem_cons, List.mem_cons, not_or, not_or] at cn
  have new2 : ∀ b ∈ ar :: al :: X'.fp, b ∈ ar :: al :: X.fp ∨ g b = none := fun b m => by
    rcases List.mem_cons.mp m with rfl | m
    · exact .inl (.head _)
    · rcases List.mem_cons.mp m with rfl | m
      · exact .inl (.tail _ (.head _))
      · exact (st.new b m).imp (fun k => .tail _ (.tail _ k)) id
  refine x11 B.t.c fun cs hcs _ => ?_
  refine ⟨B.F.keep st.keep fun i hi u x m => B.h.noCell x (.tail _ m), B.t.keep st.keep tn.2 cn.2.2, h, ⟨rvs, let ⟨o, ho, q⟩ := hr; ⟨o, st.keep _ _ ho ra.2, q⟩, hr2⟩, ⟨lvs, let ⟨o, ho, q⟩ := hl; ⟨o, st.keep _ _ ho B.la, q⟩, hl2.mono fun l v r => r.keep (fun b o q m => st.keep b o q fun k => m (.tail _ (.tail _ k))) new2⟩, ?_, ?_, ?_, ?_, fun b o q => ?_, B.tz, B.rz, B.lz, fun b m => ?_, B.fz⟩
  · rw [List.mem_cons, not_or]
    exact ⟨ra.1, let ⟨o, ho, _⟩ := hr; mem_bad ho st.new ra.2⟩
  · exact let ⟨o, ho, _⟩ := hl; mem_bad ho st.new B.la
  · rw [List.mem_cons, not_or, ha]
    exact ⟨tn.1, let ⟨o, ho, _⟩ := B.t.dict; mem_bad ho st.new tn.2⟩
  · exact let ⟨o, ho, _⟩ := hcs; mem_bad ho new2 B.cn
  · exact st.keep _ _ (B.e _ _ q) fun m => by rw [B.xz b m] at q; cases q
  · rcases st.new b m with k | k
    · exact B.xz b k
    · cases q : g₀ b with
      | none => rfl
      | some o => rw [B.e _ _ q] at k; cases k
theorem LB.tape {n' : Nat} (B : LB prog w g₀ g L ta ca cells n X S ar al row lots c) (t : TapeAt prog w g' ta ca cells n') (st : Step g g' [ta] [ta]) : LB prog w g₀ g' L ta ca cells n' X S ar al row lots c := by
  refine x11 B.t.dict fun od hod hoc => ?_
  have kk : ∀ b o, g b = some o → o.cls ≠ .type "dict" → g' b = some o := fun b o q k => st.keep b o q fun m => by
    rw [List.mem_singleton] at m; subst m; rw [hod] at q; cases q; exact k hoc
  have kl : ∀ {b : Addr} {xs : List Value}, At g b (LstO xs) → At g' b (LstO xs) := fun {b xs} ⟨o, ho, q⟩ => ⟨o, kk _ _ ho (by rw [lst_cls q]; simp), q⟩
  refine x11 B.r fun rvs hr hr2 => ?_
  refine x11 B.l fun lvs hl hl2 => ?_
  refine { B with F := fun i hi => ?_, t := t, h := B.h.on (fun b m o ho => st.keep b o ho fun k => ?_) (fun a o ho q => kk a o ho ?_), r := ⟨rvs, kl hr, hr2⟩, l := ⟨lvs, kl hl, hl2.mono fun l v r => ?_⟩, e := fun b o q => st.keep b o (B.e _ _ q) fun m => ?_ }
  · obtain ⟨o', ho', hc⟩ := B.F i hi
    refine x11 B.t.d fun dv z141 _ => ?_; obtain ⟨o, hO, es, ep, q, q2, _⟩ := z141
    refine ⟨o', st.keep _ _ ho' fun m => ?_, hc⟩
    rw [List.mem_singleton] at m
    rw [m, hO] at ho'; cases ho'
    have hc : o'.data = .cell (c i) := hc
    rw [hc] at q2; cases q2
  · rw [List.mem_singleton] at k; subst k; exact B.tn m
  · refine x20 q fun xs n z161 => ?_; clear q; subst z161; simp
  · obtain ⟨a, xs, e, h1, h2, h3⟩ := r; exact ⟨a, xs, e, h1, kl h2, h3⟩
  · rw [List.mem_singleton] at m; subst m; rw [B.tz] at q; cases q
theorem RowB.cellOff {α : Type} {R : α → Value → Prop} {bad : List Addr} {ps : List α} {v : Value} {a : Addr} {o : Obj} (h : RowB R bad g ps v) (m : a ∈ bad) : RowB R bad (g.put a o) ps v := let ⟨b, xs, h0, h1, h2, h3⟩ := h; ⟨b, xs, h0, h1, h2.off fun q => h1 (q ▸ m), h3⟩
theorem LB.putC {i : Nat} {v : Value} {o : Obj} (B : LB prog w g₀ g L ta ca cells n X S ar al row lots c) (hi : i < 4) (ho : CellO (some v) o) : LB prog w g₀ (g.put (L + 1 + i) o) L ta ca cells n X S ar al row lots (upd c i v) := by
  have kc := B.F i hi
  refine x11 B.r fun rvs hr hr2 => ?_
  refine x11 B.l fun lvs hl hl2 => ?_
  have kt : L + 1 + i ≠ ta := fun q => by
    obtain ⟨oc, hoc, hcc⟩ := kc
    refine x11 B.t.d fun dv z261 _ => ?_; obtain ⟨od, hod, es, ep, e1, e2, _⟩ := z261
    rw [q, hod] at hoc
    have hcc : oc.data = .cell (c i) := hcc
    rw [Option.some.inj hoc, hcc] at e2; cases e2
  refine x11 B.t.c fun cs hcs hcs2 => ?_
  refine x11 B.t.d fun sv hsv hsv2 => ?_
  refine { B with F := B.F.put ho, t := ⟨⟨sv, hsv.off kt.symm, hsv2⟩, ⟨cs, hcs.off (kc.ne hcs cell_lst).symm, hcs2⟩⟩, h := B.h.putCell kc, r := ⟨rvs, hr.off (kc.ne hr cell_lst).symm, hr2⟩, l := ⟨lvs, hl.off (kc.ne hl cell_lst).symm, hl2.mono fun l v r => r.cell kc⟩, e := fun b p q => ?_ }
  rw [put_ne]
  · exact B.e _ _ q
  · rintro rfl; rw [B.fz i hi] at q; cases q
theorem LB.putR {rvs : List Value} {row' : List Nat} {m : Nat} (B : LB prog w g₀ g L ta ca cells n X S ar al row lots c) (h : All2 IsN row' rvs) : LB prog w g₀ (g.put ar (lstV rvs m)) L ta ca cells n X S ar al row' lots c := by
  refine x11 B.r fun r0 hr hr2 => ?_
  refine x11 B.l fun lvs hl hl2 => ?_
  have ra := B.ra
  rw [List.mem_cons, not_or] at ra
  have cn := B.cn
  rw [List.mem_cons, not_or] at cn
  refine x11 B.t.c fun cs hcs hcs2 => ?_
  refine x11 B.t.d fun sv hsv hsv2 => ?_
  have tr : ta ≠ ar := fun q => by
    refine x11 B.t.dict fun o ho hc => ?_
    obtain ⟨o', ho', hl'⟩ := hr
    rw [q, ho'] at ho; cases ho
    rw [lst_cls hl'] at hc; simp at hc
  refine { B with F := fun i hi => (B.F i hi).off ((B.F i hi).ne hr cell_lst), t := ⟨⟨sv, hsv.off tr, hsv2⟩, ⟨cs, hcs.off cn.1, hcs2⟩⟩, h := B.h.putLst hr ra.2, r := ⟨rvs, ⟨_, put_self .., m, rfl⟩, h⟩, l := ⟨lvs, hl.off (Ne.symm ra.1), hl2.mono fun l v r => r.cellOff (.head _)⟩, e := fun b p q => ?_ }
  rw [put_ne]
  · exact B.e _ _ q
  · rintro rfl; rw [B.rz] at q; cases q
theorem LB.putL {lvs : List Value} {lots' : List (List Int)} {m : Nat} (B : LB prog w g₀ g L ta ca cells n X S ar al row lots c) (h : All2 (fun l v => RowB IsI (ar :: al :: X.fp) g l v) lots' lvs) : LB prog w g₀ (g.put al (lstV lvs m)) L ta ca cells n X S ar al row lots' c := by
  refine x11 B.r fun r0 hr hr2 => ?_
  refine x11 B.l fun l0 hl hl2 => ?_
  have ra := B.ra
  rw [List.mem_cons, not_or] at ra
  have cn := B.cn
  rw [List.mem_cons, List.mem_cons, not_or, not_or] at cn
  refine x11 B.t.c fun cs hcs hcs2 => ?_
  refine x11 B.t.d fun sv hsv hsv2 => ?_
  have tr : ta ≠ al := fun q => by
    refine x11 B.t.dict fun o ho hc => ?_
    obtain ⟨o', ho', hl'⟩ := hl
    rw [q, ho'] at ho; cases ho
    rw [lst_cls hl'] at hc; simp at hc
  refine { B with F := fun i hi => (B.F i hi).off ((B.F i hi).ne hl cell_lst), t := ⟨⟨sv, hsv.off tr, hsv2⟩, ⟨cs, hcs.off cn.2.1, hcs2⟩⟩, h := B.h.putLst hl B.la, r := ⟨r0, hr.off ra.1, hr2⟩, l := ⟨lvs, ⟨_, put_self .., m, rfl⟩, h.mono fun l v r => r.cellOff (.tail _ (.head _))⟩, e := fun b p q => ?_ }
  rw [put_ne]
  · exact B.e _ _ q
  · rintro rfl; rw [B.lz] at q; cases q
end Mine
end SFn16a

section SFn16b
open PySem PySem.W PySem.Calls PyProof.Rows PySem.SeqAt
set_option maxRecDepth 100000
set_option maxHeartbeats 4000000
namespace Mine
variable {prog : Program} {w : World} {A : Around} {g g₀ g' : Led} {X X' : SR} {S S' : St} {L ta ca ar al : Addr} {cells : List Int} {n : Nat} {row : List Nat} {lots : List (List Int)} {c : Nat → Option Value}
noncomputable def lawStm (n : Nat) : Stmt := match stm 25 with | .FunctionDef _ _ body _ _ _ _ _ _ _ => (match body[n]? with | some s => s | none => .Pass ⟨0, 0, 0, 0⟩) | _ => .Pass ⟨0, 0, 0, 0⟩
noncomputable abbrev lawEnv (L : Addr) : Env := callEnvC (fno "law" "law" (stm 25) [] .none (sv "law_qd0015_01" 613) (.ref 384) .none) L 385
noncomputable abbrev LV (s r l p ag wi so ru fi le x bo : Option Value) : Vars := [("script", s), ("row", r), ("lots", l), ("place", p), ("again", ag), ("wide", wi), ("some", so), ("rule", ru), ("firsts", fi), ("level", le), ("x", x), ("boxes", bo)]
theorem RowB.store {l : List Int} {v : Value} (h : RowB IsI (ar :: al :: X.fp) g l v) (st : Step g g' X.fp X'.fp) : RowB IsI (ar :: al :: X'.fp) g' l v :=
  h.keep (fun b o q m => st.keep b o q fun k => m (.tail _ (.tail _ k))) fun b m => by
    rcases List.mem_cons.mp m with rfl | m
    · exact .inl (.head _)
    · rcases List.mem_cons.mp m with rfl | m
      · exact .inl (.tail _ (.head _))
      · exact (st.new b m).imp (fun k => .tail _ (.tail _ k)) id
theorem all2_unit {Q : Int → Prop} : ∀ {n : Nat} {ys : List Value}, All2 (fun (_ : Unit) v => ∃ i, IsI i v ∧ Q i) (List.replicate n ()) ys → ∃ is : List Int, is.length = n ∧ All2 IsI is ys ∧ ∀ i ∈ is, Q i
  | 0, _, .nil => ⟨[], rfl, .nil, fun _ h => (nomatch h)⟩
  | n + 1, _, .cons ⟨i, h, q⟩ r => let ⟨is, a, b, c⟩ := all2_unit r; ⟨i :: is, by rw [List.length_cons, a], .cons h b, fun j hj => by
    rcases List.mem_cons.mp hj with rfl | hj
    · exact q
    · exact c j hj⟩
theorem sorted_lt {l : List Int} (h : l.Pairwise fun a b => a ≤ b) (n : l.Nodup) : l.Pairwise (· < ·) := by
  rw [List.nodup_iff_pairwise_ne] at n
  exact (h.and n).imp fun ⟨a, b⟩ => by omega
theorem LB.free (B : LB prog w g₀ g L ta ca cells n X S ar al row lots c) {D : Addr} (h : g D = none) : D ∉ ar :: al :: X.fp := by
  refine x11 B.r fun _ z1 _ => ?_; obtain ⟨o1, h1, _⟩ := z1
  refine x11 B.l fun _ z21 _ => ?_; obtain ⟨o2, h2, _⟩ := z21
  have f := B.h.fresh h
  simp only [SR.fp, List.mem_cons, List.not_mem_nil, or_false, not_or]
  exact ⟨(ne_of_none h h1).symm, (ne_of_none h h2).symm, f.2.1, f.2.2.1, f.2.2.2.1, f.2.2.2.2.1, f.2.2.2.2.2.1, f.2.2.2.2.2.2⟩
noncomputable def newBody : List Stmt := match lawStm 2 with | .For _ _ body _ _ => body.drop 2 | _ => []
theorem law_new (ok : Ok A 13) {many k : Nat} {tm : Tok} (hm : many ≤ 5) (hk5 : k < many) {P : Flow → Vars → Led → Prop} {sc pl ag wi so : Option Value}
    (B : LB prog w g₀ g L ta ca cells n X S ar al row lots c) (p : P1 S row lots k) (hn : n ≤ 2 + 4 * k) (hkv : X.kvs.length ≤ 0) (hc0 : c 0 = some (.ref ta)) (hc1 : c 1 = some (.int many tm)) (hc2 : c 2 = some (.ref X.a)) (hcl : cells.length ≤ 100)
    (h : ∀ g' X' S' row lots n u3 u4, LB prog w g₀ g' L ta ca cells n X' S' ar al row lots c → X'.a = X.a → P1 S' row lots (k + 1) → n ≤ 1 + 4 * (k + 1) → X'.kvs.length ≤ 0 → P .next (LV sc (some (.ref ar)) (some (.ref al)) pl ag u3 u4 none none none none none) g') :
    EvF prog w (KK w.params) A L (LV sc (some (.ref ar)) (some (.ref al)) pl ag wi so none none none none none) (execs newBody (lawEnv L)) g P := by
  have hsz : sizeLine = 2 ^ 24 := rfl
  have hrl := p.rl
  have hll := p.ll
  have kTape : At g (L + 1) (CellO (some (.ref ta))) := hc0 ▸ B.F 0 (by decide)
  show EvF _ _ _ _ _ _ (execs (_ :: _) _) _ _
  refine EvF.consQ fun Qx hnQ hrQ => ?_; refine EvF.assignS ?_; refine EvF.binOp ?_; refine EvF.cint fun _ => ?_; refine EvF.call ?_; refine EvF.top (by rfl) ?_; refine ⟨by first | exact KeepOk.b | exact KeepOk.t | exact KeepOk.k (by rfl), ?_⟩; refine EvF.args1 ?_; refine' EvF.cell ?h1 ?_; (case h1 => assumption); refine EvF.args1 ?_; refine EvF.cint fun _ => ?_; refine EvF.args0 ?_
  refine .of ((take_ok (ok.le (by decide)) B.t (by omega) hcl (by decide) ⟨_, rfl⟩).mono fun r g₂ hr => ?_)
  refine x02 hr fun z41 ht st => ?_; clear hr; refine x12 z41 fun v z42 v0 v1 => ?_; clear z41; refine x10 z42 fun tv z43 => ?_; clear z42; subst z43
  have B := B.tape ht st
  clear ht st kTape
  refine EvF.addI fun _ => ?_; refine EvF.assignName ?_; refine EvF.store (.tail (.tail (.tail (.tail (.tail .head))))) ?_; refine hnQ _ _ ?_; clear hnQ hrQ Qx; refine EvF.consQ fun Qx hnQ hrQ => ?_; refine EvF.assignS ?_; refine EvF.call ?_; refine EvF.boot (by rfl) (bv_sorted) ?_; refine ⟨by first | exact KeepOk.b | exact KeepOk.t | exact KeepOk.k (by rfl), ?_⟩; refine EvF.args1 ?_; refine EvF.call ?_; refine EvF.boot (by rfl) (bv_set) ?_; refine ⟨by first | exact KeepOk.b | exact KeepOk.t | exact KeepOk.k (by rfl), ?_⟩; refine EvF.args1 ?_
  rename_i t9
  refine EvF.compL (γ := Unit) ["lap"] ok ?_
  refine EvF.call ?_; refine EvF.boot (by rfl) (bv_range) ?_; refine ⟨by first | exact KeepOk.b | exact KeepOk.t | exact KeepOk.k (by rfl), ?_⟩; refine EvF.args1 ?_; refine EvF.loc (.tail _ (.tail _ (.tail _ (.tail _ (.tail _ (.head _)))))) ?_; refine EvF.args0 ?_; refine EvF.range1 fun _ _ _ _ => ?_
  rename_i a0 t2 t3 har
  have hrg : (g₂.put a0 (rngV 0 (1 + v) t2 t9 t3)) a0 = some (rngV 0 (1 + v) t2 t9 t3) := put_self ..
  have B := B.ext (Ext.new (rngV 0 (1 + v) t2 t9 t3) har)
  clear har
  generalize g₂.put a0 (rngV 0 (1 + v) t2 t9 t3) = g₃ at *
  refine ⟨_, _, _, fun k => List.replicate (min k 2) (), fun _ _ y => ∃ i : Int, IsI i y ∧ 0 ≤ i ∧ i < (many : Int) + 2, Src.rng hrg (by omega) (by omega) (by omega) (by omega), rfl, fun k => ?_, fun C e₁ ee hcc => ⟨fun k vs e' => (∃ u, vs = ([("lap", u)] : Vars)) ∧ LB prog w g₀ e' L ta ca cells (n + 1 + k) X S ar al row lots c, fun _ _ => True, ⟨⟨_, rfl⟩, B.ext ee⟩, fun k vs e' j b m => (nomatch m), fun e e' b v x r => r, fun k y vs e' hk hy j => ?_, fun vs e' ys D m j nD ha => ?_⟩⟩
  · rw [List.length_replicate, hsz]
    exact Nat.le_trans (Nat.min_le_right _ _) (by decide)
  · refine x01 j fun z61 B => ?_; clear j; refine x10 z61 fun u1 z62 => ?_; clear z61; subst z62
    refine x10 hy fun tx z81 => ?_; clear hy; subst z81
    have kTape : At e' (L + 1) (CellO (some (.ref ta))) := hc0 ▸ B.F 0 (by decide)
    have kMany : At e' (L + 1 + 1) (CellO (some (.int many tm))) := hc1 ▸ B.F 1 (by decide)
    refine EvF.bind ?_; refine EvF.assignName ?_; refine EvF.store .head ?_; refine EvF.tests0 ?_; refine iteT ?_; refine EvF.call ?_; refine EvF.top (by rfl) ?_; refine ⟨by first | exact KeepOk.b | exact KeepOk.t | exact KeepOk.k (by rfl), ?_⟩; refine EvF.args1 ?_; refine' EvF.cell ?h1 ?_; (case h1 => assumption); refine EvF.args1 ?_; refine EvF.binOp ?_; refine' EvF.cell ?h1 ?_; (case h1 => assumption); refine EvF.cint fun _ => ?_; refine EvF.addI fun _ => ?_; refine EvF.args0 ?_
    refine .of ((take_ok (ok.le (by decide)) B.t (by omega) hcl (show (0 : Int) < (many : Int) + 2 by omega) ⟨_, rfl⟩).mono fun r g₅ hr => ?_)
    refine x02 hr fun z101 ht st => ?_; clear hr; refine x12 z101 fun i z102 i0 i1 => ?_; clear z101; refine x10 z102 fun ti z103 => ?_; clear z102; subst z103
    refine ⟨⟨⟨_, rfl⟩, B.tape ht st⟩, trivial, (), ?_, i, ⟨_, rfl⟩, i0, i1⟩
    show List.replicate (min (k + 1) 2) () = List.replicate (min k 2) () ++ [()]
    rw [Nat.min_eq_left (by omega), Nat.min_eq_left (by omega), List.replicate_succ']
  refine x01 j fun z121 B => ?_; clear j; refine x10 z121 fun u1 z122 => ?_; clear z121; subst z122
  have hw : min ((1 : Int) + v - 0).toNat 2 = (1 + v).toNat := (by omega)
  have hw2 : ((1 : Int) + v - 0).toNat = (1 + v).toNat := (by omega)
  refine x12 (all2_unit (hw ▸ ha : All2 (fun (_ : Unit) y => ∃ i : Int, IsI i y ∧ 0 ≤ i ∧ i < (many : Int) + 2) (List.replicate (1 + v).toNat ()) ys)) fun is hil hI hir => ?_
  have eD := Ext.new (lstV ys m) nD
  have oD : At (e'.put D (lstV ys m)) D (LstO ys) := ⟨_, put_self .., m, rfl⟩
  have B := B.ext eD
  clear eD nD ha hcc ee hrg
  generalize e'.put D (lstV ys m) = g₄ at *
  refine EvF.args0 ?_
  refine .of (.setInts ok.h oD hI (by omega) fun Sa o qs hSa hSO hqn hqm => ?_)
  have eS := Ext.new o hSa
  have B := B.ext eS
  have oS : At (g₄.put Sa o) Sa (SetO w IsI qs) := ⟨o, put_self .., hSO⟩
  have hql : qs.length ≤ 2 := Nat.le_trans (nodup_len hqn fun q m => (hqm q).mp m) (by omega)
  refine EvF.args0 ?_
  refine .of (.sortedInts ok.h oS (by omega) fun D1 ss vs1 c1 hD1 hp1 hs1 ha1 => ?_)
  have hfr := B.free hD1
  have B := B.ext (Ext.new (lstV vs1 c1) hD1)
  have oL : At ((g₄.put Sa o).put D1 (lstV vs1 c1)) D1 (LstO vs1) := ⟨_, put_self .., c1, rfl⟩
  have hlot : LotOk ss := by
    refine ⟨sorted_lt hs1 (hp1.nodup_iff.mpr hqn), fun e => ?_, by rw [hp1.length_eq]; exact hql⟩
    have h1 : 0 < is.length := (by omega)
    refine x10 (List.exists_mem_of_length_pos h1) fun i hi => ?_
    have := hp1.mem_iff.mpr ((hqm i).mpr hi)
    rw [e] at this; cases this
  clear oS hSO eS hSa hD1 oD hI
  generalize (g₄.put Sa o).put D1 (lstV vs1 c1) = g₅ at *
  refine x11 B.r fun rvs hr hr2 => ?_
  have i1 := B.h.i
  have i2 := B.h.x
  have kStore : At g₅ (L + 1 + 2) (CellO (some (.ref X.a))) := hc2 ▸ B.F 2 (by decide)
  refine EvF.assignName ?_; refine EvF.store (.tail (.tail (.tail (.tail (.tail (.tail .head)))))) ?_; refine hnQ _ _ ?_; clear hnQ hrQ Qx; refine EvF.consQ fun Qx hnQ hrQ => ?_; refine EvF.exprD ?_; refine EvF.meth ?_; refine EvF.loc (.tail _ (.head _)) ?_; refine' EvF.of (.methL ?h1 F.slot_list_append F.type_list_append ?_); (case h1 => assumption); refine ⟨by first | exact KeepOk.b | exact KeepOk.t | exact KeepOk.k (by rfl), ?_⟩; refine EvF.args1 ?_; refine EvF.meth ?_; refine' EvF.cell ?h1 ?_; (case h1 => assumption); refine EvF.of (.method (by assumption) (by assumption) (by rfl) (by rfl) ?_); refine ⟨by first | exact KeepOk.b | exact KeepOk.t | exact KeepOk.k (by rfl), ?_⟩; refine EvF.args1 ?_; refine EvF.call ?_; refine EvF.top (by rfl) ?_; refine ⟨by first | exact KeepOk.b | exact KeepOk.t | exact KeepOk.k (by rfl), ?_⟩; refine EvF.args1 ?_; refine EvF.loc (.tail _ (.tail _ (.tail _ (.tail _ (.tail _ (.tail _ (.head _))))))) ?_; refine EvF.args0 ?_
  refine .of ((ranges_ok (ok.le (by decide)) ⟨D1, vs1, rfl, oL, ha1⟩ (Nat.le_trans hlot.2.2 (by decide))).mono fun r g₆ hr' => ?_)
  refine x01 hr' fun e6 hdom => ?_; clear hr'
  have B := B.ext e6
  have oL := oL.ext e6
  clear hr i1 i2 kStore e6
  refine EvF.args0 ?_; refine EvF.callApp ?_
  refine .of ((new_var_ok (ok.le (by decide)) B.h (p.small (by omega)) hdom hlot.dom.2.2.1).mono fun r g₇ hr' => ?_)
  refine x01 hr' fun z221 z222 => ?_; clear hr'; refine x10 z221 fun tn z223 => ?_; clear z221; subst z223; obtain ⟨X', hX', hXa, st, hkv'⟩ := z222
  have oLb : RowB IsI (ar :: al :: X.fp) g₆ ss (.ref D1) := ⟨D1, vs1, rfl, hfr, oL, ha1⟩
  have oLb := oLb.store st
  have B := B.store hX' hXa st
  clear oL st hX' hdom hr2
  refine x11 B.r fun rvs hr hr2 => ?_
  have b1 : rvs.length ≤ sizeLine := by have := hr2.len; omega
  refine EvF.args0 ?_; refine EvF.callApp ?_; refine' EvF.of (.append ?h1 ?h2 fun _ => ?_); (case h1 => assumption); (case h2 => assumption); refine hnQ _ _ ?_; clear hnQ hrQ Qx; refine EvF.consQ fun Qx hnQ hrQ => ?_; refine EvF.exprD ?_; refine EvF.meth ?_; refine EvF.loc (.tail _ (.tail _ (.head _))) ?_
  rename_i m1
  have B := B.putR (rvs := rvs ++ [.int (S.doms.length : Int) tn]) (row' := row ++ [S.doms.length]) (m := m1) (hr2.snoc ⟨_, rfl⟩)
  have oLb := oLb.cellOff (o := lstV (rvs ++ [.int (S.doms.length : Int) tn]) m1) (List.Mem.head _ : ar ∈ ar :: al :: X'.fp)
  clear hr b1 hr2
  generalize g₇.put ar (lstV (rvs ++ [.int (S.doms.length : Int) tn]) m1) = g₈ at *
  refine x11 B.l fun lvs hl hl2 => ?_
  have b1 : lvs.length ≤ sizeLine := by have := hl2.len; omega
  refine' EvF.of (.methL ?h1 F.slot_list_append F.type_list_append ?_); (case h1 => assumption); refine ⟨by first | exact KeepOk.b | exact KeepOk.t | exact KeepOk.k (by rfl), ?_⟩; refine EvF.args1 ?_; refine EvF.loc (.tail _ (.tail _ (.tail _ (.tail _ (.tail _ (.tail _ (.head _))))))) ?_; refine EvF.args0 ?_; refine EvF.callApp ?_; refine' EvF.of (.append ?h1 ?h2 fun _ => ?_); (case h1 => assumption); (case h2 => assumption); refine hnQ _ _ ?_; clear hnQ hrQ Qx; refine EvF.nil ?_
  rename_i m2
  have B := B.putL (lvs := lvs ++ [.ref D1]) (lots' := lots ++ [ss]) (m := m2) (hl2.snoc oLb)
  exact h _ _ _ _ _ _ _ _ B hXa (p.new hlot) (by omega) (by omega)
theorem law_places (ok : Ok A 13) {many : Nat} {tm : Tok} (hm : many ≤ 5) {P : Flow → Vars → Led → Prop} {sc : Option Value}
    (B : LB prog w g₀ g L ta ca cells 1 X S ar al [] [] c) (p : P1 S [] [] 0) (hk : X.kvs.length ≤ 0) (hc0 : c 0 = some (.ref ta)) (hc1 : c 1 = some (.int many tm)) (hc2 : c 2 = some (.ref X.a)) (hcl : cells.length ≤ 100)
    (h : ∀ g' X' S' row lots n u1 u2 u3 u4, LB prog w g₀ g' L ta ca cells n X' S' ar al row lots c → X'.a = X.a → P1 S' row lots many → n ≤ 30 → X'.kvs.length ≤ 0 → P .next (LV sc (some (.ref ar)) (some (.ref al)) u1 u2 u3 u4 none none none none none) g') :
    EvF prog w (KK w.params) A L (LV sc (some (.ref ar)) (some (.ref al)) none none none none none none none none none) (exec (lawStm 2) (lawEnv L)) g P := by
  have hsz : sizeLine = 2 ^ 24 := rfl
  have kMany : At g (L + 1 + 1) (CellO (some (.int many tm))) := hc1 ▸ B.F 1 (by decide)
  show EvF _ _ _ _ _ _ (exec (.For _ _ _ _ _) _) _ _
  refine EvF.forS ok.h ?_
  refine EvF.call ?_; refine EvF.boot (by rfl) (bv_range) ?_; refine ⟨by first | exact KeepOk.b | exact KeepOk.t | exact KeepOk.k (by rfl), ?_⟩; refine EvF.args1 ?_; refine' EvF.cell ?h1 ?_; (case h1 => assumption); refine EvF.args0 ?_; refine EvF.range1 fun _ _ _ _ => ?_
  rename_i ar0 t2 t3 har
  have hrg : (g.put ar0 (rngV 0 (many : Int) t2 tm t3)) ar0 = some (rngV 0 (many : Int) t2 tm t3) := put_self ..
  have B := B.ext (Ext.new (rngV 0 (many : Int) t2 tm t3) har)
  clear kMany har
  generalize g.put ar0 (rngV 0 (many : Int) t2 tm t3) = g₁ at *
  refine ⟨_, _, _, fun k vs gg => ∃ X' S' row lots n u1 u2 u3 u4, vs = LV sc (some (.ref ar)) (some (.ref al)) u1 u2 u3 u4 none none none none none ∧ LB prog w g₀ gg L ta ca cells n X' S' ar al row lots c ∧ X'.a = X.a ∧ P1 S' row lots k ∧ n ≤ 1 + 4 * k ∧ X'.kvs.length ≤ 0, Src.rng hrg (by omega) (by omega) (bitsN) (bitsI (Nat.le_trans (m := 5) (by assumption) (by decide))),
    ⟨X, S, [], [], 1, none, none, none, none, rfl, B, rfl, p, Nat.le_refl _, hk⟩, fun k vs gg i b m => (nomatch m), fun k vs gg y hk' hy i => ?_, fun vs gg i => ?_⟩
  · refine x40 i fun X' S' row lots z281 => ?_; clear i; refine x40 z281 fun n u1 u2 u3 z282 => ?_; clear z281; refine x15 z282 fun u4 z283 B hXa p hn hkv => ?_; clear z282; subst z283
    refine x10 hy fun tk z301 => ?_; clear hy; subst z301
    have hk5 : k < many := (lt0 (by assumption))
    have hrl := p.rl
    have hll := p.ll
    have kTape : At gg (L + 1) (CellO (some (.ref ta))) := hc0 ▸ B.F 0 (by decide)
    refine EvF.bind ?_; refine EvF.assignName ?_; refine EvF.store (.tail (.tail (.tail .head))) ?_; refine EvF.consQ fun Qx hnQ hrQ => ?_; refine EvF.assignS ?_; refine EvF.call ?_; refine EvF.top (by rfl) ?_; refine ⟨by first | exact KeepOk.b | exact KeepOk.t | exact KeepOk.k (by rfl), ?_⟩; refine EvF.args1 ?_; refine' EvF.cell ?h1 ?_; (case h1 => assumption); refine EvF.args1 ?_; refine EvF.cint fun _ => ?_; refine EvF.args0 ?_
    refine .of ((take_ok (ok.le (by decide)) B.t (by omega) hcl (by decide) ⟨_, rfl⟩).mono fun r g₂ hr => ?_)
    refine x02 hr fun z321 ht st => ?_; clear hr; refine x12 z321 fun v z322 v0 v1 => ?_; clear z321; refine x10 z322 fun tv z323 => ?_; clear z322; subst z323
    have B := B.tape ht st
    clear ht st kTape
    refine EvF.assignName ?_; refine EvF.store (.tail (.tail (.tail (.tail .head)))) ?_; refine hnQ _ _ ?_; clear hnQ hrQ Qx; refine EvF.consQ fun Qx hnQ hrQ => ?_; refine EvF.ifS ?_; refine EvF.testAnd ?_; refine EvF.test ?_; refine EvF.loc (.tail _ (.tail _ (.tail _ (.tail _ (.head _))))) ?_; refine EvF.cint fun _ => ?_; refine EvF.eqI ?_; refine EvF.truthyBool ?_
    have new : ∀ (Qx : Flow → Vars → Led → Prop) (gg : Led) (n : Nat), LB prog w g₀ gg L ta ca cells n X' S' ar al row lots c → n ≤ 2 + 4 * k → (∀ g' u1 u2 u3 u4 X' S' row lots n, LB prog w g₀ g' L ta ca cells n X' S' ar al row lots c → X'.a = X.a → P1 S' row lots (k + 1) → n ≤ 1 + 4 * (k + 1) → X'.kvs.length ≤ 0 → Qx .next (LV sc (some (.ref ar)) (some (.ref al)) u1 u2 u3 u4 none none none none none) g') →
        EvF prog w (KK w.params) A L (LV sc (some (.ref ar)) (some (.ref al)) (some (.int (0 + k) tk)) (some (.int v tv)) u3 u4 none none none none none) (execs newBody (lawEnv L)) gg Qx := fun Qx gg n B hn hQ =>
      law_new ok hm hk5 B p hn hkv hc0 hc1 (hXa ▸ hc2) hcl fun g' X'' S'' row' lots' n' w3 w4 B' e p' hn' hk' => hQ _ _ _ _ _ _ _ _ _ _ B' (e.trans hXa) p' hn' hk'
    by_cases qv : v = 0
    · subst qv
      show EvF _ _ _ _ _ _ (isTrue _ _ _) _ _
      refine EvF.test ?_; refine EvF.loc (.tail _ (.head _)) ?_; refine EvF.list ?_; refine EvF.args0 ?_; refine ⟨Nat.le_trans (m := 9) (by simp only [List.length_cons, List.length_nil]; decide) (by decide), fun _ _ => ?_⟩
      rename_i ae hae
      have e3 := Ext.new (lstV [] 0) hae
      have B := B.ext e3
      have oE : At (g₂.put ae (lstV [] 0)) ae (LstO []) := ⟨_, put_self .., 0, rfl⟩
      clear hae e3
      generalize g₂.put ae (lstV [] 0) = g₃ at *
      refine x11 B.r fun rvs hr hr2 => ?_
      refine .of (.neLs (ps := row) (qs := []) EqOn.nat ⟨ar, rvs, rfl, hr, hr2⟩ ⟨ae, [], rfl, oE, .nil⟩ ok.cl ?_)
      clear oE
      by_cases qr : row = []
      · rw [show (!decide (row = [])) = false by simp [qr]]
        refine EvF.truthyBool ?_
        refine iteF ?_
        refine EvF.nil ?_
        refine hnQ _ _ ?_; clear hnQ hrQ Qx
        exact new _ _ _ B (by omega) fun g' u1 u2 u3 u4 X' S' row lots n B e p hn hk => ⟨_, _, _, _, _, _, _, _, _, rfl, B, e, p, hn, hk⟩
      · rw [show (!decide (row = [])) = true by simp [qr]]
        have kTape : At g₃ (L + 1) (CellO (some (.ref ta))) := hc0 ▸ B.F 0 (by decide)
        have b1 : rvs.length ≤ sizeLine := by have := hr2.len; omega
        have b2 : 0 < row.length := List.length_pos_iff.mpr qr
        refine EvF.truthyBool ?_
        refine iteT ?_
        refine EvF.consQ fun Qx hnQ hrQ => ?_; refine EvF.exprD ?_; refine EvF.meth ?_; refine EvF.loc (.tail _ (.head _)) ?_; refine' EvF.of (.methL ?h1 F.slot_list_append F.type_list_append ?_); (case h1 => assumption); refine ⟨by first | exact KeepOk.b | exact KeepOk.t | exact KeepOk.k (by rfl), ?_⟩; refine EvF.args1 ?_; refine EvF.sub ?_; refine EvF.loc (.tail _ (.head _)) ?_; refine EvF.call ?_; refine EvF.top (by rfl) ?_; refine ⟨by first | exact KeepOk.b | exact KeepOk.t | exact KeepOk.k (by rfl), ?_⟩; refine EvF.args1 ?_; refine' EvF.cell ?h1 ?_; (case h1 => assumption); refine EvF.args1 ?_; refine EvF.call ?_; refine EvF.boot (by rfl) (bv_len) ?_; refine ⟨by first | exact KeepOk.b | exact KeepOk.t | exact KeepOk.k (by rfl), ?_⟩; refine EvF.args1 ?_; refine EvF.loc (.tail _ (.head _)) ?_; refine EvF.args0 ?_
        refine .of (.lenL hr (by have := hr2.len; omega) fun _ => ?_)
        refine EvF.args0 ?_
        refine .of ((take_ok (ok.le (by decide)) B.t (by omega) hcl (show (0 : Int) < (rvs.length : Int) by have := hr2.len; omega) ⟨_, rfl⟩).mono fun r g₅ hr' => ?_)
        refine x02 hr' fun z361 ht st => ?_; clear hr'; refine x12 z361 fun i z362 i0 i1 => ?_; clear z361; refine x10 z362 fun ti z363 => ?_; clear z362; subst z363
        have B := B.tape ht st
        clear ht st kTape hr
        have hr2 := hr2
        refine x11 B.r fun rvs' hr hr3 => ?_
        obtain ⟨x, hx⟩ : ∃ x, row[i.toNat]? = some x := ⟨_, List.getElem?_eq_getElem (by have := hr2.len; omega)⟩
        refine x11 (hr3.at' hx) fun y hy z401 => ?_; refine x10 z401 fun ty z402 => ?_; clear z401; subst z402
        have b1 : rvs'.length ≤ sizeLine := by have := hr3.len; have := hr2.len; omega
        refine' subLst ?h1 ?_; (case h1 => assumption)
        refine .of (.lstAt hr i.toNat (natz (by assumption)) hy (by omega) ?_)
        refine EvF.args0 ?_; refine EvF.callApp ?_; refine' EvF.of (.append ?h1 ?h2 fun _ => ?_); (case h1 => assumption); (case h2 => assumption); refine hnQ _ _ ?_; clear hnQ hrQ Qx; refine EvF.consQ fun Qx hnQ hrQ => ?_; refine EvF.cont ?_; refine hrQ _ _ _ rfl ?_; clear hnQ hrQ Qx; refine hrQ _ _ _ rfl ?_; clear hnQ hrQ Qx
        rename_i m1
        have B := B.putR (m := m1) (row' := row ++ [x]) (hr3.snoc (show IsN x (.int (x : Int) ty) from ⟨ty, rfl⟩))
        exact ⟨_, _, _, _, _, _, _, _, _, rfl, B, hXa, p.old (p.rin x (List.mem_of_getElem? hx)), (by omega), hkv⟩
    · rw [show (v == 0) = false by simpa using qv]
      refine iteF ?_
      refine EvF.nil ?_
      refine hnQ _ _ ?_; clear hnQ hrQ Qx
      exact new _ _ _ B (by omega) fun g' u1 u2 u3 u4 X' S' row lots n B e p hn hk => ⟨_, _, _, _, _, _, _, _, _, rfl, B, e, p, hn, hk⟩
  · refine x40 i fun X' S' row lots z421 => ?_; clear i; refine x40 z421 fun n u1 u2 u3 z422 => ?_; clear z421; refine x15 z422 fun u4 z423 B hXa p hn hkv => ?_; clear z422; subst z423
    have hmn : ((many : Int) - 0).toNat = many := (toN0 _)
    rw [hmn] at p
    refine EvF.nil ?_
    exact h _ _ _ _ _ _ _ _ _ _ B hXa p (by omega) hkv
end Mine
end SFn16b

section SFn16c
open PySem PySem.W PySem.Calls PyProof.Rows PySem.SeqAt
set_option maxRecDepth 100000
set_option maxHeartbeats 4000000
namespace Mine
variable {prog : Program} {w : World} {A : Around} {g g₀ g' : Led} {X X' : SR} {S S' : St} {L ta ca ar al a dx sc af : Addr} {cells : List Int} {n : Nat} {row : List Nat} {lots lots0 : List (List Int)} {c : Nat → Option Value} {bad bad' : List Addr}
/-- the circuit and the first lots, apart from what turns -/
structure LE (w : World) (g : Led) (bad : List Addr) (a dx sc af : Addr) (row : List Nat) (lots0 : List (List Int)) : Prop where
  c : CircAt w g a dx sc row
  na : a ∉ bad
  nd : dx ∉ bad
  ns : sc ∉ bad
  f : LotsB bad g lots0 (.ref af)
theorem LE.keep (h : LE w g bad a dx sc af row lots0) (hk : ∀ b o, g b = some o → b ∉ bad → g' b = some o) (hb : ∀ b ∈ bad', b ∈ bad ∨ g b = none) : LE w g' bad' a dx sc af row lots0 := by
  obtain ⟨⟨o1, h1, q1⟩, ⟨n, s, o2, h2, q2⟩, ⟨xs, ⟨o3, h3, q3⟩, q4⟩⟩ := h.c
  exact ⟨⟨⟨o1, hk _ _ h1 h.na, q1⟩, ⟨n, s, o2, hk _ _ h2 h.nd, q2⟩, ⟨xs, ⟨o3, hk _ _ h3 h.ns, q3⟩, q4⟩⟩, mem_bad h1 hb h.na, mem_bad h2 hb h.nd, mem_bad h3 hb h.ns, h.f.keep hk hb⟩
theorem LE.ext (h : LE w g bad a dx sc af row lots0) (e : Ext g g') : LE w g' bad a dx sc af row lots0 := h.keep (fun b o q _ => e _ _ q) fun b m => .inl m
theorem LE.cell (h : LE w g bad a dx sc af row lots0) {c : Addr} {u : Option Value} {o : Obj} (x : At g c (CellO u)) : LE w (g.put c o) bad a dx sc af row lots0 :=
  ⟨h.c.putCell x, h.na, h.nd, h.ns, h.f.cell x⟩
theorem LE.put (h : LE w g bad a dx sc af row lots0) {c : Addr} {o : Obj} (x : c ∈ bad) : LE w (g.put c o) bad a dx sc af row lots0 :=
  h.keep (fun b o q m => (put_ne _ _ fun e => m (by subst e; exact x)).trans q) fun b m => .inl m
theorem LE.store (h : LE w g (ta :: ar :: al :: X.fp) a dx sc af row lots0) (st : Step g g' X.fp X'.fp) : LE w g' (ta :: ar :: al :: X'.fp) a dx sc af row lots0 :=
  h.keep (fun b o q m => st.keep b o q fun k => m (.tail _ (.tail _ (.tail _ k)))) fun b m => by
    simp only [List.mem_cons] at m ⊢
    rcases m with rfl | rfl | rfl | m
    · exact .inl (.inl rfl)
    · exact .inl (.inr (.inl rfl))
    · exact .inl (.inr (.inr (.inl rfl)))
    · exact (st.new b m).imp (fun k => .inr (.inr (.inr k))) id
theorem LE.tape (h : LE w g (ta :: bad) a dx sc af row lots0) (st : Step g g' [ta] [ta]) : LE w g' (ta :: bad) a dx sc af row lots0 :=
  h.keep (fun b o q m => st.keep b o q fun k => m (by rw [List.mem_singleton] at k; subst k; exact .head _)) fun b m => .inl m
theorem LB.lst {b : Addr} {xs : List Value} (B : LB prog w g₀ g L ta ca cells n X S ar al row lots c) (st : Step g g' [ta] [ta]) (h : At g b (LstO xs)) : At g' b (LstO xs) := by
  refine x11 B.t.dict fun od hod hoc => ?_
  obtain ⟨o, ho, q⟩ := h
  refine ⟨o, st.keep b o ho fun m => ?_, q⟩
  rw [List.mem_singleton] at m; subst m; rw [hod] at ho; cases ho
  rw [lst_cls q] at hoc; simp at hoc
noncomputable def levelStm (n : Nat) : Stmt := match lawStm 4 with | .For _ _ body _ _ => (match body[n]? with | some s => s | none => .Pass ⟨0, 0, 0, 0⟩) | _ => .Pass ⟨0, 0, 0, 0⟩
theorem law_right (ok : Ok A 13) {P : Flow → Vars → Led → Prop} {so u1 u2 u3 u4 u5 u6 : Option Value} {F0 : List (List (Int × Int))} {j : Nat}
    (B : LB prog w g₀ g L ta ca cells n X S ar al row lots c) (E : LE w g (ta :: ar :: al :: X.fp) a dx sc af row lots0) (p : P2 S row lots F0 j) (hj : j ≤ 3) (hrl : row.length ≤ 5) (hll : lots.length ≤ 5) (hrin : ∀ x ∈ row, x < lots.length) (hc2 : c 2 = some (.ref X.a))
    (h : ∀ g' X' S', LB prog w g₀ g' L ta ca cells n X' S' ar al row lots c → LE w g' (ta :: ar :: al :: X'.fp) a dx sc af row lots0 → P2 S' row lots F0 j → X'.a = X.a → X'.kvs.length ≤ X.kvs.length → S'.trail = S.trail → P .next (LV so (some (.ref ar)) (some (.ref al)) u1 u2 u3 u4 (some (.ref a)) (some (.ref af)) u5 u6 none) g') :
    EvF prog w (KK w.params) A L (LV so (some (.ref ar)) (some (.ref al)) u1 u2 u3 u4 (some (.ref a)) (some (.ref af)) u5 u6 none) (exec (levelStm 2) (lawEnv L)) g P := by
  have kStore : At g (L + 1 + 2) (CellO (some (.ref X.a))) := hc2 ▸ B.F 2 (by decide)
  refine x11 B.r fun rvs hr hr2 => ?_
  refine x11 B.l fun lvs hl hl2 => ?_
  have ra := B.ra
  rw [List.mem_cons, not_or] at ra
  have hrow : RowB IsN X.fp g row (.ref ar) := ⟨ar, rvs, rfl, ra.2, hr, hr2⟩
  have hlots : LotsB X.fp g lots (.ref al) := ⟨al, lvs, rfl, B.la, hl, hl2.mono fun l v r => r.keep (fun b o q _ => q) fun b m => .inl (.tail _ (.tail _ m))⟩
  show EvF _ _ _ _ _ _ (exec (.If _ _ _ _) _) _ _
  refine EvF.ifS ?_; refine EvF.testNot ?_; refine EvF.testVal ?_; refine EvF.call ?_; refine EvF.top (by rfl) ?_; refine ⟨by first | exact KeepOk.b | exact KeepOk.t | exact KeepOk.k (by rfl), ?_⟩; refine EvF.args1 ?_; refine' EvF.cell ?h1 ?_; (case h1 => assumption); refine EvF.args1 ?_; refine EvF.loc (.tail _ (.tail _ (.tail _ (.tail _ (.tail _ (.tail _ (.tail _ (.head _)))))))) ?_; refine EvF.args1 ?_; refine EvF.loc (.tail _ (.head _)) ?_; refine EvF.args1 ?_; refine EvF.loc (.tail _ (.tail _ (.head _))) ?_; refine EvF.args0 ?_
  refine .of ((is_right_ok (ok.le (by decide)) E.c B.h (p.small hll hj) hrin hrl hll hrow hlots p.ok p.fl).mono fun r g₂ hr' => ?_)
  refine x01 hr' fun z101 z102 => ?_; clear hr'; subst z101; refine x15 z102 fun S' z103 d1 d2 d3 d4 hf => ?_; clear z102; obtain ⟨X', hX', hXa, st, hkv⟩ := z103
  refine EvF.truthyBool ?_
  refine iteF ?_
  refine EvF.nil ?_
  exact h _ _ _ (B.store hX' hXa st) (E.store st) (p.same d1 d2 d3 d4 hf) hXa hkv d3
theorem law_strike (ok : Ok A 13) {P : Flow → Vars → Led → Prop} {so u1 u2 u3 u4 u6 : Option Value} {F0 : List (List (Int × Int))} {k : Nat} {i : Int} {tk : Tok}
    (B : LB prog w g₀ g L ta ca cells n X S ar al row lots c) (E : LE w g (ta :: ar :: al :: X.fp) a dx sc af row lots0) (p : P2 S row lots F0 (k + 1)) (hi : i = k) (hj : k < 3) (ht : S.trail.length ≤ k - 1) (hll : lots.length ≤ 5) (hn : n ≤ 30 + 2 * k) (hkv : X.kvs.length ≤ k) (hc0 : c 0 = some (.ref ta)) (hc2 : c 2 = some (.ref X.a)) (hcl : cells.length ≤ 100)
    (h : ∀ g' X' S' lots' n' c' u6, LB prog w g₀ g' L ta ca cells n' X' S' ar al row lots' c' → LE w g' (ta :: ar :: al :: X'.fp) a dx sc af row lots0 → P2 S' row lots' F0 (k + 1) → X'.a = X.a → lots'.length = lots.length → X'.kvs.length ≤ k + 1 → n' ≤ 32 + 2 * k → c' 0 = c 0 → c' 2 = c 2 → P .next (LV so (some (.ref ar)) (some (.ref al)) u1 u2 u3 u4 (some (.ref a)) (some (.ref af)) (some (.int i tk)) u6 none) g') :
    EvF prog w (KK w.params) A L (LV so (some (.ref ar)) (some (.ref al)) u1 u2 u3 u4 (some (.ref a)) (some (.ref af)) (some (.int i tk)) u6 none) (exec (levelStm 1) (lawEnv L)) g P := by
  have hsz : sizeLine = 2 ^ 24 := rfl
  show EvF _ _ _ _ _ _ (exec (.If _ _ _ _) _) _ _
  refine EvF.ifS ?_; refine EvF.testAnd ?_; refine EvF.test ?_; refine EvF.loc (.tail _ (.tail _ (.tail _ (.tail _ (.tail _ (.tail _ (.tail _ (.tail _ (.tail _ (.head _)))))))))) ?_; refine EvF.cint fun _ => ?_; refine EvF.gtI ?_; refine EvF.truthyBool ?_
  by_cases qk : k = 0
  · subst qk hi
    refine iteF ?_
    refine EvF.nil ?_
    exact h _ _ _ _ _ _ _ B E p rfl rfl (by omega) (by omega) rfl rfl
  rw [decide_eq_true (show i > 0 by omega)]
  show EvF _ _ _ _ _ _ (isTrue _ _ _) _ _
  refine EvF.test ?_; refine EvF.loc (.tail _ (.tail _ (.head _))) ?_; refine EvF.list ?_; refine EvF.args0 ?_; refine ⟨Nat.le_trans (m := 9) (by simp only [List.length_cons, List.length_nil]; decide) (by decide), fun _ _ => ?_⟩
  rename_i ae hae
  have e3 := Ext.new (lstV [] 0) hae
  have B := B.ext e3
  have E := E.ext e3
  have oE : At (g.put ae (lstV [] 0)) ae (LstO []) := ⟨_, put_self .., 0, rfl⟩
  clear hae e3
  generalize g.put ae (lstV [] 0) = g₁ at *
  refine x11 B.l fun lvs hl hl2 => ?_
  have hb : lvs.length = lots.length := hl2.len.symm
  refine .of (.neLs (ps := lots) (qs := []) (EqOn.lst EqOn.int Func.int) ⟨al, lvs, rfl, hl, hl2.mono fun l v ⟨a, ys, k0, k1, k2, k3⟩ => ⟨a, ys, k0, k2, k3⟩⟩ ⟨ae, [], rfl, oE, .nil⟩ ok.cl ?_)
  clear oE
  by_cases ql : lots = []
  · rw [show (!decide (lots = [])) = false by simp [ql]]
    refine EvF.truthyBool ?_
    refine iteF ?_
    refine EvF.nil ?_
    exact h _ _ _ _ _ _ _ B E p rfl rfl (by omega) (by omega) rfl rfl
  rw [show (!decide (lots = [])) = true by simp [ql]]
  have kTape : At g₁ (L + 1) (CellO (some (.ref ta))) := hc0 ▸ B.F 0 (by decide)
  have b2 : 0 < lots.length := List.length_pos_iff.mpr ql
  refine EvF.truthyBool ?_
  refine iteT ?_
  refine EvF.consQ fun Qx hnQ hrQ => ?_; refine EvF.assignS ?_; refine EvF.call ?_; refine EvF.top (by rfl) ?_; refine ⟨by first | exact KeepOk.b | exact KeepOk.t | exact KeepOk.k (by rfl), ?_⟩; refine EvF.args1 ?_; refine' EvF.cell ?h1 ?_; (case h1 => assumption); refine EvF.args1 ?_; refine EvF.call ?_; refine EvF.boot (by rfl) (bv_len) ?_; refine ⟨by first | exact KeepOk.b | exact KeepOk.t | exact KeepOk.k (by rfl), ?_⟩; refine EvF.args1 ?_; refine EvF.loc (.tail _ (.tail _ (.head _))) ?_; refine EvF.args0 ?_
  refine .of (.lenL hl (bits (Nat.le_trans (Nat.le_of_eq (by assumption)) (Nat.le_trans (m := 5) (by assumption) (by decide)))) fun _ => ?_)
  refine EvF.args0 ?_
  refine .of ((take_ok (ok.le (by decide)) B.t (by omega) hcl (show (0 : Int) < (lvs.length : Int) by omega) ⟨_, rfl⟩).mono fun r g₂ hr' => ?_)
  refine x02 hr' fun z141 hT st => ?_; clear hr'; refine x12 z141 fun x z142 x0 x1 => ?_; clear z141; refine x10 z142 fun tx z143 => ?_; clear z142; subst z143
  refine x10 (Int.eq_ofNat_of_zero_le x0) fun xn z161 => ?_; subst z161
  have B := B.tape hT st
  have E := E.tape st
  clear hT st kTape hl hl2
  have kTape : At g₂ (L + 1) (CellO (some (.ref ta))) := hc0 ▸ B.F 0 (by decide)
  refine x11 B.l fun lvs hl hl2 => ?_
  have hb : lvs.length = lots.length := hl2.len.symm
  obtain ⟨l, hlx⟩ : ∃ l, lots[xn]? = some l := ⟨_, List.getElem?_eq_getElem (by omega)⟩
  refine x11 (hl2.at' hlx) fun y hy z201 => ?_; obtain ⟨b, bs, rfl, bb, oB, hB⟩ := z201
  have hlo : l.length ≤ 2 := (p.lo l (List.mem_of_getElem? hlx)).2.2
  have hbl := hB.len
  refine EvF.assignName ?_; refine EvF.store (.tail (.tail (.tail (.tail (.tail (.tail (.tail (.tail (.tail (.tail .head)))))))))) ?_; refine hnQ _ _ ?_; clear hnQ hrQ Qx; refine EvF.consQ fun Qx hnQ hrQ => ?_; refine EvF.ifS ?_; refine EvF.test ?_; refine EvF.call ?_; refine EvF.boot (by rfl) (bv_len) ?_; refine ⟨by first | exact KeepOk.b | exact KeepOk.t | exact KeepOk.k (by rfl), ?_⟩; refine EvF.args1 ?_; refine EvF.sub ?_; refine EvF.loc (.tail _ (.tail _ (.head _))) ?_; refine EvF.loc (.tail _ (.tail _ (.tail _ (.tail _ (.tail _ (.tail _ (.tail _ (.tail _ (.tail _ (.tail _ (.head _))))))))))) ?_; refine' subLst ?h1 ?_; (case h1 => assumption)
  refine .of (.lstAt hl xn rfl hy (by omega) ?_)
  refine EvF.args0 ?_
  refine .of (.lenL oB (bits (Nat.le_trans (Nat.le_of_eq (Eq.symm (by assumption))) (Nat.le_trans (m := 2) (by assumption) (by decide)))) fun _ => ?_)
  refine EvF.cint fun _ => ?_; refine EvF.gtI ?_; refine EvF.truthyBool ?_
  by_cases q1 : 1 < l.length
  · rw [decide_eq_true (show (bs.length : Int) > 1 by omega)]
    refine iteT ?_
    refine EvF.consQ fun Qx hnQ hrQ => ?_; refine EvF.assignS ?_; refine EvF.sub ?_; refine EvF.sub ?_; refine EvF.loc (.tail _ (.tail _ (.head _))) ?_; refine EvF.loc (.tail _ (.tail _ (.tail _ (.tail _ (.tail _ (.tail _ (.tail _ (.tail _ (.tail _ (.tail _ (.head _))))))))))) ?_; refine' subLst ?h1 ?_; (case h1 => assumption)
    refine .of (.lstAt hl xn rfl hy (by omega) ?_)
    refine EvF.call ?_; refine EvF.top (by rfl) ?_; refine ⟨by first | exact KeepOk.b | exact KeepOk.t | exact KeepOk.k (by rfl), ?_⟩; refine EvF.args1 ?_; refine' EvF.cell ?h1 ?_; (case h1 => assumption); refine EvF.args1 ?_; refine EvF.call ?_; refine EvF.boot (by rfl) (bv_len) ?_; refine ⟨by first | exact KeepOk.b | exact KeepOk.t | exact KeepOk.k (by rfl), ?_⟩; refine EvF.args1 ?_; refine EvF.sub ?_; refine EvF.loc (.tail _ (.tail _ (.head _))) ?_; refine EvF.loc (.tail _ (.tail _ (.tail _ (.tail _ (.tail _ (.tail _ (.tail _ (.tail _ (.tail _ (.tail _ (.head _))))))))))) ?_; refine' subLst ?h1 ?_; (case h1 => assumption)
    refine .of (.lstAt hl xn rfl hy (by omega) ?_)
    refine EvF.args0 ?_
    refine .of (.lenL oB (bits (Nat.le_trans (Nat.le_of_eq (Eq.symm (by assumption))) (Nat.le_trans (m := 2) (by assumption) (by decide)))) fun _ => ?_)
    refine EvF.args0 ?_
    refine .of ((take_ok (ok.le (by decide)) B.t (by omega) hcl (show (0 : Int) < (bs.length : Int) by omega) ⟨_, rfl⟩).mono fun r g₃ hr' => ?_)
    refine x02 hr' fun z221 hT st => ?_; clear hr'; refine x12 z221 fun z z222 z0 z1 => ?_; clear z221; refine x10 z222 fun tz z223 => ?_; clear z222; subst z223
    have oB := B.lst st oB
    have B := B.tape hT st
    have E := E.tape st
    clear hT st kTape hl hl2
    obtain ⟨v, hv⟩ : ∃ v, l[z.toNat]? = some v := ⟨_, List.getElem?_eq_getElem (by omega)⟩
    refine x11 (hB.at' hv) fun y' hy' z241 => ?_; refine x10 z241 fun tv z242 => ?_; clear z241; subst z242
    refine' subLst ?h1 ?_; (case h1 => assumption)
    refine .of (.lstAt oB z.toNat (natz (by assumption)) hy' (by omega) ?_)
    refine EvF.assignName ?_
    refine EvF.storeCell (B.F 3 (by decide)) fun o ho => ?_
    have E := E.cell (o := o) (B.F 3 (by decide))
    have B := B.putC (i := 3) (by decide) ho
    clear oB hB hy' ho
    generalize g₃.put (L + 1 + 3) o = g₄ at *
    have i1 := B.h.i
    have i2 := B.h.x
    have kStore : At g₄ (L + 1 + 2) (CellO (some (.ref X.a))) := hc2 ▸ B.F 2 (by decide)
    have kV : At g₄ (L + 1 + 3) (CellO (some (.int v tv))) := B.F 3 (by decide)
    refine hnQ _ _ ?_; clear hnQ hrQ Qx; refine EvF.consQ fun Qx hnQ hrQ => ?_; refine EvF.exprD ?_; refine EvF.meth ?_; refine' EvF.cell ?h1 ?_; (case h1 => assumption); refine EvF.of (.method (by assumption) (by assumption) (by rfl) (by rfl) ?_); refine ⟨by first | exact KeepOk.b | exact KeepOk.t | exact KeepOk.k (by rfl), ?_⟩; refine EvF.args1 ?_; refine EvF.tuple ?_; refine EvF.args1 ?_; refine EvF.loc (.tail _ (.tail _ (.tail _ (.tail _ (.tail _ (.tail _ (.tail _ (.tail _ (.tail _ (.tail _ (.head _))))))))))) ?_; refine EvF.args1 ?_; refine EvF.cstr fun _ => ?_; refine EvF.args1 ?_; refine' EvF.cell ?h1 ?_; (case h1 => assumption); refine EvF.args0 ?_; refine ⟨Nat.le_trans (m := 9) (by simp only [List.length_cons, List.length_nil]; decide) (by decide), fun _ _ => ?_⟩; refine EvF.args0 ?_; refine EvF.callApp ?_
    rename_i ts T hT
    have eT := Ext.new (tupV [.int xn tx, .str (Str.ofString "!=") ts, .int v tv] 0) hT
    have hLit : Lit (g₄.put T (tupV [.int xn tx, .str (Str.ofString "!=") ts, .int v tv] 0)) ((xn : Int), v) (.ref T) := Lit.mk ⟨_, put_self .., 0, rfl⟩
    have B := B.ext eT
    have E := E.ext eT
    clear hT eT kV kStore i1 i2
    generalize g₄.put T (tupV [.int xn tx, .str (Str.ofString "!=") ts, .int v tv] 0) = g₅ at *
    obtain ⟨d, hd⟩ : ∃ d, S.doms[xn]? = some d := ⟨_, List.getElem?_eq_getElem (by rw [p.ok.1]; omega)⟩
    have hvl := List.mem_of_getElem? hv
    refine x02 (struck_some (p.ok.2 xn d l hd hlx).1 (p.ok.2 xn d l hd hlx).2 (p.lo l (List.mem_of_getElem? hlx)) q1 hvl) fun s1 s2 s3 => ?_
    have p' := p.decide (by omega) hd hlx q1 hvl
    refine .of ((decide_ok (ok.le (by decide)) B.h (p.small hll (by omega)) hd hLit (by omega) s1 s2).mono fun r g₆ hr' => ?_)
    obtain ⟨X', hX', hXa, st, hkv'⟩ := hr'
    have B := B.store hX' hXa st
    have E := E.store st
    clear hLit hX' st
    refine x11 B.l fun lvs hl hl2 => ?_
    refine x11 (hl2.at' hlx) fun y hy z321 => ?_; obtain ⟨b, bs, rfl, bb, oB, hB⟩ := z321
    have kV : At g₆ (L + 1 + 3) (CellO (some (.int v tv))) := B.F 3 (by decide)
    have hbl := hB.len
    have hb : lvs.length = lots.length := hl2.len.symm
    refine hnQ _ _ ?_; clear hnQ hrQ Qx; refine EvF.consQ fun Qx hnQ hrQ => ?_; refine EvF.assignS ?_
    refine EvF.compL (γ := Int) ["w"] ok ?_
    refine EvF.sub ?_; refine EvF.loc (.tail _ (.tail _ (.head _))) ?_; refine EvF.loc (.tail _ (.tail _ (.tail _ (.tail _ (.tail _ (.tail _ (.tail _ (.tail _ (.tail _ (.tail _ (.head _))))))))))) ?_; refine' subLst ?h1 ?_; (case h1 => assumption)
    refine .of (.lstAt hl xn rfl hy (by omega) ?_)
    refine ⟨_, _, _, fun k => (l.take k).filter (fun u => !decide (u = v)), fun _ => IsI, Src.lst oB, rfl, fun k => ?_, fun C e₁ ee hcc => ⟨fun k vs e' => (∃ u, vs = ([("w", u)] : Vars)) ∧ Ext e₁ e', Ext, ⟨⟨_, rfl⟩, Ext.refl _⟩, fun k vs e' j b _ o ho => j.2 _ _ (ee _ _ ho), fun e e' b v x r => r, fun k y vs e' hk hy j => ?_, fun vs e' ys D m j nD ha => ?_⟩⟩
    · refine Nat.le_trans (List.length_filter_le _ _) ?_
      rw [List.length_take]
      omega
    · refine x01 j fun z341 e2 => ?_; clear j; refine x10 z341 fun u1 z342 => ?_; clear z341; subst z342
      refine x11 (hB.at hy) fun u hu z361 => ?_; refine x10 z361 fun tu z362 => ?_; clear z361; subst z362
      have hcut : (l.take (k + 1)).filter (fun u => !decide (u = v)) = (l.take k).filter (fun u => !decide (u = v)) ++ [u].filter (fun u => !decide (u = v)) := by
        rw [take_succ_of hu, List.filter_append]
      have kV := (kV.ext ee).ext e2
      refine EvF.bind ?_; refine EvF.assignName ?_; refine EvF.store .head ?_; refine EvF.tests1 ?_; refine EvF.test ?_; refine EvF.loc (.head _) ?_; refine' EvF.cell ?h1 ?_; (case h1 => assumption); refine EvF.neI ?_; refine EvF.truthyBool ?_
      by_cases qu : u = v
      · rw [show (u != v) = false by simp [qu]]
        refine iteF ⟨⟨⟨_, rfl⟩, e2⟩, Ext.refl _, ?_⟩
        show (l.take (k + 1)).filter _ = _
        rw [hcut]; simp [qu]
      · rw [show (u != v) = true by simp [qu]]
        refine iteT ?_
        refine EvF.loc (.head _) ?_
        refine ⟨⟨⟨_, rfl⟩, e2⟩, Ext.refl _, u, ?_, ⟨_, rfl⟩⟩
        show (l.take (k + 1)).filter _ = _
        rw [hcut]; simp [qu]
    · refine x01 j fun z381 e2 => ?_; clear j; refine x10 z381 fun w1 z382 => ?_; clear z381; subst z382
      have hfull : l.take bs.length = l := by rw [← hbl, List.take_length]
      have ha : All2 IsI (l.filter (fun u => !decide (u = v))) ys := by simpa only [hfull] using ha
      have B := B.ext (ee.trans e2)
      have hfr := B.free nD
      have eD := Ext.new (lstV ys m) nD
      have oD : At (e'.put D (lstV ys m)) D (LstO ys) := ⟨_, put_self .., m, rfl⟩
      have B := B.ext eD
      have E := (E.ext (ee.trans e2)).ext eD
      clear eD nD hcc kV hl hl2 hy oB hB bb
      generalize e'.put D (lstV ys m) = g₇ at *
      refine x11 B.l fun lvs hl hl2 => ?_
      have hb := hl2.len
      refine EvF.assignSub ?_; refine EvF.loc (.tail _ (.tail _ (.head _))) ?_; refine EvF.loc (.tail _ (.tail _ (.tail _ (.tail _ (.tail _ (.tail _ (.tail _ (.tail _ (.tail _ (.tail _ (.head _))))))))))) ?_
      refine .of (.setAt hl xn rfl (by omega) (by omega) fun m2 => ?_)
      have B := B.putL (m := m2) (hl2.setted xn (show RowB IsI (ar :: al :: X'.fp) g₇ (l.filter (fun u => !decide (u = v))) (.ref D) from ⟨D, ys, rfl, hfr, oD, ha⟩))
      have E := E.put (c := al) (o := lstV (lvs.set xn (.ref D)) m2) (.tail _ (.tail _ (.head _)))
      refine hnQ _ _ ?_; clear hnQ hrQ Qx; refine EvF.nil ?_; refine hnQ _ _ ?_; clear hnQ hrQ Qx; refine EvF.nil ?_
      exact h _ _ _ _ _ _ _ B E p' hXa (by rw [List.length_set]) (by omega) (by omega) rfl rfl
  · rw [decide_eq_false (show ¬ (bs.length : Int) > 1 by omega)]
    refine iteF ?_
    refine EvF.nil ?_; refine hnQ _ _ ?_; clear hnQ hrQ Qx; refine EvF.nil ?_
    exact h _ _ _ _ _ _ _ B E p rfl rfl (by omega) (by omega) rfl rfl
end Mine
end SFn16c

section SFn16d
open PySem PySem.W PySem.Calls PyProof.Rows PySem.SeqAt
set_option maxRecDepth 100000
set_option maxHeartbeats 4000000
namespace Mine
variable {prog : Program} {w : World} {A : Around} {g g₀ g' : Led} {X X' : SR} {S S' : St} {L ta ca ar al a dx sc af : Addr} {cells : List Int} {n : Nat} {row : List Nat} {lots lots0 : List (List Int)} {c : Nat → Option Value} {bad bad' : List Addr}
theorem law_levels (ok : Ok A 13) {P : Flow → Vars → Led → Prop} {so u1 u2 u3 u4 : Option Value} {F0 : List (List (Int × Int))}
    (B : LB prog w g₀ g L ta ca cells n X S ar al row lots c) (E : LE w g (ta :: ar :: al :: X.fp) a dx sc af row lots0) (p : P2 S row lots F0 0) (hrl : row.length ≤ 5) (hll : lots.length ≤ 5) (hrin : ∀ x ∈ row, x < lots.length) (hn : n ≤ 30) (hkv : X.kvs.length ≤ 0) (hc0 : c 0 = some (.ref ta)) (hc2 : c 2 = some (.ref X.a)) (hcl : cells.length ≤ 100)
    (h : ∀ g' X' S' lots' n' c' u5 u6, LB prog w g₀ g' L ta ca cells n' X' S' ar al row lots' c' → LE w g' (ta :: ar :: al :: X'.fp) a dx sc af row lots0 → P2 S' row lots' F0 3 → lots'.length ≤ 5 → c' 2 = some (.ref X'.a) → P .next (LV so (some (.ref ar)) (some (.ref al)) u1 u2 u3 u4 (some (.ref a)) (some (.ref af)) u5 u6 none) g') :
    EvF prog w (KK w.params) A L (LV so (some (.ref ar)) (some (.ref al)) u1 u2 u3 u4 (some (.ref a)) (some (.ref af)) none none none) (exec (lawStm 4) (lawEnv L)) g P := by
  have hsz : sizeLine = 2 ^ 24 := rfl
  show EvF _ _ _ _ _ _ (exec (.For _ _ _ _ _) _) _ _
  refine EvF.forS ok.h ?_
  refine EvF.call ?_; refine EvF.boot (by rfl) (bv_range) ?_; refine ⟨by first | exact KeepOk.b | exact KeepOk.t | exact KeepOk.k (by rfl), ?_⟩; refine EvF.args1 ?_; refine EvF.cint fun _ => ?_; refine EvF.args0 ?_; refine EvF.range1 fun _ _ _ _ => ?_
  rename_i t3 rr t2 t4 hrr
  have hrg : (g.put rr (rngV 0 3 t2 t3 t4)) rr = some (rngV 0 3 t2 t3 t4) := put_self ..
  have eR := Ext.new (rngV 0 3 t2 t3 t4) hrr
  have B := B.ext eR
  have E := E.ext eR
  clear eR hrr
  generalize g.put rr (rngV 0 3 t2 t3 t4) = g₁ at *
  refine ⟨_, _, _, fun k vs gg => ∃ X' S' lots' n' c' u5 u6, vs = LV so (some (.ref ar)) (some (.ref al)) u1 u2 u3 u4 (some (.ref a)) (some (.ref af)) u5 u6 none ∧ LB prog w g₀ gg L ta ca cells n' X' S' ar al row lots' c' ∧ LE w gg (ta :: ar :: al :: X'.fp) a dx sc af row lots0 ∧ P2 S' row lots' F0 k ∧ X'.a = X.a ∧ lots'.length = lots.length ∧ n' ≤ 30 + 2 * k ∧ X'.kvs.length ≤ k ∧ c' 0 = c 0 ∧ c' 2 = c 2, Src.rng hrg (by omega) (by omega) (by omega) (by omega),
    ⟨X, S, lots, n, c, none, none, rfl, B, E, p, rfl, rfl, hn, hkv, rfl, rfl⟩, fun k vs gg i b m => (nomatch m), fun k vs gg y hk hy i => ?_, fun vs gg i => ?_⟩
  · refine x40 i fun X' S' lots' n' z1 => ?_; clear i; refine x35 z1 fun c' u5 u6 z2 B E p hXa z3 => ?_; clear z1; subst z2; refine x04 z3 fun hlen hn' hkv' e0 e2 => ?_; clear z3
    refine x10 hy fun tk z21 => ?_; clear hy; subst z21
    have kStore : At gg (L + 1 + 2) (CellO (some (.ref X'.a))) := by rw [hXa, ← hc2, ← e2]; exact B.F 2 (by decide)
    have i1 := B.h.i
    have i2 := B.h.x
    have htl := p.tl
    refine EvF.bind ?_; refine EvF.assignName ?_; refine EvF.store (.tail (.tail (.tail (.tail (.tail (.tail (.tail (.tail (.tail .head))))))))) ?_; refine EvF.consQ fun Qx hnQ hrQ => ?_; refine EvF.exprD ?_; refine EvF.meth0 ?_; refine' EvF.cell ?h1 ?_; (case h1 => assumption); refine EvF.of (.method (by assumption) (by assumption) (by rfl) (by rfl) ?_); refine ⟨by first | exact KeepOk.b | exact KeepOk.t | exact KeepOk.k (by rfl), ?_⟩
    have hk3 : k < 3 := (by omega)
    refine .of ((spush_ok (ok.le (by decide)) B.h (p.small (by omega) (by omega))).mono fun r g₂ hr' => ?_)
    refine x01 hr' fun z41 z42 => ?_; clear hr'; subst z41; obtain ⟨X₂, hX₂, hXa₂, st, hkv₂⟩ := z42
    have B := B.store hX₂ hXa₂ st
    have E := E.store st
    clear hX₂ st i1 i2 kStore
    refine hnQ _ _ ?_; clear hnQ hrQ Qx
    refine EvF.consQ fun Qx hnQ hrQ => ?_
    refine law_strike ok B E p.push (Int.zero_add _) hk3 htl (by omega) hn' (by omega) (e0.trans hc0) (by rw [hXa₂, hXa, e2]; exact hc2) hcl fun g₃ X₃ S₃ lots₃ n₃ c₃ w6 B E p hXa₃ hlen₃ hkv₃ hn₃ f0 f2 => ?_
    refine hnQ _ _ ?_; clear hnQ hrQ Qx
    refine EvF.consQ fun Qx hnQ hrQ => ?_
    refine law_right ok B E p (by omega) hrl (by omega) (by rw [hlen₃, hlen]; exact hrin) (by rw [f2, e2, hXa₃, hXa₂, hXa]; exact hc2) fun g₄ X₄ S₄ B E p hXa₄ hkv₄ _ => ?_
    refine hnQ _ _ ?_; clear hnQ hrQ Qx; refine EvF.nil ?_
    exact ⟨_, _, _, _, _, _, _, rfl, B, E, p, by rw [hXa₄, hXa₃, hXa₂, hXa], (by omega), (by omega), (by omega), f0.trans e0, f2.trans e2⟩
  · refine x40 i fun X' S' lots' n' z61 => ?_; clear i; refine x35 z61 fun c' u5 u6 z62 B E p hXa z63 => ?_; clear z61; subst z62; refine x04 z63 fun hlen hn' hkv' e0 e2 => ?_; clear z63
    refine EvF.nil ?_
    exact h _ _ _ _ _ _ _ _ B E p (by omega) (by rw [hXa, ← hc2, ← e2])
end Mine
end SFn16d

section SFn16e
open PySem PySem.W PySem.Calls PyProof.Rows PySem.SeqAt
set_option maxRecDepth 100000
set_option maxHeartbeats 4000000
namespace Mine
theorem EvF.andVal3 {prog : Program} {w : World} {K : Frag} {A : Around} {L : Addr} {vs : Vars} {g : Led} {env : Env} {x y z pos} {P : Value → Vars → Led → Prop} (h : EvF prog w K A L vs (eval x env) g fun v vs' g' => EvF prog w K A L vs' (truthy v) g' fun t vs'' g'' => match t with | false => P v vs'' g'' | true => EvF prog w K A L vs'' (eval (.BoolOp .And [y, z] pos) env) g'' P) :
    EvF prog w K A L vs (eval (.BoolOp .And [x, y, z] pos) env) g P := by
  refine EvF.bind (h.mono fun v vs' g' p => EvF.bind (EvF.standAt (EvF.bind (EvF.holding (EvF.mono p fun t vs'' g'' q => ?_)))))
  cases t with
  | false => exact EvF.pure q
  | true => exact q
variable {prog : Program} {w : World} {A : Around} {g g₀ g' : Led} {X X' : SR} {S S' : St} {L ta ca ar al a dx sc af : Addr} {cells : List Int} {n : Nat} {row : List Nat} {lots lots0 : List (List Int)} {c : Nat → Option Value} {bad bad' : List Addr}
noncomputable def lawRest (n : Nat) : List Stmt := match stm 25 with | .FunctionDef _ _ body _ _ _ _ _ _ _ => body.drop n | _ => []
theorem law_end (ok : Ok A 13) {P : Flow → Vars → Led → Prop} {so u1 u2 u3 u4 u5 u6 : Option Value}
    (B : LB prog w g₀ g L ta ca cells n X S ar al row lots c) (E : LE w g (ta :: ar :: al :: X.fp) a dx sc af row lots0) (p : P2 S row lots (lots0.map rangesOf) 3) (hll : lots.length ≤ 5) (hlo : ∀ l ∈ lots0, LotOk l) (hc2 : c 2 = some (.ref X.a))
    (h : ∀ vs g', Ext g₀ g' → P (.ret (.bool true)) vs g') :
    EvF prog w (KK w.params) A L (LV so (some (.ref ar)) (some (.ref al)) u1 u2 u3 u4 (some (.ref a)) (some (.ref af)) u5 u6 none) (execs (lawRest 5) (lawEnv L)) g P := by
  have hsz : sizeLine = 2 ^ 24 := rfl
  have kStore : At g (L + 1 + 2) (CellO (some (.ref X.a))) := hc2 ▸ B.F 2 (by decide)
  have i1 := B.h.i
  have i2 := B.h.x
  refine x20 p.marks fun m1 m2 hm => ?_
  have hl0 : lots0.length = lots.length := by have := p.ok.1; have h3 : (lots0.map rangesOf).length = S.doms.length := by rw [← p.u, undo_len]
                                              rw [List.length_map] at h3; omega
  have hf : [] ∉ S.firsts := fun m => by
    rw [p.f, List.mem_map] at m
    refine x11 m fun l hl e => ?_; clear m
    exact (hlo l hl).dom.2.2.1 e
  show EvF _ _ _ _ _ _ (execs (_ :: _) _) _ _
  refine EvF.consQ fun Qx hnQ hrQ => ?_; refine EvF.exprD ?_; refine EvF.meth ?_; refine' EvF.cell ?h1 ?_; (case h1 => assumption); refine EvF.of (.method (by assumption) (by assumption) (by rfl) (by rfl) ?_); refine ⟨by first | exact KeepOk.b | exact KeepOk.t | exact KeepOk.k (by rfl), ?_⟩; refine EvF.args1 ?_; refine EvF.cint fun _ => ?_; refine EvF.args0 ?_; refine EvF.callApp ?_
  refine .of ((pop_ok (ok.le (by decide)) B.h (p.small hll (by decide)) hm p.tk ⟨_, rfl⟩ hf).mono fun r g₂ hr' => ?_)
  obtain ⟨X', hX', hXa, st, hkv⟩ := hr'
  have B := B.store hX' hXa st
  have E := E.store st
  clear hX' st i1 i2 kStore
  rw [p.u] at B
  have z : Small { S with doms := lots0.map rangesOf, trail := [], marks := [], failed := false, clash := [] } := by
    refine ⟨by show (lots0.map rangesOf).length ≤ _; rw [List.length_map]; omega, by show S.firsts.length ≤ _; rw [p.f, List.length_map]; omega, Nat.zero_le _, Nat.zero_le _, fun d hd => ?_⟩
    refine x11 (List.mem_map.mp hd) fun l hl z61 => ?_; subst z61
    exact Nat.le_trans (hlo l hl).dom.2.2.2 (by decide)
  generalize hS : ({ S with doms := lots0.map rangesOf, trail := [], marks := [], failed := false, clash := [] } : St) = S' at *
  have kStore : At g₂ (L + 1 + 2) (CellO (some (.ref X'.a))) := by rw [hXa, ← hc2]; exact B.F 2 (by decide)
  have i1 := B.h.i
  have i2 := B.h.x
  have hdl : S'.doms.length = lots0.length := by rw [← hS, List.length_map]
  refine hnQ _ _ ?_; clear hnQ hrQ Qx; refine EvF.consQ fun Qx hnQ hrQ => ?_
  refine EvF.compLTo (γ := List (Int × Int)) ["x"] ok ?_
  refine EvF.call ?_; refine EvF.boot (by rfl) (bv_range) ?_; refine ⟨by first | exact KeepOk.b | exact KeepOk.t | exact KeepOk.k (by rfl), ?_⟩; refine EvF.args1 ?_; refine EvF.meth0 ?_; refine' EvF.cell ?h1 ?_; (case h1 => assumption); refine EvF.of (.method (by assumption) (by assumption) (by rfl) (by rfl) ?_); refine ⟨by first | exact KeepOk.b | exact KeepOk.t | exact KeepOk.k (by rfl), ?_⟩
  refine .of ((size_ok (ok.le (by decide)) B.h z).mono fun r g₃ hr' => ?_)
  refine x01 hr' fun e3 z81 => ?_; clear hr'; refine x10 z81 fun tn z82 => ?_; clear z81; subst z82
  refine EvF.args0 ?_; refine EvF.range1 fun _ _ _ _ => ?_
  rename_i rr t3 t4 hrr
  have hrg : (g₃.put rr (rngV 0 (S'.doms.length : Int) t3 tn t4)) rr = some (rngV 0 (S'.doms.length : Int) t3 tn t4) := put_self ..
  have e4 := e3.trans (Ext.new (rngV 0 (S'.doms.length : Int) t3 tn t4) hrr)
  have B := B.ext e4
  have E := E.ext e4
  have kStore := kStore.ext e4
  clear e3 e4 i1 i2 hrr
  generalize g₃.put rr (rngV 0 (S'.doms.length : Int) t3 tn t4) = g₃ at *
  refine ⟨_, _, _, fun k => S'.doms.take k, Dom, Src.rng hrg (by omega) (by omega) (bitsN) (by omega), rfl, fun k => by rw [List.length_take]; omega, fun C e₁ ee hcc => ⟨fun k vs e' => (∃ u, vs = ([("x", u)] : Vars)) ∧ Ext e₁ e', Ext, ⟨⟨_, rfl⟩, Ext.refl _⟩, fun k vs e' j b m => (nomatch m), fun e e' b v x r => Stays.dom.go r x, fun k y vs e' hk hy j => ?_, fun vs e' ys D m j nD ha => ?_⟩⟩
  · refine x01 j fun z101 e2 => ?_; clear j; refine x10 z101 fun u1 z102 => ?_; clear z101; subst z102
    refine x10 hy fun tx z121 => ?_; clear hy; subst z121
    have hkm : k < S'.doms.length := (lt0 (by assumption))
    obtain ⟨d, hd⟩ : ∃ d, S'.doms[k]? = some d := ⟨_, List.getElem?_eq_getElem hkm⟩
    have eo := ee.trans e2
    have h₅ := B.h.ext eo
    have i1 := h₅.i
    have i2 := h₅.x
    have kStore := kStore.ext eo
    refine EvF.bind ?_; refine EvF.assignName ?_; refine EvF.store .head ?_; refine EvF.tests0 ?_; refine iteT ?_; refine EvF.meth ?_; refine' EvF.cell ?h1 ?_; (case h1 => assumption); refine EvF.of (.method (by assumption) (by assumption) (by rfl) (by rfl) ?_); refine ⟨by first | exact KeepOk.b | exact KeepOk.t | exact KeepOk.k (by rfl), ?_⟩; refine EvF.args1 ?_; refine EvF.loc (.head _) ?_; refine EvF.args0 ?_; refine EvF.callApp ?_
    refine .of ((dom_ok (ok.le (by decide)) h₅ z hd ⟨_, by rw [Int.zero_add]⟩).mono fun r g₆ hr => ?_)
    refine x01 hr ?_; clear hr; intro e6 hr
    exact ⟨⟨⟨_, rfl⟩, e2.trans e6⟩, e6, d, take_succ_of hd, hr⟩
  refine x01 j fun z161 e2 => ?_; clear j; refine x10 z161 fun w1 z162 => ?_; clear z161; subst z162
  have hfull : S'.doms.take ((S'.doms.length : Int) - 0).toNat = S'.doms := List.take_of_length_le (ge0)
  have ha : All2 (Dom e') S'.doms ys := by simpa only [hfull] using ha
  have eD := Ext.new (lstV ys m) nD
  have oD : At (e'.put D (lstV ys m)) D (LstO ys) := ⟨_, put_self .., m, rfl⟩
  have ha := Stays.dom.all ha eD.kp
  have eD := (ee.trans e2).trans eD
  have B := B.ext eD
  have E := E.ext eD
  have kStore := kStore.ext eD
  clear nD eD hrg ee hcc e2
  generalize e'.put D (lstV ys m) = g₅ at *
  refine ⟨_, (.tail (.tail (.tail (.tail (.tail (.tail (.tail (.tail (.tail (.tail (.tail .head))))))))))), ?_⟩
  have i1 := B.h.i
  have i2 := B.h.x
  have hF : S'.failed = false := by rw [← hS]
  have hT : S'.trail = [] := by rw [← hS]
  have hD : S'.doms = lots0.map rangesOf := by rw [← hS]
  obtain ⟨af', fvs, e0, nf, oF, hfv⟩ := E.f
  cases e0
  have i3 := B.h.t
  have i4 : X'.ts = [] := by
    have := B.h.rt.len
    rw [hT] at this
    exact List.eq_nil_of_length_eq_zero this.symm
  rw [i4] at i3
  refine hnQ _ _ ?_; clear hnQ hrQ Qx; refine EvF.consQ fun Qx hnQ hrQ => ?_; refine EvF.ret ?_
  refine EvF.andVal3 (EvF.notVal ?_)
  refine EvF.attr ?_; refine' EvF.cell ?h1 ?_; (case h1 => assumption); refine EvF.of (.getOwn (by assumption) (by assumption) (by rfl) (by rfl) (by rfl) ?_); refine EvF.truthyBool ?_; refine EvF.truthyBool ?_
  rw [hF]
  show EvF _ _ _ _ _ _ (eval (.BoolOp .And [_, _] _) _) _ _
  refine EvF.andVal ?_; refine EvF.compare ?_; refine EvF.attr ?_; refine' EvF.cell ?h1 ?_; (case h1 => assumption); refine EvF.of (.getOwn (by assumption) (by assumption) (by rfl) (by rfl) (by rfl) ?_); refine EvF.list ?_; refine EvF.args0 ?_; refine ⟨Nat.le_trans (m := 9) (by simp only [List.length_cons, List.length_nil]; decide) (by decide), fun _ _ => ?_⟩
  rename_i ae hae
  have e3 := Ext.new (lstV [] 0) hae
  have oE : At (g₅.put ae (lstV [] 0)) ae (LstO []) := ⟨_, put_self .., 0, rfl⟩
  have i3 := i3.ext e3
  have B := B.ext e3
  have oF := oF.ext e3
  have oD := oD.ext e3
  have hfv := hfv.mono fun _ _ r => r.ext e3
  have ha := Stays.dom.all ha e3.kp
  clear hae e3 i1 i2 kStore E
  generalize g₅.put ae (lstV [] 0) = g₆ at *
  refine .of (.eqLs (ps := []) (qs := []) EqOn.int ⟨_, [], rfl, i3, .nil⟩ ⟨_, [], rfl, oE, .nil⟩ ok.cl ?_)
  rw [decide_eq_true rfl]
  refine EvF.truthyBool ?_; refine EvF.compare ?_; refine EvF.loc (.tail _ (.tail _ (.tail _ (.tail _ (.tail _ (.tail _ (.tail _ (.tail _ (.tail _ (.tail _ (.tail _ (.head _)))))))))))) ?_
  refine EvF.compL (γ := List (Int × Int)) ["some"] ok ?_
  refine EvF.loc (.tail _ (.tail _ (.tail _ (.tail _ (.tail _ (.tail _ (.tail _ (.tail _ (.head _))))))))) ?_
  refine ⟨_, _, _, fun k => (lots0.take k).map rangesOf, Dom, Src.lst oF, rfl, fun k => by rw [List.length_map, List.length_take]; exact line2 (Nat.le_trans (Nat.le_of_eq (by assumption)) (Nat.le_trans (m := 5) (by assumption) (by decide))), fun C e₁ ee hcc => ⟨fun k vs e' => (∃ u, vs = ([("some", u)] : Vars)) ∧ Ext e₁ e', Ext, ⟨⟨_, rfl⟩, Ext.refl _⟩, fun k vs e' j b _ o ho => j.2 _ _ (ee _ _ ho), fun e e' b v x r => Stays.dom.go r x, fun k y vs e' hk hy j => ?_, fun vs e' ys2 D2 m2 j nD ha2 => ?_⟩⟩
  · refine x01 j fun z201 e2 => ?_; clear j; refine x10 z201 fun u1 z202 => ?_; clear z201; subst z202
    refine x11 (hfv.at hy) fun l hl z221 => ?_; obtain ⟨b, bs, rfl, bb, oB, hB⟩ := z221
    have oB := (oB.ext ee).ext e2
    have hl2 := (hlo l (List.mem_of_getElem? hl)).2.2
    refine EvF.bind ?_; refine EvF.assignName ?_; refine EvF.store .head ?_; refine EvF.tests0 ?_; refine iteT ?_; refine EvF.call ?_; refine EvF.top (by rfl) ?_; refine ⟨by first | exact KeepOk.b | exact KeepOk.t | exact KeepOk.k (by rfl), ?_⟩; refine EvF.args1 ?_; refine EvF.loc (.head _) ?_; refine EvF.args0 ?_
    refine .of ((ranges_ok (ok.le (by decide)) ⟨b, bs, rfl, oB, hB⟩ (by omega)).mono fun r g₆ hr => ?_)
    refine x01 hr ?_; clear hr; intro e6 hr
    exact ⟨⟨⟨_, rfl⟩, e2.trans e6⟩, e6, _, by show (lots0.take (k + 1)).map rangesOf = _; rw [take_succ_of hl, List.map_append]; rfl, hr⟩
  refine x01 j fun z261 e2 => ?_; clear j; refine x10 z261 fun w2 z262 => ?_; clear z261; subst z262
  have hfull : lots0.take fvs.length = lots0 := by rw [← hfv.len, List.take_length]
  have ha2 : All2 (Dom e') (lots0.map rangesOf) ys2 := by simpa only [hfull] using ha2
  have eD := Ext.new (lstV ys2 m2) nD
  have oD2 : At (e'.put D2 (lstV ys2 m2)) D2 (LstO ys2) := ⟨_, put_self .., m2, rfl⟩
  have ha2 := Stays.dom.all ha2 eD.kp
  have eD := (ee.trans e2).trans eD
  have e0 := B.e.trans eD
  have ha := Stays.dom.all ha eD.kp
  refine .of (.eqLs EqOn.dom ⟨D, ys, rfl, oD.ext eD, ha⟩ ⟨D2, ys2, rfl, oD2, ha2⟩ ok.cl ?_)
  rw [decide_eq_true hD]
  refine hrQ _ _ _ rfl ?_; clear hnQ hrQ Qx
  exact h _ _ e0
end Mine
end SFn16e

section SFn16f
open PySem PySem.W PySem.Calls PyProof.Rows PySem.SeqAt
set_option maxRecDepth 100000
set_option maxHeartbeats 4000000
namespace Mine
variable {prog : Program} {w : World} {A : Around} {g g₀ g' : Led} {X X' : SR} {S S' : St} {L ta ca ar al a dx sc af : Addr} {cells : List Int} {n : Nat} {row : List Nat} {lots lots0 : List (List Int)} {c : Nat → Option Value} {bad bad' : List Addr}
theorem LB.free4 (B : LB prog w g₀ g L ta ca cells n X S ar al row lots c) {D : Addr} (h : g D = none) : D ∉ ta :: ar :: al :: X.fp := by
  rw [List.mem_cons, not_or]
  refine x11 B.t.dict fun o ho _ => ?_
  exact ⟨(ne_of_none h ho).symm, B.free h⟩
theorem LB.row4 {l : List Int} {v : Value} (B : LB prog w g₀ g L ta ca cells n X S ar al row lots c) (h : RowB IsI (ar :: al :: X.fp) g l v) : RowB IsI (ta :: ar :: al :: X.fp) g l v := by
  obtain ⟨b, bs, rfl, bb, oB, hB⟩ := h
  refine x11 B.t.dict fun o ho hc => ?_
  refine ⟨b, bs, rfl, ?_, oB, hB⟩
  rw [List.mem_cons, not_or]
  refine ⟨fun e => ?_, bb⟩
  obtain ⟨o', ho', q⟩ := oB
  rw [e, ho] at ho'; cases ho'
  rw [lst_cls q] at hc; simp at hc
theorem law_mid (ok : Ok A 13) (hfile : ((prog.main.file : Str) == Str.ofString "/claim/cut.py") = true) (htop : (prog.main.scope.names.lookup ("super" : Str)).isSome = false) {many : Nat} (hm : many ≤ 5) {P : Flow → Vars → Led → Prop} {so u1 u2 u3 u4 : Option Value}
    (B : LB prog w g₀ g L ta ca cells n X S ar al row lots c) (p : P1 S row lots many) (hn : n ≤ 30) (hk : X.kvs.length ≤ 0) (hc0 : c 0 = some (.ref ta)) (hc2 : c 2 = some (.ref X.a)) (hcl : cells.length ≤ 100)
    (h : ∀ vs g', Ext g₀ g' → P (.ret (.bool true)) vs g') :
    EvF prog w (KK w.params) A L (LV so (some (.ref ar)) (some (.ref al)) u1 u2 u3 u4 none none none none none) (execs (lawRest 3) (lawEnv L)) g P := by
  have hsz : sizeLine = 2 ^ 24 := rfl
  show EvF _ _ _ _ _ _ (execs (_ :: _) _) _ _
  refine x11 B.r fun rvs hr hr2 => ?_
  refine x11 B.l fun lvs hl hl2 => ?_
  have hrl := p.rl
  have hll := p.ll
  have b1 : rvs.length ≤ sizeLine := by have := hr2.len; omega
  refine EvF.consQ fun Qx hnQ hrQ => ?_; refine EvF.assignSwap ?_; refine EvF.tuple ?_; refine EvF.args1 ?_; refine EvF.call ?_; refine EvF.top (by rfl) ?_; refine ⟨by first | exact KeepOk.b | exact KeepOk.t | exact KeepOk.k (by rfl), ?_⟩; refine EvF.args1 ?_; refine EvF.call ?_; refine EvF.boot (by rfl) (bv_tuple) ?_; refine ⟨by first | exact KeepOk.b | exact KeepOk.t | exact KeepOk.k (by rfl), ?_⟩; refine EvF.args1 ?_; refine EvF.loc (.tail _ (.head _)) ?_; refine EvF.args0 ?_; refine' EvF.of (.tupleOf ?h1 ?h2 fun _ _ => ?_); (case h1 => assumption); (case h2 => assumption); refine EvF.args0 ?_
  rename_i sc hsc
  have eS := Ext.new (tupV rvs 0) hsc
  have oS : At (g.put sc (tupV rvs 0)) sc (TupO rvs) := ⟨_, put_self .., 0, rfl⟩
  have nS := B.free4 hsc
  have B := B.ext eS
  clear hsc eS hr hl hl2
  generalize g.put sc (tupV rvs 0) = g₂ at *
  refine .of ((circ_new (ok.le (by decide)) hfile htop oS hr2).mono fun r g₃ hr' => ?_)
  refine x24 hr' fun a dx z121 hC e3 na nd => ?_; clear hr'; subst z121
  have na := B.free4 na
  have nd := B.free4 nd
  have B := B.ext e3
  clear e3 oS hr2 b1
  refine x11 B.l fun lvs hl hl2 => ?_
  refine EvF.args1 ?_; refine EvF.call ?_; refine EvF.boot (by rfl) (bv_list) ?_; refine ⟨by first | exact KeepOk.b | exact KeepOk.t | exact KeepOk.k (by rfl), ?_⟩; refine EvF.args1 ?_; refine EvF.loc (.tail _ (.tail _ (.head _))) ?_; refine EvF.args0 ?_
  refine .of (.listOfL hl (by have := hl2.len; omega) fun af q hf => ?_)
  have nf := B.free4 hf
  have eF := Ext.new (lstV lvs q) hf
  have oF : At (g₃.put af (lstV lvs q)) af (LstO lvs) := ⟨_, put_self .., q, rfl⟩
  have E : LE w (g₃.put af (lstV lvs q)) (ta :: ar :: al :: X.fp) a dx sc af row lots := ⟨hC.ext eF, na, nd, nS, af, lvs, rfl, nf, oF, hl2.mono fun _ _ r => (B.row4 r).ext eF⟩
  have B := B.ext eF
  clear hf eF oF hC na nd nS nf hl hl2
  generalize g₃.put af (lstV lvs q) = g₄ at *
  refine EvF.args0 ?_; refine ⟨Nat.le_trans (m := 9) (by simp only [List.length_cons, List.length_nil]; decide) (by decide), fun _ _ => ?_⟩; refine' EvF.of (.items (Ok.h (by assumption)) ?h1 ?h2 ?_); (case h1 => exact ⟨_, put_self .., _, rfl⟩); (case h2 => rfl); refine EvF.order1 ?_; refine EvF.bindNm ?_; refine EvF.store (.tail (.tail (.tail (.tail (.tail (.tail (.tail (.tail .head)))))))) ?_; refine EvF.order1 ?_; refine EvF.bindNm ?_; refine EvF.store (.tail (.tail (.tail (.tail (.tail (.tail (.tail .head))))))) ?_; refine EvF.order0 ?_; refine hnQ _ _ ?_; clear hnQ hrQ Qx; refine EvF.consQ fun Qx hnQ hrQ => ?_
  rename_i tt htt
  have eT := Ext.new (tupV [.ref a, .ref af] 0) htt
  have B := B.ext eT
  have E := E.ext eT
  refine law_levels ok B E p.p2 (by omega) (by omega) p.rin hn hk hc0 hc2 hcl fun g' X' S' lots' n' c' u5 u6 B E p' hll' hc2' => ?_
  refine hnQ _ _ ?_; clear hnQ hrQ Qx
  exact law_end ok B E p' hll' p.lo hc2' h
end Mine
end SFn16f

section SFn17
open PySem PySem.W PySem.Calls PyProof.Rows PySem.SeqAt
set_option maxRecDepth 100000
set_option maxHeartbeats 4000000
namespace Mine
variable {prog : Program} {w : World} {A : Around} {g : Led}
theorem StoreAt.offFp {X : SR} {S : St} (h : StoreAt prog w g X S) {c : Addr} (hc : g c = none) : c ∉ X.fp := by
  have := h.fresh hc
  simp only [SR.fp, List.mem_cons, List.not_mem_nil, or_false, not_or]
  exact this.2
theorem none_of_ext {g' : Led} (e : Ext g g') {a : Addr} (h : g' a = none) : g a = none := by
  cases q : g a with
  | none => rfl
  | some o => rw [e _ _ q] at h; cases h
theorem TapeAt.putCell {ta ca : Addr} {cells : List Int} {n : Nat} (t : TapeAt prog w g ta ca cells n) {c : Addr} {u : Option Value} {o : Obj} (x : At g c (CellO u)) : TapeAt prog w (g.put c o) ta ca cells n := by
  obtain ⟨⟨sv, h1, h2⟩, ⟨cs, h3, h4⟩⟩ := t
  exact ⟨⟨sv, h1.off (x.ne h1 cell_dic).symm, h2⟩, ⟨cs, h3.off (x.ne h3 cell_lst).symm, h4⟩⟩
theorem law_ok (ok : Ok A 14) (hfile : ((prog.main.file : Str) == Str.ofString "/claim/cut.py") = true) (htop : (prog.main.scope.names.lookup ("super" : Str)).isSome = false) {l : Addr} {xs : List Value} {is : List Int} (hl : At g l (LstO xs)) (hx : All2 IsI is xs) (hlen : xs.length ≤ 63) :
    Ev prog w (KK w.params) A (PySem.call (.ref 385) [.ref l] []) g fun r g' => r = .bool true ∧ Ext g g' := by
  refine Ev.defV ok [("script", .ref l)] ["script", "row", "lots", "place", "again", "wide", "some", "rule", "firsts", "level", "x", "boxes"] (LV (some (.ref l)) none none none none none none none none none none none) (by rfl) (fun L g₁ A ok hL0 e hcell => ?_)
  have hsz : sizeLine = 2 ^ 24 := rfl
  have hF : FC g₁ L 4 (fun _ => none) := by
    intro i hi
    have : i = 0 ∨ i = 1 ∨ i = 2 ∨ i = 3 := (by omega)
    rcases this with rfl | rfl | rfl | rfl
    · exact (hcell "tape" (L + 1) (by rfl)).2
    · exact (hcell "many" (L + 1 + 1) (by rfl)).2
    · exact (hcell "store" (L + 1 + 1 + 1) (by rfl)).2
    · exact (hcell "v" (L + 1 + 1 + 1 + 1) (by rfl)).2
  have hFn : ∀ i : Nat, i < 4 → g (L + 1 + i) = none := by
    intro i hi
    have : i = 0 ∨ i = 1 ∨ i = 2 ∨ i = 3 := (by omega)
    rcases this with rfl | rfl | rfl | rfl
    · exact (hcell "tape" (L + 1) (by rfl)).1
    · exact (hcell "many" (L + 1 + 1) (by rfl)).1
    · exact (hcell "store" (L + 1 + 1 + 1) (by rfl)).1
    · exact (hcell "v" (L + 1 + 1 + 1 + 1) (by rfl)).1
  clear hcell
  have hl1 := hl.ext e
  refine EvF.consQ fun Qx hnQ hrQ => ?_; refine EvF.assignS ?_
  refine EvF.dict2 (knd := strKind prog w) (a1 := ("cells" : Str)) (a2 := ("spot" : Str)) fun ta hta => ?_
  have et := Ext.new { cls := .type "dict", data := .dict #[] } hta
  have oT : At (g₁.put ta { cls := .type "dict", data := .dict #[] }) ta (DicO (strKind prog w) []) := ⟨_, put_self .., DicO.new⟩
  have hl1 := hl1.ext et
  have hF := hF.ext et
  have e2 := e.trans et
  clear et
  generalize g₁.put ta { cls := .type "dict", data := .dict #[] } = g₂ at *
  refine EvF.cstr fun _ => ?_
  refine EvF.compL (γ := Int) ["cell"] ok ?_
  refine EvF.sub ?_; refine EvF.loc (.head _) ?_; refine EvF.sliceE ?_; refine EvF.partN ?_; refine EvF.partS ?_; refine EvF.cint fun _ => ?_; intro _ _; refine' subLst ?h1 ?_; (case h1 => refine At.ext ?_ (Ext.new _ (by assumption)); assumption)
  rename_i t1 sl hsl
  refine .of (.lstUpto (xs := xs) (k := 30) (hl1.ext (Ext.new _ hsl)) (put_self ..) (by omega) (by omega) fun c2 hc2 => ?_)
  have eA := (Ext.new (slcV .none (.int 30 t1)) hsl).trans (Ext.new (lstV (xs.take 30) 0) hc2)
  have oA : At ((g₂.put sl (slcV .none (.int 30 t1))).put c2 (lstV (xs.take 30) 0)) c2 (LstO (xs.take 30)) := ⟨_, put_self .., 0, rfl⟩
  have oT := oT.ext eA
  have hF := hF.ext eA
  have e2 := e2.trans eA
  clear eA hsl hc2
  generalize (g₂.put sl (slcV .none (.int 30 t1))).put c2 (lstV (xs.take 30) 0) = g₃ at *
  have hxt : All2 IsI (is.take 30) (xs.take 30) := hx.taken 30
  have hcl : (is.take 30).length ≤ 30 := by rw [List.length_take]; omega
  generalize is.take 30 = cells at *
  generalize xs.take 30 = zs at *
  refine ⟨_, _, _, fun k => cells.take k, fun _ => IsI, Src.lst oA, rfl, fun k => by rw [List.length_take]; exact line2 (Nat.le_trans (m := 30) (by assumption) (by decide)), fun C e₁ ee hcc => ⟨fun k vs e' => (∃ u, vs = ([("cell", u)] : Vars)) ∧ Ext e₁ e', Ext, ⟨⟨_, rfl⟩, Ext.refl _⟩, fun k vs e' j b _ o ho => j.2 _ _ (ee _ _ ho), fun e e' b v x r => r, fun k y vs e' hk hy j => ?_, fun vs e' ys D m j nD ha0 => ?_⟩⟩
  · refine x01 j fun z21 e2 => ?_; clear j; refine x10 z21 fun u1 z22 => ?_; clear z21; subst z22
    refine x11 (hxt.at hy) fun v hv z41 => ?_; refine x10 z41 fun tv z42 => ?_; clear z41; subst z42
    refine EvF.bind ?_; refine EvF.assignName ?_; refine EvF.store .head ?_; refine EvF.tests0 ?_; refine iteT ?_; refine EvF.call ?_; refine EvF.boot (by rfl) (bv_int) ?_; refine ⟨by first | exact KeepOk.b | exact KeepOk.t | exact KeepOk.k (by rfl), ?_⟩; refine EvF.args1 ?_; refine EvF.loc (.head _) ?_; refine EvF.args0 ?_
    refine .of (.intI ?_)
    skip
    exact ⟨⟨⟨_, rfl⟩, e2⟩, Ext.refl _, v, take_succ_of hv, ⟨_, rfl⟩⟩
  refine x01 j fun z61 e3 => ?_; clear j; refine x10 z61 fun w1 z62 => ?_; clear z61; subst z62
  have hfull : cells.take zs.length = cells := by rw [← hxt.len, List.take_length]
  have ha : All2 IsI cells ys := by simpa only [hfull] using ha0
  have eD := (ee.trans e3).trans (Ext.new (lstV ys m) nD)
  have oD : At (e'.put D (lstV ys m)) D (LstO ys) := ⟨_, put_self .., m, rfl⟩
  have oT := oT.ext eD
  have hF := hF.ext eD
  have e2 := e2.trans eD
  clear eD nD hcc ee e3 oA hfull ha0
  generalize e'.put D (lstV ys m) = g₄ at *
  refine EvF.cstr fun _ => ?_; refine EvF.cint fun _ => ?_
  rename_i ts2 ts1
  refine ⟨rfl, rfl, oT, fun o ho => ?_⟩
  have ho : DicO (strKind prog w) [(("cells" : Str), .ref D), (("spot" : Str), .int 0 ts1)] o := ho
  have htg := none_of_ext e hta
  have hTne : ∀ i, i < 4 → L + 1 + i ≠ ta := fun i hi => (hF i hi).ne oT cell_dic
  have hDne : D ≠ ta := oD.ne oT (fun o ⟨n, q⟩ ⟨es, ep, q2, _⟩ => by have := q2.1; rw [q] at this; simp at this)
  have T : TapeAt prog w (g₄.put ta o) ta D cells 0 := ⟨⟨_, ⟨_, put_self .., ho⟩, ⟨_, rfl⟩⟩, ⟨ys, oD.off hDne, ha⟩⟩
  have hF : FC (g₄.put ta o) L 4 (fun _ => none) := fun i hi => (hF i hi).off (hTne i hi)
  have e2 := ext_put_new' (o := o) e2 htg
  clear oT oD ho hta e
  generalize g₄.put ta o = g₅ at *
  refine EvF.assignName ?_
  refine EvF.storeCell (hF 0 (by decide)) fun o ho => ?_
  have T := T.putCell (o := o) (hF 0 (by decide))
  have hF := hF.put (i := 0) ho
  have e2 := ext_put_new' (o := o) e2 (hFn 0 (by decide))
  clear ho
  generalize g₅.put (L + 1 + 0) o = g₆ at *
  have kTape : At g₆ (L + 1) (CellO (some (.ref ta))) := hF 0 (by decide)
  refine hnQ _ _ ?_; clear hnQ hrQ Qx; refine EvF.consQ fun Qx hnQ hrQ => ?_; refine EvF.assignS ?_; refine EvF.tuple ?_; refine EvF.args1 ?_; refine EvF.call ?_; refine EvF.top (by rfl) ?_; refine ⟨by first | exact KeepOk.b | exact KeepOk.t | exact KeepOk.k (by rfl), ?_⟩; refine EvF.args1 ?_; refine' EvF.cell ?h1 ?_; (case h1 => assumption); refine EvF.args1 ?_; refine EvF.cint fun _ => ?_; refine EvF.args0 ?_
  refine .of ((take_ok (ok.le (by decide)) T (by omega) (by omega) (by decide) ⟨_, rfl⟩).mono fun r g₇ hr' => ?_)
  refine x02 hr' fun z81 hT st => ?_; clear hr'; refine x12 z81 fun v z82 v0 v1 => ?_; clear z81; refine x10 z82 fun tv z83 => ?_; clear z82; subst z83
  refine x10 (Int.eq_ofNat_of_zero_le v0) fun many z101 => ?_; subst z101
  have hF := hF.keep st.keep fun i hi u x m => by
    rw [List.mem_singleton] at m
    refine x11 T.d fun dv hdv _ => ?_
    exact x.ne hdv cell_dic m
  have e2 : Ext g g₇ := fun b o q => st.keep b o (e2 _ _ q) fun m => by
    rw [List.mem_singleton] at m; rw [m, htg] at q; cases q
  clear T st kTape
  refine EvF.args1 ?_; refine EvF.call0 ?_; refine EvF.top (by rfl) ?_; refine ⟨by first | exact KeepOk.b | exact KeepOk.t | exact KeepOk.k (by rfl), ?_⟩
  refine .of ((store_new (ok.le (by decide))).mono fun r g₈ hr' => ?_)
  refine x14 hr' fun X z141 hX e3 hXf hkv => ?_; clear hr'; subst z141
  have T := hT.ext e3
  have hF := hF.ext e3
  refine x11 hT.dict fun od hod hoc => ?_
  refine x11 hT.c fun dcs hdc _ => ?_
  have tX : ta ∉ X.a :: X.fp := by
    rw [List.mem_cons, not_or]
    refine ⟨fun q => ?_, fun m => by rw [hXf ta m] at hod; cases hod⟩
    obtain ⟨o, ho, rfl⟩ := hX.i
    rw [← q, e3 _ _ hod] at ho
    cases ho; simp at hoc
  have dX : D ∉ X.fp := fun m => by
    obtain ⟨o, ho, _⟩ := hdc
    rw [hXf D m] at ho; cases ho
  have xX : ∀ b ∈ X.fp, g b = none := fun b m => none_of_ext e2 (hXf b m)
  have e2 := e2.trans e3
  have oC := hdc.ext e3
  clear hT e3 hXf hod hoc hdc
  refine EvF.args1 ?_; refine EvF.list ?_; refine EvF.args0 ?_; refine ⟨Nat.le_trans (m := 9) (by simp only [List.length_cons, List.length_nil]; decide) (by decide), fun _ _ => ?_⟩; refine EvF.args1 ?_; refine EvF.list ?_; refine EvF.args0 ?_; refine ⟨Nat.le_trans (m := 9) (by simp only [List.length_cons, List.length_nil]; decide) (by decide), fun _ _ => ?_⟩; refine EvF.args0 ?_; refine ⟨Nat.le_trans (m := 9) (by simp only [List.length_cons, List.length_nil]; decide) (by decide), fun _ _ => ?_⟩; refine EvF.unpack (Ok.h (by assumption)) (⟨_, put_self .., _, rfl⟩) (by rfl) (by rfl) ?_; refine EvF.order1 ?_; refine EvF.assignName ?_
  rename_i ar har al hal tt htt
  have eA := Ext.new (lstV [] 0) har
  have hal8 := none_of_ext eA hal
  have eB := Ext.new (lstV [] 0) hal
  have eT := Ext.new (tupV [.int many tv, .ref X.a, .ref ar, .ref al] 0) htt
  have oA := (At.put g₈ (a := ar) (show LstO [] (lstV [] 0) from ⟨0, rfl⟩)).ext (eB.trans eT)
  have oB := (At.put (g₈.put ar (lstV [] 0)) (a := al) (show LstO [] (lstV [] 0) from ⟨0, rfl⟩)).ext eT
  have hab : ar ≠ al := ne_of_none hal (put_self ..)
  obtain ⟨oc, hoc, _⟩ := oC
  have hDr : D ≠ ar := ne_of_none har hoc
  have hDl : D ≠ al := ne_of_none hal8 hoc
  have e8 := eA.trans (eB.trans eT)
  have B : LB prog w g (((g₈.put ar (lstV [] 0)).put al (lstV [] 0)).put tt (tupV [.int many tv, .ref X.a, .ref ar, .ref al] 0)) L ta D cells 1 X st0 ar al [] [] (upd (fun _ => none) 0 (.ref ta)) :=
    ⟨hF.ext e8, T.ext e8, hX.ext e8, ⟨[], oA, .nil⟩, ⟨[], oB, .nil⟩, fun m => (List.mem_cons.mp m).elim hab (hX.offFp har), hX.offFp hal8, tX, fun m => (List.mem_cons.mp m).elim hDr fun m => (List.mem_cons.mp m).elim hDl dX, e2.trans e8, htg, none_of_ext e2 har, none_of_ext e2 hal8, xX, hFn⟩
  clear eA eB eT oA oB hab hoc hDr hDl e8 hal8 har hal htt hX T hF tX dX xX e2
  generalize ((g₈.put ar (lstV [] 0)).put al (lstV [] 0)).put tt (tupV [.int many tv, .ref X.a, .ref ar, .ref al] 0) = g₉ at *
  refine EvF.storeCell (B.F 1 (by decide)) fun o ho => ?_
  have B := B.putC (i := 1) (by decide) ho
  clear ho
  generalize g₉.put (L + 1 + 1) o = g₉ at *
  refine EvF.order1 ?_; refine EvF.assignName ?_
  refine EvF.storeCell (B.F 2 (by decide)) fun o ho => ?_
  have B := B.putC (i := 2) (by decide) ho
  clear ho
  generalize g₉.put (L + 1 + 2) o = g₉ at *
  refine EvF.order1 ?_; refine EvF.assignName ?_; refine EvF.store (.tail .head) ?_; refine EvF.order1 ?_; refine EvF.assignName ?_; refine EvF.store (.tail (.tail .head)) ?_; refine EvF.order0 ?_; refine hnQ _ _ ?_; clear hnQ hrQ Qx; refine EvF.consQ fun Qx hnQ hrQ => ?_
  refine law_places ok (by omega) B P1.start (by rw [hkv]; exact Nat.zero_le _) rfl rfl rfl (by omega) fun g₁ X₁ S₁ row lots n u1 u2 u3 u4 B hXa p hn hk => ?_
  refine hnQ _ _ ?_; clear hnQ hrQ Qx
  exact law_mid ok hfile htop (by omega) B p hn hk rfl (by rw [hXa]; rfl) (by omega) fun vs g' e => ⟨rfl, e⟩
end Mine
end SFn17

section ST5
open PySem PySem.W PyProof.Rows
set_option maxRecDepth 100000
set_option maxHeartbeats 0
namespace Mine
theorem items_int {R : WRecords} (xs : List WData) : WShape.hasItems R xs .int = true → ∃ is : List Int, xs = is.map .int := by
  induction xs with
  | nil => exact fun _ => ⟨[], rfl⟩
  | cons x xs ih =>
    intro h
    refine x01 (Bool.and_eq_true_iff.mp (show (WShape.has R x .int && WShape.hasItems R xs .int) = true from h)) fun h1 h2 => ?_
    refine x10 (ih h2) fun is z21 => ?_; subst z21
    cases x <;> first | exact ⟨_ :: is, rfl⟩ | exact absurd (show false = true from h1) Bool.false_ne_true
theorem shape_int {R : WRecords} {args : List WData} (h : WShape.hasAll R args [.list .int] = true) : ∃ is : List Int, args = [.list (is.map .int)] := by
  cases args with
  | nil => exact absurd (show false = true from h) Bool.false_ne_true
  | cons x r =>
    refine x01 (Bool.and_eq_true_iff.mp (show (WShape.has R x (.list .int) && WShape.hasAll R r []) = true from h)) fun h1 h2 => ?_
    cases r with
    | cons y r => exact absurd (show false = true from h2) Bool.false_ne_true
    | nil =>
      cases x
      case list xs =>
        refine x10 (items_int xs (Bool.or_false _ ▸ (show (WShape.hasItems R xs .int || false) = true from h1))) fun is z61 => ?_; subst z61
        exact ⟨is, rfl⟩
      all_goals exact absurd (show false = true from h1) Bool.false_ne_true
theorem pre_len {R : WRecords} {is : List Int} (h : WTm.holds R (OpenLaw.pre PySem.Challenge.rw_qd0015_01) { args := [.list (is.map .int)] } = true) : is.length ≤ 63 := by
  have h : (match some (WData.bool (!(decide ((63 : Int) < ((is.map WData.int).length : Nat))))) with | some (.bool false) => some (WData.bool false) | some (.bool true) => some (.bool true) | _ => none) = some (.bool true) := by
    unfold WTm.holds at h
    split at h
    · assumption
    · cases h
  rw [List.length_map] at h
  by_cases q : (63 : Int) < ((is.length : Nat) : Int)
  · rw [decide_eq_true q] at h
    exact absurd (WData.bool.inj (Option.some.inj (show some (WData.bool false) = some (.bool true) from h))) Bool.false_ne_true
  · omega
theorem lay_ints {R : WRecords} {cl : Str → Option Addr} {P : Params} {ord : List DictEntry → List DictEntry} : ∀ (is : List Int) (s : Shared), ∃ vs s', layAllW R cl P ord (is.map .int) s = some (vs, s') ∧ All2 IsI is vs ∧ s'.heap = s.heap
  | [], s => ⟨[], s, rfl, .nil, rfl⟩
  | i :: is, s => by
    refine x22 (lay_ints (R := R) (cl := cl) (P := P) (ord := ord) is { s with toks := s.toks + 1 }) fun vs s' h1 h2 h3 => ?_
    refine ⟨.int i s.toks :: vs, s', ?_, .cons ⟨_, rfl⟩ h2, h3⟩
    show (match layAllW R cl P ord (is.map .int) { s with toks := s.toks + 1 } with | some r => some (Value.int i s.toks :: r.1, r.2) | none => none) = _
    rw [h1]
theorem lay_list {R : WRecords} {cl : Str → Option Addr} {P : Params} {ord : List DictEntry → List DictEntry} {is : List Int} {s s₁ : Shared} {vals : List Value} (h : layAllW R cl P ord [.list (is.map .int)] s = some (vals, s₁)) :
    ∃ vs o, All2 IsI is vs ∧ LstO vs o ∧ vals = [.ref s.heap.objs.size] ∧ s₁.heap = s.heap.push o := by
  refine x22 (lay_ints (R := R) (cl := cl) (P := P) (ord := ord) is s) fun vs s' h1 h2 h3 => ?_
  have e : layAllW R cl P ord [.list (is.map .int)] s = some ([.ref s'.heap.objs.size], { s' with heap := s'.heap.push { cls := .type "list", data := .seq vs.toArray } }) := by
    show (match (match layAllW R cl P ord (is.map .int) s with | some r => some (Value.ref r.2.heap.objs.size, { r.2 with heap := r.2.heap.push { cls := .type "list", data := .seq r.1.toArray } }) | none => none) with | some a => some ([a.1], a.2) | none => none) = _
    rw [h1]
  rw [e] at h
  cases h
  exact ⟨vs, _, h2, ⟨_, rfl⟩, by rw [h3], by rw [h3]⟩
theorem KK_low {P : Params} {a : Addr} {o : Obj} (h : (KK P).lookup a = some o) : a < 386 := by
  have e : (KK P).all (fun p => decide (p.1 < 386)) = true := by rfl
  have go : ∀ {l : Frag}, l.all (fun p => decide (p.1 < 386)) = true → l.lookup a = some o → a < 386 := fun {l} => by
    induction l with
    | nil => intro _ h; cases h
    | cons p r ih =>
      intro h1 h2
      rw [List.all_cons, Bool.and_eq_true] at h1
      rw [List.lookup_cons] at h2
      split at h2
      · rename_i q
        have := of_decide_eq_true h1.1
        rw [beq_iff_eq.mp q]; exact this
      · exact ih h1.2 h2
  exact go e h
end Mine
end ST5

section ST4
open PySem PySem.W PyProof.Rows
set_option maxRecDepth 100000
set_option maxHeartbeats 0
namespace Mine
theorem T4 : PySem.Challenge.rw_qd0015_01.Holds := by
  refine holds_law (by kernel_rfl) fun said => ?_
  refine holds_openX (q := vw) (loose := lo) (Xt := fun s => xlAt vw [] s && recOk [] s) (XP := XL vw []) (Yf := HK.obs) (Ya := HK.val) (N := 4488) hl (fun s e => xl_of s (Bool.and_eq_true_iff.mp e).1) XL.keeps (by rfl) (by rfl) (by rfl) (fun s e => recFacts_of (Bool.and_eq_true_iff.mp e).2) (by rfl) (by first | assumption | decide +kernel) (by decide +kernel) ⟨rfl, rfl, rfl, rfl, rfl, by decide +kernel⟩ ?hw ?hc
  case hw => w_witness2
  case hc =>
    intro w s₀ s₁ mg mb G Y fa o pm cd doc dV kV ho hd hcd hD hmg hg args vals as L hpre hlay hrd hwl hlo
    clear hd hcd hD
    have KX₀ := kIn_of (Hook.of HK _ _ Y)
    have KX : (KK w.params).In s₁.heap := fun a o e => L.keeps _ _ (KX₀ a o e)
    obtain rfl : fa = 385 := by
      have q := mg_of KX G.T.g (show nsIn (KK w.params) mainGlobals "law" = some (some (.ref 385)) by rfl)
      exact Value.ref.inj (Option.some.inj (hmg.symm.trans q))
    obtain ⟨is, rfl⟩ := shape_int (pre_splitW hpre).1
    have hlen := pre_len (pre_splitW hpre).2
    obtain ⟨ord, -, hl⟩ := L.laid
    obtain ⟨vs, ol, hv, hol, rfl, hh⟩ := lay_list hl
    have h385 : ∃ o, (KK w.params).lookup 385 = some o := ⟨_, by rfl⟩
    have hlow : 386 ≤ s₀.heap.objs.size := let ⟨o, e⟩ := h385; Heap.lt_size (KX₀ _ _ e)
    have hget : s₁.heap.get? s₀.heap.objs.size = some ol := by
      rw [hh]; exact Heap.get?_push_size _ (by obtain ⟨n, rfl⟩ := hol; rfl)
    have hfx : Fx (KK w.params) s₁.heap := ⟨fun a o e => ⟨KK_low e, KX a o e⟩, ⟨mb, G.T.b, G.T.builtins⟩, h385, by rfl⟩
    have g0 : ∀ a o, (Led.put (fun _ => none) s₀.heap.objs.size ol) a = some o → a = s₀.heap.objs.size ∧ o = ol := fun a o e => by
      by_cases q : a = s₀.heap.objs.size
      · subst q; rw [put_self] at e; exact ⟨rfl, (Option.some.inj e).symm⟩
      · rw [put_ne _ _ q] at e; cases e
    have R : Rep (KK w.params) (Led.put (fun _ => none) s₀.heap.objs.size ol) (fun a => if a = s₀.heap.objs.size then none else s₁.heap.get? a) s₁.heap :=
      ⟨fun a o e => by obtain ⟨rfl, rfl⟩ := g0 a o e; exact hget, fun a o e => by
        by_cases q : a = s₀.heap.objs.size
        · simp only [q, if_true] at e; cases e
        · simp only [q, if_false] at e; exact e, fun a o e => by obtain ⟨rfl, rfl⟩ := g0 a o e; simp, fun a o e => by obtain ⟨rfl, rfl⟩ := g0 a o e; exact hlow, trivial, hfx⟩
    refine law_ok (A := callerA) (xs := vs) (is := is) ⟨rfl, by decide, by decide⟩ (by rfl) (by rfl) ⟨ol, put_self .., hol⟩ hv (by rw [← hv.len]; exact hlen) _ s₁ _ _ R fun r g' h' d tk p R' => ?_
    obtain ⟨rfl, e⟩ := p
    refine ⟨.inl ⟨.bool true, .bool true, [], rfl, fun _ => rfl, .bool true, by wrow_post, fun _ => ⟨.nil, fun _ m => (nomatch m)⟩⟩, .of_keep fun b o q => ?_, rfl, ?_⟩
    · by_cases qb : b = s₀.heap.objs.size
      · subst qb
        rw [hget] at q; cases q
        exact R'.own _ _ (e _ _ (put_self ..))
      · exact R'.fr b o (by rw [if_neg qb]; exact q)
    · exact .of_eq hg

end Mine
end ST4
theorem PySem.Challenge.cw_qd0015_01_holds : PySem.Challenge.rw_qd0015_01.Holds :=
  Mine.T4
