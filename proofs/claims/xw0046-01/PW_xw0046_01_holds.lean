import PyProof.Rows.All
import Wide.All
import Open.Boot
import Open.Line
import Open.FastLooks
import Open.FastT9
import Open.FastRun
import OpenK.AllK
import Wide.FinOn
import PySem.Challenge.RW_xw0046_01
set_option Elab.async false
set_option maxRecDepth 100000
set_option linter.unusedVariables false
set_option linter.unusedSimpArgs false
set_option compiler.extract_closed false
namespace Mine
open PySem PySem.W PySem.Calls PyProof.Rows
/-! W1 -/
noncomputable section
/-- the program, and its defs by their places -/
abbrev pw : Program := PySem.Challenge.pw_xw0046_01
abbrev rw0 : OpenLaw := PySem.Challenge.rw_xw0046_01
noncomputable def asFn : Stmt → Arguments × List Stmt × Scope
  | .FunctionDef _ a b _ _ _ s _ _ _ => (a, b, s)
  | _ => (⟨[], [], none, [], [], none, []⟩, [], default)
noncomputable def kids : Stmt → List Stmt
  | .ClassDef _ _ _ b _ _ _ _ _ _ _ => b
  | _ => []
noncomputable def fD (i : Nat) : Arguments × List Stmt × Scope := asFn ((pw.main.body[i]?).getD (.Pass default))
noncomputable def mD (i j : Nat) : Arguments × List Stmt × Scope := asFn (((kids ((pw.main.body[i]?).getD (.Pass default)))[j]?).getD (.Pass default))
noncomputable def fA (i : Nat) := (fD i).1
noncomputable def fB (i : Nat) := (fD i).2.1
noncomputable def fS (i : Nat) := (fD i).2.2
noncomputable def mA (i j : Nat) := (mD i j).1
noncomputable def mB (i j : Nat) := (mD i j).2.1
noncomputable def mS (i j : Nat) := (mD i j).2.2
noncomputable def en (P : Params) (x : Str) (t : Tok) (v : Value) : DictEntry := ⟨PyData.keyHash P x, .str x t, v⟩

noncomputable def o3 (P : Params) : Obj := ⟨(.type "dict"), none, .dict #[en P "__name__" 165 (.str "law_xw0046_01" 593), en P "__doc__" 166 .none, en P "__package__" 167 .none, en P "__loader__" 168 (.builtin "__main__.__loader__#opaque"), en P "__spec__" 169 .none, en P "__annotations__" 170 (.ref 6), en P "__builtins__" 171 (.ref 4), en P "__file__" 173 (.str "/claim/cut.py" 172), en P "__cached__" 174 .none, en P "_wall" 193 (.ref 21), en P "WHITE" 197 (.str "white" 196), en P "GREY" 199 (.str "grey" 198), en P "BLACK" 201 (.str "black" 200), en P "REFERRING" 207 (.ref 22), en P "objects_within" 219 (.ref 29), en P "Collector" 323 (.ref 100), en P "ChanError" 357 (.ref 122), en P "MachineFault" 383 (.ref 142), en P "Kept" 418 (.ref 161), en P "held_values" 424 (.ref 170), en P "Heap" 592 (.ref 299), en P "_law_pool" 605 (.ref 310), en P "_law_take" 614 (.ref 317), en P "_law_one" 622 (.ref 324), en P "_law_leaf" 630 (.ref 331), en P "_law_held" 636 (.ref 336), en P "_law_value" 645 (.ref 343), en P "_law_once" 651 (.ref 348), en P "_law_shade" 661 (.ref 355), en P "_law_is_like" 667 (.ref 360), en P "_law_deed" 685 (.ref 367), en P "_law_left_white" 691 (.ref 372), en P "_law_right" 697 (.ref 377), en P "law" 706 (.ref 384)] 34, #[]⟩
noncomputable def o22 (P : Params) : Obj := ⟨(.type "tuple"), none, .seq #[(.str "ptr" 202), (.str "slice" 203), (.str "map" 204), (.str "chan" 205), (.str "iter" 206)] 0, #[]⟩
noncomputable def o28 (P : Params) : Obj := ⟨(.type "code"), none, .fields #[(.str "objects_within" 208), (.str "objects_within" 209), (.str "/claim/cut.py" 210), (.int 9 0), (.int 1 0), (.int 0 0), (.int 0 0), (.int 3 0), (.ref 23), (.bool true), (.int 181 0), (.ref 24), .none, (.ref 25), (.ref 26), (.ref 27), (.int 217 0), (.int 9 0), (.str "/claim/cut.py" 218)], #[]⟩
noncomputable def o29 (P : Params) : Obj := ⟨(.type "function"), none, .func (fnOf "objects_within" "objects_within" (fA 6) (fB 6) (fS 6) .none .none .none (.str "chancore.collector" 194) none (.ref 28) .none), #[]⟩
noncomputable def o42 (P : Params) : Obj := ⟨(.type "code"), none, .fields #[(.str "__init__" 232), (.str "Collector.__init__" 233), (.str "/claim/cut.py" 234), (.int 27 0), (.int 3 0), (.int 0 0), (.int 0 0), (.int 3 0), (.ref 37), (.bool true), (.int 181 0), (.ref 38), .none, (.ref 39), (.ref 40), (.ref 41), (.int 238 0), (.int 27 0), (.str "/claim/cut.py" 239)], #[]⟩
noncomputable def o43 (P : Params) : Obj := ⟨(.type "function"), none, .func (fnOf "__init__" "Collector.__init__" (mA 7 0) (mB 7 0) (mS 7 0) .none .none .none (.str "chancore.collector" 194) none (.ref 42) .none), #[]⟩
noncomputable def o49 (P : Params) : Obj := ⟨(.type "code"), none, .fields #[(.str "begin" 241), (.str "Collector.begin" 242), (.str "/claim/cut.py" 243), (.int 35 0), (.int 1 0), (.int 0 0), (.int 0 0), (.int 3 0), (.ref 44), (.bool true), (.int 181 0), (.ref 45), .none, (.ref 46), (.ref 47), (.ref 48), (.int 247 0), (.int 35 0), (.str "/claim/cut.py" 248)], #[]⟩
noncomputable def o50 (P : Params) : Obj := ⟨(.type "function"), none, .func (fnOf "begin" "Collector.begin" (mA 7 1) (mB 7 1) (mS 7 1) .none .none .none (.str "chancore.collector" 194) none (.ref 49) .none), #[]⟩
noncomputable def o56 (P : Params) : Obj := ⟨(.type "code"), none, .fields #[(.str "colour_of" 250), (.str "Collector.colour_of" 251), (.str "/claim/cut.py" 252), (.int 47 0), (.int 2 0), (.int 0 0), (.int 0 0), (.int 3 0), (.ref 51), (.bool true), (.int 181 0), (.ref 52), .none, (.ref 53), (.ref 54), (.ref 55), (.int 255 0), (.int 47 0), (.str "/claim/cut.py" 256)], #[]⟩
noncomputable def o57 (P : Params) : Obj := ⟨(.type "function"), none, .func (fnOf "colour_of" "Collector.colour_of" (mA 7 2) (mB 7 2) (mS 7 2) .none .none .none (.str "chancore.collector" 194) none (.ref 56) .none), #[]⟩
noncomputable def o63 (P : Params) : Obj := ⟨(.type "code"), none, .fields #[(.str "shade" 258), (.str "Collector.shade" 259), (.str "/claim/cut.py" 260), (.int 50 0), (.int 2 0), (.int 0 0), (.int 0 0), (.int 3 0), (.ref 58), (.bool true), (.int 181 0), (.ref 59), .none, (.ref 60), (.ref 61), (.ref 62), (.int 264 0), (.int 50 0), (.str "/claim/cut.py" 265)], #[]⟩
noncomputable def o64 (P : Params) : Obj := ⟨(.type "function"), none, .func (fnOf "shade" "Collector.shade" (mA 7 3) (mB 7 3) (mS 7 3) .none .none .none (.str "chancore.collector" 194) none (.ref 63) .none), #[]⟩
noncomputable def o70 (P : Params) : Obj := ⟨(.type "code"), none, .fields #[(.str "step" 267), (.str "Collector.step" 268), (.str "/claim/cut.py" 269), (.int 56 0), (.int 2 0), (.int 0 0), (.int 0 0), (.int 3 0), (.ref 65), (.bool true), (.int 181 0), (.ref 66), .none, (.ref 67), (.ref 68), (.ref 69), (.int 275 0), (.int 56 0), (.str "/claim/cut.py" 276)], #[]⟩
noncomputable def o71 (P : Params) : Obj := ⟨(.type "function"), none, .func (fnOf "step" "Collector.step" (mA 7 4) (mB 7 4) (mS 7 4) .none .none .none (.str "chancore.collector" 194) none (.ref 70) .none), #[]⟩
noncomputable def o77 (P : Params) : Obj := ⟨(.type "code"), none, .fields #[(.str "barrier" 278), (.str "Collector.barrier" 279), (.str "/claim/cut.py" 280), (.int 66 0), (.int 3 0), (.int 0 0), (.int 0 0), (.int 3 0), (.ref 72), (.bool true), (.int 181 0), (.ref 73), .none, (.ref 74), (.ref 75), (.ref 76), (.int 284 0), (.int 66 0), (.str "/claim/cut.py" 285)], #[]⟩
noncomputable def o78 (P : Params) : Obj := ⟨(.type "function"), none, .func (fnOf "barrier" "Collector.barrier" (mA 7 5) (mB 7 5) (mS 7 5) .none .none .none (.str "chancore.collector" 194) none (.ref 77) .none), #[]⟩
noncomputable def o84 (P : Params) : Obj := ⟨(.type "code"), none, .fields #[(.str "made" 287), (.str "Collector.made" 288), (.str "/claim/cut.py" 289), (.int 70 0), (.int 2 0), (.int 0 0), (.int 0 0), (.int 3 0), (.ref 79), (.bool true), (.int 181 0), (.ref 80), .none, (.ref 81), (.ref 82), (.ref 83), (.int 292 0), (.int 70 0), (.str "/claim/cut.py" 293)], #[]⟩
noncomputable def o85 (P : Params) : Obj := ⟨(.type "function"), none, .func (fnOf "made" "Collector.made" (mA 7 6) (mB 7 6) (mS 7 6) .none .none .none (.str "chancore.collector" 194) none (.ref 84) .none), #[]⟩
noncomputable def o91 (P : Params) : Obj := ⟨(.type "code"), none, .fields #[(.str "gone" 295), (.str "Collector.gone" 296), (.str "/claim/cut.py" 297), (.int 74 0), (.int 2 0), (.int 0 0), (.int 0 0), (.int 3 0), (.ref 86), (.bool true), (.int 181 0), (.ref 87), .none, (.ref 88), (.ref 89), (.ref 90), (.int 301 0), (.int 74 0), (.str "/claim/cut.py" 302)], #[]⟩
noncomputable def o92 (P : Params) : Obj := ⟨(.type "function"), none, .func (fnOf "gone" "Collector.gone" (mA 7 7) (mB 7 7) (mS 7 7) .none .none .none (.str "chancore.collector" 194) none (.ref 91) .none), #[]⟩
noncomputable def o96 (P : Params) : Obj := ⟨(.type "code"), none, .fields #[(.str "finish" 304), (.str "Collector.finish" 305), (.str "/claim/cut.py" 306), (.int 84 0), (.int 1 0), (.int 0 0), (.int 0 0), (.int 3 0), (.ref 93), (.bool true), (.int 181 0), (.ref 94), .none, .none, .none, (.ref 95), (.int 307 0), (.int 84 0), (.str "/claim/cut.py" 308)], #[]⟩
noncomputable def o97 (P : Params) : Obj := ⟨(.type "function"), none, .func (fnOf "finish" "Collector.finish" (mA 7 8) (mB 7 8) (mS 7 8) .none .none .none (.str "chancore.collector" 194) none (.ref 96) .none), #[]⟩
noncomputable def o99 (P : Params) : Obj := ⟨(.type "dict"), none, .dict #[en P "__module__" 227 (.str "chancore.collector" 194), en P "__firstlineno__" 231 (.int 25 230), en P "__init__" 240 (.ref 43), en P "begin" 249 (.ref 50), en P "colour_of" 257 (.ref 57), en P "shade" 266 (.ref 64), en P "step" 277 (.ref 71), en P "barrier" 286 (.ref 78), en P "made" 294 (.ref 85), en P "gone" 303 (.ref 92), en P "finish" 309 (.ref 97), en P "__static_attributes__" 316 (.ref 98), en P "__dict__" 318 (.ref 101), en P "__weakref__" 320 (.ref 102), en P "__doc__" 321 .none] 4, #[]⟩
noncomputable def o100 (P : Params) : Obj := ⟨(.type "type"), none, .cls { name := "Collector", bases := [(.type "object")], mro := [(.ref 100), (.type "object")], ns := 99, qualname := "Collector", hasDict := true, slotNames := [], subclasses := [], abstract := false, collection := none, hasDel := false }, #[none, none, some (.str "Collector" 220), some (.str "Collector" 228), some (.builtin "object.__new__"), some (.bool true)]⟩
noncomputable def o157 (P : Params) : Obj := ⟨(.type "code"), none, .fields #[(.str "__init__" 398), (.str "Kept.__init__" 399), (.str "/claim/cut.py" 400), (.int 110 0), (.int 4 0), (.int 0 0), (.int 0 0), (.int 3 0), (.ref 152), (.bool true), (.int 181 0), (.ref 153), .none, (.ref 154), (.ref 155), (.ref 156), (.int 405 0), (.int 110 0), (.str "/claim/cut.py" 406)], #[]⟩
noncomputable def o158 (P : Params) : Obj := ⟨(.type "function"), none, .func (fnOf "__init__" "Kept.__init__" (mA 12 0) (mB 12 0) (mS 12 0) .none .none .none (.str "chancore.heap" 384) none (.ref 157) .none), #[]⟩
noncomputable def o160 (P : Params) : Obj := ⟨(.type "dict"), none, .dict #[en P "__module__" 393 (.str "chancore.heap" 384), en P "__firstlineno__" 397 (.int 108 396), en P "__init__" 407 (.ref 158), en P "__static_attributes__" 411 (.ref 159), en P "__dict__" 413 (.ref 162), en P "__weakref__" 415 (.ref 163), en P "__doc__" 416 .none] 4, #[]⟩
noncomputable def o161 (P : Params) : Obj := ⟨(.type "type"), none, .cls { name := "Kept", bases := [(.type "object")], mro := [(.ref 161), (.type "object")], ns := 160, qualname := "Kept", hasDict := true, slotNames := [], subclasses := [], abstract := false, collection := none, hasDel := false }, #[none, none, some (.str "Kept" 386), some (.str "Kept" 394), some (.builtin "object.__new__"), some (.bool true)]⟩
noncomputable def o169 (P : Params) : Obj := ⟨(.type "code"), none, .fields #[(.str "held_values" 419), (.str "held_values" 420), (.str "/claim/cut.py" 421), (.int 114 0), (.int 2 0), (.int 0 0), (.int 0 0), (.int 3 0), (.ref 166), (.bool true), (.int 181 0), (.ref 167), .none, .none, .none, (.ref 168), (.int 422 0), (.int 114 0), (.str "/claim/cut.py" 423)], #[]⟩
noncomputable def o170 (P : Params) : Obj := ⟨(.type "function"), none, .func (fnOf "held_values" "held_values" (fA 13) (fB 13) (fS 13) .none .none .none (.str "chancore.heap" 384) none (.ref 169) .none), #[]⟩
noncomputable def o178 (P : Params) : Obj := ⟨(.type "tuple"), none, .seq #[.none] 0, #[]⟩
noncomputable def o184 (P : Params) : Obj := ⟨(.type "code"), none, .fields #[(.str "__init__" 437), (.str "Heap.__init__" 438), (.str "/claim/cut.py" 439), (.int 125 0), (.int 2 0), (.int 0 0), (.int 0 0), (.int 3 0), (.ref 179), (.bool true), (.int 181 0), (.ref 180), .none, (.ref 181), (.ref 182), (.ref 183), (.int 442 0), (.int 125 0), (.str "/claim/cut.py" 443)], #[]⟩
noncomputable def o185 (P : Params) : Obj := ⟨(.type "function"), none, .func (fnOf "__init__" "Heap.__init__" (mA 14 0) (mB 14 0) (mS 14 0) (.ref 178) .none .none (.str "chancore.heap" 384) none (.ref 184) .none), #[]⟩
noncomputable def o186 (P : Params) : Obj := ⟨(.type "tuple"), none, .seq #[(.str "heap" 445)] 0, #[]⟩
noncomputable def o192 (P : Params) : Obj := ⟨(.type "code"), none, .fields #[(.str "make" 446), (.str "Heap.make" 447), (.str "/claim/cut.py" 448), (.int 132 0), (.int 4 0), (.int 0 0), (.int 0 0), (.int 3 0), (.ref 187), (.bool true), (.int 181 0), (.ref 188), .none, (.ref 189), (.ref 190), (.ref 191), (.int 453 0), (.int 132 0), (.str "/claim/cut.py" 454)], #[]⟩
noncomputable def o193 (P : Params) : Obj := ⟨(.type "function"), none, .func (fnOf "make" "Heap.make" (mA 14 1) (mB 14 1) (mS 14 1) (.ref 186) .none .none (.str "chancore.heap" 384) none (.ref 192) .none), #[]⟩
noncomputable def o199 (P : Params) : Obj := ⟨(.type "code"), none, .fields #[(.str "make_named" 456), (.str "Heap.make_named" 457), (.str "/claim/cut.py" 458), (.int 139 0), (.int 3 0), (.int 0 0), (.int 0 0), (.int 3 0), (.ref 194), (.bool true), (.int 181 0), (.ref 195), .none, (.ref 196), (.ref 197), (.ref 198), (.int 462 0), (.int 139 0), (.str "/claim/cut.py" 463)], #[]⟩
noncomputable def o200 (P : Params) : Obj := ⟨(.type "function"), none, .func (fnOf "make_named" "Heap.make_named" (mA 14 2) (mB 14 2) (mS 14 2) .none .none .none (.str "chancore.heap" 384) none (.ref 199) .none), #[]⟩
noncomputable def o206 (P : Params) : Obj := ⟨(.type "code"), none, .fields #[(.str "kept_at" 465), (.str "Heap.kept_at" 466), (.str "/claim/cut.py" 467), (.int 142 0), (.int 2 0), (.int 0 0), (.int 0 0), (.int 3 0), (.ref 201), (.bool true), (.int 181 0), (.ref 202), .none, (.ref 203), (.ref 204), (.ref 205), (.int 470 0), (.int 142 0), (.str "/claim/cut.py" 471)], #[]⟩
noncomputable def o207 (P : Params) : Obj := ⟨(.type "function"), none, .func (fnOf "kept_at" "Heap.kept_at" (mA 14 3) (mB 14 3) (mS 14 3) .none .none .none (.str "chancore.heap" 384) none (.ref 206) .none), #[]⟩
noncomputable def o225 (P : Params) : Obj := ⟨(.type "code"), none, .fields #[(.str "numbers" 489), (.str "Heap.numbers" 490), (.str "/claim/cut.py" 491), (.int 153 0), (.int 1 0), (.int 0 0), (.int 0 0), (.int 3 0), (.ref 222), (.bool true), (.int 181 0), (.ref 223), .none, .none, .none, (.ref 224), (.int 492 0), (.int 153 0), (.str "/claim/cut.py" 493)], #[]⟩
noncomputable def o226 (P : Params) : Obj := ⟨(.type "function"), none, .func (fnOf "numbers" "Heap.numbers" (mA 14 6) (mB 14 6) (mS 14 6) .none .none .none (.str "chancore.heap" 384) none (.ref 225) .none), #[]⟩
noncomputable def o232 (P : Params) : Obj := ⟨(.type "code"), none, .fields #[(.str "values_in" 495), (.str "Heap.values_in" 496), (.str "/claim/cut.py" 497), (.int 157 0), (.int 2 0), (.int 0 0), (.int 0 0), (.int 3 0), (.ref 227), (.bool true), (.int 181 0), (.ref 228), .none, (.ref 229), (.ref 230), (.ref 231), (.int 501 0), (.int 157 0), (.str "/claim/cut.py" 502)], #[]⟩
noncomputable def o233 (P : Params) : Obj := ⟨(.type "function"), none, .func (fnOf "values_in" "Heap.values_in" (mA 14 7) (mB 14 7) (mS 14 7) .none .none .none (.str "chancore.heap" 384) none (.ref 232) .none), #[]⟩
noncomputable def o239 (P : Params) : Obj := ⟨(.type "code"), none, .fields #[(.str "free" 504), (.str "Heap.free" 505), (.str "/claim/cut.py" 506), (.int 161 0), (.int 2 0), (.int 0 0), (.int 0 0), (.int 3 0), (.ref 234), (.bool true), (.int 181 0), (.ref 235), .none, (.ref 236), (.ref 237), (.ref 238), (.int 510 0), (.int 161 0), (.str "/claim/cut.py" 511)], #[]⟩
noncomputable def o240 (P : Params) : Obj := ⟨(.type "function"), none, .func (fnOf "free" "Heap.free" (mA 14 8) (mB 14 8) (mS 14 8) .none .none .none (.str "chancore.heap" 384) none (.ref 239) .none), #[]⟩
noncomputable def o246 (P : Params) : Obj := ⟨(.type "code"), none, .fields #[(.str "drop" 513), (.str "Heap.drop" 514), (.str "/claim/cut.py" 515), (.int 168 0), (.int 2 0), (.int 0 0), (.int 0 0), (.int 3 0), (.ref 241), (.bool true), (.int 181 0), (.ref 242), .none, (.ref 243), (.ref 244), (.ref 245), (.int 518 0), (.int 168 0), (.str "/claim/cut.py" 519)], #[]⟩
noncomputable def o247 (P : Params) : Obj := ⟨(.type "function"), none, .func (fnOf "drop" "Heap.drop" (mA 14 9) (mB 14 9) (mS 14 9) .none .none .none (.str "chancore.heap" 384) none (.ref 246) .none), #[]⟩
noncomputable def o298 (P : Params) : Obj := ⟨(.type "dict"), none, .dict #[en P "__module__" 432 (.str "chancore.heap" 384), en P "__firstlineno__" 436 (.int 123 435), en P "__init__" 444 (.ref 185), en P "make" 455 (.ref 193), en P "make_named" 464 (.ref 200), en P "kept_at" 472 (.ref 207), en P "kind" 480 (.ref 214), en P "content" 488 (.ref 221), en P "numbers" 494 (.ref 226), en P "values_in" 503 (.ref 233), en P "free" 512 (.ref 240), en P "drop" 520 (.ref 247), en P "looked" 528 (.ref 254), en P "touched" 536 (.ref 261), en P "overwritten" 545 (.ref 268), en P "cell" 554 (.ref 275), en P "peek" 562 (.ref 282), en P "load" 570 (.ref 289), en P "store" 579 (.ref 296), en P "__static_attributes__" 585 (.ref 297), en P "__dict__" 587 (.ref 300), en P "__weakref__" 589 (.ref 301), en P "__doc__" 590 .none] 4, #[]⟩
noncomputable def o299 (P : Params) : Obj := ⟨(.type "type"), none, .cls { name := "Heap", bases := [(.type "object")], mro := [(.ref 299), (.type "object")], ns := 298, qualname := "Heap", hasDict := true, slotNames := [], subclasses := [], abstract := false, collection := none, hasDel := false }, #[none, none, some (.str "Heap" 425), some (.str "Heap" 433), some (.builtin "object.__new__"), some (.bool true)]⟩
noncomputable def o309 (P : Params) : Obj := ⟨(.type "code"), none, .fields #[(.str "_law_pool" 595), (.str "_law_pool" 596), (.str "/claim/cut.py" 597), (.int 194 0), (.int 2 0), (.int 0 0), (.int 0 0), (.int 3 0), (.ref 304), (.bool true), (.int 181 0), (.ref 305), .none, (.ref 306), (.ref 307), (.ref 308), (.int 603 0), (.int 194 0), (.str "/claim/cut.py" 604)], #[]⟩
noncomputable def o310 (P : Params) : Obj := ⟨(.type "function"), none, .func (fnOf "_law_pool" "_law_pool" (fA 16) (fB 16) (fS 16) .none .none .none (.str "law_xw0046_01" 593) none (.ref 309) .none), #[]⟩
noncomputable def o316 (P : Params) : Obj := ⟨(.type "code"), none, .fields #[(.str "_law_take" 606), (.str "_law_take" 607), (.str "/claim/cut.py" 608), (.int 201 0), (.int 2 0), (.int 0 0), (.int 0 0), (.int 3 0), (.ref 311), (.bool true), (.int 181 0), (.ref 312), .none, (.ref 313), (.ref 314), (.ref 315), (.int 612 0), (.int 201 0), (.str "/claim/cut.py" 613)], #[]⟩
noncomputable def o317 (P : Params) : Obj := ⟨(.type "function"), none, .func (fnOf "_law_take" "_law_take" (fA 17) (fB 17) (fS 17) .none .none .none (.str "law_xw0046_01" 593) none (.ref 316) .none), #[]⟩
noncomputable def o323 (P : Params) : Obj := ⟨(.type "code"), none, .fields #[(.str "_law_one" 615), (.str "_law_one" 616), (.str "/claim/cut.py" 617), (.int 208 0), (.int 2 0), (.int 0 0), (.int 0 0), (.int 3 0), (.ref 318), (.bool true), (.int 181 0), (.ref 319), .none, (.ref 320), (.ref 321), (.ref 322), (.int 620 0), (.int 208 0), (.str "/claim/cut.py" 621)], #[]⟩
noncomputable def o324 (P : Params) : Obj := ⟨(.type "function"), none, .func (fnOf "_law_one" "_law_one" (fA 18) (fB 18) (fS 18) .none .none .none (.str "law_xw0046_01" 593) none (.ref 323) .none), #[]⟩
noncomputable def o330 (P : Params) : Obj := ⟨(.type "code"), none, .fields #[(.str "_law_leaf" 623), (.str "_law_leaf" 624), (.str "/claim/cut.py" 625), (.int 210 0), (.int 1 0), (.int 0 0), (.int 0 0), (.int 3 0), (.ref 325), (.bool true), (.int 181 0), (.ref 326), .none, (.ref 327), (.ref 328), (.ref 329), (.int 628 0), (.int 210 0), (.str "/claim/cut.py" 629)], #[]⟩
noncomputable def o331 (P : Params) : Obj := ⟨(.type "function"), none, .func (fnOf "_law_leaf" "_law_leaf" (fA 19) (fB 19) (fS 19) .none .none .none (.str "law_xw0046_01" 593) none (.ref 330) .none), #[]⟩
noncomputable def o335 (P : Params) : Obj := ⟨(.type "code"), none, .fields #[(.str "_law_held" 631), (.str "_law_held" 632), (.str "/claim/cut.py" 633), (.int 213 0), (.int 1 0), (.int 0 0), (.int 0 0), (.int 3 0), (.ref 332), (.bool true), (.int 181 0), (.ref 333), .none, .none, .none, (.ref 334), (.int 634 0), (.int 213 0), (.str "/claim/cut.py" 635)], #[]⟩
noncomputable def o336 (P : Params) : Obj := ⟨(.type "function"), none, .func (fnOf "_law_held" "_law_held" (fA 20) (fB 20) (fS 20) .none .none .none (.str "law_xw0046_01" 593) none (.ref 335) .none), #[]⟩
noncomputable def o342 (P : Params) : Obj := ⟨(.type "code"), none, .fields #[(.str "_law_value" 637), (.str "_law_value" 638), (.str "/claim/cut.py" 639), (.int 225 0), (.int 1 0), (.int 0 0), (.int 0 0), (.int 3 0), (.ref 337), (.bool true), (.int 181 0), (.ref 338), .none, (.ref 339), (.ref 340), (.ref 341), (.int 643 0), (.int 225 0), (.str "/claim/cut.py" 644)], #[]⟩
noncomputable def o343 (P : Params) : Obj := ⟨(.type "function"), none, .func (fnOf "_law_value" "_law_value" (fA 21) (fB 21) (fS 21) .none .none .none (.str "law_xw0046_01" 593) none (.ref 342) .none), #[]⟩
noncomputable def o347 (P : Params) : Obj := ⟨(.type "code"), none, .fields #[(.str "_law_once" 646), (.str "_law_once" 647), (.str "/claim/cut.py" 648), (.int 228 0), (.int 1 0), (.int 0 0), (.int 0 0), (.int 3 0), (.ref 344), (.bool true), (.int 181 0), (.ref 345), .none, .none, .none, (.ref 346), (.int 649 0), (.int 228 0), (.str "/claim/cut.py" 650)], #[]⟩
noncomputable def o348 (P : Params) : Obj := ⟨(.type "function"), none, .func (fnOf "_law_once" "_law_once" (fA 22) (fB 22) (fS 22) .none .none .none (.str "law_xw0046_01" 593) none (.ref 347) .none), #[]⟩
noncomputable def o354 (P : Params) : Obj := ⟨(.type "code"), none, .fields #[(.str "_law_shade" 652), (.str "_law_shade" 653), (.str "/claim/cut.py" 654), (.int 230 0), (.int 3 0), (.int 0 0), (.int 0 0), (.int 3 0), (.ref 349), (.bool true), (.int 181 0), (.ref 350), .none, (.ref 351), (.ref 352), (.ref 353), (.int 659 0), (.int 230 0), (.str "/claim/cut.py" 660)], #[]⟩
noncomputable def o355 (P : Params) : Obj := ⟨(.type "function"), none, .func (fnOf "_law_shade" "_law_shade" (fA 23) (fB 23) (fS 23) .none .none .none (.str "law_xw0046_01" 593) none (.ref 354) .none), #[]⟩
noncomputable def o359 (P : Params) : Obj := ⟨(.type "code"), none, .fields #[(.str "_law_is_like" 662), (.str "_law_is_like" 663), (.str "/claim/cut.py" 664), (.int 235 0), (.int 3 0), (.int 0 0), (.int 0 0), (.int 3 0), (.ref 356), (.bool true), (.int 181 0), (.ref 357), .none, .none, .none, (.ref 358), (.int 665 0), (.int 235 0), (.str "/claim/cut.py" 666)], #[]⟩
noncomputable def o360 (P : Params) : Obj := ⟨(.type "function"), none, .func (fnOf "_law_is_like" "_law_is_like" (fA 24) (fB 24) (fS 24) .none .none .none (.str "law_xw0046_01" 593) none (.ref 359) .none), #[]⟩
noncomputable def o366 (P : Params) : Obj := ⟨(.type "code"), none, .fields #[(.str "_law_deed" 668), (.str "_law_deed" 669), (.str "/claim/cut.py" 670), (.int 238 0), (.int 6 0), (.int 0 0), (.int 0 0), (.int 3 0), (.ref 361), (.bool true), (.int 181 0), (.ref 362), .none, (.ref 363), (.ref 364), (.ref 365), (.int 683 0), (.int 238 0), (.str "/claim/cut.py" 684)], #[]⟩
noncomputable def o367 (P : Params) : Obj := ⟨(.type "function"), none, .func (fnOf "_law_deed" "_law_deed" (fA 25) (fB 25) (fS 25) .none .none .none (.str "law_xw0046_01" 593) none (.ref 366) .none), #[]⟩
noncomputable def o371 (P : Params) : Obj := ⟨(.type "code"), none, .fields #[(.str "_law_left_white" 686), (.str "_law_left_white" 687), (.str "/claim/cut.py" 688), (.int 270 0), (.int 3 0), (.int 0 0), (.int 0 0), (.int 3 0), (.ref 368), (.bool true), (.int 181 0), (.ref 369), .none, .none, .none, (.ref 370), (.int 689 0), (.int 270 0), (.str "/claim/cut.py" 690)], #[]⟩
noncomputable def o372 (P : Params) : Obj := ⟨(.type "function"), none, .func (fnOf "_law_left_white" "_law_left_white" (fA 26) (fB 26) (fS 26) .none .none .none (.str "law_xw0046_01" 593) none (.ref 371) .none), #[]⟩
noncomputable def o376 (P : Params) : Obj := ⟨(.type "code"), none, .fields #[(.str "_law_right" 692), (.str "_law_right" 693), (.str "/claim/cut.py" 694), (.int 278 0), (.int 1 0), (.int 0 0), (.int 0 0), (.int 3 0), (.ref 373), (.bool true), (.int 181 0), (.ref 374), .none, .none, .none, (.ref 375), (.int 695 0), (.int 278 0), (.str "/claim/cut.py" 696)], #[]⟩
noncomputable def o377 (P : Params) : Obj := ⟨(.type "function"), none, .func (fnOf "_law_right" "_law_right" (fA 27) (fB 27) (fS 27) .none .none .none (.str "law_xw0046_01" 593) none (.ref 376) .none), #[]⟩
noncomputable def o383 (P : Params) : Obj := ⟨(.type "code"), none, .fields #[(.str "law" 698), (.str "law" 699), (.str "/claim/cut.py" 700), (.int 307 0), (.int 1 0), (.int 0 0), (.int 0 0), (.int 3 0), (.ref 378), (.bool true), (.int 181 0), (.ref 379), .none, (.ref 380), (.ref 381), (.ref 382), (.int 704 0), (.int 307 0), (.str "/claim/cut.py" 705)], #[]⟩
noncomputable def o384 (P : Params) : Obj := ⟨(.type "function"), none, .func (fnOf "law" "law" (fA 28) (fB 28) (fS 28) .none .none .none (.str "law_xw0046_01" 593) none (.ref 383) .none), #[]⟩
noncomputable def kas : List Nat := [3, 22, 28, 29, 42, 43, 49, 50, 56, 57, 63, 64, 70, 71, 77, 78, 84, 85, 91, 92, 96, 97, 99, 100, 157, 158, 160, 161, 169, 170, 178, 184, 185, 186, 192, 193, 199, 200, 206, 207, 225, 226, 232, 233, 239, 240, 246, 247, 298, 299, 309, 310, 316, 317, 323, 324, 330, 331, 335, 336, 342, 343, 347, 348, 354, 355, 359, 360, 366, 367, 371, 372, 376, 377, 383, 384]
noncomputable def K (P : Params) : Frag := [(3, o3 P), (22, o22 P), (28, o28 P), (29, o29 P), (42, o42 P), (43, o43 P), (49, o49 P), (50, o50 P), (56, o56 P), (57, o57 P), (63, o63 P), (64, o64 P), (70, o70 P), (71, o71 P), (77, o77 P), (78, o78 P), (84, o84 P), (85, o85 P), (91, o91 P), (92, o92 P), (96, o96 P), (97, o97 P), (99, o99 P), (100, o100 P), (157, o157 P), (158, o158 P), (160, o160 P), (161, o161 P), (169, o169 P), (170, o170 P), (178, o178 P), (184, o184 P), (185, o185 P), (186, o186 P), (192, o192 P), (193, o193 P), (199, o199 P), (200, o200 P), (206, o206 P), (207, o207 P), (225, o225 P), (226, o226 P), (232, o232 P), (233, o233 P), (239, o239 P), (240, o240 P), (246, o246 P), (247, o247 P), (298, o298 P), (299, o299 P), (309, o309 P), (310, o310 P), (316, o316 P), (317, o317 P), (323, o323 P), (324, o324 P), (330, o330 P), (331, o331 P), (335, o335 P), (336, o336 P), (342, o342 P), (343, o343 P), (347, o347 P), (348, o348 P), (354, o354 P), (355, o355 P), (359, o359 P), (360, o360 P), (366, o366 P), (367, o367 P), (371, o371 P), (372, o372 P), (376, o376 P), (377, o377 P), (383, o383 P), (384, o384 P)]
noncomputable def vw : Program := { pw with main := { pw.main with body := pw.main.body.drop 28 } }
noncomputable def lse : List Str := ["_wall", "WHITE", "GREY", "BLACK", "REFERRING", "objects_within", "Collector", "ChanError", "MachineFault", "Kept", "held_values", "Heap", "_law_pool", "_law_take", "_law_one", "_law_leaf", "_law_held", "_law_value", "_law_once", "_law_shade", "_law_is_like", "_law_deed", "_law_left_white", "_law_right"]
noncomputable def Xt (s : Shared) : Bool := xlAt vw [] s && recOk [] s
noncomputable def tab0 : Obj := { cls := .none, data := .fields #[] }
noncomputable def obsK (s : Shared) : List (Option Obj) := kas.map s.heap.get? ++ [s.heap.get? 374, s.heap.get? 379]
noncomputable def valK (w : World) : List (Option Obj) := ((K w.params).map fun p => some p.2) ++ [some tab0, some tab0]
noncomputable abbrev s0 (w : World) (os : OsState) : Shared := ⟨boot_heap w.params, Array.mk [], boot_drawn, boot_toks, os⟩
noncomputable abbrev mm : List Str := []
noncomputable def looks (w : World) (s : Shared) := ((staticsOk mm (boot_heap w.params) s.heap && namesBound pw s.heap && gensDone s && laidKept (boot_heap w.params) s.heap), PySem.W.Fast.tw4187177175401517315 vw lse mm Xt true s, obsK s)
set_option maxHeartbeats 0 in
theorem kas_ok (P : Params) : kas = (K P).map (·.1) := rfl
set_option maxHeartbeats 0 in
theorem mods_ok : importedModules pw.main.body = mm := by kernel_rfl
theorem size_ok (w : World) : ((boot_heap w.params).isNs mainGlobals && (Array.mk [] : Array GenState).size == 0, (boot_heap w.params).objs.size, (boot_heap w.params).nsMap mainGlobals "__annotations__") = (true, 11, some (.ref 6)) := by kernel_rfl
end
/-! W2 -/
noncomputable section
set_option maxHeartbeats 0 in
theorem run_ok (w : World) (os : OsState) : (PySem.W.Fast.tw14082659384304107361 PySem.W.Fast.tw14364793385576792824 pw w 11 (some (.ref 6)) 5108 (s0 w os) (topStub pw)).map (looks w) = some (true, openGood vw lse, valK w) := by kernel_rfl!
end
/-! W3 -/
noncomputable section
theorem opened (w : World) : (fencedOpening treeTable pw w 5108).map (fun s => (s.heap, s.gens, s.drawn, s.toks)) = some (boot_heap w.params, Array.mk [], boot_drawn, boot_toks) :=
  boot_open (p := pw) (N := 5108) (by kernel_rfl) (by decide) (fun s => by kernel_rfl) w
theorem left_of {p q : Program} {loose mods : List Str} {Xt : Shared → Bool} {α : Type} {Yf : Shared → α} {Ya : World → α} {N n : Nat} {ann : Option Value} {H : Params → Heap} {gs : Array GenState} {d : Drawn} {k : Nat}
    {tR : (String → Option Builtin) → Program → World → Nat → Option Value → Nat → Shared → Thread → Option Shared} {tt : String → Option Builtin} {oS} (h1 : topRun = tR) (h2 : treeTable = tt) (h3 : @openSeen = oS)
    (hm : importedModules p.main.body = mods)
    (open_ : ∀ w : World, (fencedOpening treeTable p w N).map (fun s => (s.heap, s.gens, s.drawn, s.toks)) = some (H w.params, gs, d, k))
    (size : ∀ w : World, ((H w.params).isNs mainGlobals && gs.size == 0, (H w.params).objs.size, (H w.params).nsMap mainGlobals "__annotations__") = (true, n, ann))
    (run : ∀ (w : World) (os : OsState), (tR tt p w n ann N ⟨H w.params, gs, d, k, os⟩ (topStub p)).map (fun s => ((staticsOk mods (H w.params) s.heap && namesBound p s.heap && gensDone s && laidKept (H w.params) s.heap), oS q loose mods Xt true s, Yf s)) = some (true, openGood q loose, Ya w)) :
    LeftO p q loose Xt Yf Ya N := fun w => by
  subst h1 h2 h3 hm
  obtain ⟨⟨h, gs, d, k, os⟩, e, e'⟩ := Option.map_eq_some_iff.mp (open_ w)
  obtain ⟨rfl, rfl, rfl, rfl⟩ : h = H w.params ∧ _ ∧ _ ∧ _ := by simpa using e'
  obtain ⟨z1, z2, z3⟩ : _ ∧ _ ∧ _ := by simpa only [Prod.mk.injEq] using size w
  obtain ⟨s, e1, e2⟩ := Option.map_eq_some_iff.mp (run w os)
  obtain ⟨l1, l2, l3⟩ : _ ∧ _ ∧ _ := by simpa only [Prod.mk.injEq] using e2
  unfold openEnds
  rw [e]
  show (topFrom treeTable p w N _).map _ = _
  unfold topFrom
  dsimp only
  rw [z1, z2, z3, e1]
  simp only [Option.bind_some, l1, Option.map_some]
  exact congrArg some (Prod.ext l2 l3)
theorem left : LeftO pw vw lse Xt obsK valK 5108 :=
  left_of (n := 11) (ann := some (.ref 6)) (H := boot_heap) (gs := Array.mk []) (d := boot_drawn) (k := boot_toks) PySem.W.Fast.te14082659384304107361 PySem.W.Fast.te14364793385576792824 PySem.W.Fast.te4187177175401517315 mods_ok opened size_ok run_ok
/-- what is seen behind the top: the small heap, and two tables of code, empty -/
def YK (w : World) (h : Heap) : Prop := InK K w h ∧ h.get? 374 = some tab0 ∧ h.get? 379 = some tab0
theorem inK (w : World) (s : Shared) (h : obsK s = valK w) : YK w s.heap := by
  unfold obsK valK at h
  obtain ⟨h1, h2⟩ := List.append_inj h (by rw [List.length_map, List.length_map, kas_ok w.params, List.length_map])
  exact ⟨InK.of kas_ok w s h1, (List.cons.inj h2).1, (List.cons.inj (List.cons.inj h2).2).1⟩
theorem YK.keeps (w : World) (h h' : Heap) (y : YK w h) (k : ∀ b o, h.get? b = some o → h'.get? b = some o) : YK w h' := ⟨InK.keeps w h h' y.1 k, k _ _ y.2.1, k _ _ y.2.2⟩
end
/-! W4 -/
noncomputable section
set_option maxHeartbeats 0 in
theorem said0 : rw0.wellSaid = true := by kernel_rfl
set_option maxHeartbeats 0 in
theorem top (call : WalkO vw lse (XL vw []) YK rw0.row.toRowW ⟨"law", fA 28, fB 28, fS 28, ⟨307, 0, 312, 72⟩⟩ [] fun f vs => PySem.call f vs) : rw0.Holds := by
  w_on
  refine holds_law said0 fun said => ?_
  refine holds_open (q := vw) (loose := lse) (Xt := Xt) (XP := XL vw []) (Yf := obsK) (Ya := valK) (YP := YK) (N := 5108) left inK YK.keeps (fun s e => xl_of s (Bool.and_eq_true_iff.mp e).1) XL.keeps (by rfl) (by rfl) (by rfl) (fun s e => recFacts_of (Bool.and_eq_true_iff.mp e).2) (by rfl) (by first | assumption | decide +kernel) (by decide +kernel) ⟨rfl, rfl, rfl, rfl, rfl, by decide +kernel⟩ ?hw call
  case hw => w_witness2
end
/-! W5 -/
noncomputable section
/-- an owned place: an address, what is known of the object there -/
abbrev Pt := Addr × (Obj → Prop)
inductive Pick : Pt → List Pt → List Pt → Prop
  | head {p l} : Pick p (p :: l) l
  | tail {p q l l'} : Pick p l l' → Pick p (q :: l) (q :: l')
theorem Pick.perm {p : Pt} {l l' : List Pt} (h : Pick p l l') : l.Perm (p :: l') := by
  induction h with
  | head => exact .refl _
  | tail _ ih => exact (ih.cons _).trans (.swap _ _ _)
/-- what the text's top left in a heap -/
structure TopRd (mg mb : Str → Option Value) (B : Heap) : Prop extends TopRead vw (looseW vw lse) mg mb B where
  bm : ∃ ob, B.get? 4 = some ob ∧ ob.cls = .type "module" ∧ ob.dict = some builtinsNs ∧ ob.data = .plain
theorem TopRd.keeps {mg mb : Str → Option Value} {B B' : Heap} (T : TopRd mg mb B) (k : B.StaysIn B') : TopRd mg mb B' := ⟨T.toTopRead.keeps k, let ⟨o, e, r⟩ := T.bm; ⟨o, k _ _ e, r⟩⟩
def Pg (w : World) (B : Heap) : Prop := (K w.params).In B ∧ ∃ mg mb, TopRd mg mb B
theorem Pg.keeps {w : World} {B B' : Heap} (h : Pg w B) (k : B.StaysIn B') : Pg w B' := ⟨h.1.keeps k, let ⟨mg, mb, t⟩ := h.2; ⟨mg, mb, t.keeps k⟩⟩
structure St (w : World) (σ : Shared) (B : Heap) (s : Shared) (own : List Pt) : Prop where
  pg : Pg w σ.heap
  rest : ∃ h t, s = { σ with heap := h, toks := t }
  base : σ.heap.StaysIn B
  keep : B.StaysIn s.heap
  size : 2 ≤ s.heap.objs.size
  has : ∀ p ∈ own, (∃ o, s.heap.get? p.1 = some o ∧ p.2 o) ∧ B.get? p.1 = none ∧ 2 ≤ p.1
  nodup : (List.map Prod.fst own).Nodup

section
variable {w : World} {σ : Shared} {B : Heap} {s : Shared} {own own' : List Pt} {p : Pt} {a : Addr} {P P' : Obj → Prop}
theorem St.pgB (S : St w σ B s own) : Pg w B := S.pg.keeps S.base
theorem St.pgS (S : St w σ B s own) : Pg w s.heap := S.pgB.keeps S.keep
theorem St.inK (S : St w σ B s own) : (K w.params).In s.heap := S.pgS.1
theorem St.nolimit (S : St w σ B s own) : s.heap.NoLimit := let ⟨_, _, t⟩ := S.pgS.2; t.nolimit
theorem St.perm (S : St w σ B s own) (h : own.Perm own') : St w σ B s own' :=
  ⟨S.pg, S.rest, S.base, S.keep, S.size, fun p hp => S.has p (h.mem_iff.mpr hp), ((h.map (·.1)).nodup_iff).mp S.nodup⟩
theorem St.pick (S : St w σ B s own) (h : Pick p own own') : St w σ B s (p :: own') := S.perm h.perm
theorem St.drop (S : St w σ B s (p :: own)) : St w σ B s own := ⟨S.pg, S.rest, S.base, S.keep, S.size, fun q hq => S.has q (.tail _ hq), (List.nodup_cons.mp S.nodup).2⟩
theorem St.sub (S : St w σ B s own) (h : own'.Sublist own) : St w σ B s own' :=
  ⟨S.pg, S.rest, S.base, S.keep, S.size, fun q hq => S.has q (h.subset hq), (h.map _).nodup S.nodup⟩
theorem St.at_ (S : St w σ B s ((a, P) :: own)) : ∃ o, s.heap.get? a = some o ∧ P o := (S.has _ (.head _)).1
theorem St.weaken (S : St w σ B s ((a, P) :: own)) (h : ∀ o, P o → P' o) : St w σ B s ((a, P') :: own) :=
  ⟨S.pg, S.rest, S.base, S.keep, S.size, fun q hq => by
    cases hq with
    | head => have := S.has _ (.head _); exact ⟨let ⟨⟨o, e, x⟩, _⟩ := this; ⟨o, e, h _ x⟩, this.2⟩
    | tail _ hq => exact S.has q (.tail _ hq), S.nodup⟩
theorem St.toks (S : St w σ B s own) (t : Nat) : St w σ B { s with toks := t } own :=
  ⟨S.pg, let ⟨h, _, e⟩ := S.rest; ⟨h, t, by rw [e]⟩, S.base, S.keep, S.size, S.has, S.nodup⟩
/-- one place is turned -/
theorem St.upd (S : St w σ B s ((a, P) :: own)) {h' : Heap} {t : Nat} (he : Heap.ExtBut a s.heap h') (ho : ∃ o, h'.get? a = some o ∧ P' o) : St w σ B { s with heap := h', toks := t } ((a, P') :: own) := by
  have ha := S.has _ (.head _)
  have hn := List.nodup_cons.mp S.nodup
  refine ⟨S.pg, let ⟨h, _, e⟩ := S.rest; ⟨h', t, by rw [e]⟩, S.base, fun b o e => he b o (fun q => ?_) (S.keep b o e), ?_, fun q hq => ?_, S.nodup⟩
  · subst q; rw [ha.2.1] at e; cases e
  · obtain ⟨o, e, _⟩ := ho
    exact Nat.le_of_lt (Nat.lt_of_le_of_lt ha.2.2 (Heap.lt_size e))
  · cases hq with
    | head => exact ⟨ho, ha.2⟩
    | tail _ hq =>
      obtain ⟨⟨o, e, x⟩, r⟩ := S.has q (.tail _ hq)
      exact ⟨⟨o, he _ _ (fun z => hn.1 (List.mem_map.mpr ⟨q, hq, z⟩)) e, x⟩, r⟩
/-- all that stood stands -/
theorem St.grow (S : St w σ B s own) {h' : Heap} {t : Nat} (he : s.heap.StaysIn h') (hs : s.heap.objs.size ≤ h'.objs.size) : St w σ B { s with heap := h', toks := t } own :=
  ⟨S.pg, let ⟨h, _, e⟩ := S.rest; ⟨h', t, by rw [e]⟩, S.base, fun b o e => he b o (S.keep b o e), Nat.le_trans S.size hs, fun q hq => let ⟨⟨o, e, x⟩, r⟩ := S.has q hq; ⟨⟨o, he _ _ e, x⟩, r⟩, S.nodup⟩
theorem fresh_get {B h : Heap} (k : B.StaysIn h) {a : Addr} (ha : h.get? a = none) : B.get? a = none := by
  cases e : B.get? a with
  | none => rfl
  | some o => rw [k a o e] at ha; cases ha
theorem get_size (h : Heap) : h.get? h.objs.size = none := by
  cases e : h.get? h.objs.size with
  | none => rfl
  | some o => exact absurd (Heap.lt_size e) (Nat.lt_irrefl _)
/-- all that stood stands, and one new place -/
theorem St.grow1 (S : St w σ B s own) {h' : Heap} {t : Nat} (he : s.heap.StaysIn h') (ha : s.heap.get? a = none) (hs : s.heap.objs.size ≤ a) (ho : ∃ o, h'.get? a = some o ∧ P o) : St w σ B { s with heap := h', toks := t } ((a, P) :: own) := by
  have hz : s.heap.objs.size ≤ h'.objs.size := let ⟨o, e, _⟩ := ho; Nat.le_of_lt (Nat.lt_of_le_of_lt hs (Heap.lt_size e))
  have S' := S.grow (t := t) he hz
  refine ⟨S'.pg, S'.rest, S'.base, S'.keep, S'.size, fun q hq => ?_, List.nodup_cons.mpr ⟨fun q => ?_, S.nodup⟩⟩
  · cases hq with
    | head => exact ⟨ho, fresh_get S.keep ha, Nat.le_trans S.size hs⟩
    | tail _ hq => exact S'.has q hq
  · obtain ⟨q', hq, e⟩ := List.mem_map.mp q
    obtain ⟨⟨o, e', _⟩, _⟩ := S.has q' hq
    rw [e] at e'; rw [ha] at e'; cases e'
theorem St.push (S : St w σ B s own) {o : Obj} {t : Nat} (hf : o.isFreed = false) (ho : P o) : St w σ B { s with heap := s.heap.push o, toks := t } ((s.heap.objs.size, P) :: own) :=
  S.grow1 (fun _ _ e => Heap.get?_push_of_some _ e) (get_size _) (Nat.le_refl _) ⟨o, Heap.get?_push_size _ hf, ho⟩
/-- what is not owned any more is kept for good -/
theorem St.freeze (S : St w σ B s ((a, P) :: own)) : ∃ B', B.StaysIn B' ∧ (∃ o, B'.get? a = some o ∧ P o) ∧ St w σ B' s own := by
  have ha := S.has _ (.head _)
  have hn := List.nodup_cons.mp S.nodup
  refine ⟨hideAll s.heap (own.map (·.1)), fun b o e => hideAll_get _ (S.keep b o e) fun z => ?_, ?_, S.pg, S.rest, fun b o e => hideAll_get _ (S.keep _ _ (S.base b o e)) fun z => ?_, fun b o e => of_hideAll _ e, S.size, fun q hq => ⟨(S.has q (.tail _ hq)).1, hideAll_none _ (List.mem_map_of_mem hq), (S.has q (.tail _ hq)).2.2⟩, hn.2⟩
  · obtain ⟨q, hq, rfl⟩ := List.mem_map.mp z
    rw [(S.has q (.tail _ hq)).2.1] at e; cases e
  · obtain ⟨o, e, x⟩ := ha.1
    exact ⟨o, hideAll_get _ e hn.1, x⟩
  · obtain ⟨q, hq, rfl⟩ := List.mem_map.mp z
    have := S.base _ _ e
    rw [(S.has q (.tail _ hq)).2.1] at this; cases this
theorem St.freezes : ∀ {l own : List Pt} {B : Heap}, St w σ B s (l ++ own) → ∃ B', B.StaysIn B' ∧ (∀ p ∈ l, ∃ o, B'.get? p.1 = some o ∧ p.2 o) ∧ St w σ B' s own
  | [], _, B, S => ⟨B, fun _ _ e => e, fun _ h => (nomatch h), S⟩
  | p :: l, own, B, S => by
    obtain ⟨B₁, k₁, h₁, S₁⟩ := St.freeze (a := p.1) (P := p.2) S
    obtain ⟨B₂, k₂, h₂, S₂⟩ := St.freezes S₁
    refine ⟨B₂, fun b o e => k₂ b o (k₁ b o e), fun q hq => ?_, S₂⟩
    cases hq with
    | head => exact let ⟨o, e, x⟩ := h₁; ⟨o, k₂ _ _ e, x⟩
    | tail _ hq => exact h₂ q hq
theorem St.at_B (S : St w σ B s own) {o : Obj} (h : B.get? a = some o) : s.heap.get? a = some o := S.keep _ _ h
end

/-- room for n more levels -/
def Rm (A : Around) (n : Nat) : Prop := A.handled = none ∧ A.depth + 8 * n < 1000 ∧ A.units + 16 * n < 9000
section
variable {A : Around} {n : Nat}
theorem Rm.mono {m : Nat} (h : Rm A n) (q : m ≤ n) : Rm A m := ⟨h.1, by have := h.2.1; omega, by have := h.2.2; omega⟩
theorem Rm.depth (h : Rm A n) : A.depth < recursionLimit := by have := h.2.1; show A.depth < 1000; omega
theorem Rm.units (h : Rm A n) : A.units < cLine := by have := h.2.2; show A.units < 9900; omega
theorem Rm.units1 (h : Rm A n) : A.in1.units < cLine := by have := h.2.2; show A.units + 1 < 9900; omega
theorem Rm.deeper (h : Rm A (n + 1)) (env : Env) : Rm (A.deeper env) n := ⟨h.1, by have := h.2.1; show A.depth + 1 + 8 * n < 1000; omega, by have := h.2.2; show A.units + 3 + 16 * n < 9000; omega⟩
theorem Rm.in1 (h : Rm A (n + 1)) : Rm A.in1 n := ⟨h.1, by have := h.2.1; show A.depth + 8 * n < 1000; omega, by have := h.2.2; show A.units + 1 + 16 * n < 9000; omega⟩
theorem rm_caller : Rm callerA 80 := ⟨rfl, by decide, by decide⟩
end

/-- an env of a def's call, or of a comprehension in it -/
structure Ev (env : Env) (gl : List Str) (cl : List (Str × Addr)) : Prop where
  globals : env.globals = mainGlobals
  builtins : env.builtins = builtinsNs
  kind : env.scope.kind = .function
  gl : ∀ x ∈ gl, env.kindOf x = some .globalImplicit ∧ (x == ("__debug__" : Str)) = false
  cl : ∀ p ∈ cl, (env.kindOf p.1 = some .cell ∨ env.kindOf p.1 = some .free) ∧ ((p.1 == ("__debug__" : Str)) = false ∧ (p.1 == ("__classdict__" : Str)) = false) ∧ env.cells.lookup p.1 = some p.2

/-- a frame's names: set ones and unset ones -/
def frO (env : Env) (l : List (Str × Option Value)) (o : Obj) : Prop :=
  (∃ es ep, o.data = .dict es ep ∧ StrKeys es ∧ ∀ p ∈ l, nsFind es p.1 = p.2) ∧ (l.map (·.1)).Nodup ∧ ∀ p ∈ l, env.kindOf p.1 = some .local ∧ (p.1 == ("__debug__" : Str)) = false
/-- it stands in the list, found by looking from the left -/
inductive Has {α : Type} (a : α) : List α → Prop
  | head {l} : Has a (a :: l)
  | tail {b l} : Has a l → Has a (b :: l)
theorem Has.mem {α : Type} {a : α} {l : List α} (h : Has a l) : a ∈ l := by
  induction h with
  | head => exact .head _
  | tail _ ih => exact .tail _ ih
inductive Set1 (x : Str) (v : Option Value) : List (Str × Option Value) → List (Str × Option Value) → Prop
  | head {u l} : Set1 x v ((x, u) :: l) ((x, v) :: l)
  | tail {p l l'} : Set1 x v l l' → Set1 x v (p :: l) (p :: l')
theorem Set1.keys {x : Str} {v : Option Value} {l l' : List (Str × Option Value)} (h : Set1 x v l l') : l'.map (·.1) = l.map (·.1) := by
  induction h with
  | head => rfl
  | tail _ ih => rw [List.map_cons, List.map_cons, ih]
theorem Set1.mem {x : Str} {v : Option Value} {l l' : List (Str × Option Value)} (h : Set1 x v l l') : x ∈ l.map (·.1) := by
  induction h with
  | head => exact .head _
  | tail _ ih => exact .tail _ ih
theorem Set1.from {x : Str} {v : Option Value} {l l' : List (Str × Option Value)} (h : Set1 x v l l') (nd : (l.map (·.1)).Nodup) : ∀ p ∈ l', p = (x, v) ∨ (p ∈ l ∧ p.1 ≠ x) := by
  induction h with
  | head =>
    intro p hp
    cases hp with
    | head => exact .inl rfl
    | tail _ hp => exact .inr ⟨.tail _ hp, fun e => (List.nodup_cons.mp nd).1 (List.mem_map.mpr ⟨p, hp, e⟩)⟩
  | tail hs ih =>
    intro p hp
    cases hp with
    | head => exact .inr ⟨.head _, fun e => (List.nodup_cons.mp nd).1 (by show _ ∈ _; simp only [e]; exact hs.mem)⟩
    | tail _ hp => exact (ih (List.nodup_cons.mp nd).2 p hp).imp id fun ⟨a, b⟩ => ⟨.tail _ a, b⟩

noncomputable abbrev MM (w : World) : Model := model pw w
section
variable {w : World} {σ : Shared} {B : Heap} {s : Shared} {own own' : List Pt} {A : Around} {E : Value → Shared → Prop} {env : Env} {gl : List Str} {cl : List (Str × Addr)} {l l' : List (Str × Option Value)}
theorem frO.ns {o : Obj} {a : Addr} (h : frO env l o) (ho : s.heap.get? a = some o) : ∃ m, s.heap.Ns a m ∧ ∀ p ∈ l, m p.1 = p.2 :=
  let ⟨⟨es, ep, e, k, f⟩, _⟩ := h
  ⟨fun x => nsFind es x, ⟨o, es, ep, ho, e, k, fun _ => rfl⟩, f⟩
theorem frO.of {m : Str → Option Value} {h : Heap} {a : Addr} (hn : h.Ns a m) (hm : ∀ p ∈ l, m p.1 = p.2) (nd : (l.map (·.1)).Nodup) (hk : ∀ p ∈ l, env.kindOf p.1 = some .local ∧ (p.1 == ("__debug__" : Str)) = false) : ∃ o, h.get? a = some o ∧ frO env l o :=
  let ⟨o, es, ep, ho, e, k, f⟩ := hn
  ⟨o, ho, ⟨es, ep, e, k, fun p hp => (f p.1).trans (hm p hp)⟩, nd, hk⟩
theorem r_local {x : Str} {v : Value} {pos : Pos} {Q : Value → Shared → Prop} (S : St w σ B s own) (V : Ev env gl cl) (p : Pick (env.locals, frO env l) own own') (hx : Has (x, some v) l) (h : Q v s) :
    wpAny (MM w) A (eval (.Name x pos) env) Q E s := by
  obtain ⟨o, ho, f⟩ := (S.pick p).at_
  obtain ⟨m, hn, hm⟩ := f.ns ho
  have hk := f.2.2 _ hx.mem
  exact wpAny_Name (wpAny_loadName_local V.kind hk.1 hn (hm _ hx.mem) h) hk.2
theorem r_loadName {x : Str} {v : Value} {Q : Value → Shared → Prop} (S : St w σ B s own) (V : Ev env gl cl) (p : Pick (env.locals, frO env l) own own') (hx : Has (x, some v) l) (h : Q v s) :
    wpAny (MM w) A (loadName env x) Q E s := by
  obtain ⟨o, ho, f⟩ := (S.pick p).at_
  obtain ⟨m, hn, hm⟩ := f.ns ho
  exact wpAny_loadName_local V.kind (f.2.2 _ hx.mem).1 hn (hm _ hx.mem) h
theorem r_store {x : Str} {v : Value} {Q : Unit → Shared → Prop} (S : St w σ B s own) (V : Ev env gl cl) (p : Pick (env.locals, frO env l) own own') (hx : Set1 x (some v) l l')
    (h : ∀ s', St w σ B s' ((env.locals, frO env l') :: own') → Q () s') : wpAny (MM w) A (storeName env x v) Q E s := by
  have S₁ := S.pick p
  obtain ⟨o, ho, f⟩ := S₁.at_
  obtain ⟨m, hn, hm⟩ := f.ns ho
  have hk : env.kindOf x = some .local := by
    obtain ⟨q, hq, e⟩ := List.mem_map.mp hx.mem
    exact e ▸ (f.2.2 q hq).1
  refine wpAny_storeName_local hk hn (fun h' hn' hs => h _ (S₁.upd hs.extBut ?_)) (by rw [V.kind]; rfl)
  refine frO.of hn' (fun q hq => ?_) (hx.keys ▸ f.2.1) fun q hq => ?_
  · rcases hx.from f.2.1 q hq with rfl | ⟨a, b⟩
    · exact if_pos rfl
    · exact (if_neg b).trans (hm q a)
  · rcases hx.from f.2.1 q hq with rfl | ⟨a, b⟩
    · obtain ⟨q, hq, e⟩ := List.mem_map.mp hx.mem
      exact e ▸ f.2.2 q hq
    · exact f.2.2 q a
/-- a cell -/
def clO (v : Option Value) (o : Obj) : Prop := o.data = .cell v
theorem r_cell {x : Str} {c : Addr} {v : Value} {pos : Pos} {Q : Value → Shared → Prop} (S : St w σ B s own) (V : Ev env gl cl) (hx : Has (x, c) cl) (p : Pick (c, clO (some v)) own own') (h : Q v s) :
    wpAny (MM w) A (eval (.Name x pos) env) Q E s := by
  obtain ⟨o, ho, f⟩ := (S.pick p).at_
  obtain ⟨k, d, e⟩ := V.cl _ hx.mem
  have hc : s.heap.IsCell c (some v) := ⟨o, ho, f⟩
  refine wpAny_Name ?_ d.1
  rcases k with k | k
  · exact wpAny_loadName_cell V.kind k e hc h
  · exact wpAny_loadName_free V.kind k e hc h d.2
end
end
/-! W6 -/
noncomputable section
/-! tables of the text's names -/
abbrev gv : List (Str × Value) := [("WHITE", .str "white" 196), ("GREY", .str "grey" 198), ("BLACK", .str "black" 200), ("REFERRING", .ref 22), ("objects_within", .ref 29), ("Collector", .ref 100), ("Kept", .ref 161), ("held_values", .ref 170), ("Heap", .ref 299),
  ("_law_pool", .ref 310), ("_law_take", .ref 317), ("_law_one", .ref 324), ("_law_leaf", .ref 331), ("_law_held", .ref 336), ("_law_value", .ref 343), ("_law_once", .ref 348), ("_law_shade", .ref 355), ("_law_is_like", .ref 360), ("_law_deed", .ref 367), ("_law_left_white", .ref 372), ("_law_right", .ref 377)]
abbrev bv : List (Str × Value) := [("isinstance", .builtin "isinstance"), ("tuple", .type "tuple"), ("list", .type "list"), ("int", .type "int"), ("str", .type "str"), ("len", .builtin "len"), ("sorted", .builtin "sorted"), ("range", .type "range"), ("max", .builtin "max")]
theorem gv_all (P : Params) : (gv.all fun p => nsIn (K P) mainGlobals p.1 == some (some p.2)) = true := by kernel_rfl
theorem bv_all (P : Params) : (bv.all fun p => nsIn (K P) mainGlobals p.1 == some none && bootBuiltins p.1 == some p.2 && p.1 != ("__name__" : Str)) = true := by kernel_rfl
abbrev fns : List (Addr × Str) := [(29, "objects_within"), (43, "Collector.__init__"), (50, "Collector.begin"), (57, "Collector.colour_of"), (64, "Collector.shade"), (71, "Collector.step"), (78, "Collector.barrier"), (85, "Collector.made"), (92, "Collector.gone"), (97, "Collector.finish"),
  (158, "Kept.__init__"), (170, "held_values"), (185, "Heap.__init__"), (193, "Heap.make"), (200, "Heap.make_named"), (207, "Heap.kept_at"), (226, "Heap.numbers"), (233, "Heap.values_in"), (240, "Heap.free"), (247, "Heap.drop"),
  (310, "_law_pool"), (317, "_law_take"), (324, "_law_one"), (331, "_law_leaf"), (336, "_law_held"), (343, "_law_value"), (348, "_law_once"), (355, "_law_shade"), (360, "_law_is_like"), (367, "_law_deed"), (372, "_law_left_white"), (377, "_law_right")]
theorem fns_keep (P : Params) : ((fns.map Prod.fst ++ [100, 161, 299]).all fun a => keepIn (K P) (.ref a)) = true := by kernel_rfl
theorem keep_of {P : Params} {a : Addr} (h : a ∈ fns.map Prod.fst ++ [100, 161, 299]) : keepIn (K P) (.ref a) = true := List.all_eq_true.mp (fns_keep P) a h

abbrev ldO := frO
/-! objects -/
def lsO (xs : List Value) (o : Obj) : Prop := ∃ n, o = { cls := .type "list", data := .seq xs.toArray n }
def tuO (xs : List Value) (o : Obj) : Prop := ∃ n, o = { cls := .type "tuple", data := .seq xs.toArray n }
def Tup (B : Heap) (a : Addr) (xs : List Value) : Prop := ∃ n, B.get? a = some { cls := .type "tuple", data := .seq xs.toArray n }
def Lst (B : Heap) (a : Addr) (xs : List Value) : Prop := ∃ n, B.get? a = some { cls := .type "list", data := .seq xs.toArray n }

section
variable {w : World} {σ : Shared} {B : Heap} {s : Shared} {own own' : List Pt} {A : Around} {E : Value → Shared → Prop} {env : Env} {gl : List Str} {cl : List (Str × Addr)} {l l' : List (Str × Option Value)} {a : Addr} {xs : List Value}
theorem Tup.keeps {B' : Heap} (h : Tup B a xs) (k : B.StaysIn B') : Tup B' a xs := let ⟨n, e⟩ := h; ⟨n, k _ _ e⟩
theorem Lst.keeps {B' : Heap} (h : Lst B a xs) (k : B.StaysIn B') : Lst B' a xs := let ⟨n, e⟩ := h; ⟨n, k _ _ e⟩
theorem St.lst (S : St w σ B s own) (p : Pick (a, lsO xs) own own') : Lst s.heap a xs := by
  obtain ⟨o, ho, n, rfl⟩ := (S.pick p).at_
  exact ⟨n, ho⟩
theorem St.tup (S : St w σ B s own) (p : Pick (a, tuO xs) own own') : Tup s.heap a xs := by
  obtain ⟨o, ho, n, rfl⟩ := (S.pick p).at_
  exact ⟨n, ho⟩
theorem St.lstB (S : St w σ B s own) (h : Lst B a xs) : Lst s.heap a xs := h.keeps S.keep
theorem St.tupB (S : St w σ B s own) (h : Tup B a xs) : Tup s.heap a xs := h.keeps S.keep
theorem Lst.is {h : Heap} (x : Lst h a xs) : h.IsList a xs.toArray := let ⟨n, e⟩ := x; ⟨_, e, rfl, n, rfl⟩
theorem Tup.is {h : Heap} (x : Tup h a xs) : h.IsTuple a xs.toArray := let ⟨n, e⟩ := x; ⟨_, e, rfl, n, rfl⟩

/-! names -/
theorem r_glob {x : Str} {v : Value} {pos : Pos} {Q : Value → Shared → Prop} (S : St w σ B s own) (V : Ev env gl cl) (hx : Has x gl) (hv : Has (x, v) gv) (h : Q v s) : wpAny (MM w) A (eval (.Name x pos) env) Q E s := by
  obtain ⟨k, d⟩ := V.gl x hx.mem
  obtain ⟨X, mg, mb, T⟩ := S.pgS
  have e : nsIn (K w.params) mainGlobals x = some (some v) := beq_iff_eq.mp (List.all_eq_true.mp (gv_all w.params) _ hv.mem)
  exact Name_function_global V.kind k (loadGlobal_global (by rw [V.globals]; exact T.g) (mg_of X T.g e) h) d
theorem r_blt {x : Str} {v : Value} {pos : Pos} {Q : Value → Shared → Prop} (S : St w σ B s own) (V : Ev env gl cl) (hx : Has x gl) (hv : Has (x, v) bv) (h : Q v s) : wpAny (MM w) A (eval (.Name x pos) env) Q E s := by
  obtain ⟨k, d⟩ := V.gl x hx.mem
  obtain ⟨X, mg, mb, T⟩ := S.pgS
  have e := List.all_eq_true.mp (bv_all w.params) _ hv.mem
  simp only [Bool.and_eq_true, beq_iff_eq, bne_iff_ne] at e
  exact Name_function_global V.kind k (loadGlobal_builtin (by rw [V.globals]; exact T.g) (ns_none_of X T.g e.1.1) (by rw [V.builtins]; exact T.b) (by rw [T.builtins x e.2]; exact e.1.2) h) d
/-! constants -/
theorem r_int {i : Int} {k : Nat} {pos : Pos} {Q : Value → Shared → Prop} (S : St w σ B s own) (h : ∀ t s', St w σ B s' own → Q (.int i t) s') : wpAny (MM w) A (eval (.Constant (.int i) k pos) env) Q E s :=
  wpAny_Constant_int (h := h _ _ (S.toks _))
theorem r_str {x : Str} {k : Nat} {pos : Pos} {Q : Value → Shared → Prop} (S : St w σ B s own) (h : ∀ t s', St w σ B s' own → Q (.str x t) s') : wpAny (MM w) A (eval (.Constant (.str x) k pos) env) Q E s :=
  Calls.Constant_str (h _ _ (S.toks _))
/-! calls of the text's defs and of built-ins, by their names -/
def KI (w : World) (s : Shared) : Prop := (K w.params).In s.heap
theorem r_call {x : Str} {f : Addr} {p pos : Pos} {e : Expr} {rest : List Expr} {Q : Value → Shared → Prop} (S : St w σ B s own) (V : Ev env gl cl) (hx : Has x gl) (hv : Has (x, .ref f) gv) (hk : keepIn (K w.params) (.ref f) = true)
    (h : wpAny (MM w) A (spliced (backTo pos (starEach (e :: rest) env))) (fun vs s₁ => KI w s₁ ∧ wpAny (MM w) A (call (.ref f) vs) Q E s₁) E s)
    (he : starEach (e :: rest) env = (false, eval e env) :: starEach rest env := by rfl) (hplain : (backTo pos (starEach rest env)).any (·.1) = false := by rfl) :
    wpAny (MM w) A (eval (.Call (.Name x p) (e :: rest) [] pos) env) Q E s :=
  Call_ (r_glob S V hx hv (callWith_K (h₀ := s.heap) S.inK hk h he hplain))
theorem r_call0 {x : Str} {f : Addr} {p pos : Pos} {Q : Value → Shared → Prop} (S : St w σ B s own) (V : Ev env gl cl) (hx : Has x gl) (hv : Has (x, .ref f) gv) (hk : keepIn (K w.params) (.ref f) = true)
    (h : wpAny (MM w) A (call (.ref f) []) Q E s) : wpAny (MM w) A (eval (.Call (.Name x p) [] [] pos) env) Q E s :=
  Call_ (r_glob S V hx hv (callWith_K0 S.inK hk h))
theorem r_callB {x : Str} {f : String} {p pos : Pos} {e : Expr} {rest : List Expr} {Q : Value → Shared → Prop} (S : St w σ B s own) (V : Ev env gl cl) (hx : Has x gl) (hv : Has (x, .builtin f) bv)
    (h : wpAny (MM w) A (spliced (backTo pos (starEach (e :: rest) env))) (fun vs s₁ => wpAny (MM w) A (call (.builtin f) vs) Q E s₁) E s)
    (he : starEach (e :: rest) env = (false, eval e env) :: starEach rest env := by rfl) (hplain : (backTo pos (starEach rest env)).any (·.1) = false := by rfl) :
    wpAny (MM w) A (eval (.Call (.Name x p) (e :: rest) [] pos) env) Q E s :=
  Call_ (r_blt S V hx hv (PyProof.Rows.callWith_builtin1 h he hplain))
theorem r_callT {x : Str} {T : String} {p pos : Pos} {e : Expr} {rest : List Expr} {Q : Value → Shared → Prop} (S : St w σ B s own) (V : Ev env gl cl) (hx : Has x gl) (hv : Has (x, .type T) bv)
    (h : wpAny (MM w) A (spliced (backTo pos (starEach (e :: rest) env))) (fun vs s₁ => wpAny (MM w) A (call (.type T) vs) Q E s₁) E s)
    (he : starEach (e :: rest) env = (false, eval e env) :: starEach rest env := by rfl) (hplain : (backTo pos (starEach rest env)).any (·.1) = false := by rfl) :
    wpAny (MM w) A (eval (.Call (.Name x p) (e :: rest) [] pos) env) Q E s :=
  Call_ (r_blt S V hx hv (PyProof.Rows.callWith_type1 h he hplain))
/-! arithmetic -/
theorem r_add {a b : Int} {t u : Tok} {Q : Value → Shared → Prop} (S : St w σ B s own) (h : ∀ t s', St w σ B s' own → Q (.int (a + b) t) s') : wpAny (MM w) A (binaryOp .Add (.int a t) (.int b u)) Q E s := add_int (h _ _ (S.toks _))
theorem r_sub {a b : Int} {t u : Tok} {Q : Value → Shared → Prop} (S : St w σ B s own) (h : ∀ t s', St w σ B s' own → Q (.int (a - b) t) s') : wpAny (MM w) A (binaryOp .Sub (.int a t) (.int b u)) Q E s := sub_int (h _ _ (S.toks _))
theorem r_mod {a b : Int} {t u : Tok} {Q : Value → Shared → Prop} (S : St w σ B s own) (hb : b ≠ 0) (h : ∀ t s', St w σ B s' own → Q (.int (a.fmod b) t) s') : wpAny (MM w) A (binaryOp .Mod (.int a t) (.int b u)) Q E s := mod_int' hb (h _ _ (S.toks _))
theorem r_mul {a b : Int} {t u : Tok} {Q : Value → Shared → Prop} (S : St w σ B s own) (hb : IntMulOk a b) (h : ∀ t s', St w σ B s' own → Q (.int (a * b) t) s') : wpAny (MM w) A (binaryOp .Mult (.int a t) (.int b u)) Q E s := mul_int (h _ _ (S.toks _)) hb
/-! a def's call -/
def Rt (Q : Value → Shared → Prop) : Flow → Shared → Prop := fun f s => Q (match f with | .ret v => v | _ => .none) s
def okFn (fd : FuncData) (ps ls gl : List Str) : Bool :=
  fd.globals == mainGlobals && fd.builtins == builtinsNs && fd.scope.kind == .function && !fd.scope.isCoroutine && !fd.scope.isGenerator && (fd.scope.names.all fun x => x.2 != .cell) &&
  decide ((ps ++ ls).Nodup) && ((ps ++ ls).all fun x => fd.scope.names.lookup x == some .local && x != ("__debug__" : Str)) && (gl.all fun x => fd.scope.names.lookup x == some .globalImplicit && x != ("__debug__" : Str))
def mkL (ps : List Str) (vs : List Value) (ls : List Str) : List (Str × Option Value) := (ps.zip vs).map (fun p => (p.1, some p.2)) ++ ls.map fun x => (x, none)
theorem lookup_zip : ∀ {ps : List Str} {vs : List Value} {x : Str} {v : Value}, ps.Nodup → (x, v) ∈ ps.zip vs → (ps.zip vs).reverse.lookup x = some v := by
  intro ps vs x v nd hm
  have key : ∀ (l : List (Str × Value)), (l.map (·.1)).Nodup → (x, v) ∈ l → l.lookup x = some v := by
    intro l
    induction l with
    | nil => intro _ h; cases h
    | cons p r ih =>
      intro nd h
      obtain ⟨y, u⟩ := p
      rw [List.lookup_cons]
      cases h with
      | head => simp
      | tail _ h =>
        have hne : x ≠ y := fun e => (List.nodup_cons.mp nd).1 (e ▸ List.mem_map.mpr ⟨(x, v), h, rfl⟩)
        rw [beq_eq_false_iff_ne.mpr hne]
        exact ih (List.nodup_cons.mp nd).2 h
  refine key _ ?_ (List.mem_reverse.mpr hm)
  rw [List.map_reverse]
  refine (List.reverse_perm _).nodup_iff.mpr ?_
  have : ((ps.zip vs).map (·.1)).Sublist ps := by
    clear nd hm key
    induction ps generalizing vs with
    | nil => simp
    | cons p r ih => cases vs with
      | nil => simp
      | cons v vs => simp only [List.zip_cons_cons, List.map_cons]; exact (ih).cons_cons _
  exact this.nodup nd
theorem lookup_none {ps : List Str} {vs : List Value} {x : Str} (h : x ∉ ps) : (ps.zip vs).reverse.lookup x = none := by
  rw [List.lookup_eq_none_iff]
  intro p hp
  have : p.1 ∈ ps := (List.of_mem_zip (List.mem_reverse.mp hp)).1
  have hne : x ≠ p.1 := fun e => h (by rw [e]; exact this)
  simp [hne]
end
end
/-! W7 -/
noncomputable section
/-- the road of a statement: on with N, or out with R -/
def Nx (N : Shared → Prop) (R : Flow → Shared → Prop) : Flow → Shared → Prop
  | .next, s => N s
  | f, s => R f s
section
variable {w : World} {σ : Shared} {B : Heap} {s : Shared} {own own' : List Pt} {A : Around} {E : Value → Shared → Prop} {env : Env} {gl : List Str} {cl : List (Str × Addr)} {l l' : List (Str × Option Value)} {a : Addr} {xs : List Value}
variable {N : Shared → Prop} {R : Flow → Shared → Prop} {F : Value → Shared → Prop}
theorem nx_ret {v : Value} (h : R (.ret v) s) : Nx N R (.ret v) s := h
theorem rt_ret {Q : Value → Shared → Prop} {v : Value} (h : Q v s) : Rt Q (.ret v) s := h
theorem x_seq {st : Stmt} {rest : List Stmt} (h : wpAny (MM w) A (exec st env) (Nx (fun s₁ => wpAny (MM w) A (execs rest env) R F s₁) R) F s) : wpAny (MM w) A (execs (st :: rest) env) R F s :=
  wpAny_execs_cons (h := wpAny_mono h (fun f s₁ x => by cases f <;> exact x) fun _ _ x => x)
theorem x_nil (h : N s) : wpAny (MM w) A (execs [] env) (Nx N R) F s := wpAny_execs_nil (h := h)
theorem x_nilQ {Q : Value → Shared → Prop} (h : Q .none s) : wpAny (MM w) A (execs [] env) (Rt Q) F s := wpAny_execs_nil (h := h)
theorem x_set {x : Str} {p pos : Pos} {e : Expr} (h : wpAny (MM w) A (eval e env) (fun v s₁ => wpAny (MM w) A (storeName env x v) (fun _ s₂ => N s₂) F s₁) F s) (hs : swapsWith e (some (.Name x p)) pos.line env = pure false := by rfl) :
    wpAny (MM w) A (exec (.Assign [.Name x p] e pos) env) (Nx N R) F s := wpAny_Assign_Name (h := h) (hs := hs)
theorem x_aug {x : Str} {p pos : Pos} {op : Operator} {e : Expr} (h : wpAny (MM w) A (loadName env x) (fun old s₁ => wpAny (MM w) A (eval e env) (fun v s₂ => wpAny (MM w) A (inplaceOp op old v) (fun r s₃ => wpAny (MM w) A (storeName env x r) (fun _ s₄ => N s₄) F s₃) F s₂) F s₁) F s) :
    wpAny (MM w) A (exec (.AugAssign (.Name x p) op e pos) env) (Nx N R) F s := wpAny_AugAssign_Name (h := h)
theorem x_ret {e : Expr} {pos : Pos} (h : wpAny (MM w) A (eval e env) (fun v s₁ => R (.ret v) s₁) F s) : wpAny (MM w) A (exec (.Return (some e) pos) env) (Nx N R) F s := wpAny_Return_some (h := h)
theorem x_ret0 {pos : Pos} (h : R (.ret .none) s) : wpAny (MM w) A (exec (.Return none pos) env) (Nx N R) F s := wpAny_Return_none (h := h)
theorem x_if {t : Expr} {b o : List Stmt} {pos : Pos} (h : wpAny (MM w) A (isTrue t env (eval t env)) (fun c s₁ => (c = true → wpAny (MM w) A (execs b env) (Nx N R) F s₁) ∧ (c = false → wpAny (MM w) A (execs o env) (Nx N R) F s₁)) F s) :
    wpAny (MM w) A (exec (.If t b o pos) env) (Nx N R) F s :=
  wpAny_If (h := wpAny_mono h (fun c s₁ x => by cases c; exact x.2 rfl; exact x.1 rfl) fun _ _ x => x)
theorem x_expr (V : Ev env gl cl) {e : Expr} {pos : Pos} (h : wpAny (MM w) A (eval e env) (fun _ s₁ => N s₁) F s) (hs : swapsWith e none pos.line env = pure false := by rfl) : wpAny (MM w) A (exec (.Expr e pos) env) (Nx N R) F s :=
  wpAny_Expr_any h (by unfold interactive; rw [V.kind]; rfl) hs
theorem x_setItem {o i e : Expr} {p pos : Pos} (h : wpAny (MM w) A (eval e env) (fun v s₁ => wpAny (MM w) A (eval o env) (fun ov s₂ => wpAny (MM w) A (eval i env) (fun iv s₃ => wpAny (MM w) A (setItem ov iv v) (fun _ s₄ => N s₄) F s₃) F s₂) F s₁) F s)
    (hs : swapsWith e (some (.Subscript o i p)) pos.line env = pure false := by rfl) : wpAny (MM w) A (exec (.Assign [.Subscript o i p] e pos) env) (Nx N R) F s := wpAny_Assign_Subscript (h := h) (hs := hs)
theorem x_setAttr {o e : Expr} {n : Str} {p pos : Pos} (h : wpAny (MM w) A (eval e env) (fun v s₁ => wpAny (MM w) A (eval o env) (fun ov s₂ => wpAny (MM w) A (setAttr ov n v) (fun _ s₃ => N s₃) F s₂) F s₁) F s)
    (hs : swapsWith e (some (.Attribute o n p)) pos.line env = pure false := by rfl) : wpAny (MM w) A (exec (.Assign [.Attribute o n p] e pos) env) (Nx N R) F s := plainObj_wpAny_Assign_Attribute h hs
/-! tests -/
theorem t_cmp {l r : Expr} {op : CmpOp} {pos : Pos} {whole : Sem Value} {Q : Bool → Shared → Prop} (h : wpAny (MM w) A (eval l env) (fun a s₁ => wpAny (MM w) A (eval r env) (fun b s₂ => wpAny (MM w) A (compareOp op a b) (fun c s₃ => wpAny (MM w) A (truthy c) Q E s₃) E s₂) E s₁) E s)
    (hm : behindInMarks op r = false := by with_unfolding_all rfl) : wpAny (MM w) A (PySem.isTrue (.Compare l [op] [r] pos) env whole) Q E s := wpAny_isTrue_Compare1 (h := h) (hm := hm)
theorem t_bool {b : Bool} {Q : Bool → Shared → Prop} (h : Q b s) : wpAny (MM w) A (truthy (.bool b)) Q E s := wpAny_truthy_bool h
/-! items -/
theorem r_subs {value slice : Expr} {pos : Pos} {Q : Value → Shared → Prop} (h : wpAny (MM w) A (eval value env) (fun o s₁ => wpAny (MM w) A (eval slice env) (fun i s₂ => wpAny (MM w) A (subscriptTail value slice o i) Q E s₂) E s₁) E s) :
    wpAny (MM w) A (eval (.Subscript value slice pos) env) Q E s := Subscript_ h
theorem r_item {value slice : Expr} {k : Int} {t : Tok} {v : Value} {Q : Value → Shared → Prop} (hl : s.heap.IsList a xs.toArray) (h0 : 0 ≤ k) (h1 : k < 2 ^ 63) (hx : xs[k.toNat]? = some v) (h : Q v s)
    (hs : subscripted slice false (.ref a) (.int k t) = operate [.ref a, .int k t] (getItem (.ref a) (.int k t)) := by with_unfolding_all rfl) : wpAny (MM w) A (subscriptTail value slice (.ref a) (.int k t)) Q E s :=
  tail_any hl.typeIs slot_list_getitem.lookup (wpAny_getItem_list hl h0 h1 (by simpa using hx) h) hs
/-- a list of which the items alone are known -/
def liO (xs : List Value) (o : Obj) : Prop := o.cls = .type "list" ∧ ∃ n, o.data = .seq xs.toArray n
theorem St.li (S : St w σ B s own) (p : Pick (a, liO xs) own own') : s.heap.IsList a xs.toArray := by
  obtain ⟨o, ho, hc, n, hd⟩ := (S.pick p).at_
  exact ⟨o, ho, hc, n, hd⟩
theorem r_setList {k : Int} {t : Tok} {v : Value} {Q : Unit → Shared → Prop} (S : St w σ B s own) (p : Pick (a, liO xs) own own') (h0 : 0 ≤ k) (h1 : k < 2 ^ 63) (hk : k < xs.length)
    (h : ∀ s', St w σ B s' ((a, liO (xs.set k.toNat v)) :: own') → Q () s') : wpAny (MM w) A (setItem (.ref a) (.int k t) v) Q E s := by
  refine wpAny_setItem_list (S.li p) h0 h1 (by simpa using hk) fun h' hl hs => h _ ((S.pick p).upd hs.extBut ?_)
  obtain ⟨o, ho, hc, n, hd⟩ := hl
  exact ⟨o, ho, hc, n, by simpa using hd⟩
/-! a def's call -/
theorem enterRX {n : Nat} {fa : Addr} {fd : FuncData} {body : List Stmt} {ps ls gl : List Str} {vs : List Value} {args : Args} {R : Result → Shared → Prop} (Z : Rm A (n + 1)) (S : St w σ B s own)
    (hf : (K w.params).lookup fa = some ⟨.type "function", none, .func fd, #[]⟩) (hcd : codeIn (K w.params) fd.code fd.qualname = true) (hb : fd.body = .stmts body) (ok : okFn fd ps ls gl = true)
    (hbind : BindsTo s fd args (ps.zip vs)) (hlen : vs.length = ps.length)
    (h : ∀ env s', Ev env gl [] → env.code = fd.code → Rm (A.deeper env) n → St w σ B s' ((env.locals, frO env (mkL ps vs ls)) :: own) → wpAny (MM w) (A.deeper env) (execs body env) (Rt fun v s => R (.ok (.ret v)) s) (fun _ _ => False) s') :
    codeAny (MM w) A (.call (.ref fa) args) R s := by
  simp only [okFn, Bool.and_eq_true, beq_iff_eq, Bool.not_eq_true', List.all_eq_true, bne_iff_ne, decide_eq_true_eq] at ok
  obtain ⟨⟨⟨⟨⟨⟨⟨⟨k1, k2⟩, k3⟩, k4⟩, k5⟩, k6⟩, k7⟩, k8⟩, k9⟩ := ok
  have nd := (List.nodup_append.mp k7).1
  refine codeAny_call_def Z.depth (S.inK _ _ hf) rfl S.nolimit (codeRec_of S.inK hcd) hb hbind k6 (fun x hx => (k8 x.1 (List.mem_append_left _ (List.of_mem_zip hx).1)).1) (fun h₀ hn hk => ?_) k4 k5 k3
  generalize hL : s.heap.objs.size = L at hn ⊢
  have V : Ev (callEnv fd L fa) gl [] := ⟨k1, k2, k3, fun x hx => ⟨(k9 x hx).1, beq_eq_false_iff_ne.mpr (k9 x hx).2⟩, fun _ hp => (nomatch hp)⟩
  refine wpAny_mono (h (callEnv fd L fa) _ V rfl (Z.deeper _) (S.grow1 hk (hL ▸ get_size _) (Nat.le_of_eq hL) (frO.of (a := L) hn (fun p hp => ?_) ?_ fun p hp => ?_))) (fun f s' x => x) fun _ _ x => x.elim
  · rcases List.mem_append.mp hp with hp | hp
    · obtain ⟨q, hq, rfl⟩ := List.mem_map.mp hp
      exact lookup_zip nd hq
    · obtain ⟨x, hx, rfl⟩ := List.mem_map.mp hp
      exact lookup_none fun hm => (List.nodup_append.mp k7).2.2 x hm x hx rfl
  · have e : (mkL ps vs ls).map (·.1) = ps ++ ls := by
      unfold mkL
      rw [List.map_append, List.map_map, List.map_map]
      congr 1
      · exact List.map_fst_zip (Nat.le_of_eq hlen.symm)
      · exact List.map_id _
    rw [e]; exact k7
  · have hm : p.1 ∈ ps ++ ls := by
      rcases List.mem_append.mp hp with hp | hp
      · obtain ⟨q, hq, rfl⟩ := List.mem_map.mp hp
        exact List.mem_append_left _ (List.of_mem_zip hq).1
      · obtain ⟨x, hx, rfl⟩ := List.mem_map.mp hp
        exact List.mem_append_right _ hx
    exact ⟨(k8 _ hm).1, beq_eq_false_iff_ne.mpr (k8 _ hm).2⟩
theorem enterR {n : Nat} {fa : Addr} {fd : FuncData} {body : List Stmt} {ps ls gl : List Str} {vs : List Value} {args : Args} {R : Result → Shared → Prop} (Z : Rm A (n + 1)) (S : St w σ B s own)
    (hf : (K w.params).lookup fa = some ⟨.type "function", none, .func fd, #[]⟩) (hcd : codeIn (K w.params) fd.code fd.qualname = true) (hb : fd.body = .stmts body) (ok : okFn fd ps ls gl = true)
    (hbind : BindsTo s fd args (ps.zip vs)) (hlen : vs.length = ps.length)
    (h : ∀ env s', Ev env gl [] → Rm (A.deeper env) n → St w σ B s' ((env.locals, frO env (mkL ps vs ls)) :: own) → wpAny (MM w) (A.deeper env) (execs body env) (Rt fun v s => R (.ok (.ret v)) s) (fun _ _ => False) s') :
    codeAny (MM w) A (.call (.ref fa) args) R s :=
  enterRX Z S hf hcd hb ok hbind hlen fun env s' V _ Z S => h env s' V Z S
theorem enter {n : Nat} {fa : Addr} {fd : FuncData} {body : List Stmt} {ps ls gl : List Str} {vs args : List Value} {Q : Value → Shared → Prop} (Z : Rm A (n + 1)) (S : St w σ B s own)
    (hf : (K w.params).lookup fa = some ⟨.type "function", none, .func fd, #[]⟩) (hcd : codeIn (K w.params) fd.code fd.qualname = true) (hb : fd.body = .stmts body) (ok : okFn fd ps ls gl = true)
    (hbind : BindsTo s fd ⟨args, []⟩ (ps.zip vs)) (hlen : vs.length = ps.length)
    (h : ∀ env s', Ev env gl [] → Rm (A.deeper env) n → St w σ B s' ((env.locals, frO env (mkL ps vs ls)) :: own) → wpAny (MM w) (A.deeper env) (execs body env) (Rt Q) (fun _ _ => False) s') :
    wpAny (MM w) A (call (.ref fa) args) Q E s :=
  wpAny_call (enterR Z S hf hcd hb ok hbind hlen h)
theorem enterX {n : Nat} {fa : Addr} {fd : FuncData} {body : List Stmt} {ps ls gl : List Str} {vs args : List Value} {Q : Value → Shared → Prop} (Z : Rm A (n + 1)) (S : St w σ B s own)
    (hf : (K w.params).lookup fa = some ⟨.type "function", none, .func fd, #[]⟩) (hcd : codeIn (K w.params) fd.code fd.qualname = true) (hb : fd.body = .stmts body) (ok : okFn fd ps ls gl = true)
    (hbind : BindsTo s fd ⟨args, []⟩ (ps.zip vs)) (hlen : vs.length = ps.length)
    (h : ∀ env s', Ev env gl [] → env.code = fd.code → Rm (A.deeper env) n → St w σ B s' ((env.locals, frO env (mkL ps vs ls)) :: own) → wpAny (MM w) (A.deeper env) (execs body env) (Rt Q) (fun _ _ => False) s') :
    wpAny (MM w) A (call (.ref fa) args) Q E s :=
  wpAny_call (enterRX Z S hf hcd hb ok hbind hlen h)
end
end
/-! W8 -/
noncomputable section
section
variable {w : World} {s : Shared} {A : Around} {E : Value → Shared → Prop} {env : Env}
theorem r_binop {l r : Expr} {op : Operator} {pos : Pos} {Q : Value → Shared → Prop} (h : wpAny (MM w) A (eval l env) (fun a s₁ => wpAny (MM w) A (eval r env) (fun b s₂ => wpAny (MM w) A (binaryOp op a b) Q E s₂) E s₁) E s) :
    wpAny (MM w) A (eval (.BinOp l op r pos) env) Q E s := wpAny_BinOp (h := h)
theorem r_args {pos : Pos} {e : Expr} {rest : List Expr} {Q : List Value → Shared → Prop} (h : wpAny (MM w) A (eval e env) (fun v s₁ => wpAny (MM w) A (spliced (backTo pos (starEach rest env))) (fun vs s₂ => Q (v :: vs) s₂) E s₁) E s) (he : starEach (e :: rest) env = (false, eval e env) :: starEach rest env := by rfl) :
    wpAny (MM w) A (spliced (backTo pos (starEach (e :: rest) env))) Q E s := spliced_more h he
theorem r_fdiv {σ : Shared} {B : Heap} {own : List Pt} {a b : Int} {t u : Tok} {Q : Value → Shared → Prop} (S : St w σ B s own) (hb : 0 < b) (hb2 : b < 1000) (h : ∀ t s', St w σ B s' own → Q (.int (a.fdiv b) t) s') : wpAny (MM w) A (binaryOp .FloorDiv (.int a t) (.int b u)) Q E s :=
  floordiv_int (by omega) (h _ _ (S.toks _)) (.inl (PyProof.noPylong_small (by omega)))
theorem St.lose {σ : Shared} {B : Heap} {own own' : List Pt} {q : Pt} (S : St w σ B s own) (p : Pick q own own') : St w σ B s own' := (S.pick p).drop
theorem St.get {σ : Shared} {B : Heap} {own own' : List Pt} {a : Addr} {P P' : Obj → Prop} (S : St w σ B s own) (p : Pick (a, P) own own') (h : ∀ o, P o → P' o) : St w σ B s ((a, P') :: own') := (S.pick p).weaken h
theorem bits32 {a : Int} (h0 : 0 ≤ a) (h : a < 4294967296) : Builtin.Int.intBits a ≤ 64 := by
  unfold Builtin.Int.intBits
  split
  · omega
  · rename_i hne
    have h2 : a.natAbs ≠ 0 := by intro e; apply hne; simp only [beq_iff_eq]; omega
    have h3 : a.natAbs.log2 < 32 := (Nat.log2_lt h2).mpr (by omega)
    omega
theorem r_args0 {pos : Pos} {Q : List Value → Shared → Prop} (h : Q [] s) : wpAny (MM w) A (spliced (backTo pos (starEach [] env))) Q E s := wpAny_items_nil h
end
end
/-! W9 -/
noncomputable section
/-! objects of the text's classes -/
abbrev ats : List (Addr × Str) := [(161, "kind"), (161, "content"), (161, "where"), (299, "kept"), (299, "given"), (299, "here"), (299, "watch"), (299, "collector"), (100, "heap"), (100, "roots"), (100, "colours"), (100, "greys"), (100, "is_going"), (100, "rounds")]
abbrev mts : List ((Addr × Str) × Addr) := [((100, "begin"), 50), ((100, "colour_of"), 57), ((100, "shade"), 64), ((100, "step"), 71), ((100, "barrier"), 78), ((100, "made"), 85), ((100, "gone"), 92), ((100, "finish"), 97),
  ((299, "make"), 193), ((299, "make_named"), 200), ((299, "kept_at"), 207), ((299, "numbers"), 226), ((299, "values_in"), 233), ((299, "free"), 240), ((299, "drop"), 247)]
def atOk (X : Frag) (q : Addr × Str) : Bool := plainGet X q.1 q.2 && hasDictIn X q.1 && (match findIn X (.ref q.1) q.2 with | some a => noGet X a | none => false) && (takerIn X q.1 q.2 == some none) && plainOver X q.1 && (findIn X (.ref q.1) "__setattr__" == some (some (.builtin "object.__setattr__")))
def mtOk (X : Frag) (q : (Addr × Str) × Addr) : Bool := plainGet X q.1.1 q.1.2 && (findIn X (.ref q.1.1) q.1.2 == some (some (.ref q.2))) && isFn X (.ref q.2) && keepIn X (.ref q.2)
theorem ats_all (P : Params) : (ats.all (atOk (K P))) = true := by kernel_rfl
theorem mts_all (P : Params) : (mts.all (mtOk (K P))) = true := by kernel_rfl
/-- an object's own names -/
def atO (l : List (Str × Value)) (o : Obj) : Prop := (∃ es ep, o.data = .dict es ep ∧ StrKeys es ∧ UniqKeys es ∧ ∀ x, nsFind es x = l.lookup x) ∧ (l.map Prod.fst).Nodup
def Ins (B : Heap) (x C dx : Addr) : Prop := B.get? x = some (instObj C dx)
inductive SetA (x : Str) (v : Value) : List (Str × Value) → List (Str × Value) → Prop
  | head {u l} : SetA x v ((x, u) :: l) ((x, v) :: l)
  | tail {p l l'} : SetA x v l l' → SetA x v (p :: l) (p :: l')
theorem SetA.keys {x : Str} {v : Value} {l l' : List (Str × Value)} (h : SetA x v l l') : l'.map Prod.fst = l.map Prod.fst := by
  induction h with
  | head => rfl
  | tail _ ih => rw [List.map_cons, List.map_cons, ih]
theorem SetA.mem {x : Str} {v : Value} {l l' : List (Str × Value)} (h : SetA x v l l') : x ∈ l.map Prod.fst := by
  induction h with
  | head => exact .head _
  | tail _ ih => exact .tail _ ih
theorem SetA.lookup {x : Str} {v : Value} {l l' : List (Str × Value)} (h : SetA x v l l') (nd : (l.map Prod.fst).Nodup) : ∀ y, l'.lookup y = if y = x then some v else l.lookup y := by
  induction h with
  | head =>
    intro y
    by_cases e : y = x
    · subst e; simp
    · rw [List.lookup_cons, List.lookup_cons, beq_eq_false_iff_ne.mpr e, if_neg e]
  | @tail p l l' hs ih =>
    intro y
    have hp : p.1 ≠ x := fun e => (List.nodup_cons.mp nd).1 (e ▸ hs.mem)
    rw [List.lookup_cons, List.lookup_cons, ih (List.nodup_cons.mp nd).2]
    by_cases e : y = x
    · subst e; rw [if_pos rfl, beq_eq_false_iff_ne.mpr (Ne.symm hp)]; simp
    · rw [if_neg e, if_neg e]
theorem lookup_has {x : Str} {v : Value} {l : List (Str × Value)} (h : Has (x, v) l) (nd : (l.map Prod.fst).Nodup) : l.lookup x = some v := by
  induction h with
  | head => simp
  | @tail p l hs ih =>
    have hp : p.1 ≠ x := fun e => (List.nodup_cons.mp nd).1 (e ▸ List.mem_map.mpr ⟨_, hs.mem, rfl⟩)
    rw [List.lookup_cons, beq_eq_false_iff_ne.mpr (Ne.symm hp)]
    exact ih (List.nodup_cons.mp nd).2
theorem lookup_no {x : Str} : ∀ {l : List (Str × Value)}, x ∉ l.map Prod.fst → l.lookup x = none
  | [], _ => rfl
  | p :: l, h => by
    have hp : x ≠ p.1 := fun e => h (e ▸ .head _)
    rw [List.lookup_cons, beq_eq_false_iff_ne.mpr hp]
    exact lookup_no fun m => h (.tail _ m)
theorem lookup_end {x y : Str} {v : Value} : ∀ {l : List (Str × Value)}, x ∉ l.map Prod.fst → (l ++ [(x, v)]).lookup y = if y = x then some v else l.lookup y
  | [], _ => by
    by_cases e : y = x
    · subst e; simp
    · rw [List.nil_append, List.lookup_cons, beq_eq_false_iff_ne.mpr e, if_neg e]
  | p :: l, h => by
    have hp : x ≠ p.1 := fun e => h (e ▸ .head _)
    rw [List.cons_append, List.lookup_cons, List.lookup_cons, lookup_end fun m => h (.tail _ m)]
    by_cases e : y = x
    · subst e; rw [if_pos rfl, beq_eq_false_iff_ne.mpr hp]; simp
    · rw [if_neg e, if_neg e]
section
variable {w : World} {σ : Shared} {B : Heap} {s : Shared} {own own' : List Pt} {A : Around} {E : Value → Shared → Prop} {env : Env} {x C dx : Addr} {name : Str} {v : Value} {l l' : List (Str × Value)}
theorem Ins.keeps {B' : Heap} (h : Ins B x C dx) (k : B.StaysIn B') : Ins B' x C dx := k _ _ h
theorem ats_of {P : Params} {q : Addr × Str} (h : Has q ats) : plainGet (K P) q.1 q.2 = true ∧ hasDictIn (K P) q.1 = true ∧ (∃ a, findIn (K P) (.ref q.1) q.2 = some a ∧ noGet (K P) a = true) ∧ takerIn (K P) q.1 q.2 = some none ∧ plainOver (K P) q.1 = true ∧ findIn (K P) (.ref q.1) "__setattr__" = some (some (.builtin "object.__setattr__")) := by
  have e := List.all_eq_true.mp (ats_all P) _ h.mem
  simp only [atOk, Bool.and_eq_true, beq_iff_eq] at e
  obtain ⟨⟨⟨⟨⟨a, b⟩, c⟩, d⟩, f⟩, g⟩ := e
  refine ⟨a, b, ?_, d, f, g⟩
  split at c
  · exact ⟨_, by assumption, c⟩
  · cases c
theorem atO.look {o : Obj} (h : atO l o) (name : Str) : lookIn name o = some (l.lookup name) := by
  obtain ⟨⟨es, ep, e, k, _, f⟩, _⟩ := h
  unfold lookIn
  rw [e, ← f name]
  dsimp only
  unfold nsFind findBy
  rw [← Array.find?_toList]
  have hany : es.toList.any (·.refKey) = false := by
    rw [List.any_eq_false]; intro e he; obtain ⟨n, t, h⟩ := k e (Array.mem_toList_iff.mp he); simp [DictEntry.refKey, h]
  cases es.toList.find? (fun x => x.key.isStr name) with
  | none => simp [hany]
  | some e => rfl
theorem St.inst (S : St w σ B s own) (I : Ins B x C dx) (p : Pick (dx, atO l) own own') : ∃ od, PySem.W.InstAt s.heap x (instObj C dx) C (some od) ∧ atO l od :=
  let ⟨o, ho, h⟩ := (S.pick p).at_
  ⟨o, ⟨S.keep _ _ I, rfl, rfl, ho⟩, h⟩
theorem r_attr {expr : Bool} {Q : Value → Shared → Prop} (S : St w σ B s own) (I : Ins B x C dx) (p : Pick (dx, atO l) own own') (hn : Has (C, name) ats) (hx : Has (name, v) l) (hh : handedIn v = true)
    (h : ∀ s', St w σ B s' own → Q v s') : wpAny (MM w) A (getAttr (.ref x) name expr) Q E s := by
  obtain ⟨od, J, f⟩ := S.inst I p
  obtain ⟨a, b, ⟨at_, c, d⟩, _⟩ := ats_of (P := w.params) hn
  exact get_value S.inK J (plainGet_of a).1 (findObj_own b c d (by rw [f.look, lookup_has hx f.2])) hh (h _ (S.toks _))
/-- of an object that nobody owns -/
theorem r_attrB {expr : Bool} {Q : Value → Shared → Prop} (S : St w σ B s own) (I : Ins B x C dx) (p : ∃ o, B.get? dx = some o ∧ atO l o) (hn : Has (C, name) ats) (hx : Has (name, v) l) (hh : handedIn v = true)
    (h : ∀ s', St w σ B s' own → Q v s') : wpAny (MM w) A (getAttr (.ref x) name expr) Q E s := by
  obtain ⟨od, ho, f⟩ := p
  have J : PySem.W.InstAt s.heap x (instObj C dx) C (some od) := ⟨S.keep _ _ I, rfl, rfl, S.keep _ _ ho⟩
  obtain ⟨a, b, ⟨at_, c, d⟩, _⟩ := ats_of (P := w.params) hn
  exact get_value S.inK J (plainGet_of a).1 (findObj_own b c d (by rw [f.look, lookup_has hx f.2])) hh (h _ (S.toks _))
theorem osa_at {tk : Tok} {R : Result → Shared → Prop} (S : St w σ B s own) (I : Ins B x C dx) (p : Pick (dx, atO l) own own') (hn : Has (C, name) ats) (hl : ∀ y, l'.lookup y = if y = name then some v else l.lookup y) (nd : (l'.map Prod.fst).Nodup) (hz : l.length < 1000)
    (h : ∀ s', St w σ B s' ((dx, atO l') :: own') → R (.ok (.ret .none)) s') : codeAny (MM w) A (.call (.builtin "object.__setattr__") ⟨[.ref x, .str name tk, v], []⟩) R s := by
  have S₁ := S.pick p
  obtain ⟨od, J, f⟩ := S.inst I p
  obtain ⟨_, b, _, d, e, g⟩ := ats_of (P := w.params) hn
  have X := S.inK
  obtain ⟨od1, ho, ⟨es, ep, e1, e2, e3, e4⟩, e5⟩ := S₁.at_
  have hns : s.heap.Ns1 dx fun y => l.lookup y := ⟨od1, es, ep, ho, e1, e2, e3, e4⟩
  have hw : PySem.Within (fun y => l.lookup y) (l.map Prod.fst) := fun y hy => by
    false_or_by_contra
    rename_i hne
    exact hy (lookup_no hne)
  refine osa_open X J e d fun b' => ?_
  obtain ⟨cd, hc1, hd1⟩ := any_some b
  obtain ⟨hx, _, _, hd⟩ := J
  refine wpAny_bind (wpAny_pure (wpAny_bind (wpAny_bind (wpAny_loadPart hx (wpAny_bind ((looks_clsIn X hc1).here ?_))))))
  rw [hd1]
  refine wpAny_pure (a := some dx) ?_
  show wpAny _ _ (Builtin.ObjectAttr.storeInDict dx _ name v) _ _ _
  refine wpAny_bind (wpAny_pure (wpAny_bind (wpAny_nsSet1 hns fun h' hn' hs => ?_)))
  obtain ⟨oD, esD, epD, hoD, hdD, hcD⟩ := hn'.count (Within.cons name v hw)
  refine wpAny_bind (wpAny_lookBehind hoD (by rw [hdD]; exact pastItsLine_dict (Nat.le_trans hcD (by rw [List.length_cons, List.length_map, sizeLine_eq]; omega))) ?_)
  refine wpAny_pure (h _ (S₁.upd hs.extBut ?_))
  obtain ⟨o2, es2, ep2, q1, q2, q3, q4, q5⟩ := hn'
  exact ⟨o2, q1, ⟨es2, ep2, q2, q3, q4, fun y => (q5 y).trans (hl y).symm⟩, nd⟩
theorem r_setAttr {Q : Unit → Shared → Prop} (S : St w σ B s own) (I : Ins B x C dx) (p : Pick (dx, atO l) own own') (hn : Has (C, name) ats) (hl : ∀ y, l'.lookup y = if y = name then some v else l.lookup y) (nd : (l'.map Prod.fst).Nodup) (hz : l.length < 1000)
    (h : ∀ s', St w σ B s' ((dx, atO l') :: own') → Q () s') : wpAny (MM w) A (setAttr (.ref x) name v) Q E s := by
  obtain ⟨od, J, f⟩ := S.inst I p
  obtain ⟨_, b, _, d, e, g⟩ := ats_of (P := w.params) hn
  exact set_plain S.inK J g (osa_at (S.toks _) I p hn hl nd hz h)
/-- an old name -/
theorem r_setAttr1 {Q : Unit → Shared → Prop} (S : St w σ B s own) (I : Ins B x C dx) (p : Pick (dx, atO l) own own') (hn : Has (C, name) ats) (hl : SetA name v l l') (hz : l.length < 1000)
    (h : ∀ s', St w σ B s' ((dx, atO l') :: own') → Q () s') : wpAny (MM w) A (setAttr (.ref x) name v) Q E s := by
  obtain ⟨od, J, f⟩ := S.inst I p
  exact r_setAttr S I p hn (hl.lookup f.2) (hl.keys ▸ f.2) hz h
/-- a new name -/
theorem r_setAttr2 {Q : Unit → Shared → Prop} (S : St w σ B s own) (I : Ins B x C dx) (p : Pick (dx, atO l) own own') (hn : Has (C, name) ats) (hl : (l.map Prod.fst).contains name = false) (hz : l.length < 1000)
    (h : ∀ s', St w σ B s' ((dx, atO (l ++ [(name, v)])) :: own') → Q () s') : wpAny (MM w) A (setAttr (.ref x) name v) Q E s := by
  obtain ⟨od, J, f⟩ := S.inst I p
  have hm : name ∉ l.map Prod.fst := fun m => by rw [List.contains_iff_mem.mpr m] at hl; cases hl
  refine r_setAttr S I p hn (fun y => lookup_end hm) ?_ hz h
  rw [List.map_append]
  exact List.nodup_append.mpr ⟨f.2, by simp, fun a ha b hb e => hm (by simp at hb; rw [← hb, ← e]; exact ha)⟩
/-- a method of the text's class, called -/
theorem r_meth {f : Addr} {pl : Sem Bool} {Q : Value × List Value → Shared → Prop} (S : St w σ B s own) (I : Ins B x C dx) (p : Pick (dx, atO l) own own') (hn : Has ((C, name), f) mts) (hl : (l.map Prod.fst).contains name = false)
    (h : Q (.ref f, [.ref x]) s) : wpAny (MM w) A (getMethod (.ref x) name pl) Q E s := by
  obtain ⟨od, J, g⟩ := S.inst I p
  have e := List.all_eq_true.mp (mts_all w.params) _ hn.mem
  simp only [mtOk, Bool.and_eq_true, beq_iff_eq] at e
  obtain ⟨⟨⟨a, b⟩, c⟩, d⟩ := e
  have hm : name ∉ l.map Prod.fst := fun m => by rw [List.contains_iff_mem.mpr m] at hl; cases hl
  exact method_fn S.inK J (plainGet_of a).1 (plainGet_of a).2 b (beq_iff_eq.mp c) (by unfold shadowIn; dsimp only; rw [g.look, lookup_no hm]; rfl) h
/-- a call of a class of the text -/
abbrev clss : List (Addr × Addr) := [(100, 43), (161, 158), (299, 185)]
theorem clss_all (P : Params) : (clss.all fun q => makesIn (K P) q.1 && (findIn (K P) (.ref q.1) "__init__" == some (some (.ref q.2))) && (typeIn (K P) (.ref q.2) == some (.type "function"))) = true := by kernel_rfl
theorem under_units (c : Value) (args : List Value) : (A.under (.builtin "type.__call__" ⟨c :: args, []⟩)).units ≤ A.units + 4 := by
  have h : (A.under (.builtin "type.__call__" ⟨c :: args, []⟩)).units = A.units + (1 + 3 * (Code.builtin "type.__call__" ⟨c :: args, []⟩).frames) := rfl
  have : (Code.builtin "type.__call__" ⟨c :: args, []⟩).frames ≤ 1 := by first | (show (0:Nat) ≤ 1; decide) | (simp [Code.frames, Code.isFrame])
  omega
theorem Rm.under {n : Nat} (h : Rm A (n + 1)) (c : Addr) (args : List Value) : Rm (A.under (.builtin "type.__call__" ⟨.ref c :: args, []⟩)) n := by
  refine ⟨h.1, ?_, ?_⟩
  · have := h.2.1
    rw [depth_under_kw]
    omega
  · have := h.2.2
    have := under_units (A := A) (.ref c) args
    omega
theorem atO_nil {n : Nat} : atO [] { cls := .type "dict", data := .dict #[] n } := ⟨⟨#[], n, rfl, fun e he => absurd he (by simp), by unfold UniqKeys; exact .nil, fun _ => rfl⟩, List.nodup_nil⟩
theorem r_new {n : Nat} {fI : Addr} {fd : FuncData} {body : List Stmt} {ps ls gl : List Str} {vs args : List Value} {Q : Value → Shared → Prop} (Z : Rm A (n + 2)) (S : St w σ B s own) (hC : Has (C, fI) clss)
    (hf : (K w.params).lookup fI = some ⟨.type "function", none, .func fd, #[]⟩) (hcd : codeIn (K w.params) fd.code fd.qualname = true) (hb : fd.body = .stmts body) (ok : okFn fd ps ls gl = true)
    (hbind : ∀ x s, (K w.params).In s.heap → BindsTo s fd ⟨.ref x :: args, []⟩ (ps.zip (.ref x :: vs))) (hlen : vs.length + 1 = ps.length)
    (h : ∀ A x dx B' env s', B.StaysIn B' → Ins B' x C dx → Ev env gl [] → Rm A n → St w σ B' s' ((env.locals, frO env (mkL ps (.ref x :: vs) ls)) :: (dx, atO []) :: own) →
      wpAny (MM w) A (execs body env) (Rt fun v s => v = .none ∧ Q (.ref x) s) (fun _ _ => False) s') :
    wpAny (MM w) A (call (.ref C) args) Q E s := by
  have e := List.all_eq_true.mp (clss_all w.params) _ hC.mem
  simp only [Bool.and_eq_true, beq_iff_eq] at e
  obtain ⟨⟨a, b⟩, c⟩ := e
  have X := S.inK
  have S₁ := (S.push (o := emptyDict) (t := s.toks) rfl atO_nil)
  have S₂ := (S₁.push (o := instObj C s.heap.objs.size) (t := s.toks) (P := (· = instObj C s.heap.objs.size)) rfl rfl)
  dsimp only at S₂
  rw [Heap.size_push] at S₂
  obtain ⟨B', k, ⟨o, ho, rfl⟩, S₃⟩ := S₂.freeze
  obtain ⟨hh, g, d, t, os⟩ := s
  refine wpAny_call (make_core (makes_of X a) (looks_findIn X b) (fun self => bind_fn X self c) (.inl rfl) (codeAny_mono (enterR (R := fun r s' => match r with | .ok (.ret v) => v = .none ∧ Q (.ref (hh.objs.size + 1)) s' | _ => False) (Z.under _ _) S₃ hf hcd hb ok (hbind _ _ S₃.inK) (by simp [hlen]) fun env s' V Z' S' => h _ _ _ _ _ _ k ho V Z' S') fun r s' z => ?_))
  rcases r with e | (v | _ | _ | _) <;> first | exact z.elim | exact z
end
end
/-! W10 -/
noncomputable section
open PySem.SeqAt MeetsSeq
/-! numbers: of an object, or of the package variable -/
abbrev Nm := Option Int
def NmV (m : Nm) (v : Value) : Prop := match m with
  | some n => ∃ t, v = .int n t
  | none => ∃ t, v = .str "main.x" t
inductive NmsAre : List Value → List Nm → Prop
  | nil : NmsAre [] []
  | cons {v m vs ms} : NmV m v → NmsAre vs ms → NmsAre (v :: vs) (m :: ms)
theorem NmsAre.length {vs : List Value} {ms : List Nm} (h : NmsAre vs ms) : vs.length = ms.length := by
  induction h with
  | nil => rfl
  | cons _ _ ih => simp [ih]
theorem NmsAre.append {vs us : List Value} {ms ns : List Nm} (h : NmsAre vs ms) (h' : NmsAre us ns) : NmsAre (vs ++ us) (ms ++ ns) := by
  induction h with
  | nil => exact h'
  | cons a _ ih => exact .cons a ih
theorem NmsAre.one {v : Value} {m : Nm} (h : NmV m v) : NmsAre [v] [m] := .cons h .nil
theorem NmsAre.get {vs : List Value} {ms : List Nm} (h : NmsAre vs ms) : ∀ {i : Nat} {v : Value} {m : Nm}, vs[i]? = some v → ms[i]? = some m → NmV m v := by
  induction h with
  | nil => intro i v m e; simp at e
  | cons a _ ih =>
    intro i v m e1 e2
    cases i with
    | zero => simp at e1 e2; subst e1 e2; exact a
    | succ i => exact ih (by simpa using e1) (by simpa using e2)
theorem NmsAre.at_ {vs : List Value} {ms : List Nm} (h : NmsAre vs ms) {i : Nat} {v : Value} (e : vs[i]? = some v) : ∃ m, ms[i]? = some m ∧ NmV m v := by
  have hi : i < ms.length := by rw [← h.length]; exact (List.getElem?_eq_some_iff.mp e).1
  exact ⟨ms[i], by simp [hi], h.get e (by simp [hi])⟩
theorem nm_eq {a b : Nm} {u v : Value} (ha : NmV a u) (hb : NmV b v) : EqGives u v (decide (a = b)) := by
  intro prog w A E s Q h
  cases a with
  | some a =>
    obtain ⟨t, rfl⟩ := ha
    cases b with
    | some b =>
      obtain ⟨t', rfl⟩ := hb
      refine EqGives.int a b t t' prog w A E s Q ?_
      have : (a == b) = decide (some a = some b) := by simp [BEq.beq]
      rw [this]; exact h
    | none => obtain ⟨t', rfl⟩ := hb; exact EqAt.int_str a t _ t' prog w E Q (by simpa using h)
  | none =>
    obtain ⟨t, rfl⟩ := ha
    cases b with
    | some b => obtain ⟨t', rfl⟩ := hb; exact EqAt.str_int _ t b t' prog w E Q (by simpa using h)
    | none => obtain ⟨t', rfl⟩ := hb; exact EqAt.str_str _ t _ t' prog w E Q (by simpa using h)
section
variable {w : World} {σ : Shared} {B : Heap} {s : Shared} {own own' : List Pt} {A : Around} {E : Value → Shared → Prop} {env : Env} {a b : Addr} {name : Str} {v : Value} {xs ys : List Value} {ms ns : List Nm}
theorem Lst.isL {h : Heap} (x : Lst h a xs) : ∃ n, IsL h a xs.toArray n := x
theorem sz_ok {n : Nat} (h : n < 1000) : n ≤ sizeLine := by rw [sizeLine_eq]; omega
/-! displays -/
theorem r_newL {Q : Value → Shared → Prop} (S : St w σ B s own) (hz : xs.length < 1000) (h : ∀ a s', St w σ B s' ((a, lsO xs) :: own) → Q (.ref a) s') : wpAny (MM w) A (newList xs) Q E s :=
  wpAny_newObj_type (h _ _ (S.push (t := s.toks) rfl ⟨0, rfl⟩)) (by show xs.toArray.size ≤ sizeLine; rw [List.size_toArray]; exact sz_ok hz)
theorem r_newT {Q : Value → Shared → Prop} (S : St w σ B s own) (hz : xs.length < 1000) (h : ∀ a B' s', B.StaysIn B' → Tup B' a xs → St w σ B' s' own → Q (.ref a) s') : wpAny (MM w) A (newTuple xs) Q E s := by
  refine wpAny_newObj_type ?_ (by show xs.toArray.size ≤ sizeLine; rw [List.size_toArray]; exact sz_ok hz)
  have S₁ := (S.push (t := s.toks) (o := { cls := .type "tuple", data := .seq xs.toArray }) (P := tuO xs) rfl ⟨0, rfl⟩)
  obtain ⟨B', k, ⟨o, ho, n, rfl⟩, S₂⟩ := S₁.freeze
  exact h _ _ _ k ⟨n, ho⟩ S₂
theorem r_list {elts : List Expr} {pos : Pos} {Q : Value → Shared → Prop} (h : wpAny (MM w) A (spliced (backTo pos (starEach elts env))) (fun vs s₁ => wpAny (MM w) A (newList vs) Q E s₁) E s) : wpAny (MM w) A (eval (.List elts pos) env) Q E s := List_ h
theorem r_tuple {elts : List Expr} {k : Nat} {pos : Pos} {Q : Value → Shared → Prop} (h : wpAny (MM w) A (spliced (backTo pos (starEach elts env))) (fun vs s₁ => wpAny (MM w) A (newTuple vs) Q E s₁) E s) : wpAny (MM w) A (eval (.Tuple elts k pos) env) Q E s := Tuple_ h
theorem r_none {k : Nat} {pos : Pos} {Q : Value → Shared → Prop} (h : Q .none s) : wpAny (MM w) A (eval (.Constant .none k pos) env) Q E s := wpAny_Constant_none h
theorem r_bool {c : Bool} {k : Nat} {pos : Pos} {Q : Value → Shared → Prop} (h : Q (.bool c) s) : wpAny (MM w) A (eval (.Constant (.bool c) k pos) env) Q E s := wpAny_Constant_bool h
/-! methods of a list -/
theorem m_append {pl : Sem Bool} {Q : Value × List Value → Shared → Prop} (hl : Lst s.heap a xs) (h : Q (.builtin "list.append", [.ref a]) s) : wpAny (MM w) A (getMethod (.ref a) "append" pl) Q E s := by
  obtain ⟨n, e⟩ := hl
  exact getMethod_builtin (T := "list") ⟨_, e, rfl⟩ F.plainAttrs_list F.slot_list_append F.type_list_append (fun b q => by cases q; exact ⟨_, e, rfl⟩) h
theorem m_pop {pl : Sem Bool} {Q : Value × List Value → Shared → Prop} (hl : Lst s.heap a xs) (h : Q (.builtin "list.pop", [.ref a]) s) : wpAny (MM w) A (getMethod (.ref a) "pop" pl) Q E s := by
  obtain ⟨n, e⟩ := hl
  exact getMethod_builtin (T := "list") ⟨_, e, rfl⟩ F.plainAttrs_list F.slot_list_pop F.type_list_pop (fun b q => by cases q; exact ⟨_, e, rfl⟩) h
theorem m_extend {pl : Sem Bool} {Q : Value × List Value → Shared → Prop} (hl : Lst s.heap a xs) (h : Q (.builtin "list.extend", [.ref a]) s) : wpAny (MM w) A (getMethod (.ref a) "extend" pl) Q E s := by
  obtain ⟨n, e⟩ := hl
  exact getMethod_builtin (T := "list") ⟨_, e, rfl⟩ F.plainAttrs_list F.slot_list_extend F.type_list_extend (fun b q => by cases q; exact ⟨_, e, rfl⟩) h
theorem m_remove {pl : Sem Bool} {Q : Value × List Value → Shared → Prop} (hl : Lst s.heap a xs) (h : Q (.builtin "list.remove", [.ref a]) s) : wpAny (MM w) A (getMethod (.ref a) "remove" pl) Q E s := by
  obtain ⟨n, e⟩ := hl
  exact getMethod_builtin (T := "list") ⟨_, e, rfl⟩ F.plainAttrs_list F.slot_list_remove F.type_list_remove (fun b q => by cases q; exact ⟨_, e, rfl⟩) h
theorem lsO_map {f : Array Value → Array Value} {ys : List Value} (hf : f xs.toArray = ys.toArray) {n : Nat} (hl : IsL s.heap a xs.toArray n) : ∃ o, (s.heap.update a (Obj.mapSeq f)).get? a = some o ∧ lsO ys o := by
  have := hl.update f
  rw [hf] at this
  exact ⟨_, this, _, rfl⟩
theorem k_append {Q : Value → Shared → Prop} (S : St w σ B s own) (p : Pick (a, lsO xs) own own') (hz : xs.length < 1000) (h : ∀ s', St w σ B s' ((a, lsO (xs ++ [v])) :: own') → Q .none s') :
    wpAny (MM w) A (call (.builtin "list.append") [.ref a, v]) Q E s := by
  obtain ⟨n, hl⟩ := S.lst p
  refine call_meets F.slot_list_append ⟨_, hl, rfl⟩ F.entry_list_append (F.args_list_append_2 _ _) (list_append a xs.toArray n v (by rw [List.size_toArray]; exact sz_ok hz)) ⟨hl, h _ ?_⟩
  exact (S.pick p).upd (Heap.SameBut.update ..).extBut (lsO_map (by simp) hl)
theorem k_pop {y : Value} {Q : Value → Shared → Prop} (S : St w σ B s own) (p : Pick (a, lsO (xs ++ [y])) own own') (hz : xs.length < 1000) (h : ∀ s', St w σ B s' ((a, lsO xs) :: own') → Q y s') :
    wpAny (MM w) A (call (.builtin "list.pop") [.ref a]) Q E s := by
  obtain ⟨n, hl⟩ := S.lst p
  refine call_meets F.slot_list_pop ⟨_, hl, rfl⟩ F.entry_list_pop (F.args_list_pop_1 _) (list_pop_last a (xs ++ [y]).toArray n y (by simp) (by rw [List.size_toArray, List.length_append]; exact Nat.le_trans (Nat.add_le_add_left (by simp : _ ≤ 1) _) (by rw [sizeLine_eq]; omega))) ⟨hl, h _ ?_⟩
  exact (S.pick p).upd (Heap.SameBut.update ..).extBut (lsO_map (by simp [List.eraseIdx_append_of_length_le]) hl)
theorem k_extend {Q : Value → Shared → Prop} (S : St w σ B s own) (p : Pick (a, lsO xs) own own') (hb : Lst s.heap b ys) (hz : xs.length < 1000) (hz' : ys.length < 1000) (h : ∀ s', St w σ B s' ((a, lsO (xs ++ ys)) :: own') → Q .none s') :
    wpAny (MM w) A (call (.builtin "list.extend") [.ref a, .ref b]) Q E s := by
  obtain ⟨n, hl⟩ := S.lst p
  obtain ⟨n2, hb⟩ := hb
  refine call_meets F.slot_list_extend ⟨_, hl, rfl⟩ F.entry_list_extend (F.args_list_extend_2 _ _) (AutoSeq1.list_extend_list_list_0 a xs.toArray n b ys.toArray n2 ?_ (by rw [List.size_toArray]; exact sz_ok hz) (by rw [List.size_toArray, List.size_toArray, sizeLine_eq]; omega)) ⟨hl, hb, h _ ?_⟩
  · rw [List.size_toArray, List.size_toArray]
    simp only [Bool.and_eq_true, not_and]
    intro _
    unfold Builtin.List.listTooLong
    simp only [decide_eq_true_eq]
    rw [sizeLine_eq]
    omega
  · exact (S.pick p).upd (Heap.SameBut.update ..).extBut (lsO_map (by simp) hl)
theorem k_len {Q : Value → Shared → Prop} (S : St w σ B s own) (hl : Lst s.heap a xs) (hz : xs.length < 1000) (h : ∀ t s', St w σ B s' own → Q (.int xs.length t) s') : wpAny (MM w) A (call (.builtin "len") [.ref a]) Q E s :=
  call_len_list hl.is (by rw [List.size_toArray]; omega) (by simpa using h _ _ (S.toks _))
/-! comparisons -/
theorem c_eq {u v : Value} {c : Bool} {Q : Value → Shared → Prop} (x : RcAt A s u v c) (h : Q (.bool c) s) : wpAny (MM w) A (compareOp .Eq u v) Q E s := x pw w E Q h
theorem c_ne {u v : Value} {c : Bool} {Q : Value → Shared → Prop} (x : RcNeAt A s u v c) (h : Q (.bool c) s) : wpAny (MM w) A (compareOp .NotEq u v) Q E s := x pw w E Q h
theorem c_eqE {Q : Value → Shared → Prop} (hu : A.units < cLine) (hl : Lst s.heap a xs) (hb : Lst s.heap b []) (h : Q (.bool (decide (xs = []))) s) : wpAny (MM w) A (compareOp .Eq (.ref a) (.ref b)) Q E s := by
  cases xs with
  | nil => exact c_eq (RcAt.lists (e := fun _ => true) hl.is hb.is rfl hu (fun j h1 _ => absurd h1 (by simp))) (by simpa using h)
  | cons x xs => exact c_eq (RcAt.lists_lengths hl.is hb.is (by simp) hu) (by simpa using h)
theorem c_neE {Q : Value → Shared → Prop} (hu : A.units < cLine) (hl : Lst s.heap a xs) (hb : Lst s.heap b []) (h : Q (.bool (decide (xs ≠ []))) s) : wpAny (MM w) A (compareOp .NotEq (.ref a) (.ref b)) Q E s := by
  cases xs with
  | nil => exact c_ne (RcNeAt.lists (e := fun _ => true) hl.is hb.is rfl hu (fun j h1 _ => absurd h1 (by simp))) (by simpa using h)
  | cons x xs => exact c_ne (RcNeAt.lists_lengths hl.is hb.is (by simp) hu) (by simpa using h)
theorem nms_eq (hm : NmsAre xs ms) (hn : NmsAre ys ns) (hl : xs.length = ys.length) : ((List.range xs.length).all fun j => decide (ms[j]? = ns[j]?)) = decide (ms = ns) := by
  have hlen : ms.length = ns.length := by rw [← hm.length, ← hn.length, hl]
  rw [Bool.eq_iff_iff, List.all_eq_true, decide_eq_true_eq]
  constructor
  · intro h
    apply List.ext_getElem? 
    intro j
    by_cases hj : j < xs.length
    · exact of_decide_eq_true (h j (List.mem_range.mpr hj))
    · rw [List.getElem?_eq_none (by rw [← hm.length]; omega), List.getElem?_eq_none (by rw [← hn.length]; omega)]
  · rintro rfl j _
    simp
theorem nms_at (hm : NmsAre xs ms) (hn : NmsAre ys ns) {A : Around} {s : Shared} : ∀ j (h1 : j < xs.toArray.size) (h2 : j < ys.toArray.size), EqAt A s xs.toArray[j] ys.toArray[j] (decide (ms[j]? = ns[j]?)) := by
  intro j h1 h2
  rw [List.size_toArray] at h1 h2
  have e1 : xs[j]? = some xs[j] := by simp [h1]
  have e2 : ys[j]? = some ys[j] := by simp [h2]
  obtain ⟨m, f1, g1⟩ := hm.at_ e1
  obtain ⟨m', f2, g2⟩ := hn.at_ e2
  have := (nm_eq g1 g2).at A s
  rw [f1, f2]
  simpa using this
theorem c_eqN {Q : Value → Shared → Prop} (hu : A.units < cLine) (hl : Lst s.heap a xs) (hb : Lst s.heap b ys) (hm : NmsAre xs ms) (hn : NmsAre ys ns) (h : Q (.bool (decide (ms = ns))) s) : wpAny (MM w) A (compareOp .Eq (.ref a) (.ref b)) Q E s := by
  by_cases hz : xs.length = ys.length
  · exact c_eq (RcAt.lists hl.is hb.is (by simpa using hz) hu (nms_at hm hn)) (by rw [List.size_toArray, nms_eq hm hn hz]; exact h)
  · refine c_eq (RcAt.lists_lengths hl.is hb.is (by simpa using hz) hu) ?_
    have : ¬ ms = ns := fun e => hz (by rw [hm.length, hn.length, e])
    simpa [this] using h
theorem c_neN {Q : Value → Shared → Prop} (hu : A.units < cLine) (hl : Lst s.heap a xs) (hb : Lst s.heap b ys) (hm : NmsAre xs ms) (hn : NmsAre ys ns) (h : Q (.bool (decide (ms ≠ ns))) s) : wpAny (MM w) A (compareOp .NotEq (.ref a) (.ref b)) Q E s := by
  by_cases hz : xs.length = ys.length
  · exact c_ne (RcNeAt.lists hl.is hb.is (by simpa using hz) hu (nms_at hm hn)) (by rw [List.size_toArray, nms_eq hm hn hz, ← decide_not]; exact h)
  · refine c_ne (RcNeAt.lists_lengths hl.is hb.is (by simpa using hz) hu) ?_
    have : ¬ ms = ns := fun e => hz (by rw [hm.length, hn.length, e])
    simpa [this] using h
/-- what is not known to be a number counts as none -/
theorem nms_any {m : Nm} (hm : NmsAre xs ms) (hv : NmV m v) : ∃ e : Value → Bool, (∀ y, y ∈ xs.toArray → EqGives y v (e y)) ∧ xs.toArray.any e = decide (m ∈ ms) ∧ ∀ (i : Nat) (y : Value) (k : Nm), xs[i]? = some y → ms[i]? = some k → e y = decide (k = m) := by
  classical
  refine ⟨fun y => decide (NmV m y), fun y hy => ?_, ?_, fun i y k e1 e2 => ?_⟩
  · have hy : y ∈ xs := by simpa using hy
    obtain ⟨i, hi⟩ := List.getElem?_of_mem hy
    obtain ⟨k, e, g⟩ := hm.at_ hi
    have := nm_eq g hv
    have q : decide (k = m) = decide (NmV m y) := by
      rw [decide_eq_decide]
      refine ⟨fun e => e ▸ g, fun z => ?_⟩
      cases k <;> cases m <;> first | rfl | (obtain ⟨t, rfl⟩ := g; obtain ⟨t', q⟩ := z; cases q; first | rfl | skip)
    show EqGives y v (decide (NmV m y))
    rw [← q]; exact this
  · rw [List.any_toArray, Bool.eq_iff_iff, List.any_eq_true, decide_eq_true_eq]
    clear hv
    induction hm with
    | nil => simp
    | @cons u k us ks a _ ih =>
      constructor
      · rintro ⟨y, hy, q⟩
        rcases List.mem_cons.mp hy with rfl | hy
        · have q := of_decide_eq_true q
          have : m = k := by cases k <;> cases m <;> first | rfl | (obtain ⟨t, rfl⟩ := a; obtain ⟨t', q⟩ := q; cases q; first | rfl | skip)
          exact this ▸ .head _
        · exact .tail _ (ih.mp ⟨y, hy, q⟩)
      · intro hmem
        rcases List.mem_cons.mp hmem with rfl | hmem
        · exact ⟨u, .head _, decide_eq_true a⟩
        · obtain ⟨y, hy, q⟩ := ih.mpr hmem
          exact ⟨y, .tail _ hy, q⟩
  · have g := hm.get e1 e2
    rw [decide_eq_decide]
    refine ⟨fun z => ?_, fun e => e ▸ g⟩
    cases k <;> cases m <;> first | rfl | (obtain ⟨t, rfl⟩ := g; obtain ⟨t', q⟩ := z; cases q; first | rfl | skip)
theorem c_inN {m : Nm} {Q : Value → Shared → Prop} (hl : Lst s.heap a xs) (hm : NmsAre xs ms) (hv : NmV m v) (h : Q (.bool (decide (m ∈ ms))) s) : wpAny (MM w) A (compareOp .In v (.ref a)) Q E s := by
  obtain ⟨n, hl⟩ := hl
  obtain ⟨e, e1, e2, _⟩ := nms_any hm hv
  exact SeqRoads2.in_list e e1 hl (by rw [e2]; exact h)
theorem c_notN {m : Nm} {Q : Value → Shared → Prop} (hl : Lst s.heap a xs) (hm : NmsAre xs ms) (hv : NmV m v) (h : Q (.bool (decide (m ∉ ms))) s) : wpAny (MM w) A (compareOp .NotIn v (.ref a)) Q E s := by
  obtain ⟨n, hl⟩ := hl
  obtain ⟨e, e1, e2, _⟩ := nms_any hm hv
  exact SeqRoads2.notIn_list e e1 hl (by rw [e2, ← decide_not]; exact h)
theorem k_add {Q : Value → Shared → Prop} (S : St w σ B s own) (hl : Lst s.heap a xs) (hb : Lst s.heap b ys) (hz : xs.length < 1000) (hz' : ys.length < 1000) (h : ∀ c s', St w σ B s' ((c, lsO (xs ++ ys)) :: own) → Q (.ref c) s') :
    wpAny (MM w) A (binaryOp .Add (.ref a) (.ref b)) Q E s := by
  obtain ⟨n, hl⟩ := hl
  obtain ⟨n2, hb⟩ := hb
  exact P.add_list hl hb (h _ _ (S.push (t := s.toks) rfl ⟨0, by simp⟩)) (by rw [List.size_toArray, List.size_toArray, sizeLine_eq]; omega)
theorem NmsAre.eraseIdx {xs : List Value} {ms : List Nm} (h : NmsAre xs ms) : ∀ j, NmsAre (xs.eraseIdx j) (ms.eraseIdx j) := by
  induction h with
  | nil => intro j; exact .nil
  | cons a b ih =>
    intro j
    cases j with
    | zero => exact b
    | succ j => exact .cons a (ih j)
theorem k_remove {m : Nm} {Q : Value → Shared → Prop} (S : St w σ B s own) (p : Pick (a, lsO xs) own own') (hm : NmsAre xs ms) (hv : NmV m v) (hmem : m ∈ ms) (hz : xs.length < 1000) (h : ∀ ys s', NmsAre ys (ms.erase m) → St w σ B s' ((a, lsO ys) :: own') → Q .none s') :
    wpAny (MM w) A (call (.builtin "list.remove") [.ref a, v]) Q E s := by
  obtain ⟨n, hl⟩ := S.lst p
  obtain ⟨e, e1, e2, e3⟩ := nms_any hm hv
  have hj' : ms.idxOf m < ms.length := List.idxOf_lt_length_of_mem hmem
  have hj : ms.idxOf m < xs.toArray.size := by rw [List.size_toArray, hm.length]; exact hj'
  have at_ : ∀ i (hi : i < xs.toArray.size), ∃ k, ms[i]? = some k ∧ e xs.toArray[i] = decide (k = m) := fun i hi => by
    have hi' : i < xs.length := by simpa using hi
    have q : xs[i]? = some xs[i] := by simp [hi']
    obtain ⟨k, f, _⟩ := hm.at_ q
    exact ⟨k, f, by simpa using e3 i _ k q f⟩
  refine call_meets F.slot_list_remove ⟨_, hl, rfl⟩ F.entry_list_remove (F.args_list_remove_2 _ _) (list_remove a xs.toArray n v e e1 (ms.idxOf m) hj ?_ ?_ (by rw [List.size_toArray]; exact sz_ok hz)) ⟨hl, h (xs.eraseIdx (ms.idxOf m)) _ ?_ ?_⟩
  · obtain ⟨k, f, g⟩ := at_ _ hj
    rw [g, decide_eq_true_eq]
    rw [List.getElem?_eq_getElem hj'] at f
    have := List.getElem_idxOf hj'
    simp only [Option.some.injEq] at f
    exact f ▸ this
  · intro i hi hlt
    obtain ⟨k, f, g⟩ := at_ _ hi
    rw [g, decide_eq_false_iff_not]
    intro e
    subst e
    have hi' : i < ms.length := Nat.lt_trans hlt hj'
    have := List.not_of_lt_findIdx (p := (· == k)) (xs := ms) (i := i) hlt
    rw [List.getElem?_eq_getElem hi', Option.some.injEq] at f
    rw [f] at this
    simp at this
  · rw [List.erase_eq_eraseIdx_of_idxOf rfl]
    exact hm.eraseIdx _
  · refine (S.pick p).upd (Heap.SameBut.update ..).extBut (lsO_map ?_ hl)
    have hj2 : ms.idxOf m < xs.length := by rw [hm.length]; exact hj'
    simp
end
end
/-! W11 -/
noncomputable section
open PySem.SeqAt MeetsSeq
section
variable {w : World} {σ : Shared} {B : Heap} {s : Shared} {own own' : List Pt} {A : Around} {E : Value → Shared → Prop} {F : Value → Shared → Prop} {env : Env} {a b : Addr} {name : Str} {v : Value} {xs ys : List Value} {N : Shared → Prop} {R : Flow → Shared → Prop}
/-! tests -/
theorem t_and {x : Expr} {rest : List Expr} {pos : Pos} {whole : Sem Value} {Q : Bool → Shared → Prop} (h : wpAny (MM w) A (PySem.isTrue x env (eval x env)) (fun c s' => (c = true → wpAny (MM w) A (PySem.isTrue (.BoolOp .And rest pos) env whole) Q E s') ∧ (c = false → Q false s')) E s) :
    wpAny (MM w) A (PySem.isTrue (.BoolOp .And (x :: rest) pos) env whole) Q E s := PyProof.Rows.isTrue_and (wpAny_mono h (fun c s' z => by cases c; exact z.2 rfl; exact z.1 rfl) fun _ _ z => z)
theorem t_and0 {pos : Pos} {whole : Sem Value} {Q : Bool → Shared → Prop} (h : Q true s) : wpAny (MM w) A (PySem.isTrue (.BoolOp .And [] pos) env whole) Q E s := PyProof.Rows.isTrue_and_nil h
theorem t_or {x : Expr} {rest : List Expr} {pos : Pos} {whole : Sem Value} {Q : Bool → Shared → Prop} (h : wpAny (MM w) A (PySem.isTrue x env (eval x env)) (fun c s' => (c = true → Q true s') ∧ (c = false → wpAny (MM w) A (PySem.isTrue (.BoolOp .Or rest pos) env whole) Q E s')) E s) :
    wpAny (MM w) A (PySem.isTrue (.BoolOp .Or (x :: rest) pos) env whole) Q E s := PyProof.Rows.isTrue_or (wpAny_mono h (fun c s' z => by cases c; exact z.2 rfl; exact z.1 rfl) fun _ _ z => z)
theorem t_or0 {pos : Pos} {whole : Sem Value} {Q : Bool → Shared → Prop} (h : Q false s) : wpAny (MM w) A (PySem.isTrue (.BoolOp .Or [] pos) env whole) Q E s := PyProof.Rows.isTrue_or_nil h
theorem t_not {x : Expr} {pos : Pos} {whole : Sem Value} {Q : Bool → Shared → Prop} (h : wpAny (MM w) A (PySem.isTrue x env (eval x env)) (fun c s' => Q (!c) s') E s) : wpAny (MM w) A (PySem.isTrue (.UnaryOp .Not x pos) env whole) Q E s := PyProof.Rows.isTrue_not h
theorem t_val {e : Expr} {whole : Sem Value} {Q : Bool → Shared → Prop} (h : wpAny (MM w) A whole (fun v s₁ => wpAny (MM w) A (truthy v) Q E s₁) E s) (he : PySem.isTrue e env whole = (do let v ← whole; standAt e.pos; holding [v] (truthy v)) := by rfl) :
    wpAny (MM w) A (PySem.isTrue e env whole) Q E s := PyProof.Rows.isTrue_plain h he
theorem r_ifExp {test body orelse : Expr} {pos : Pos} {Q : Value → Shared → Prop} (h : wpAny (MM w) A (PySem.isTrue test env (eval test env)) (fun c s₂ => (c = true → wpAny (MM w) A (eval body env) Q E s₂) ∧ (c = false → wpAny (MM w) A (eval orelse env) Q E s₂)) E s) :
    wpAny (MM w) A (eval (.IfExp test body orelse pos) env) Q E s := IfExp_ (wpAny_mono h (fun c s' z => by cases c; exact z.2 rfl; exact z.1 rfl) fun _ _ z => z)
theorem r_and {x y : Expr} {rest : List Expr} {pos : Pos} {Q : Value → Shared → Prop} (h : wpAny (MM w) A (eval x env) (fun v s₁ => wpAny (MM w) A (truthy v) (fun c s₂ => (c = true → wpAny (MM w) A (eval (.BoolOp .And (y :: rest) pos) env) Q E s₂) ∧ (c = false → Q v s₂)) E s₁) E s) :
    wpAny (MM w) A (eval (.BoolOp .And (x :: y :: rest) pos) env) Q E s := BoolOp_and (wpAny_mono h (fun v s₁ z => wpAny_mono z (fun c s' z => by cases c; exact z.2 rfl; exact z.1 rfl) fun _ _ z => z) fun _ _ z => z)
theorem r_and1 {x : Expr} {pos : Pos} {Q : Value → Shared → Prop} (h : wpAny (MM w) A (eval x env) Q E s) : wpAny (MM w) A (eval (.BoolOp .And [x] pos) env) Q E s := BoolOp_one h
theorem r_cmp {l r : Expr} {op : CmpOp} {pos : Pos} {Q : Value → Shared → Prop} (h : wpAny (MM w) A (eval l env) (fun a s₁ => wpAny (MM w) A (eval r env) (fun b s₂ => wpAny (MM w) A (compareOp op a b) Q E s₂) E s₁) E s)
    (hm : behindInMarks op r = false := by with_unfolding_all rfl) : wpAny (MM w) A (eval (.Compare l [op] [r] pos) env) Q E s := wpAny_Compare1 (h := h) (hm := hm)
theorem x_cont {pos : Pos} (h : R .cont s) : wpAny (MM w) A (exec (.Continue pos) env) (Nx N R) F s := wpAny_Continue (h := h)
/-! what kind a value is -/
theorem i_tuple {T : String} {c : Bool} {Q : Value → Shared → Prop} (S : St w σ B s own) (hT : Tup s.heap a xs) (e : kitOne (K w.params) (.type "tuple") (.type T) = some c) (h : ∀ s', St w σ B s' own → Q (.bool c) s') : wpAny (MM w) A (call (.builtin "isinstance") [.ref a, .type T]) Q E s :=
  kia_one (kitx_tuple (K := K w.params)) S.inK (let ⟨_, q⟩ := hT; ⟨_, q, rfl⟩) e (by intro q; cases q) fun tk => h _ (S.toks tk)
theorem i_int {T : String} {n : Int} {t : Tok} {c : Bool} {Q : Value → Shared → Prop} (S : St w σ B s own) (e : kitOne (K w.params) (.type "int") (.type T) = some c) (h : ∀ s', St w σ B s' own → Q (.bool c) s') : wpAny (MM w) A (call (.builtin "isinstance") [.int n t, .type T]) Q E s :=
  kia_one (kitx_int (K := K w.params)) S.inK trivial e (by intro q; cases q) fun tk => h _ (S.toks tk)
theorem i_str {T : String} {n : Str} {t : Tok} {c : Bool} {Q : Value → Shared → Prop} (S : St w σ B s own) (e : kitOne (K w.params) (.type "str") (.type T) = some c) (h : ∀ s', St w σ B s' own → Q (.bool c) s') : wpAny (MM w) A (call (.builtin "isinstance") [.str n t, .type T]) Q E s :=
  kia_one (kitx_str (K := K w.params)) S.inK trivial e (by intro q; cases q) fun tk => h _ (S.toks tk)
theorem i_bool {T : String} {n : Bool} {c : Bool} {Q : Value → Shared → Prop} (S : St w σ B s own) (e : kitOne (K w.params) (.type "bool") (.type T) = some c) (h : ∀ s', St w σ B s' own → Q (.bool c) s') : wpAny (MM w) A (call (.builtin "isinstance") [.bool n, .type T]) Q E s :=
  kia_one (kitx_bool (K := K w.params)) S.inK trivial e (by intro q; cases q) fun tk => h _ (S.toks tk)
theorem i_none {T : String} {c : Bool} {Q : Value → Shared → Prop} (S : St w σ B s own) (e : kitOne (K w.params) (.type "NoneType") (.type T) = some c) (h : ∀ s', St w σ B s' own → Q (.bool c) s') : wpAny (MM w) A (call (.builtin "isinstance") [.none, .type T]) Q E s :=
  kia_one (kitx_none (K := K w.params)) S.inK trivial e (by intro q; cases q) fun tk => h _ (S.toks tk)
theorem i_bytes {T : String} {n : Array UInt8} {t : Tok} {c : Bool} {Q : Value → Shared → Prop} (S : St w σ B s own) (e : kitOne (K w.params) (.type "bytes") (.type T) = some c) (h : ∀ s', St w σ B s' own → Q (.bool c) s') : wpAny (MM w) A (call (.builtin "isinstance") [.bytes n t, .type T]) Q E s :=
  kia_one (kitx_bytes (K := K w.params)) S.inK trivial e (by intro q; cases q) fun tk => h _ (S.toks tk)
theorem k_tt (P : Params) : kitOne (K P) (.type "tuple") (.type "tuple") = some true := by kernel_rfl
theorem k_it (P : Params) : kitOne (K P) (.type "int") (.type "tuple") = some false := by kernel_rfl
theorem k_st (P : Params) : kitOne (K P) (.type "str") (.type "tuple") = some false := by kernel_rfl
theorem k_bt (P : Params) : kitOne (K P) (.type "bool") (.type "tuple") = some false := by kernel_rfl
theorem k_nt (P : Params) : kitOne (K P) (.type "NoneType") (.type "tuple") = some false := by kernel_rfl
theorem k_yt (P : Params) : kitOne (K P) (.type "bytes") (.type "tuple") = some false := by kernel_rfl
theorem k_ii (P : Params) : kitOne (K P) (.type "int") (.type "int") = some true := by kernel_rfl
theorem k_si (P : Params) : kitOne (K P) (.type "str") (.type "int") = some false := by kernel_rfl
theorem k_is (P : Params) : kitOne (K P) (.type "int") (.type "str") = some false := by kernel_rfl
theorem k_ss (P : Params) : kitOne (K P) (.type "str") (.type "str") = some true := by kernel_rfl
/-- what refers -/
abbrev refNames : List Str := ["ptr", "slice", "map", "chan", "iter"]
theorem c_inRef {x : Str} {t : Tok} {Q : Value → Shared → Prop} (S : St w σ B s own) (h : Q (.bool (refNames.any (· == x))) s) : wpAny (MM w) A (compareOp .In (.str x t) (.ref 22)) Q E s := by
  have e : s.heap.get? 22 = some (o22 w.params) := S.inK 22 _ (by kernel_rfl)
  refine SeqRoads2.in_tuple (fun y => match y with | .str z _ => z == x | _ => false) (fun y hy => ?_) e (by simpa [refNames] using h)
  simp at hy
  rcases hy with rfl | rfl | rfl | rfl | rfl <;> exact eqGives_str _ _ _ _
theorem c_strs {x y : Str} {t u : Tok} {Q : Value → Shared → Prop} (h : Q (.bool (x == y)) s) : wpAny (MM w) A (compareOp .Eq (.str x t) (.str y u)) Q E s := c_eq (RcAt.str_str x t y u) h
theorem c_noneStr {y : Str} {u : Tok} {Q : Value → Shared → Prop} (h : Q (.bool false) s) : wpAny (MM w) A (compareOp .Eq .none (.str y u)) Q E s := c_eq (RcAt.none_str y u) h
/-- a row against the empty one -/
theorem c_eqT {Q : Value → Shared → Prop} (hu : A.units < cLine) (hl : Tup s.heap a xs) (hb : Tup s.heap b []) (h : Q (.bool (decide (xs = []))) s) : wpAny (MM w) A (compareOp .Eq (.ref a) (.ref b)) Q E s := by
  refine c_eq (RcAt.tuples (e := fun _ => true) hl.is hb.is hu (fun j _ h1 => absurd h1 (by simp))) ?_
  cases xs with
  | nil => simpa using h
  | cons x xs => simpa using h
/-! items and slices -/
theorem r_itemT {value slice : Expr} {k : Int} {t : Tok} {j : Nat} {Q : Value → Shared → Prop} (hl : Tup s.heap a xs) (h0 : -2 ^ 63 ≤ k) (h1 : k < 2 ^ 63) (hk : seqIndex? k xs.length = some j) (hx : xs[j]? = some v) (h : Q v s)
    (hs : subscripted slice false (.ref a) (.int k t) = operate [.ref a, .int k t] (getItem (.ref a) (.int k t)) := by with_unfolding_all rfl) : wpAny (MM w) A (subscriptTail value slice (.ref a) (.int k t)) Q E s :=
  let ⟨_, e⟩ := hl
  item_tupleT (l := xs) ⟨_, e, rfl, _, rfl⟩ h0 h1 hk hx h hs
theorem r_itemL {value slice : Expr} {k : Int} {t : Tok} {Q : Value → Shared → Prop} (hl : Lst s.heap a xs) (h0 : 0 ≤ k) (h1 : k < 2 ^ 63) (hx : xs[k.toNat]? = some v) (h : Q v s)
    (hs : subscripted slice false (.ref a) (.int k t) = operate [.ref a, .int k t] (getItem (.ref a) (.int k t)) := by with_unfolding_all rfl) : wpAny (MM w) A (subscriptTail value slice (.ref a) (.int k t)) Q E s := r_item hl.is h0 h1 hx h hs
theorem r_rev {value st : Expr} {p pos : Pos} {Q : Value → Shared → Prop} (hst : ∀ {s : Shared} {Q : Value → Shared → Prop}, (∀ t u s', s' = { s with toks := u } → Q (.int (-1) t) s') → wpAny (MM w) A (eval st env) Q E s)
    (h : wpAny (MM w) A (eval value env) (fun o s₁ => ∃ σ₁ B₁ own₁ l xs, o = .ref l ∧ St w σ₁ B₁ s₁ own₁ ∧ Lst s₁.heap l xs ∧ xs.length < 1000 ∧ ∀ c s', St w σ₁ B₁ s' ((c, lsO xs.reverse) :: own₁) → Q (.ref c) s') E s)
    (hs : ∀ l sl : Addr, ∃ ops, subscripted (.Slice none none (some st) p) false (.ref l) (.ref sl) = operate ops (getItem (.ref l) (.ref sl))) : wpAny (MM w) A (eval (.Subscript value (.Slice none none (some st) p) pos) env) Q E s := by
  refine Subscript_ (wpAny_mono h (fun o s₁ h₁ => wpAny_Slice ?_) fun _ _ e => e)
  obtain ⟨σ₁, B₁, own₁, l, xs, rfl, S, hl, hz, hQ⟩ := h₁
  rw [PySem.evalPart_none, PySem.evalPart_some]
  refine wpAny_pure (wpAny_pure (hst fun t u s' e => ?_))
  subst e
  have hl' : Lst (s₁.heap.push { cls := .type "slice", data := .fields #[.none, .none, .int (-1) t] }) l xs := let ⟨n, q⟩ := hl; ⟨n, Heap.get?_push_of_some _ q⟩
  obtain ⟨ops, hs⟩ := hs l s₁.heap.objs.size
  refine tail_any hl'.is.typeIs list_getitem_lookup (wpAny_getItem_list_slice hl'.is (Heap.IsSliceOf.new ..) .none .none (.int _ t) (by simp) ?_ (by rw [List.size_toArray]; exact sz_ok hz)) hs
  rw [krv_pick]
  have S₁ := S.grow (t := u) (h' := s₁.heap.push { cls := .type "slice", data := .fields #[.none, .none, .int (-1) t] }) (fun _ _ e => Heap.get?_push_of_some _ e) (by rw [Heap.size_push]; omega)
  exact hQ _ _ (S₁.push (t := u) rfl ⟨0, by simp⟩)
theorem r_upto {value hi : Expr} {p pos : Pos} {Q : Value → Shared → Prop}
    (h : wpAny (MM w) A (eval value env) (fun o s₁ => wpAny (MM w) A (eval hi env) (fun u s₂ => ∃ σ₁ B₁ own₁ l xs k t, o = .ref l ∧ u = .int k t ∧ 0 ≤ k ∧ St w σ₁ B₁ s₂ own₁ ∧ Lst s₂.heap l xs ∧ xs.length < 1000 ∧ ∀ c s', St w σ₁ B₁ s' ((c, lsO (xs.take k.toNat)) :: own₁) → Q (.ref c) s') E s₁) E s)
    (hs : ∀ l sl : Addr, ∃ ops, subscripted (.Slice none (some hi) none p) false (.ref l) (.ref sl) = operate ops (getItem (.ref l) (.ref sl))) : wpAny (MM w) A (eval (.Subscript value (.Slice none (some hi) none p) pos) env) Q E s := by
  refine Subscript_ (wpAny_mono h (fun o s₁ h₁ => wpAny_Slice ?_) fun _ _ e => e)
  rw [PySem.evalPart_none, PySem.evalPart_some]
  refine wpAny_pure (wpAny_mono h₁ (fun u s₂ h₂ => ?_) fun _ _ e => e)
  obtain ⟨σ₁, B₁, own₁, l, xs, k, t, rfl, rfl, h0, S, hl, hz, hQ⟩ := h₂
  refine wpAny_pure ?_
  have hl' : Lst (s₂.heap.push { cls := .type "slice", data := .fields #[.none, .int k t, .none] }) l xs := let ⟨n, q⟩ := hl; ⟨n, Heap.get?_push_of_some _ q⟩
  obtain ⟨ops, hs⟩ := hs l s₂.heap.objs.size
  refine tail_any hl'.is.typeIs list_getitem_lookup (wpAny_getItem_list_slice hl'.is (Heap.IsSliceOf.new ..) .none (.int k t) .none (by simp) ?_ (by rw [List.size_toArray]; exact sz_ok hz)) hs
  have S₁ := S.grow (t := s₂.toks) (h' := s₂.heap.push { cls := .type "slice", data := .fields #[.none, .int k t, .none] }) (fun _ _ e => Heap.get?_push_of_some _ e) (by rw [Heap.size_push]; omega)
  have e : slicePick xs.toArray none (some k) none = (xs.take k.toNat).toArray := by
    have := slicePick_upto' xs.toArray k.toNat
    rw [Int.toNat_of_nonneg h0] at this
    simpa using this
  rw [e]
  exact hQ _ _ (S₁.push (t := s₂.toks) (o := { cls := .type "list", data := .seq (xs.take k.toNat).toArray }) rfl ⟨0, rfl⟩)
/-! of a row a list, and back -/
theorem k_listT {Q : Value → Shared → Prop} (S : St w σ B s own) (hl : Tup s.heap a xs) (hz : xs.length < 1000) (h : ∀ c s', St w σ B s' ((c, lsO xs) :: own) → Q (.ref c) s') : wpAny (MM w) A (call (.type "list") [.ref a]) Q E s := by
  obtain ⟨n, e⟩ := hl
  exact call_list_seq a (T := "tuple") (.inr rfl) e rfl rfl (fun h' c' hk he => h _ _ (S.grow1 (t := s.toks) hk (get_size _) (Nat.le_refl _) ⟨_, he, c', rfl⟩)) (by rw [List.size_toArray]; exact sz_ok hz)
theorem k_listL {Q : Value → Shared → Prop} (S : St w σ B s own) (hl : Lst s.heap a xs) (hz : xs.length < 1000) (h : ∀ c s', St w σ B s' ((c, lsO xs) :: own) → Q (.ref c) s') : wpAny (MM w) A (call (.type "list") [.ref a]) Q E s := by
  obtain ⟨n, e⟩ := hl
  exact call_list_seq a (T := "list") (.inl rfl) e rfl rfl (fun h' c' hk he => h _ _ (S.grow1 (t := s.toks) hk (get_size _) (Nat.le_refl _) ⟨_, he, c', rfl⟩)) (by rw [List.size_toArray]; exact sz_ok hz)
theorem St.ext (S : St w σ B s own) {p : Pt} (hp : Pick p own own') {h' : Heap} {t : Nat} (he : s.heap.StaysIn h') : St w σ B { s with heap := h', toks := t } own := by
  obtain ⟨⟨o, ho, _⟩, _, hs⟩ := S.has p (hp.perm.mem_iff.mpr (.head _))
  have hz : 2 ≤ h'.objs.size := Nat.le_of_lt (Nat.lt_of_le_of_lt hs (Heap.lt_size (he _ _ ho)))
  exact ⟨S.pg, let ⟨h, _, e⟩ := S.rest; ⟨h', t, by rw [e]⟩, S.base, fun b o e => he b o (S.keep b o e), hz, fun q hq => let ⟨⟨o, e, x⟩, r⟩ := S.has q hq; ⟨⟨o, he _ _ e, x⟩, r⟩, S.nodup⟩
theorem k_tupleL {Q : Value → Shared → Prop} {p : Pt} (S : St w σ B s own) (hp : Pick p own own') (hl : Lst s.heap a xs) (hz : xs.length < 1000) (h : ∀ c B' s', B.StaysIn B' → Tup B' c xs → St w σ B' s' own → Q (.ref c) s') : wpAny (MM w) A (call (.type "tuple") [.ref a]) Q E s := by
  refine call_tuple_list hl.is (fun h' hk => ?_) (by rw [List.size_toArray]; exact sz_ok hz)
  have S₁ := (S.ext (t := s.toks) hp hk).push (t := s.toks) (o := { cls := .type "tuple", data := .seq xs.toArray }) (P := tuO xs) rfl ⟨0, rfl⟩
  obtain ⟨B', k, ⟨o, ho, n, rfl⟩, S₂⟩ := S₁.freeze
  exact h _ _ _ k ⟨n, ho⟩ S₂
end
end
/-! W12 -/
noncomputable section
open PySem.SeqAt MeetsSeq
section
variable {w : World} {σ : Shared} {B : Heap} {s : Shared} {own own' : List Pt} {A : Around} {E : Value → Shared → Prop} {F : Value → Shared → Prop} {env : Env} {a b : Addr} {name : Str} {v : Value} {xs ys : List Value} {N : Shared → Prop} {R : Flow → Shared → Prop} {gl : List Str} {cl : List (Str × Addr)} {l l' : List (Str × Option Value)}
def isStar : Expr → Bool
  | .Starred .. => true
  | _ => false
theorem no_star {α : Type} {v : Expr} {x : α} (h : isStar v = false) (P : Prop) (hh : (match (generalizing := false) v with | .Starred .. => true | _ => false) = true) : P := by
  cases v <;> first | exact absurd (show false = true from hh) (by decide) | exact absurd (show true = false from h) (by decide)
theorem pos_name {x : Str} {p : Pos} : (Expr.Name x p).pos = p := rfl
theorem pos_tup {l : List Expr} {k : Nat} {p : Pos} : (Expr.Tuple l k p).pos = p := rfl
theorem swap2 {x y : Str} {px py tp vp : Pos} {k k' : Nat} {v1 v2 : Expr} (hk : env.blockKind = .function) (ha : env.kindOf x = some .local) (hb : env.kindOf y = some .local) (hl : (py.line == px.line) = true) (hab : (x == y) = false)
    (h1 : isStar v1 = false) (h2 : isStar v2 = false) (hf : ([v1, v2].all (foldedForSure 8)) = false) (hc : ([v1, v2].all (constantsAlone 8)) = false) :
    swappedStores [.Tuple [.Name x px, .Name y py] k tp] (.Tuple [v1, v2] k' vp) env = pure (some [x, y]) := by
  have hba : (y == x) = false := by rw [beq_eq_false_iff_ne] at hab ⊢; exact Ne.symm hab
  unfold swappedStores
  simp only [List.length_cons, List.length_nil, hk, ha, hb, hf, hc, List.head?_cons, Option.map_some, Option.getD_some, pos_name, pos_tup, List.filterMap_cons, List.filterMap_nil, hl, beq_self_eq_true, Bool.and_self, if_true, bne_self_eq_false, Bool.or_false, Bool.false_eq_true, if_false, Bool.not_true, Bool.true_or]
  simp [List.eraseDups_cons, hba]
  rintro (hh | hh)
  · exact no_star (x := ()) h1 _ hh
  · exact no_star (x := ()) h2 _ hh
theorem swap3 {x y z : Str} {px py pz tp vp : Pos} {k k' : Nat} {v1 v2 v3 : Expr} (hk : env.blockKind = .function) (ha : env.kindOf x = some .local) (hb : env.kindOf y = some .local) (hc : env.kindOf z = some .local) (hl : (py.line == px.line) = true) (hl2 : (pz.line == px.line) = true)
    (hab : (y == x) = false) (hac : (z == x) = false) (hbc : (z == y) = false) (h1 : isStar v1 = false) (h2 : isStar v2 = false) (h3 : isStar v3 = false) (hf : ([v1, v2, v3].all (foldedForSure 8)) = false) (hcc : ([v1, v2, v3].all (constantsAlone 8)) = false) :
    swappedStores [.Tuple [.Name x px, .Name y py, .Name z pz] k tp] (.Tuple [v1, v2, v3] k' vp) env = pure (some [x, y, z]) := by
  unfold swappedStores
  simp only [List.length_cons, List.length_nil, hk, ha, hb, hf, hc, hcc, List.head?_cons, Option.map_some, Option.getD_some, pos_name, pos_tup, List.filterMap_cons, List.filterMap_nil, hl, hl2, beq_self_eq_true, Bool.and_self, if_true, bne_self_eq_false, Bool.or_false, Bool.false_eq_true, if_false, Bool.not_true, Bool.true_or]
  simp [List.eraseDups_cons, hab, hac, hbc]
  rintro (hh | hh | hh)
  · exact no_star (x := ()) h1 _ hh
  · exact no_star (x := ()) h2 _ hh
  · exact no_star (x := ()) h3 _ hh
theorem St.kind (S : St w σ B s own) (p : Pick (env.locals, frO env l) own own') {x : Str} {v : Option Value} (h : Has (x, v) l) : env.kindOf x = some .local := by
  obtain ⟨o, _, f⟩ := (S.pick p).at_
  exact (f.2.2 _ h.mem).1
theorem Ev.block (V : Ev env gl cl) : env.blockKind = .function := by
  unfold Env.blockKind
  rw [V.kind]; rfl
/-- of a row its items, drawn -/
theorem k_unpack {t : Addr} {n : Nat} {q : Pt} {Q : List Value → Shared → Prop} (hh : A.handled = none) (S : St w σ B s own) (p : Pick q own own') (ht : Tup B t xs) (hn : n = xs.length) (h : ∀ s', St w σ B s' own → Q xs s') : wpAny (MM w) A (unpackItems (.ref t) n none) Q E s := by
  have e : n = xs.toArray.size := by rw [List.size_toArray]; exact hn
  subst e
  obtain ⟨k, e⟩ := S.tupB ht
  exact unpackItems_tuple hh ⟨_, e, rfl, _, rfl⟩ fun h' he => h _ (S.ext (t := s.toks) p fun b o eb => he b o (Nat.ne_of_lt (Heap.lt_size eb)) eb)
theorem x_swap2 {x y : Str} {px py tp vp pos : Pos} {k k' : Nat} {v1 v2 : Expr} {u1 u2 : Option Value} (hh : A.handled = none) (S : St w σ B s own) (V : Ev env gl cl) (p : Pick (env.locals, frO env l) own own') (ha : Has (x, u1) l) (hb : Has (y, u2) l)
    (hl : (py.line == px.line) = true) (hab : (x == y) = false) (h1 : isStar v1 = false) (h2 : isStar v2 = false) (hf : ([v1, v2].all (foldedForSure 8)) = false) (hc : ([v1, v2].all (constantsAlone 8)) = false)
    (hs : swapsWithSole [.Tuple [.Name x px, .Name y py] k tp] (.Tuple [v1, v2] k' vp) pos.line env = pure false)
    (h : wpAny (MM w) A (eval (.Tuple [v1, v2] k' vp) env) (fun v s₁ => ∃ σ₁ B₁ own₁ own₂ q t a1 a2, v = .ref t ∧ St w σ₁ B₁ s₁ own₁ ∧ Pick q own₁ own₂ ∧ Tup B₁ t [a1, a2] ∧ ∀ s₂, St w σ₁ B₁ s₂ own₁ → wpAny (MM w) A (storeName env y a2) (fun _ s₃ => wpAny (MM w) A (storeName env x a1) (fun _ s₄ => N s₄) F s₃) F s₂) F s) :
    wpAny (MM w) A (exec (.Assign [.Tuple [.Name x px, .Name y py] k tp] (.Tuple [v1, v2] k' vp) pos) env) (Nx N R) F s := by
  refine Assign_Tuple_swapped (names := [x, y]) (wpAny_mono h (fun v s₁ z => ?_) fun _ _ z => z) hs (swap2 V.block (S.kind p ha) (S.kind p hb) hl hab h1 h2 hf hc)
  obtain ⟨σ₁, B₁, own₁, own₂, q, t, a1, a2, rfl, S₁, p₁, ht, hk⟩ := z
  refine k_unpack hh S₁ p₁ ht rfl fun s₂ S₂ => ?_
  show wpAny (MM w) A (assignInOrder [bindName env y, bindName env x] [a2, a1]) _ _ _
  exact wpAny_bind (wpAny_holding (bindName_ (wpAny_mono (hk _ S₂) (fun _ _ z => wpAny_bind (wpAny_holding (bindName_ (wpAny_mono z (fun _ _ z => wpAny_pure z) fun _ _ z => z)))) fun _ _ z => z)))
theorem x_swap3 {x y z : Str} {px py pz tp vp pos : Pos} {k k' : Nat} {v1 v2 v3 : Expr} {u1 u2 u3 : Option Value} (hh : A.handled = none) (S : St w σ B s own) (V : Ev env gl cl) (p : Pick (env.locals, frO env l) own own') (ha : Has (x, u1) l) (hb : Has (y, u2) l) (hc : Has (z, u3) l)
    (hl : (py.line == px.line) = true) (hl2 : (pz.line == px.line) = true) (hab : (y == x) = false) (hac : (z == x) = false) (hbc : (z == y) = false) (h1 : isStar v1 = false) (h2 : isStar v2 = false) (h3 : isStar v3 = false) (hf : ([v1, v2, v3].all (foldedForSure 8)) = false) (hcc : ([v1, v2, v3].all (constantsAlone 8)) = false)
    (hs : swapsWithSole [.Tuple [.Name x px, .Name y py, .Name z pz] k tp] (.Tuple [v1, v2, v3] k' vp) pos.line env = pure false)
    (h : wpAny (MM w) A (eval (.Tuple [v1, v2, v3] k' vp) env) (fun v s₁ => ∃ σ₁ B₁ own₁ own₂ q t a1 a2 a3, v = .ref t ∧ St w σ₁ B₁ s₁ own₁ ∧ Pick q own₁ own₂ ∧ Tup B₁ t [a1, a2, a3] ∧ ∀ s₂, St w σ₁ B₁ s₂ own₁ → wpAny (MM w) A (storeName env z a3) (fun _ s₃ => wpAny (MM w) A (storeName env y a2) (fun _ s₄ => wpAny (MM w) A (storeName env x a1) (fun _ s₅ => N s₅) F s₄) F s₃) F s₂) F s) :
    wpAny (MM w) A (exec (.Assign [.Tuple [.Name x px, .Name y py, .Name z pz] k tp] (.Tuple [v1, v2, v3] k' vp) pos) env) (Nx N R) F s := by
  refine Assign_Tuple_swapped (names := [x, y, z]) (wpAny_mono h (fun v s₁ z => ?_) fun _ _ z => z) hs (swap3 V.block (S.kind p ha) (S.kind p hb) (S.kind p hc) hl hl2 hab hac hbc h1 h2 h3 hf hcc)
  obtain ⟨σ₁, B₁, own₁, own₂, q, t, a1, a2, a3, rfl, S₁, p₁, ht, hk⟩ := z
  refine k_unpack hh S₁ p₁ ht rfl fun s₂ S₂ => ?_
  show wpAny (MM w) A (assignInOrder [bindName env _, bindName env _, bindName env _] [a3, a2, a1]) _ _ _
  exact wpAny_bind (wpAny_holding (bindName_ (wpAny_mono (hk _ S₂) (fun _ _ z => wpAny_bind (wpAny_holding (bindName_ (wpAny_mono z (fun _ _ z => wpAny_bind (wpAny_holding (bindName_ (wpAny_mono z (fun _ _ z => wpAny_pure z) fun _ _ z => z)))) fun _ _ z => z)))) fun _ _ z => z)))
/-- a row is unpacked into two names, in order -/
theorem k_assign2 {x y : Str} {px py tp : Pos} {k : Nat} {t : Addr} {a1 a2 : Value} {q : Pt} {Q : Unit → Shared → Prop} (hh : A.handled = none) (S : St w σ B s own) (p : Pick q own own') (ht : Tup B t [a1, a2])
    (h : ∀ s', St w σ B s' own → wpAny (MM w) A (storeName env x a1) (fun _ s₃ => wpAny (MM w) A (storeName env y a2) (fun _ s₄ => Q () s₄) E s₃) E s') : wpAny (MM w) A (assign (.Tuple [.Name x px, .Name y py] k tp) env (.ref t)) Q E s := by
  obtain ⟨n, e⟩ := S.tupB ht
  refine wpAny_assign_Tuple (items := [a1, a2].toArray) hh ⟨_, e, rfl, _, rfl⟩ rfl rfl fun h' he => ?_
  have S₁ := S.ext (t := s.toks) p fun b o eb => he b o (Nat.ne_of_lt (Heap.lt_size eb)) eb
  exact wpAny_bind (wpAny_holding (assign_Name (wpAny_mono (h _ S₁) (fun _ _ z => wpAny_bind (wpAny_holding (assign_Name (wpAny_mono z (fun _ _ z => wpAny_pure z) fun _ _ z => z)))) fun _ _ z => z)))
theorem x_tuple {elts : List Expr} {k : Nat} {tp pos : Pos} {e : Expr} (h : wpAny (MM w) A (eval e env) (fun v s₁ => wpAny (MM w) A (assign (.Tuple elts k tp) env v) (fun _ s₂ => N s₂) F s₁) F s)
    (hs : swapsWithSole [.Tuple elts k tp] e pos.line env = pure false := by rfl) (hw : swappedStores [.Tuple elts k tp] e env = pure none := by rfl) : wpAny (MM w) A (exec (.Assign [.Tuple elts k tp] e pos) env) (Nx N R) F s := Assign_Tuple h hs hw
end
end
/-! W13 -/
noncomputable section
open PySem.SeqAt MeetsSeq
/-- places put in order -/
inductive Arr : List Pt → List Pt → List Pt → Prop
  | nil {own} : Arr [] own own
  | cons {p l own own₁ rest} : Pick p own own₁ → Arr l own₁ rest → Arr (p :: l) own rest
theorem Arr.perm {l own rest : List Pt} (h : Arr l own rest) : own.Perm (l ++ rest) := by
  induction h with
  | nil => exact .refl _
  | cons p _ ih => exact p.perm.trans (ih.cons _)
/-- the same places, in another order; some let go -/
inductive Re : List Pt → List Pt → Prop
  | nil {own} : Re own own
  | cons {p l own own₁} : Pick p own own₁ → Re l own₁ → Re (p :: l) own
  | skip {p l own} : Re l own → Re l (p :: own)
theorem Re.perm {l own : List Pt} (h : Re l own) : ∃ r, own.Perm (l ++ r) := by
  induction h with
  | nil => exact ⟨[], by simp⟩
  | cons p _ ih => obtain ⟨r, ih⟩ := ih; exact ⟨r, p.perm.trans (ih.cons _)⟩
  | @skip p _ _ _ ih => obtain ⟨r, ih⟩ := ih; exact ⟨p :: r, (ih.cons p).trans List.perm_middle.symm⟩
/-- the road of a loop's body -/
def Lp (C N : Shared → Prop) (R : Flow → Shared → Prop) : Flow → Shared → Prop
  | .next, s => C s
  | .cont, s => C s
  | .brk, s => N s
  | .ret v, s => R (.ret v) s
def Fls : Value → Shared → Prop := fun _ _ => False
section
variable {w : World} {σ : Shared} {B B₀ : Heap} {s : Shared} {own own' rest : List Pt} {A : Around} {E : Value → Shared → Prop} {F : Value → Shared → Prop} {env : Env} {a b : Addr} {name : Str} {v : Value} {xs ys : List Value} {C N : Shared → Prop} {R : Flow → Shared → Prop} {gl : List Str} {cl : List (Str × Addr)} {l l' : List (Str × Option Value)} {L : List Pt}
theorem St.arr (S : St w σ B s own) (h : Arr L own rest) : St w σ B s (L ++ rest) := S.perm h.perm
theorem St.left (S : St w σ B s (L ++ rest)) : St w σ B s L := S.sub (List.sublist_append_left _ _)
theorem St.re {own₂ : List Pt} (S : St w σ B s own) (h : Re own₂ own) : St w σ B s own₂ := let ⟨_, h⟩ := h.perm; (S.perm h).left
theorem no_err {α : Type} {t : Sem α} {Q : α → Shared → Prop} (h : wpAny (MM w) A t Q Fls s) : wpAny (MM w) A t Q E s := wpAny_mono h (fun _ _ z => z) fun _ _ z => z.elim
theorem x_nilL (h : C s) : wpAny (MM w) A (execs [] env) (Lp C N R) F s := wpAny_execs_nil (h := h)
theorem lp_cont (h : C s) : Lp C N R .cont s := h
theorem lp_ret (h : R (.ret v) s) : Lp C N R (.ret v) s := h
theorem x_while {test : Expr} {body : List Stmt} {pos : Pos} (J : Nat → Shared → Prop) (n : Nat) (h : J n s)
    (turn : ∀ n s, J n s → wpAny (MM w) A (PySem.isTrue test env (eval test env)) (fun b s₂ => (b = true → wpAny (MM w) A (execs body env) (Lp (fun s₃ => ∃ m, m < n ∧ J m s₃) N R) Fls s₂) ∧ (b = false → N s₂)) Fls s) :
    wpAny (MM w) A (exec (.While test body [] pos) env) (Nx N R) F s := by
  refine wpAny_While (codeAny_whileLoop J (fun n s hJ => no_err (wpAny_mono (turn n s hJ) (fun b s₂ z => ?_) fun _ _ z => z)) n h)
  cases b with
  | true =>
    rw [if_pos rfl]
    exact no_err (wpAny_mono (z.1 rfl) (fun f s₃ z => by cases f <;> exact z) fun _ _ z => z)
  | false =>
    rw [if_neg (by decide)]
    exact wpAny_execs_nil (h := z.2 rfl)
/-- what goes through a source, place by place -/
structure It (w : World) (A : Around) (I : Addr) (n : Nat) (P : Nat → Value → Prop) (Fi : Nat → Obj → Prop) (B₀ : Heap) : Prop where
  item : ∀ {i σ B s own own' Q E}, i < n → B₀.StaysIn B → St w σ B s own → Pick (I, Fi i) own own' → (∀ v s', P i v → St w σ B s' ((I, Fi (i + 1)) :: own') → Q (some v) s') → wpAny (MM w) A (pyNext (.ref I)) Q E s
  done : ∀ {σ B s own own' Q E}, B₀.StaysIn B → St w σ B s own → Pick (I, Fi n) own own' → own' ≠ [] → (∀ s', St w σ B s' own' → Q none s') → wpAny (MM w) A (pyNext (.ref I)) Q E s
  self : ∀ {i σ B s own own' Q E}, B₀.StaysIn B → St w σ B s own → Pick (I, Fi i) own own' → Q (.ref I) s → wpAny (MM w) A (pyIter (.ref I)) Q E s
  go : ∀ {i σ B s own own' Q E} (target v), St w σ B s own → Pick (I, Fi i) own own' → Q () s → wpAny (MM w) A (letOwnedTupleGo target (.ref I) v) Q E s
theorem go_of {I : Addr} {T : String} {vs : Array Value} {target : Expr} {v : Value} {Q : Unit → Shared → Prop} {o : Obj} (ho : s.heap.get? I = some o) (hc : o.cls = .type T) (hd : o.data = .fields vs)
    (hT : (["enumerate", "zip", "dict_itemiterator", "dict_reverseitemiterator", "odict_iterator", "itertools.zip_longest", "itertools.pairwise"].contains T) = false) (h : Q () s) : wpAny (MM w) A (letOwnedTupleGo target (.ref I) v) Q E s := by
  unfold letOwnedTupleGo
  cases target <;> first
    | exact wpAny_pure h
    | (cases v <;> first
        | exact wpAny_pure h
        | (refine wpAny_bind (wpAny_load ho ?_)
           rw [hc, hd]
           dsimp only
           rw [if_neg (by rw [hT, Bool.false_and]; decide)]
           exact wpAny_pure h))
theorem It.of {I : Addr} {fp : List Addr} {n : Nat} {P : Nat → Value → Prop} {W : Nat → Heap → Prop} {T : String} {vs : Nat → Array Value} (hw : Walks pw w A I fp [I] n P W)
    (h1 : ∀ i h, W i h → ∃ o, h.get? I = some o ∧ o.cls = .type T ∧ o.data = .fields (vs i)) (h2 : ∀ i h o, B₀.StaysIn h → h.get? I = some o → o.cls = .type T → o.data = .fields (vs i) → W i h)
    (hT : (["enumerate", "zip", "dict_itemiterator", "dict_reverseitemiterator", "odict_iterator", "itertools.zip_longest", "itertools.pairwise"].contains T) = false) :
    It w A I n P (fun i o => o.cls = .type T ∧ o.data = .fields (vs i)) B₀ where
  item := fun {i σ B s own own' Q E} hi k S p h => by
    obtain ⟨o, ho, x, y⟩ := (S.pick p).at_
    refine hw.item i s _ _ hi (h2 i _ o (fun b o e => S.keep _ _ (k _ _ e)) ho x y) fun v h' tk hP hW hk => h v _ hP ?_
    exact (S.pick p).upd (fun b o hb e => hk b o (by simpa using hb) e) (h1 _ _ hW)
  done := fun {σ B s own own' Q E} k S p ne h => by
    obtain ⟨o, ho, x, y⟩ := (S.pick p).at_
    refine hw.done s _ _ (h2 n _ o (fun b o e => S.keep _ _ (k _ _ e)) ho x y) fun h' tk hk => h _ ?_
    have S₁ := S.pick p
    have hn := List.nodup_cons.mp S₁.nodup
    have hI := S₁.has _ (.head _)
    have S₂ := S₁.drop
    have keep : ∀ b o, b ≠ I → s.heap.get? b = some o → h'.get? b = some o := fun b o hb e => hk b o (by simpa using hb) e
    refine ⟨S.pg, let ⟨h, _, e⟩ := S.rest; ⟨h', tk, by rw [e]⟩, S.base, fun b o e => keep b o (fun q => ?_) (S.keep b o e), ?_, fun q hq => ?_, S₂.nodup⟩
    · subst q; rw [hI.2.1] at e; cases e
    · obtain ⟨q, hm⟩ := List.exists_mem_of_ne_nil _ ne
      obtain ⟨⟨o, e, _⟩, _, z⟩ := S₂.has q hm
      have hq : q.1 ≠ I := fun z => hn.1 (List.mem_map.mpr ⟨q, hm, z⟩)
      exact Nat.le_of_lt (Nat.lt_of_le_of_lt z (Heap.lt_size (keep _ _ hq e)))
    · obtain ⟨⟨o, e, x⟩, r⟩ := S₂.has q hq
      exact ⟨⟨o, keep _ _ (fun z => hn.1 (List.mem_map.mpr ⟨q, hq, z⟩)) e, x⟩, r⟩
  self := fun {i σ B s own own' Q E} k S p h => by
    obtain ⟨o, ho, x, y⟩ := (S.pick p).at_
    exact hw.self i s _ _ (h2 i _ o (fun b o e => S.keep _ _ (k _ _ e)) ho x y) h
  go := fun {i σ B s own own' Q E} target v S p h => by
    obtain ⟨o, ho, x, y⟩ := (S.pick p).at_
    exact go_of ho x y hT h
theorem it_list {Q : Value → Shared → Prop} (hh : A.handled = none) (S : St w σ B s own) (hl : Lst B a xs) (h : ∀ I Fi s', It w A I xs.length (fun i v => xs[i]? = some v) Fi B → St w σ B s' ((I, Fi 0) :: own) → Q (.ref I) s') : wpAny (MM w) A (pyIter (.ref a)) Q E s := by
  have hl' := (S.lstB hl).is
  refine wpAny_pyIter_list hl' (h s.heap.objs.size (fun i o => o.cls = .type "list_iterator" ∧ o.data = .fields #[.ref a, .int i 0]) _ ?_ (S.push (t := s.toks) rfl ⟨rfl, rfl⟩))
  have hne : a ≠ s.heap.objs.size := by obtain ⟨o, e, _⟩ := hl'; exact Nat.ne_of_lt (Heap.lt_size e)
  have hw := Walks.list (prog := pw) (w := w) hh s.heap.objs.size a hne xs.toArray
  have e : xs.toArray.size = xs.length := List.size_toArray
  have e2 : (fun (i : Nat) (v : Value) => xs.toArray[i]? = some v) = fun i v => xs[i]? = some v := by funext i v; simp
  rw [e2, e] at hw
  exact It.of hw (fun i h z => z.1) (fun i h o k e c d => ⟨⟨o, e, c, d⟩, (hl.keeps k).is⟩) (by decide)
theorem it_tuple {Q : Value → Shared → Prop} (hh : A.handled = none) (S : St w σ B s own) (hl : Tup B a xs) (h : ∀ I Fi s', It w A I xs.length (fun i v => xs[i]? = some v) Fi B → St w σ B s' ((I, Fi 0) :: own) → Q (.ref I) s') : wpAny (MM w) A (pyIter (.ref a)) Q E s := by
  have hl' := (S.tupB hl).is
  refine wpAny_pyIter_tuple hl' (h s.heap.objs.size (fun i o => o.cls = .type "tuple_iterator" ∧ o.data = .fields #[.ref a, .int i 0]) _ ?_ (S.push (t := s.toks) rfl ⟨rfl, rfl⟩))
  have hne : a ≠ s.heap.objs.size := by obtain ⟨o, e, _⟩ := hl'; exact Nat.ne_of_lt (Heap.lt_size e)
  have hw := Walks.tuple (prog := pw) (w := w) hh s.heap.objs.size a hne xs.toArray
  have e : xs.toArray.size = xs.length := List.size_toArray
  have e2 : (fun (i : Nat) (v : Value) => xs.toArray[i]? = some v) = fun i v => xs[i]? = some v := by funext i v; simp
  rw [e2, e] at hw
  exact It.of hw (fun i h z => z.1) (fun i h o k e c d => ⟨⟨o, e, c, d⟩, (hl.keeps k).is⟩) (by decide)
theorem it_dict {K : Type} [DecidableEq K] {knd : KeyKind pw w K} {kvs : List (K × Value)} {Q : Value → Shared → Prop} (hh : A.handled = none) (S : St w σ B s own) (hl : B.DictOf knd a kvs) (hd : (a == sysModules) = false)
    (h : ∀ I Fi s', It w A I kvs.length (fun i v => ∃ k x, kvs[i]? = some (k, x) ∧ knd.is k v = true) Fi B → St w σ B s' ((I, Fi 0) :: own) → Q (.ref I) s') : wpAny (MM w) A (pyIter (.ref a)) Q E s := by
  obtain ⟨ep, hl⟩ := hl.dictAt
  have hl' : s.heap.DictAt knd a kvs ep := hl.keep S.keep
  refine wpAny_pyIter_dict hd hl' (h s.heap.objs.size (fun i o => o.cls = .type "dict_keyiterator" ∧ o.data = .fields #[.ref a, .int i 0, .int kvs.length 0, .int ep 0]) _ ?_ (S.push (t := s.toks) rfl ⟨rfl, rfl⟩))
  have hne : a ≠ s.heap.objs.size := Nat.ne_of_lt hl'.lt_size
  exact It.of (Walks.dictKeys (prog := pw) (w := w) (knd := knd) hh s.heap.objs.size a hne kvs ep) (fun i h z => z.1) (fun i h o k e c d => ⟨⟨o, e, c, d⟩, hl.keep k⟩) (by decide)
/-- for -/
theorem x_for {target iter : Expr} {body : List Stmt} {pos : Pos}
    (h : wpAny (MM w) A (eval iter env) (fun x s₁ => wpAny (MM w) A (pyIter x) (fun it s₂ => ∃ I n P Fi B₀ σ B own, ∃ J : Nat → Heap → List Pt → Prop, it = .ref I ∧ It w A I n P Fi B₀ ∧ B₀.StaysIn B ∧ St w σ B s₂ ((I, Fi 0) :: own) ∧ J 0 B own ∧
      (∀ i v B own s, i < n → P i v → B₀.StaysIn B → J i B own → St w σ B s ((I, Fi (i + 1)) :: own) → wpAny (MM w) A (assign target env v) (fun _ s' => wpAny (MM w) A (execs body env)
        (Lp (fun s₃ => ∃ B' own' own'', B₀.StaysIn B' ∧ St w σ B' s₃ own'' ∧ Pick (I, Fi (i + 1)) own'' own' ∧ J (i + 1) B' own') N R) Fls s') Fls s) ∧
      (∀ B own, J n B own → own ≠ []) ∧
      (∀ B own s, B₀.StaysIn B → J n B own → St w σ B s own → N s)) F s₁) F s)
    (hs : ∀ x, foldedSetIterable iter env x = pure x := by intro _; rfl) :
    wpAny (MM w) A (exec (.For target iter body [] pos) env) (Nx N R) F s := by
  refine wpAny_For (wpAny_mono h (fun x s₁ h₁ => wpAny_mono h₁ (fun it s₂ h₂ => ?_) fun _ _ z => z) fun _ _ z => z) hs
  obtain ⟨I, n, P, Fi, B₀, σ, B, own, J, rfl, W, k, S, j0, turn, ne, fin⟩ := h₂
  refine codeAny_forLoop_any (fun m s' => ∃ i B own, m = n + 1 - i ∧ i ≤ n ∧ B₀.StaysIn B ∧ J i B own ∧ St w σ B s' ((I, Fi i) :: own)) ?_ (n + 1) ⟨0, B, own, rfl, Nat.zero_le _, k, j0, S⟩
  rintro m s' ⟨i, B, own, rfl, hi, k, j, S⟩
  by_cases hlt : i < n
  · refine W.item hlt k S .head fun v s₃ hP S₃ => ?_
    refine W.go target v S₃ .head (no_err (wpAny_mono (turn i v B own s₃ hlt hP k j S₃) (fun _ s₄ z => no_err (wpAny_mono z (fun f s₅ z => ?_) fun _ _ z => z)) fun _ _ z => z))
    have step : (∃ B' own' own'', B₀.StaysIn B' ∧ St w σ B' s₅ own'' ∧ Pick (I, Fi (i + 1)) own'' own' ∧ J (i + 1) B' own') → ∃ m, m < n + 1 - i ∧ ∃ i B own, m = n + 1 - i ∧ i ≤ n ∧ B₀.StaysIn B ∧ J i B own ∧ St w σ B s₅ ((I, Fi i) :: own) :=
      fun ⟨B', own', own'', k', S', p', j'⟩ => ⟨n + 1 - (i + 1), by omega, i + 1, B', own', rfl, hlt, k', j', S'.pick p'⟩
    cases f <;> first | exact step z | exact z
  · have e : i = n := by omega
    subst e
    exact W.done k S .head (ne B own j) fun s₃ S₃ => wpAny_execs_nil (h := fin B own s₃ k j S₃)
end
end
/-! W14 -/
noncomputable section
open PySem.SeqAt MeetsSeq
theorem relabel_lookup {env : Env} {x : Str} : ∀ {names : List (Str × NameKind)}, (names.map fun (n, k) => if (k == NameKind.free && env.scope.kind == .function && env.kindOf n == some .cell) then (n, NameKind.cell) else (n, k)).lookup x =
    (names.lookup x).map fun k => if (k == NameKind.free && env.scope.kind == .function && env.kindOf x == some .cell) then NameKind.cell else k
  | [] => rfl
  | (n, k) :: r => by
    rw [List.map_cons, List.lookup_cons, List.lookup_cons]
    by_cases e : x = n
    · subst e
      by_cases hc : (k == NameKind.free && env.scope.kind == .function && env.kindOf x == some .cell) = true
      · simp only [hc, if_true, beq_self_eq_true, Option.map_some]
      · simp only [hc, Bool.false_eq_true, if_false, beq_self_eq_true, Option.map_some]
    · have h1 : (x == n) = false := beq_eq_false_iff_ne.mpr e
      by_cases hc : (k == NameKind.free && env.scope.kind == .function && env.kindOf n == some .cell) = true
      · simp only [hc, if_true, h1]; exact relabel_lookup
      · simp only [hc, Bool.false_eq_true, if_false, h1]; exact relabel_lookup
/-- what a list's making may look at -/
def okComp (sc : Scope) (ls gl : List Str) (fr : List Str) : Bool :=
  sc.kind == .function && (sc.names.all fun x => x.2 != .cell) && decide ls.Nodup && (ls.all fun x => sc.names.lookup x == some .local && x != ("__debug__" : Str)) && (gl.all fun x => sc.names.lookup x == some .globalImplicit && x != ("__debug__" : Str)) &&
  (fr.all fun x => sc.names.lookup x == some .free && x != ("__debug__" : Str) && x != ("__classdict__" : Str)) && decide fr.Nodup && ((sc.names.filter fun x => x.2 == .free).map (·.1) == fr) && (sc.names.all fun x => x.2 != .local || sc.names.lookup x.1 == some .local)
theorem closure_go {env : Env} : ∀ (names : List (Str × NameKind)) (cs acc : List (Str × Addr)), (names.filter fun x => x.2 == .free).map (·.1) = cs.map (·.1) → (∀ p ∈ cs, env.cells.lookup p.1 = some p.2) →
    (forIn names acc fun x r => match x with | (name, kind) => if (kind == .free) = true then (do let y ← cellOf env name; pure (ForInStep.yield ((name, y) :: r))) else pure (ForInStep.yield r)) = (pure (cs.reverse ++ acc) : Sem (List (Str × Addr)))
  | [], cs, acc, h, _ => by
    have : cs = [] := by cases cs with | nil => rfl | cons a b => simp at h
    subst this; rfl
  | (n, k) :: r, cs, acc, h, hc => by
    rw [List.forIn_cons]
    by_cases e : k = .free
    · subst e
      simp only [List.filter_cons, beq_self_eq_true, if_true, List.map_cons] at h
      cases cs with
      | nil => simp at h
      | cons c cs =>
        obtain ⟨n', a⟩ := c
        simp only [List.map_cons, List.cons.injEq] at h
        obtain ⟨rfl, h⟩ := h
        have e1 : env.cells.lookup n = some a := hc (n, a) (.head _)
        have e2 : cellOf env n = pure a := by unfold cellOf; rw [e1]
        simp only [beq_self_eq_true, if_true, e2]
        have := closure_go r cs ((n, a) :: acc) h fun p hp => hc p (.tail _ hp)
        rw [List.reverse_cons, List.append_assoc]
        exact this
    · have hk : (k == NameKind.free) = false := beq_eq_false_iff_ne.mpr e
      simp only [List.filter_cons, hk, Bool.false_eq_true, if_false] at h ⊢
      exact closure_go r cs acc h hc
theorem closure_of {env : Env} {sc : Scope} {cs : List (Str × Addr)} (h : (sc.names.filter fun x => x.2 == .free).map (·.1) = cs.map (·.1)) (hc : ∀ p ∈ cs, env.cells.lookup p.1 = some p.2) : closureFor sc env = pure cs.reverse := by
  have := closure_go (env := env) sc.names cs [] h hc
  rw [List.append_nil] at this
  exact (show ((forIn sc.names ([] : List (Str × Addr)) fun x r => match x with | (name, kind) => if (kind == .free) = true then (do let y ← cellOf env name; pure (ForInStep.yield ((name, y) :: r))) else pure (ForInStep.yield r)) >>= fun c => pure c) = (pure cs.reverse : Sem (List (Str × Addr))) by rw [this]; rfl)
section
variable {w : World} {σ : Shared} {B B₀ : Heap} {s : Shared} {own own' rest : List Pt} {A : Around} {E : Value → Shared → Prop} {F : Value → Shared → Prop} {env : Env} {a b : Addr} {name : Str} {v : Value} {xs ys : List Value} {C N : Shared → Prop} {R : Flow → Shared → Prop} {gl gl' : List Str} {cl cs : List (Str × Addr)} {l l' : List (Str × Option Value)} {L : List Pt}
theorem lookup_mem {α : Type} {x : Str} {c : α} : ∀ {cs : List (Str × α)}, (cs.map Prod.fst).Nodup → (x, c) ∈ cs → cs.lookup x = some c
  | (y, d) :: r, nd, h => by
    rw [List.lookup_cons]
    cases h with
    | head => simp
    | tail _ h =>
      have hne : x ≠ y := fun e => (List.nodup_cons.mp nd).1 (e ▸ List.mem_map.mpr ⟨(x, c), h, rfl⟩)
      rw [beq_eq_false_iff_ne.mpr hne]
      exact lookup_mem (List.nodup_cons.mp nd).2 h
theorem St.away {P : Obj → Prop} (S : St w σ B s ((a, P) :: own)) {h' : Heap} {t : Nat} (hs : Heap.SameBut a s.heap h') : St w σ B { s with heap := h', toks := t } own := by
  have hn := List.nodup_cons.mp S.nodup
  have hI := S.has _ (.head _)
  have S₂ := S.drop
  refine ⟨S.pg, let ⟨h, _, e⟩ := S.rest; ⟨h', t, by rw [e]⟩, S.base, fun b o e => hs.extBut b o (fun q => ?_) (S.keep b o e), by rw [hs.1]; exact S.size, fun q hq => ?_, S₂.nodup⟩
  · subst q; rw [hI.2.1] at e; cases e
  · obtain ⟨⟨o, e, x⟩, r⟩ := S₂.has q hq
    exact ⟨⟨o, hs.extBut _ _ (fun z => hn.1 (List.mem_map.mpr ⟨q, hq, z⟩)) e, x⟩, r⟩
/-- the room of a list's making: its names' frame, and the new list -/
theorem comp_room {e : Expr} {elt target iter : Expr} {ifs : List Expr} {gens : List Comprehension} {pos : Pos} {sc : Scope} {ls : List Str} {it : Value} {RR : Value → Addr → Result → Shared → Prop} (V : Ev env gl cl) (ok : okComp sc ls gl' (cs.map Prod.fst) = true) (hcs : ∀ p ∈ cs, p ∈ cl)
    (hself : ∀ (s' : Shared) (own'' : List Pt) (Q : Value → Shared → Prop) (E : Value → Shared → Prop), St w σ B s' (own'' ++ own) → Q it s' → wpAny (MM w) A (pyIter it) Q E s') (S : St w σ B s own)
    (h : ∀ D cenv s', Ev cenv gl' cs → St w σ B s' ((cenv.locals, frO cenv (ls.map fun x => (x, none))) :: (D, lsO []) :: own) → codeAny (MM w) A (.compLoop (.ListComp elt (⟨target, iter, ifs, 0⟩ :: gens) sc pos) 0 it (.ref D) cenv) (RR (.ref D) cenv.locals) s') :
    wpAny (MM w) A (newList []) (fun acc s₃ => wpAny (MM w) A (newFunctionEnv sc env.globals cs.reverse [] env.qual none .none (some env)) (fun cenv s₄ =>
      codeAny (MM w) A (.compStart (.ListComp elt (⟨target, iter, ifs, 0⟩ :: gens) sc pos) 0 it acc { cenv with scope := relabel sc env }) (RR acc cenv.locals) s₄) E s₃) E s := by
  simp only [okComp, Bool.and_eq_true, beq_iff_eq, List.all_eq_true, bne_iff_ne, decide_eq_true_eq, Bool.or_eq_true] at ok
  obtain ⟨⟨⟨⟨⟨⟨⟨⟨k1, k2⟩, k3⟩, k4⟩, k5⟩, k6⟩, k7⟩, k8⟩, k9⟩ := ok
  refine r_newL S (by simp) fun D s₁ S₁ => ?_
  refine wpAny_newFunctionEnv k2 (by intro y hy; simp at hy) (fun h₁ hns₁ hsb₁ => ?_) k1
  generalize hC : s₁.heap.objs.size = Ca at hns₁ hsb₁ ⊢
  have look : ∀ x, (relabel sc env).names.lookup x = (sc.names.lookup x).map fun k => if (k == NameKind.free && env.scope.kind == .function && env.kindOf x == some .cell) then NameKind.cell else k := fun x => relabel_lookup
  have V' : Ev { newEnv sc Ca env.globals cs.reverse env.qual none .none (some env) 0 with scope := relabel sc env } gl' cs := by
    refine ⟨V.globals, V.builtins, k1, fun x hx => ⟨?_, beq_eq_false_iff_ne.mpr (k5 x hx).2⟩, fun p hp => ?_⟩
    · show (relabel sc env).names.lookup x = _
      rw [look, (k5 x hx).1]; rfl
    · have kp := k6 p.1 (List.mem_map_of_mem hp)
      refine ⟨?_, ⟨beq_eq_false_iff_ne.mpr kp.1.2, beq_eq_false_iff_ne.mpr kp.2⟩, ?_⟩
      · show (relabel sc env).names.lookup p.1 = _ ∨ (relabel sc env).names.lookup p.1 = _
        rw [look, kp.1.1, Option.map_some]
        split
        · exact .inl rfl
        · exact .inr rfl
      · show cs.reverse.lookup p.1 = some p.2
        refine lookup_mem ?_ (List.mem_reverse.mpr hp)
        rw [List.map_reverse]
        exact (List.reverse_perm _).nodup_iff.mpr k7
  have fo : ∃ o, h₁.get? Ca = some o ∧ frO { newEnv sc Ca env.globals cs.reverse env.qual none .none (some env) 0 with scope := relabel sc env } (ls.map fun x => (x, none)) o := by
    refine frO.of hns₁ (fun p hp => ?_) ?_ fun p hp => ?_
    · obtain ⟨x, _, rfl⟩ := List.mem_map.mp hp; rfl
    · rw [List.map_map]; simpa [Function.comp_def] using k3
    · obtain ⟨x, hx, rfl⟩ := List.mem_map.mp hp
      refine ⟨?_, beq_eq_false_iff_ne.mpr (k4 x hx).2⟩
      show (relabel sc env).names.lookup x = _
      rw [look, (k4 x hx).1]; rfl
  have S₂ := S₁.grow1 (a := Ca) (t := s₁.toks + 0) (fun b o e => hsb₁.extBut b o (Nat.ne_of_lt (hC ▸ Heap.lt_size e)) (Heap.get?_push_of_some _ e)) (hC ▸ get_size _) (Nat.le_of_eq hC) fo
  have L := h D _ _ V' S₂
  exact codeAny_compStart_list L (hself _ [_, _] _ _ S₂ L)
end
end
/-! W15 -/
noncomputable section
open PySem.SeqAt MeetsSeq
section
variable {w : World} {σ : Shared} {B B₀ : Heap} {s : Shared} {own own' rest : List Pt} {A : Around} {E : Value → Shared → Prop} {F : Value → Shared → Prop} {env : Env} {a b : Addr} {name : Str} {v : Value} {xs ys : List Value} {C N : Shared → Prop} {R : Flow → Shared → Prop} {gl gl' : List Str} {cl cs : List (Str × Addr)} {l l' : List (Str × Option Value)} {L : List Pt}
def tests (ifs : List Expr) (env : Env) : Sem Bool := forIn ifs true fun c r => if r = true then (do let ok ← PySem.isTrue c env (eval c env); pure (ForInStep.yield ok)) else pure (ForInStep.yield r)
theorem tests0 {Q : Bool → Shared → Prop} (h : Q true s) : wpAny (MM w) A (tests [] env) Q E s := wpAny_tests_nil h
theorem tests1 {c : Expr} {Q : Bool → Shared → Prop} (h : wpAny (MM w) A (PySem.isTrue c env (eval c env)) Q E s) : wpAny (MM w) A (tests [c] env) Q E s := wpAny_tests_one h
theorem comp_loop {elt target iter : Expr} {ifs : List Expr} {scope : Scope} {pos : Pos} {it acc : Value} {R : Result → Shared → Prop} (J : Nat → Shared → Prop)
    (turn : ∀ n s, J n s → wpAny (MM w) A (pyNext it) (fun r s₁ => match r with
      | none => R (.ok .next) s₁
      | some v => wpAny (MM w) A (letOwnedTupleGo target it v) (fun _ s₁' => wpAny (MM w) A (assign target env v) (fun _ s₂ => wpAny (MM w) A (tests ifs env) (fun ok s₃ =>
          (ok = true → wpAny (MM w) A (eval elt env) (fun x s₄ => wpAny (MM w) A (call (.builtin "list.append") [acc, x]) (fun _ s₅ => ∃ m, m < n ∧ J m s₅) Fls s₄) Fls s₃) ∧ (ok = false → ∃ m, m < n ∧ J m s₃)) Fls s₂) Fls s₁') Fls s₁) Fls s)
    (n : Nat) (h : J n s) : codeAny (MM w) A (.compLoop (.ListComp elt [⟨target, iter, ifs, 0⟩] scope pos) 0 it acc env) R s := by
  refine codeAny_loop rfl J (fun n s hI => ?_) n h
  show wpAny _ A ((compTurn (.ListComp elt [⟨target, iter, ifs, 0⟩] scope pos) 0 it acc env).onRaise (fun x => do noteFrame x env; theTreesLotGoes x)) _ _ s
  refine wpAny_noted ?_
  rw [compTurn_list]
  refine wpAny_bind (wpAny_standAt (wpAny_bind (no_err (wpAny_mono (turn n s hI) (fun r s₁ h₁ => ?_) fun _ _ h' => h'))))
  cases r with
  | none => exact wpAny_pure h₁
  | some v =>
    refine wpAny_bind (no_err (wpAny_mono h₁ (fun _ s₁' h₁' => ?_) fun _ _ h' => h'))
    refine wpAny_bind (no_err (wpAny_mono h₁' (fun _ s₂ h₂ => wpAny_bind (no_err (wpAny_mono h₂ (fun ok s₃ h₃ => ?_) fun _ _ h' => h'))) fun _ _ h' => h'))
    cases ok with
    | false => exact wpAny_pure ⟨rfl, h₃.2 rfl⟩
    | true => exact wpAny_bind (wpAny_bind (no_err (wpAny_mono (h₃.1 rfl) (fun x s₄ h₄ => wpAny_bind (no_err (wpAny_mono h₄ (fun _ s₅ h₅ => wpAny_pure (wpAny_pure ⟨rfl, h₅⟩)) fun _ _ h' => h'))) fun _ _ h' => h')))
theorem zip_none : ∀ ls : List Str, ls.zip (ls.map fun _ => (none : Option Value)) = ls.map fun x => (x, none)
  | [] => rfl
  | a :: r => by rw [List.map_cons, List.zip_cons_cons, zip_none r]; rfl
/-- what stands behind a turn -/
def Cend (w : World) (σ : Shared) (B₀ : Heap) (cenv : Env) (ls : List Str) (D : Addr) (ys : List Value) (I : Addr) (Fi : Obj → Prop) (J : Heap → List Pt → Prop) (s : Shared) : Prop :=
  ∃ B' us own' own'', B₀.StaysIn B' ∧ us.length = ls.length ∧ St w σ B' s own'' ∧ Arr [(cenv.locals, frO cenv (ls.zip us)), (D, lsO ys), (I, Fi)] own'' own' ∧ J B' own'
def CompOk (w : World) (A : Around) (cs : List (Str × Addr)) (gl' ls : List Str) (target elt : Expr) (ifs : List Expr) (own₀ : List Pt) (Fin : Shared → Heap → Addr → Env → List (Option Value) → List Value → List Pt → Shared → Prop) (it : Value) (s₂ : Shared) : Prop :=
  ∃ I n P Fi B₀ σ B own, ∃ J : Nat → List Value → Heap → List Pt → Prop, it = .ref I ∧ It w A I n P Fi B₀ ∧ B₀.StaysIn B ∧ St w σ B s₂ ((I, Fi 0) :: own) ∧ n < 1000 ∧ J 0 [] B own ∧
    (∀ cenv D i v ys B own s us, Ev cenv gl' cs → i < n → P i v → B₀.StaysIn B → J i ys B own → us.length = ls.length → St w σ B s ((cenv.locals, frO cenv (ls.zip us)) :: (D, lsO ys) :: (I, Fi (i + 1)) :: own) →
      wpAny (MM w) A (assign target cenv v) (fun _ s' => wpAny (MM w) A (tests ifs cenv) (fun ok s₃ =>
        (ok = true → wpAny (MM w) A (eval elt cenv) (fun y s₄ => Cend w σ B₀ cenv ls D ys I (Fi (i + 1)) (J (i + 1) (ys ++ [y])) s₄) Fls s₃) ∧ (ok = false → Cend w σ B₀ cenv ls D ys I (Fi (i + 1)) (J (i + 1) ys) s₃)) Fls s') Fls s) ∧
    (∀ ys B own D cenv us s, J n ys B own → B₀.StaysIn B → us.length = ls.length → St w σ B s ((cenv.locals, frO cenv (ls.zip us)) :: (D, lsO ys) :: own) → Fin σ B D cenv us ys own s)
theorem comp_run {ls : List Str} {target elt iter : Expr} {ifs : List Expr} {scope : Scope} {pos : Pos} {it : Value} {RR : Value → Addr → Result → Shared → Prop} (V : Ev env gl cl) (ok : okComp scope ls gl' (cs.map Prod.fst) = true) (hcs : ∀ p ∈ cs, p ∈ cl)
    (h : CompOk w A cs gl' ls target elt ifs own (fun σ B D cenv us ys own s => RR (.ref D) cenv.locals (.ok .next) s) it s) :
    wpAny (MM w) A (newList []) (fun acc s₃ => wpAny (MM w) A (newFunctionEnv scope env.globals cs.reverse [] env.qual none .none (some env)) (fun cenv s₄ =>
      codeAny (MM w) A (.compStart (.ListComp elt [⟨target, iter, ifs, 0⟩] scope pos) 0 it acc { cenv with scope := relabel scope env }) (RR acc cenv.locals) s₄) E s₃) E s := by
  obtain ⟨I, n, P, Fi, B₀, σ, B, own, J, rfl, W, k, S, hn, j0, turn, fin⟩ := h
  refine comp_room (e := elt) V ok hcs (fun s' own'' Q E S' q => ?_) S fun D cenv s' V' S' => ?_
  · have : Pick (I, Fi 0) (own'' ++ (I, Fi 0) :: own) (own'' ++ own) := by
      clear S' q
      induction own'' with
      | nil => exact .head
      | cons p r ih => exact .tail ih
    exact W.self k S' this q
  · refine comp_loop (fun m s => ∃ i ys us B own, m = n + 1 - i ∧ i ≤ n ∧ ys.length ≤ i ∧ us.length = ls.length ∧ B₀.StaysIn B ∧ J i ys B own ∧ St w σ B s ((cenv.locals, frO cenv (ls.zip us)) :: (D, lsO ys) :: (I, Fi i) :: own)) ?_ (n + 1)
      ⟨0, [], ls.map fun _ => none, B, own, rfl, Nat.zero_le _, Nat.le_refl _, by simp, k, j0, ?_⟩
    · rintro m s ⟨i, ys, us, B, own, rfl, hi, hy, hu, k, j, S⟩
      have step : ∀ s₅ ys' , ys'.length ≤ i + 1 → i < n → Cend w σ B₀ cenv ls D ys' I (Fi (i + 1)) (J (i + 1) ys') s₅ → ∃ m, m < n + 1 - i ∧ ∃ i ys us B own, m = n + 1 - i ∧ i ≤ n ∧ ys.length ≤ i ∧ us.length = ls.length ∧ B₀.StaysIn B ∧ J i ys B own ∧ St w σ B s₅ ((cenv.locals, frO cenv (ls.zip us)) :: (D, lsO ys) :: (I, Fi i) :: own) :=
        fun s₅ ys' hy' hlt ⟨B', us', own', own'', k', hu', S', r', j'⟩ => ⟨n + 1 - (i + 1), by omega, i + 1, ys', us', B', own', rfl, hlt, hy', hu', k', j', S'.arr r'⟩
      by_cases hlt : i < n
      · refine W.item hlt k S (.tail (.tail .head)) fun v s₃ hP S₃ => ?_
        have S₄ := S₃.perm (own' := (cenv.locals, frO cenv (ls.zip us)) :: (D, lsO ys) :: (I, Fi (i + 1)) :: own) ((List.Perm.swap _ _ _).trans ((List.Perm.swap _ _ _).cons _))
        refine W.go target v S₄ (.tail (.tail .head)) (wpAny_mono (turn cenv D i v ys B own s₃ us V' hlt hP k j hu S₄) (fun _ s₄ z => wpAny_mono z (fun ok s₅ z => ?_) fun _ _ z => z) fun _ _ z => z)
        refine ⟨fun e => wpAny_mono (z.1 e) (fun y s₆ z => ?_) fun _ _ z => z, fun e => step _ _ (by omega) hlt (z.2 e)⟩
        obtain ⟨B', us', own', own'', k', hu', S', r', j'⟩ := z
        have S'' := S'.arr r'
        refine k_append S'' (.tail .head) (by omega) fun s₇ S₇ => step _ _ (by simp; omega) hlt ⟨B', us', own', _, k', hu', S₇, .cons (.tail .head) (.cons .head (.cons .head .nil)), j'⟩
      · have e : i = n := by omega
        subst e
        exact W.done k S (.tail (.tail .head)) (by simp) fun s₃ S₃ => fin ys B own D cenv us s₃ j k hu S₃
    · rw [zip_none]; exact S'
theorem r_comp {ls : List Str} {target elt iter : Expr} {ifs : List Expr} {scope : Scope} {pos : Pos} {Q : Value → Shared → Prop} (V : Ev env gl cl) (ok : okComp scope ls gl' (cs.map Prod.fst) = true) (hcs : ∀ p ∈ cs, p ∈ cl)
    (h : wpAny (MM w) A (eval iter env) (fun x s₁ => wpAny (MM w) A (pyIter x) (fun it s₂ => CompOk w A cs gl' ls target elt ifs own (fun σ B D cenv us ys own s => ∀ s', St w σ B s' ((D, lsO ys) :: own) → Q (.ref D) s') it s₂) E s₁) E s)
    (hs : ∀ x, foldedSetIterable iter env x = pure x := by intro _; rfl) :
    wpAny (MM w) A (eval (.ListComp elt [⟨target, iter, ifs, 0⟩] scope pos) env) Q E s := by
  have ok' := ok
  simp only [okComp, Bool.and_eq_true, beq_iff_eq, List.all_eq_true, bne_iff_ne, decide_eq_true_eq, Bool.or_eq_true] at ok'
  obtain ⟨⟨⟨⟨⟨⟨⟨⟨k1, k2⟩, k3⟩, k4⟩, k5⟩, k6⟩, k7⟩, k8⟩, k9⟩ := ok'
  rw [eval_ListComp]
  refine wpAny_comprehension_free (use := none) rfl hs (closure_of k8 fun p hp => (V.cl p (hcs p hp)).2.2) k1 (fun x hx hl => (k9 x hx).resolve_left fun z => z hl) (wpAny_mono h (fun xv s₁ h₁ => wpAny_mono h₁ (fun it s₂ h₂ => ?_) fun _ _ e => e) fun _ _ e => e)
  refine comp_run (RR := fun acc C => compPost (MM w) A E none Q acc C) (own := own) V ok hcs ?_
  obtain ⟨I, n, P, Fi, B₀, σ, B, own, J, e, W, k, S, hn, j0, turn, fin⟩ := h₂
  refine ⟨I, n, P, Fi, B₀, σ, B, own, J, e, W, k, S, hn, j0, turn, fun ys B own D cenv us s j k hu S => ?_⟩
  obtain ⟨o, ho, f⟩ := S.at_
  obtain ⟨m, hm, _⟩ := f.ns ho
  exact ⟨m, hm, fun h' hs' => fin ys B own D cenv us s j k hu S _ (S.away (t := s.toks) hs')⟩
theorem x_comp {ls : List Str} {x : Str} {px : Pos} {target elt iter : Expr} {ifs : List Expr} {scope : Scope} {pos spos : Pos} (V : Ev env gl cl) (ok : okComp scope ls gl' (cs.map Prod.fst) = true) (hcs : ∀ p ∈ cs, p ∈ cl)
    (h : wpAny (MM w) A (eval iter env) (fun xv s₁ => wpAny (MM w) A (pyIter xv) (fun it s₂ => CompOk w A cs gl' ls target elt ifs own (fun σ B D cenv us ys own s => ∃ l l' own', Pick (env.locals, frO env l) own own' ∧ Set1 x (some (.ref D)) l l' ∧ ∀ s', St w σ B s' ((env.locals, frO env l') :: (D, lsO ys) :: own') → N s') it s₂) F s₁) F s)
    (hsw : swapsWith (.ListComp elt [⟨target, iter, ifs, 0⟩] scope pos) (some (.Name x px)) spos.line env = pure true) (hs : ∀ x, foldedSetIterable iter env x = pure x := by intro _; rfl) :
    wpAny (MM w) A (exec (.Assign [.Name x px] (.ListComp elt [⟨target, iter, ifs, 0⟩] scope pos) spos) env) (Nx N R) F s := by
  have ok' := ok
  simp only [okComp, Bool.and_eq_true, beq_iff_eq, List.all_eq_true, bne_iff_ne, decide_eq_true_eq, Bool.or_eq_true] at ok'
  obtain ⟨⟨⟨⟨⟨⟨⟨⟨k1, k2⟩, k3⟩, k4⟩, k5⟩, k6⟩, k7⟩, k8⟩, k9⟩ := ok'
  rw [exec_Assign_Name_used _ _ _ _ hsw]
  refine wpAny_bind (wpAny_standAt (wpAny_bind ?_))
  show wpAny _ A (do let _ ← comprehension (.ListComp elt [⟨target, iter, ifs, 0⟩] scope pos) scope env _ (newList []) false (eval iter env) (some (assign (.Name x px) env))) _ _ s
  refine wpAny_bind (wpAny_mono (wpAny_comprehension_free (use := some (assign (.Name x px) env)) (Q := fun _ s' => N s') rfl hs (closure_of k8 fun p hp => (V.cl p (hcs p hp)).2.2) k1 (fun x hx hl => (k9 x hx).resolve_left fun z => z hl)
    (wpAny_mono h (fun xv s₁ h₁ => wpAny_mono h₁ (fun it s₂ h₂ => ?_) fun _ _ e => e) fun _ _ e => e)) (fun _ s' hq => wpAny_pure (wpAny_pure hq)) fun _ _ e => e)
  refine comp_run (RR := fun acc C => compPost (MM w) A F (some (assign (.Name x px) env)) (fun _ s' => N s') acc C) (own := own) V ok hcs ?_
  obtain ⟨I, n, P, Fi, B₀, σ, B, own, J, e, W, k, S, hn, j0, turn, fin⟩ := h₂
  refine ⟨I, n, P, Fi, B₀, σ, B, own, J, e, W, k, S, hn, j0, turn, fun ys B own D cenv us s j k hu S => ?_⟩
  obtain ⟨l, l', own', p, q, hN⟩ := fin ys B own D cenv us s j k hu S
  show wpAny (MM w) A (assign (.Name x px) env (.ref D)) _ _ _
  refine wpAny_assign_Name (r_store S V (.tail (.tail p)) q fun s' S' => ?_)
  have S₂ := S'.pick (.tail .head)
  obtain ⟨o, ho, f⟩ := S₂.at_
  obtain ⟨m, hm, _⟩ := f.ns ho
  exact ⟨m, hm, fun h' hs' => hN _ (S₂.away (t := s'.toks) hs')⟩
end
end
/-! W16 -/
noncomputable section
open PySem.SeqAt MeetsSeq
theorem set_in {y : Str} {v : Value} : ∀ {ls : List Str} {us : List (Option Value)}, y ∈ ls → us.length = ls.length → ∃ us', us'.length = ls.length ∧ Set1 y (some v) (ls.zip us) (ls.zip us') ∧ Has (y, some v) (ls.zip us')
  | x :: ls, [], _, h => by simp at h
  | x :: ls, u :: us, hy, hl => by
    by_cases e : y = x
    · subst e
      exact ⟨some v :: us, by simpa using hl, .head, .head⟩
    · have hy : y ∈ ls := by
        cases hy with
        | head => exact absurd rfl e
        | tail _ h => exact h
      obtain ⟨us', a, b, c⟩ := set_in (v := v) hy (us := us) (by simpa using hl)
      exact ⟨u :: us', by simpa using a, .tail b, .tail c⟩
section
variable {w : World} {σ : Shared} {B B₀ : Heap} {s : Shared} {own own' rest : List Pt} {A : Around} {E : Value → Shared → Prop} {F : Value → Shared → Prop} {env : Env} {a b : Addr} {name : Str} {v : Value} {xs ys : List Value} {C N : Shared → Prop} {R : Flow → Shared → Prop} {gl gl' : List Str} {cl cs : List (Str × Addr)} {l l' : List (Str × Option Value)} {L : List Pt}
theorem compTurn_two (elt t1 i1 t2 i2 : Expr) (scope : Scope) (pos : Pos) (it acc : Value) (env : Env) :
    compTurn (.ListComp elt [⟨t1, i1, [], 0⟩, ⟨t2, i2, [], 0⟩] scope pos) 0 it acc env = (do
      standAt i1.pos
      match ← pyNext it with
      | none => pure (.done .next)
      | some v =>
        letOwnedTupleGo t1 it v
        assign t1 env v
        let x ← eval i2 env
        standAt i2.pos
        let x ← foldedSetIterable i2 env x
        let _ ← runOwn (.compStart (.ListComp elt [⟨t1, i1, [], 0⟩, ⟨t2, i2, [], 0⟩] scope pos) 1 (← holding [x] (pyIter x)) acc env) env
        again (.compLoop (.ListComp elt [⟨t1, i1, [], 0⟩, ⟨t2, i2, [], 0⟩] scope pos) 0 it acc env)) := by rfl
theorem compTurn_in (elt t1 i1 t2 i2 : Expr) (scope : Scope) (pos : Pos) (it acc : Value) (env : Env) :
    compTurn (.ListComp elt [⟨t1, i1, [], 0⟩, ⟨t2, i2, [], 0⟩] scope pos) 1 it acc env = (do
      standAt i2.pos
      match ← pyNext it with
      | none => pure (.done .next)
      | some v =>
        letOwnedTupleGo t2 it v
        assign t2 env v
        (do let _ ← call (.builtin "list.append") [acc, ← eval elt env])
        again (.compLoop (.ListComp elt [⟨t1, i1, [], 0⟩, ⟨t2, i2, [], 0⟩] scope pos) 1 it acc env)) := by rfl
theorem compStart_in {elt t1 i1 t2 i2 : Expr} {scope : Scope} {pos : Pos} {it acc : Value} {R : Result → Shared → Prop}
    (h0 : codeAny (MM w) A (.compLoop (.ListComp elt [⟨t1, i1, [], 0⟩, ⟨t2, i2, [], 0⟩] scope pos) 1 it acc env) R s)
    (h : wpAny (MM w) A (pyIter it) (fun it' s' => codeAny (MM w) A (.compLoop (.ListComp elt [⟨t1, i1, [], 0⟩, ⟨t2, i2, [], 0⟩] scope pos) 1 it' acc env) R s') Fls s) :
    codeAny (MM w) A (.compStart (.ListComp elt [⟨t1, i1, [], 0⟩, ⟨t2, i2, [], 0⟩] scope pos) 1 it acc env) R s := by
  refine codeAny_of_tree ?_
  show wpAny _ _ ((compStart (.ListComp elt [⟨t1, i1, [], 0⟩, ⟨t2, i2, [], 0⟩] scope pos) 1 it acc env).onRaise (fun x => do noteFrame x env; standAt theWindowsPlace)) _ _ s
  refine wpAny_notedAt ?_
  unfold compStart
  show wpAny _ _ (ask >>= _) _ _ s
  refine wpAny_bind (wpAny_askSetting (wpAny_ite ?_))
  split
  · exact wpAny_pure (And.intro rfl h0)
  · refine wpAny_bind (wpAny_rule ?_)
    show wpAny _ _ (standAt i2.pos >>= _) _ _ s
    exact wpAny_bind (wpAny_standAt (wpAny_bind (wpAny_mono h (fun it' s' h' => wpAny_pure (And.intro rfl h')) fun _ _ x => x.elim)))
/-- all the items of all the lists that a list leads to -/
theorem r_flat {ls : List Str} {y : Str} {py py' pos : Pos} {t1 i1 i2 : Expr} {scope : Scope} {Q : Value → Shared → Prop} (hh : A.handled = none) (V : Ev env gl cl) (ok : okComp scope ls gl' (cs.map Prod.fst) = true) (hcs : ∀ p ∈ cs, p ∈ cl) (hy : y ∈ ls)
    (h : wpAny (MM w) A (eval i1 env) (fun x s₁ => ∃ σ B own xs, ∃ wss : List (List Value), ∃ a, x = .ref a ∧ St w σ B s₁ own ∧ Lst B a xs ∧ xs.length = wss.length ∧ wss.flatten.length < 1000 ∧
      (∀ (i : Nat) (v : Value), xs[i]? = some v → ∃ (b : Addr) (ws : List Value), wss[i]? = some ws ∧ Lst B b ws ∧ ∀ cenv s own us, Ev cenv gl' cs → us.length = ls.length → St w σ B s ((cenv.locals, frO cenv (ls.zip us)) :: own) →
        wpAny (MM w) A (assign t1 cenv v) (fun _ s' => wpAny (MM w) A (eval i2 cenv) (fun x s'' => x = .ref b ∧ ∃ us' own'', us'.length = ls.length ∧ St w σ B s'' own'' ∧ Arr [(cenv.locals, frO cenv (ls.zip us'))] own'' own) Fls s') Fls s) ∧
      (∀ D s, St w σ B s ((D, lsO wss.flatten) :: own) → Q (.ref D) s)) E s)
    (hs : ∀ env x, foldedSetIterable i1 env x = pure x := by intro _ _; rfl) (hs2 : ∀ env x, foldedSetIterable i2 env x = pure x := by intro _ _; rfl) :
    wpAny (MM w) A (eval (.ListComp (.Name y py) [⟨t1, i1, [], 0⟩, ⟨.Name y py', i2, [], 0⟩] scope pos) env) Q E s := by
  have ok' := ok
  simp only [okComp, Bool.and_eq_true, beq_iff_eq, List.all_eq_true, bne_iff_ne, decide_eq_true_eq, Bool.or_eq_true] at ok'
  obtain ⟨⟨⟨⟨⟨⟨⟨⟨k1, k2⟩, k3⟩, k4⟩, k5⟩, k6⟩, k7⟩, k8⟩, k9⟩ := ok'
  rw [eval_ListComp]
  refine wpAny_comprehension_free (use := none) rfl (hs env) (closure_of k8 fun p hp => (V.cl p (hcs p hp)).2.2) k1 (fun x hx hl => (k9 x hx).resolve_left fun z => z hl) (wpAny_mono h (fun xv s₁ h₁ => ?_) fun _ _ e => e)
  obtain ⟨σ, B, own, xs, wss, a, rfl, S, hl, hlen, hz, each, fin⟩ := h₁
  refine it_list hh S hl fun I Fi s₂ W S₂ => ?_
  refine comp_room (e := .Name y py) (RR := fun acc C => compPost (MM w) A E none Q acc C) V ok hcs (fun s' own'' Q E S' q => ?_) S₂ fun D cenv s₃ V' S₃ => ?_
  · have : Pick (I, Fi 0) (own'' ++ (I, Fi 0) :: own) (own'' ++ own) := by
      clear S' q
      induction own'' with
      | nil => exact .head
      | cons p r ih => exact .tail ih
    exact W.self (fun _ _ e => e) S' this q
  refine codeAny_loop rfl (fun m s => ∃ i us, m = xs.length + 1 - i ∧ i ≤ xs.length ∧ us.length = ls.length ∧ St w σ B s ((cenv.locals, frO cenv (ls.zip us)) :: (D, lsO (wss.take i).flatten) :: (I, Fi i) :: own)) (fun m s hJ => ?_) (xs.length + 1)
    ⟨0, ls.map fun _ => none, rfl, Nat.zero_le _, by simp, by rw [zip_none]; simpa using S₃⟩
  obtain ⟨i, us, rfl, hi, hu, S⟩ := hJ
  show wpAny _ A ((compTurn (.ListComp (.Name y py) [⟨t1, i1, [], 0⟩, ⟨.Name y py', i2, [], 0⟩] scope pos) 0 (.ref I) (.ref D) cenv).onRaise (fun x => do noteFrame x cenv; theTreesLotGoes x)) _ _ s
  refine wpAny_noted ?_
  rw [compTurn_two]
  refine wpAny_bind (wpAny_standAt (wpAny_bind ?_))
  by_cases hlt : i < xs.length
  · refine W.item hlt (fun _ _ e => e) S (.tail (.tail .head)) fun v s₄ hP S₄ => ?_
    obtain ⟨b, ws, hws, hb, step⟩ := each i v hP
    have S₅ := S₄.perm (own' := (cenv.locals, frO cenv (ls.zip us)) :: (D, lsO (wss.take i).flatten) :: (I, Fi (i + 1)) :: own) ((List.Perm.swap _ _ _).trans ((List.Perm.swap _ _ _).cons _))
    refine wpAny_bind (W.go t1 v S₅ (.tail (.tail .head)) (wpAny_bind (no_err (wpAny_mono (step cenv s₄ _ us V' hu S₅) (fun _ s₅ z => wpAny_bind (no_err (wpAny_mono z (fun x s₆ z => ?_) fun _ _ z => z))) fun _ _ z => z))))
    obtain ⟨rfl, us', own'', hu', S₆, r⟩ := z
    have S₆ := S₆.arr r
    refine wpAny_bind (wpAny_standAt (wpAny_bind (wpAny_of_eq (hs2 cenv _) (wpAny_bind (wpAny_holding ?_)))))
    refine it_list hh S₆ hb fun I₂ Fi₂ s₇ W₂ S₇ => ?_
    have hi' : i < wss.length := hlen ▸ hlt
    have ewi : wss[i] = ws := by rw [List.getElem?_eq_getElem hi'] at hws; exact Option.some.inj hws
    have etake : (wss.take (i + 1)).flatten = (wss.take i).flatten ++ ws := by
      rw [List.take_succ_eq_append_getElem hi', List.flatten_append, ewi]; simp
    have hle : ((wss.take i).flatten ++ ws).length < 1000 := by
      rw [← etake]
      refine Nat.lt_of_le_of_lt ?_ hz
      have e : wss.flatten = (wss.take (i + 1)).flatten ++ (wss.drop (i + 1)).flatten := by rw [← List.flatten_append, List.take_append_drop]
      rw [e, List.length_append]
      exact Nat.le_add_right _ _
    refine wpAny_bind (wpAny_runOwn ?_)
    have loop : codeAny (MM w) A (.compLoop (.ListComp (.Name y py) [⟨t1, i1, [], 0⟩, ⟨.Name y py', i2, [], 0⟩] scope pos) 1 (.ref I₂) (.ref D) cenv)
        (fun r s' => match r with
          | .ok f => (fun (_ : Flow) s => wpAny (MM w) A (again (.compLoop (.ListComp (.Name y py) [⟨t1, i1, [], 0⟩, ⟨.Name y py', i2, [], 0⟩] scope pos) 0 (.ref I) (.ref D) cenv)) (fun fin s' => match fin with | .done f => compPost (MM w) A E none Q (.ref D) cenv.locals (.ok f) s' | .again c' => c' = .compLoop (.ListComp (.Name y py) [⟨t1, i1, [], 0⟩, ⟨.Name y py', i2, [], 0⟩] scope pos) 0 (.ref I) (.ref D) cenv ∧ ∃ m, m < xs.length + 1 - i ∧ ∃ i us, m = xs.length + 1 - i ∧ i ≤ xs.length ∧ us.length = ls.length ∧ St w σ B s' ((cenv.locals, frO cenv (ls.zip us)) :: (D, lsO (wss.take i).flatten) :: (I, Fi i) :: own)) Fls s) f s'
          | .error e => False) s₇ := by
      refine codeAny_loop rfl (fun m s => ∃ j us, m = ws.length + 1 - j ∧ j ≤ ws.length ∧ us.length = ls.length ∧ St w σ B s ((I₂, Fi₂ j) :: (cenv.locals, frO cenv (ls.zip us)) :: (D, lsO ((wss.take i).flatten ++ ws.take j)) :: (I, Fi (i + 1)) :: own)) (fun m s hJ => ?_) (ws.length + 1)
        ⟨0, us', rfl, Nat.zero_le _, hu', by simpa using S₇⟩
      obtain ⟨j, us, rfl, hj, hu, S⟩ := hJ
      show wpAny _ A ((compTurn (.ListComp (.Name y py) [⟨t1, i1, [], 0⟩, ⟨.Name y py', i2, [], 0⟩] scope pos) 1 (.ref I₂) (.ref D) cenv).onRaise (fun x => do noteFrame x cenv; theTreesLotGoes x)) _ _ s
      refine wpAny_noted ?_
      rw [compTurn_in]
      refine wpAny_bind (wpAny_standAt (wpAny_bind ?_))
      by_cases hlt2 : j < ws.length
      · refine W₂.item hlt2 (fun _ _ e => e) S .head fun u s₈ hP₂ S₈ => ?_
        refine wpAny_bind (W₂.go _ u S₈ .head (wpAny_bind ?_))
        obtain ⟨us₂, hu₂, hset, hhas⟩ := set_in (v := u) hy hu
        refine wpAny_assign_Name (r_store S₈ V' (.tail .head) hset fun s₉ S₉ => ?_)
        refine wpAny_bind (wpAny_bind (r_local S₉ V' .head hhas (wpAny_bind ?_)))
        refine k_append S₉ (.tail (.tail .head)) (by rw [List.length_append] at hle ⊢; rw [List.length_take]; omega) fun s₁₀ S₁₀ => ?_
        refine wpAny_pure (wpAny_pure ⟨rfl, ws.length + 1 - (j + 1), by omega, j + 1, us₂, rfl, hlt2, hu₂, ?_⟩)
        have e : (wss.take i).flatten ++ ws.take j ++ [u] = (wss.take i).flatten ++ ws.take (j + 1) := by
          rw [List.append_assoc]
          congr 1
          rw [List.take_succ_eq_append_getElem hlt2]
          congr 1
          rw [List.getElem?_eq_getElem hlt2] at hP₂
          simp [Option.some.inj hP₂]
        rw [e] at S₁₀
        exact S₁₀.arr (.cons (.tail (.tail .head)) (.cons (.tail .head) (.cons .head .nil)))
      · have e : j = ws.length := by omega
        subst e
        refine W₂.done (fun _ _ e => e) S .head (by simp) fun s₈ S₈ => wpAny_pure ?_
        refine wpAny_pure ⟨rfl, xs.length + 1 - (i + 1), by omega, i + 1, us, rfl, hlt, hu, ?_⟩
        rw [etake]
        simpa using S₈
    exact codeAny_mono (compStart_in loop (W₂.self (fun _ _ e => e) S₇ .head loop)) fun r s' z => by
      cases r with
      | ok f => exact no_err (wpAny_mono z (fun _ _ z => z) fun _ _ z => z)
      | error e => exact z.elim
  · have e : i = xs.length := by omega
    subst e
    refine W.done (fun _ _ e => e) S (.tail (.tail .head)) (by simp) fun s₄ S₄ => wpAny_pure ?_
    obtain ⟨o, ho, f⟩ := S₄.at_
    obtain ⟨m, hm, _⟩ := f.ns ho
    refine ⟨m, hm, fun h' hs' => fin D _ ?_⟩
    have S₅ := S₄.away (t := s₄.toks) hs'
    rw [hlen, List.take_length] at S₅
    exact S₅
end
end
/-! W17 -/
noncomputable section
open PySem.SeqAt MeetsSeq
def nmIs : Nm → Value → Bool
  | some n, v => v.isInt n
  | none, v => v.isStrOf "main.x"
def nmHash (w : World) : Nm → Int
  | some n => hashInt n
  | none => hashStr w "main.x"
theorem nmIs_iff {m : Nm} {v : Value} : nmIs m v = true ↔ NmV m v := by
  cases m with
  | some n =>
    refine ⟨fun h => Value.isInt_shape h, fun ⟨t, e⟩ => ?_⟩
    subst e; simp [nmIs, Value.isInt]
  | none =>
    refine ⟨fun h => Value.isStrOf_shape h, fun ⟨t, e⟩ => ?_⟩
    subst e; simp [nmIs, Value.isStrOf]
def nmKind (w : World) : KeyKind pw w Nm where
  is := nmIs
  hash := nmHash w
  inj := fun v a b ha hb => by
    cases a <;> cases b <;> (obtain ⟨t, rfl⟩ := nmIs_iff.mp ha; obtain ⟨t', e⟩ := nmIs_iff.mp hb; cases e <;> rfl)
  byValue := fun k v h => by cases k <;> (obtain ⟨t, rfl⟩ := nmIs_iff.mp h; rfl)
  pyHash := fun {A E s k v Q} hv h => by
    cases k with
    | some n => obtain ⟨t, rfl⟩ := nmIs_iff.mp hv; exact wpAny_pyHash_int h
    | none => obtain ⟨t, rfl⟩ := nmIs_iff.mp hv; exact wpAny_pyHash_str h
  eqBool := fun {A E s a b u v Q} hu hv h => nm_eq (nmIs_iff.mp hu) (nmIs_iff.mp hv) pw w A E s Q h
  «strs» := fun k x t v h => by
    cases k with
    | some n => obtain ⟨u, e⟩ := nmIs_iff.mp h; cases e
    | none =>
      obtain ⟨u, e⟩ := nmIs_iff.mp h
      cases e
      cases v <;> rfl
def dcO (w : World) (kvs : List (Nm × Value)) (o : Obj) : Prop := o.IsDictOf (nmKind w) kvs
theorem valueAt_cons {K : Type} [DecidableEq K] (k : K) (v : Value) (r : List (K × Value)) (k' : K) : valueAt ((k, v) :: r) k' = if k = k' then some v else valueAt r k' := by
  unfold valueAt
  rw [List.find?_cons]
  by_cases e : k = k'
  · simp [e]
  · simp [e]
theorem valueAt_stored {K : Type} [DecidableEq K] (kvs : List (K × Value)) (k : K) (v : Value) (k' : K) : valueAt (stored kvs k v) k' = if k = k' then some v else valueAt kvs k' := by
  unfold stored
  split
  · rename_i h
    induction kvs with
    | nil => simp at h
    | cons p r ih =>
      obtain ⟨a, b⟩ := p
      rw [List.map_cons, valueAt_cons]
      by_cases e : a = k
      · subst e
        simp only [if_true, valueAt_cons]
        by_cases e2 : a = k'
        · simp [e2]
        · simp only [e2, if_false]
          clear ih h
          induction r with
          | nil => rfl
          | cons q r ih2 =>
            obtain ⟨c, d⟩ := q
            rw [List.map_cons]
            by_cases e3 : c = a
            · subst e3; simp only [if_true, valueAt_cons, e2, if_false]; exact ih2
            · simp only [e3, if_false, valueAt_cons]; rw [ih2]
      · simp only [e, if_false, valueAt_cons]
        have h' : (r.any fun kv => decide (kv.1 = k)) = true := by simpa [e] using h
        rw [ih h']
        by_cases e2 : a = k'
        · subst e2; simp [Ne.symm e]
        · simp [e2]
  · rename_i h
    induction kvs with
    | nil => rw [List.nil_append, valueAt_cons]
    | cons p r ih =>
      obtain ⟨a, b⟩ := p
      have h1 : ¬ a = k := fun e => h (by simp [e])
      have h2 : ¬ (r.any fun kv => decide (kv.1 = k)) = true := fun e => h (by simp [e])
      rw [List.cons_append, valueAt_cons, valueAt_cons, ih h2]
      by_cases e2 : a = k'
      · subst e2; simp [Ne.symm h1]
      · simp [e2]
theorem valueAt_without {K : Type} [DecidableEq K] (kvs : List (K × Value)) (k k' : K) : valueAt (without kvs k) k' = if k = k' then none else valueAt kvs k' := by
  unfold without
  induction kvs with
  | nil => simp [valueAt]
  | cons p r ih =>
    obtain ⟨a, b⟩ := p
    rw [List.filter_cons, valueAt_cons]
    by_cases e : a = k
    · subst e
      simp only [ne_eq, not_true_eq_false, decide_false, Bool.false_eq_true, if_false, ih]
      split <;> rfl
    · simp only [ne_eq, e, not_false_eq_true, decide_true, if_true, valueAt_cons, ih]
      by_cases e2 : a = k'
      · subst e2; simp [Ne.symm e]
      · simp [e2]
theorem valueAt_mem {K : Type} [DecidableEq K] {kvs : List (K × Value)} {k : K} {v : Value} (h : valueAt kvs k = some v) : (k, v) ∈ kvs := by
  unfold valueAt at h
  obtain ⟨p, hp, rfl⟩ := Option.map_eq_some_iff.mp h
  have := List.find?_some hp
  have e : p.1 = k := by simpa using this
  rw [← e]
  exact List.mem_of_find?_eq_some hp
theorem valueAt_key {K : Type} [DecidableEq K] {kvs : List (K × Value)} {k : K} : k ∈ kvs.map (·.1) ↔ ∃ v, valueAt kvs k = some v := by
  constructor
  · intro h
    induction kvs with
    | nil => simp at h
    | cons p r ih =>
      obtain ⟨a, b⟩ := p
      rw [valueAt_cons]
      by_cases e : a = k
      · exact ⟨b, by simp [e]⟩
      · simp only [e, if_false]
        refine ih ?_
        rcases List.mem_cons.mp h with h | h
        · exact absurd h.symm e
        · exact h
  · rintro ⟨v, h⟩
    exact List.mem_map.mpr ⟨_, valueAt_mem h, rfl⟩
section
variable {w : World} {σ : Shared} {B B₀ : Heap} {s : Shared} {own own' rest : List Pt} {A : Around} {E : Value → Shared → Prop} {F : Value → Shared → Prop} {env : Env} {a b : Addr} {name : Str} {v : Value} {xs ys : List Value} {kvs : List (Nm × Value)} {m : Nm} {key : Value}
theorem St.dict (S : St w σ B s own) (p : Pick (a, dcO w kvs) own own') : s.heap.DictOf (nmKind w) a kvs := Heap.dictOf_iff.mpr (S.pick p).at_
theorem St.notSys {P : Obj → Prop} (S : St w σ B s own) (p : Pick (a, P) own own') : (a == sysModules) = false := by
  have h := ((S.pick p).has _ (.head _)).2.2
  rw [beq_eq_false_iff_ne]
  rintro rfl
  exact absurd (show 2 ≤ 1 from h) (by decide)
theorem d_in {Q : Value → Shared → Prop} (S : St w σ B s own) (p : Pick (a, dcO w kvs) own own') (hk : NmV m key) (h : ∀ s', St w σ B s' own → Q (.bool (valueAt kvs m).isSome) s') : wpAny (MM w) A (compareOp .In key (.ref a)) Q E s :=
  wpAny_in_of (knd := nmKind w) (nmIs_iff.mpr hk) (S.notSys p) (S.dict p).mapOf (h _ (S.toks _))
theorem d_notIn {Q : Value → Shared → Prop} (S : St w σ B s own) (p : Pick (a, dcO w kvs) own own') (hk : NmV m key) (h : ∀ s', St w σ B s' own → Q (.bool (!(valueAt kvs m).isSome)) s') : wpAny (MM w) A (compareOp .NotIn key (.ref a)) Q E s :=
  wpAny_notIn_of (knd := nmKind w) (nmIs_iff.mpr hk) (S.notSys p) (S.dict p).mapOf (h _ (S.toks _))
theorem d_getItem {Q : Value → Shared → Prop} (S : St w σ B s own) (p : Pick (a, dcO w kvs) own own') (hk : NmV m key) (hv : valueAt kvs m = some v) (h : ∀ s', St w σ B s' own → Q v s') : wpAny (MM w) A (getItem (.ref a) key) Q E s :=
  wpAny_getItem_of (knd := nmKind w) (nmIs_iff.mpr hk) (S.dict p).mapOf hv (h _ (S.toks _))
theorem d_sub {value slice : Expr} {Q : Value → Shared → Prop} (S : St w σ B s own) (p : Pick (a, dcO w kvs) own own') (hk : NmV m key) (hv : valueAt kvs m = some v) (h : ∀ s', St w σ B s' own → Q v s')
    (hs : subscripted slice false (.ref a) key = operate [.ref a, key] (getItem (.ref a) key)) : wpAny (MM w) A (subscriptTail value slice (.ref a) key) Q E s :=
  tail_any (S.dict p).typeIs slot_dict_getitem.lookup (d_getItem S p hk hv h) hs
theorem d_set {Q : Unit → Shared → Prop} (S : St w σ B s own) (p : Pick (a, dcO w kvs) own own') (hk : NmV m key) (hz : kvs.length < 1000) (h : ∀ s', St w σ B s' ((a, dcO w (stored kvs m v)) :: own') → Q () s') : wpAny (MM w) A (setItem (.ref a) key v) Q E s :=
  wpAny_setItem_pairs (knd := nmKind w) (nmIs_iff.mpr hk) (S.dict p) (fun h' hd hs => h _ ((S.pick p).upd hs.extBut (Heap.dictOf_iff.mp hd))) (sz_ok hz)
theorem d_get {Q : Value → Shared → Prop} (S : St w σ B s own) (p : Pick (a, dcO w kvs) own own') (hk : NmV m key) (h : ∀ s', St w σ B s' own → Q ((valueAt kvs m).getD .none) s') : wpAny (MM w) A (call (.builtin "dict.get") [.ref a, key]) Q E s :=
  call_meetsIn F.slot_dict_get (S.dict p).typeIs F.entry_dict_get (F.args_dict_get_2 _ _) (meets_dict_get (nmKind w) a (nmIs_iff.mpr hk) (S.notSys p)) ⟨_, (S.dict p).mapOf, h _ (S.toks _)⟩
theorem nm_part (h : NmV m key) : (keyPart key).isSome = true := by cases m <;> (obtain ⟨t, rfl⟩ := h; rfl)
theorem d_pop {Q : Value → Shared → Prop} (S : St w σ B s own) (p : Pick (a, dcO w kvs) own own') (hk : NmV m key) (hv : valueAt kvs m = some v) (hz : kvs.length < 1000) (h : ∀ s', St w σ B s' ((a, dcO w (without kvs m)) :: own') → Q v s') : wpAny (MM w) A (call (.builtin "dict.pop") [.ref a, key]) Q E s :=
  call_meetsIn F.slot_dict_pop (S.dict p).typeIs F.entry_dict_pop (F.args_dict_pop_2 _ _) (meets_dict_pop_there (nmKind w) a (nmIs_iff.mpr hk) [] (.inl rfl) (nm_part hk)) ⟨_, _, S.dict p, sz_ok hz, hv, fun h' hd hs => h _ ((S.pick p).upd hs.extBut (Heap.dictOf_iff.mp hd))⟩
theorem m_get {pl : Sem Bool} {Q : Value × List Value → Shared → Prop} (S : St w σ B s own) (p : Pick (a, dcO w kvs) own own') (h : Q (.builtin "dict.get", [.ref a]) s) : wpAny (MM w) A (getMethod (.ref a) "get" pl) Q E s :=
  getMethod_builtin (T := "dict") (S.dict p).typeIs F.plainAttrs_dict F.slot_dict_get F.type_dict_get (S.dict p).mapOf.noDict h
theorem m_popD {pl : Sem Bool} {Q : Value × List Value → Shared → Prop} (S : St w σ B s own) (p : Pick (a, dcO w kvs) own own') (h : Q (.builtin "dict.pop", [.ref a]) s) : wpAny (MM w) A (getMethod (.ref a) "pop" pl) Q E s :=
  getMethod_builtin (T := "dict") (S.dict p).typeIs F.plainAttrs_dict F.slot_dict_pop F.type_dict_pop (S.dict p).mapOf.noDict h
theorem r_dict {pos : Pos} {Q : Value → Shared → Prop} (S : St w σ B s own) (h : ∀ a s', St w σ B s' ((a, dcO w []) :: own) → Q (.ref a) s') : wpAny (MM w) A (eval (.Dict [] [] pos) env) Q E s := by
  refine wpAny_Dict_empty ?_
  refine h s.heap.objs.size _ (S.grow1 (t := s.toks) (fun _ _ e => Heap.get?_push_of_some _ e) (get_size _) (Nat.le_refl _) (Heap.dictOf_iff.mp (Heap.DictOf.new s.heap)))
/-! sorted -/
theorem ints_nms {ns : List Int} : NmsAre xs (ns.map some) ↔ IntsAre xs ns := by
  constructor
  · intro h
    induction ns generalizing xs with
    | nil => cases h; exact .nil
    | cons n ns ih => cases h with | cons a b => obtain ⟨t, rfl⟩ := a; exact .cons n t (ih b)
  · intro h
    induction h with
    | nil => exact .nil
    | cons n t _ ih => exact .cons ⟨t, rfl⟩ ih
theorem k_sortI {ns : List Int} {Q : Value → Shared → Prop} (S : St w σ B s own) (hl : Lst s.heap a xs) (hi : NmsAre xs (ns.map some)) (hz : xs.length < 64) (h : ∀ c ys (ns' : List Int) s', NmsAre ys (ns'.map some) → ns'.Perm ns → ns'.Pairwise (· ≤ ·) → St w σ B s' ((c, lsO ys) :: own) → Q (.ref c) s') :
    wpAny (MM w) A (call (.builtin "sorted") [.ref a]) Q E s :=
  sorted_ints hl.is (ints_nms.mp hi) hz fun out ns' a1 a2 a3 => h _ out.toList ns' _ (ints_nms.mpr a1) a2 a3 (by
    obtain ⟨e, he⟩ := sortedAll_at s.heap xs out
    exact S.grow1 (t := s.toks) (fun _ _ e => sortedAll_old e) (by
      cases q : s.heap.get? (s.heap.objs.size + 1) with
      | none => rfl
      | some o => exact absurd (Nat.lt_of_succ_lt (Heap.lt_size q)) (Nat.lt_irrefl _)) (Nat.le_succ _) ⟨_, he, e, by simp [seqObj]⟩)
theorem nms_strs (h : NmsAre xs (List.replicate n none)) : StrsAre xs (List.replicate n "main.x") := by
  induction n generalizing xs with
  | zero => cases h; exact .nil
  | succ n ih => rw [List.replicate_succ] at h ⊢; cases h with | cons a b => obtain ⟨t, rfl⟩ := a; exact .cons _ t (ih b)
theorem strs_nms (h : StrsAre xs (List.replicate n "main.x")) : NmsAre xs (List.replicate n none) := by
  induction n generalizing xs with
  | zero => cases h; exact .nil
  | succ n ih => rw [List.replicate_succ] at h ⊢; cases h with | cons a t b => exact .cons ⟨t, rfl⟩ (ih b)
theorem k_sortS {n : Nat} {Q : Value → Shared → Prop} (S : St w σ B s own) (hl : Lst s.heap a xs) (hi : NmsAre xs (List.replicate n none)) (hz : xs.length < 64) (h : ∀ c ys s', NmsAre ys (List.replicate n none) → St w σ B s' ((c, lsO ys) :: own) → Q (.ref c) s') :
    wpAny (MM w) A (call (.builtin "sorted") [.ref a]) Q E s :=
  sorted_strs hl.is (nms_strs hi) hz fun out ss' a1 a2 a3 => h _ out.toList _ (strs_nms (by rw [List.perm_replicate.mp a2] at a1; exact a1)) (by
    obtain ⟨e, he⟩ := sortedAll_at s.heap xs out
    exact S.grow1 (t := s.toks) (fun _ _ e => sortedAll_old e) (by
      cases q : s.heap.get? (s.heap.objs.size + 1) with
      | none => rfl
      | some o => exact absurd (Nat.lt_of_succ_lt (Heap.lt_size q)) (Nat.lt_irrefl _)) (Nat.le_succ _) ⟨_, he, e, by simp [seqObj]⟩)
end
end
/-! W18 -/
noncomputable section
open PySem.SeqAt MeetsSeq
theorem bindL_of {kd : Str → Option NameKind} : ∀ {bs : List (Str × Value)} {m : Str → Option Value} {x : Str}, (bs.map (·.1)).Nodup → kd x = some .local → bindL kd bs m x = (bs.lookup x).or (m x)
  | [], m, x, _, _ => rfl
  | (n, v) :: r, m, x, nd, hk => by
    rw [bindL, bindL_of (List.nodup_cons.mp nd).2 hk, List.lookup_cons]
    by_cases e : x = n
    · subst e
      have hno : r.lookup x = none := by
        rw [List.lookup_eq_none_iff]
        intro p hp
        have : x ≠ p.1 := fun e => (List.nodup_cons.mp nd).1 (List.mem_map.mpr ⟨p, hp, e.symm⟩)
        simp [this]
      simp [hno, hk]
    · have h1 : (x == n) = false := beq_eq_false_iff_ne.mpr e
      rw [h1]
      split <;> simp [e]
theorem bindC_of {kd : Str → Option NameKind} : ∀ {bs : List (Str × Value)} {m : Str → Option Value} {x : Str}, (bs.map (·.1)).Nodup → kd x ≠ some .local → bindC kd bs m x = (bs.lookup x).or (m x)
  | [], m, x, _, _ => rfl
  | (n, v) :: r, m, x, nd, hk => by
    rw [bindC, bindC_of (List.nodup_cons.mp nd).2 hk, List.lookup_cons]
    by_cases e : x = n
    · subst e
      have hno : r.lookup x = none := by
        rw [List.lookup_eq_none_iff]
        intro p hp
        have : x ≠ p.1 := fun e => (List.nodup_cons.mp nd).1 (List.mem_map.mpr ⟨p, hp, e.symm⟩)
        simp [this]
      simp [hno, hk]
    · have h1 : (x == n) = false := beq_eq_false_iff_ne.mpr e
      rw [h1]
      split <;> simp [e]
def okFnC (fd : FuncData) (ps ls gl cn : List Str) : Bool :=
  fd.globals == mainGlobals && fd.builtins == builtinsNs && fd.scope.kind == .function && !fd.scope.isCoroutine && !fd.scope.isGenerator && fd.closure.isEmpty && ((cellsFrom 0 fd.scope.names []).map (·.1) == cn) &&
  decide (ps ++ ls).Nodup && (ps.all fun x => (fd.scope.names.lookup x == some .local || (fd.scope.names.lookup x == some .cell && cn.contains x)) && x != ("__debug__" : Str)) && (ls.all fun x => fd.scope.names.lookup x == some .local && x != ("__debug__" : Str)) &&
  (gl.all fun x => fd.scope.names.lookup x == some .globalImplicit && x != ("__debug__" : Str)) && (cn.all fun x => fd.scope.names.lookup x == some .cell && x != ("__debug__" : Str) && x != ("__classdict__" : Str)) && decide cn.Nodup
def mkLC (fd : FuncData) (ps : List Str) (vs : List Value) (ls : List Str) : List (Str × Option Value) := ((ps.zip vs).filter fun p => fd.scope.names.lookup p.1 == some .local).map (fun p => (p.1, some p.2)) ++ ls.map fun x => (x, none)
theorem cells_fst (names : List (Str × NameKind)) : ∀ (n m : Nat) (a b : List (Str × Addr)), a.map (·.1) = b.map (·.1) → (cellsFrom n names a).map (·.1) = (cellsFrom m names b).map (·.1) := by
  induction names with
  | nil => intro n m a b h; exact h
  | cons p r ih =>
    intro n m a b h
    obtain ⟨x, k⟩ := p
    unfold cellsFrom
    split
    · exact ih _ _ _ _ (by simp [h])
    · exact ih _ _ _ _ h
section
variable {w : World} {σ : Shared} {B B₀ : Heap} {s : Shared} {own own' rest : List Pt} {A : Around} {E : Value → Shared → Prop} {F : Value → Shared → Prop} {env : Env} {a b : Addr} {name : Str} {v : Value} {xs ys : List Value} {gl : List Str}
theorem St.growL (S : St w σ B s own) {h' : Heap} {t : Nat} {pts : List Pt} (he : s.heap.StaysIn h') (hz : s.heap.objs.size ≤ h'.objs.size) (hp : ∀ p ∈ pts, (∃ o, h'.get? p.1 = some o ∧ p.2 o) ∧ s.heap.objs.size ≤ p.1) (nd : (pts.map Prod.fst).Nodup) : St w σ B { s with heap := h', toks := t } (pts ++ own) := by
  have S' := S.grow (t := t) he hz
  have fr : ∀ a, s.heap.objs.size ≤ a → s.heap.get? a = none := fun a h => by
    cases q : s.heap.get? a with
    | none => rfl
    | some o => exact absurd (Nat.lt_of_lt_of_le (Heap.lt_size q) h) (Nat.lt_irrefl _)
  refine ⟨S'.pg, S'.rest, S'.base, S'.keep, S'.size, fun q hq => ?_, ?_⟩
  · rcases List.mem_append.mp hq with hq | hq
    · obtain ⟨a, b⟩ := hp q hq
      exact ⟨a, fresh_get S.keep (fr _ b), Nat.le_trans S.size b⟩
    · exact S'.has q hq
  · rw [List.map_append]
    refine List.nodup_append.mpr ⟨nd, S.nodup, fun x hx y hy e => ?_⟩
    subst e
    obtain ⟨p, hp', rfl⟩ := List.mem_map.mp hx
    obtain ⟨q, hq, e⟩ := List.mem_map.mp hy
    obtain ⟨⟨o, e', _⟩, _⟩ := S.has q hq
    rw [e, fr _ (hp p hp').2] at e'; cases e'
/-- a call of a def some of whose names stand in cells -/
theorem enterCRX {n : Nat} {fa : Addr} {fd : FuncData} {body : List Stmt} {ps ls cn : List Str} {vs : List Value} {R : Result → Shared → Prop} (Z : Rm A (n + 1)) (S : St w σ B s own)
    (hf : (K w.params).lookup fa = some ⟨.type "function", none, .func fd, #[]⟩) (hcd : codeIn (K w.params) fd.code fd.qualname = true) (hb : fd.body = .stmts body) (ok : okFnC fd ps ls gl cn = true)
    (hbind : bindArgs fd ⟨vs, []⟩ = pure (ps.zip vs)) (hlen : vs.length = ps.length)
    (h : ∀ env s' (cs : List Addr), cs.length = cn.length → Ev env gl (cn.zip cs) → env.code = fd.code → Rm (A.deeper env) n → St w σ B s' ((env.locals, frO env (mkLC fd ps vs ls)) :: ((cn.zip cs).map (fun p => (p.2, clO ((ps.zip vs).lookup p.1))) ++ own)) → wpAny (MM w) (A.deeper env) (execs body env) (Rt fun v s => R (.ok (.ret v)) s) (fun _ _ => False) s') :
    codeAny (MM w) A (.call (.ref fa) ⟨vs, []⟩) R s := by
  simp only [okFnC, Bool.and_eq_true, beq_iff_eq, Bool.not_eq_true', List.all_eq_true, bne_iff_ne, decide_eq_true_eq, Bool.or_eq_true, List.isEmpty_iff] at ok
  obtain ⟨⟨⟨⟨⟨⟨⟨⟨⟨⟨⟨⟨k1, k2⟩, k3⟩, k4⟩, k5⟩, k6⟩, k7⟩, k8⟩, k9⟩, k10⟩, k11⟩, k12⟩, k13⟩ := ok
  have nd := (List.nodup_append.mp k8).1
  have cf : ∀ m, (cellsFrom m fd.scope.names []).map (·.1) = cn := fun m => (cells_fst fd.scope.names m 0 [] [] rfl).trans k7
  have hzip : (ps.zip vs).map (·.1) = ps := List.map_fst_zip (Nat.le_of_eq hlen.symm)
  have hmem : ∀ x ∈ ps.zip vs, x.1 ∈ ps := fun x hx => (List.of_mem_zip hx).1
  refine codeAny_call_cells Z.depth (S.inK _ _ hf) rfl S.nolimit (codeRec_of S.inK hcd) hb hbind k6 (fun x hx => ?_) (fun s₁ X => ?_) k4 k5 k3
  · rcases (k9 x.1 (hmem x hx)).1 with z | ⟨z, zc⟩
    · exact .inl z
    · refine .inr ⟨z, ?_⟩
      have : x.1 ∈ (cellsFrom (s.heap.objs.size + 1) fd.scope.names []).map (·.1) := by rw [cf]; exact List.contains_iff_mem.mp zc
      obtain ⟨q, hq, e⟩ := List.mem_map.mp this
      rw [lookup_mem (c := q.2) (by rw [show Prod.fst = (fun p : Str × Addr => p.1) from rfl, cf]; exact k13) (e ▸ hq)]
      rfl
  · generalize hL : s.heap.objs.size = L at X
    have eL : (callEnvC fd L fa).locals = L := rfl
    have hcells : (callEnvC fd L fa).cells = cellsFrom (L + 1) fd.scope.names [] := rfl
    have hcn := cf (L + 1)
    generalize hC : cellsFrom (L + 1) fd.scope.names [] = C at hcells hcn
    have hzc : cn.zip (C.map (·.2)) = C := by
      rw [← hcn]
      clear hcells hcn hC X
      induction C with
      | nil => rfl
      | cons p r ih => simp [ih]
    have ndC : (C.map Prod.fst).Nodup := by rw [show C.map Prod.fst = cn from hcn]; exact k13
    have V : Ev (callEnvC fd L fa) gl C := by
      refine ⟨k1, k2, k3, fun x hx => ⟨(k11 x hx).1, beq_eq_false_iff_ne.mpr (k11 x hx).2⟩, fun p hp => ?_⟩
      have hp1 : p.1 ∈ cn := hcn ▸ List.mem_map_of_mem hp
      have z := k12 p.1 hp1
      refine ⟨.inl z.1.1, ⟨beq_eq_false_iff_ne.mpr z.1.2, beq_eq_false_iff_ne.mpr z.2⟩, ?_⟩
      rw [hcells]
      exact lookup_mem ndC hp
    have look : ∀ {x : Str} {v : Value}, (x, v) ∈ ps.zip vs → (ps.zip vs).lookup x = some v := fun {x v} hm => lookup_mem (by rw [show (ps.zip vs).map Prod.fst = ps from hzip]; exact nd) hm
    have nol : ∀ {x : Str}, x ∉ ps → (ps.zip vs).lookup x = none := fun {x} hx => by
      rw [List.lookup_eq_none_iff]
      intro p hp
      have hne : x ≠ p.1 := fun e => hx (e ▸ hmem p hp)
      simp [hne]
    have fo : ∃ o, s₁.heap.get? L = some o ∧ frO (callEnvC fd L fa) (mkLC fd ps vs ls) o := by
      refine frO.of (a := L) X.toInCall.ns (fun p hp => ?_) ?_ fun p hp => ?_
      · rcases List.mem_append.mp hp with hp | hp
        · obtain ⟨q, hq, rfl⟩ := List.mem_map.mp hp
          obtain ⟨hq, hk⟩ := List.mem_filter.mp hq
          rw [bindL_of (by rw [hzip]; exact nd) (beq_iff_eq.mp hk), look (x := q.1) (v := q.2) hq]; rfl
        · obtain ⟨x, hx, rfl⟩ := List.mem_map.mp hp
          rw [bindL_of (by rw [hzip]; exact nd) (k10 x hx).1, nol fun hm => (List.nodup_append.mp k8).2.2 x hm x hx rfl]; rfl
      · unfold mkLC
        rw [List.map_append, List.map_map, List.map_map]
        refine List.nodup_append.mpr ⟨?_, by simpa [Function.comp_def] using (List.nodup_append.mp k8).2.1, fun x hx y hy e => ?_⟩
        · have : ((fun x : Str × Option Value => x.1) ∘ fun p : Str × Value => (p.1, some p.2)) = fun p => p.1 := rfl
          rw [this]
          exact ((List.filter_sublist).map _).nodup (by rw [hzip]; exact nd)
        · subst e
          obtain ⟨q, hq, rfl⟩ := List.mem_map.mp hx
          obtain ⟨z, hz, e⟩ := List.mem_map.mp hy
          have e : z = q.1 := e
          exact (List.nodup_append.mp k8).2.2 q.1 (hmem q (List.mem_filter.mp hq).1) z hz e.symm
      · rcases List.mem_append.mp hp with hp | hp
        · obtain ⟨q, hq, rfl⟩ := List.mem_map.mp hp
          obtain ⟨hq, hk⟩ := List.mem_filter.mp hq
          exact ⟨beq_iff_eq.mp hk, beq_eq_false_iff_ne.mpr (k9 q.1 (hmem q hq)).2⟩
        · obtain ⟨x, hx, rfl⟩ := List.mem_map.mp hp
          exact ⟨(k10 x hx).1, beq_eq_false_iff_ne.mpr (k10 x hx).2⟩
    obtain ⟨h₁, tk, rfl, _⟩ := X.done
    have S₁ := S.growL (h' := h₁) (t := tk) (pts := (L, frO (callEnvC fd L fa) (mkLC fd ps vs ls)) :: C.map fun p => (p.2, clO ((ps.zip vs).lookup p.1))) X.toInCall.keep (hL ▸ Nat.le_of_lt (let ⟨o, e, _⟩ := fo; Heap.lt_size e)) (fun p hp => ?_) ?_
    · have := h (callEnvC fd L fa) _ (C.map (·.2)) (by rw [List.length_map, ← hcn, List.length_map]) (by rw [hzc]; exact V) rfl (Z.deeper _) (by rw [hzc]; exact S₁)
      exact wpAny_mono this (fun f s' x => x) fun _ _ x => x.elim
    · rcases List.mem_cons.mp hp with rfl | hp
      · exact ⟨fo, Nat.le_of_eq hL⟩
      · obtain ⟨q, hq, rfl⟩ := List.mem_map.mp hp
        have z := k12 q.1 (hcn ▸ List.mem_map_of_mem hq)
        have hlk : (callEnvC fd L fa).cells.lookup q.1 = some q.2 := by rw [hcells]; exact lookup_mem ndC hq
        obtain ⟨o, ho, hd⟩ := X.cell q.1 q.2 hlk
        refine ⟨⟨o, ho, ?_⟩, ?_⟩
        · show o.data = .cell ((ps.zip vs).lookup q.1)
          rw [hd, bindC_of (by rw [hzip]; exact nd) (show fd.scope.names.lookup q.1 ≠ _ by rw [z.1.1]; decide)]
          cases (ps.zip vs).lookup q.1 <;> rfl
        · have := X.above q.1 q.2 (by rw [hcells]; exact hq)
          exact Nat.le_of_lt (hL ▸ this)
    · rw [List.map_cons, List.map_map]
      refine List.nodup_cons.mpr ⟨fun hm => ?_, ?_⟩
      · obtain ⟨q, hq, e⟩ := List.mem_map.mp hm
        have := X.above q.1 q.2 (by rw [hcells]; exact hq)
        have e : q.2 = L := e
        rw [e] at this
        exact absurd this (Nat.lt_irrefl _)
      · have ap := X.apart
        rw [hcells] at ap
        exact List.pairwise_map.mpr ap
theorem enterCR {n : Nat} {fa : Addr} {fd : FuncData} {body : List Stmt} {ps ls cn : List Str} {vs : List Value} {R : Result → Shared → Prop} (Z : Rm A (n + 1)) (S : St w σ B s own)
    (hf : (K w.params).lookup fa = some ⟨.type "function", none, .func fd, #[]⟩) (hcd : codeIn (K w.params) fd.code fd.qualname = true) (hb : fd.body = .stmts body) (ok : okFnC fd ps ls gl cn = true)
    (hbind : bindArgs fd ⟨vs, []⟩ = pure (ps.zip vs)) (hlen : vs.length = ps.length)
    (h : ∀ env s' (cs : List Addr), cs.length = cn.length → Ev env gl (cn.zip cs) → Rm (A.deeper env) n → St w σ B s' ((env.locals, frO env (mkLC fd ps vs ls)) :: ((cn.zip cs).map (fun p => (p.2, clO ((ps.zip vs).lookup p.1))) ++ own)) → wpAny (MM w) (A.deeper env) (execs body env) (Rt fun v s => R (.ok (.ret v)) s) (fun _ _ => False) s') :
    codeAny (MM w) A (.call (.ref fa) ⟨vs, []⟩) R s :=
  enterCRX Z S hf hcd hb ok hbind hlen fun env s' cs hcs V _ Z S => h env s' cs hcs V Z S
theorem enterC {n : Nat} {fa : Addr} {fd : FuncData} {body : List Stmt} {ps ls cn : List Str} {vs : List Value} {Q : Value → Shared → Prop} (Z : Rm A (n + 1)) (S : St w σ B s own)
    (hf : (K w.params).lookup fa = some ⟨.type "function", none, .func fd, #[]⟩) (hcd : codeIn (K w.params) fd.code fd.qualname = true) (hb : fd.body = .stmts body) (ok : okFnC fd ps ls gl cn = true)
    (hbind : bindArgs fd ⟨vs, []⟩ = pure (ps.zip vs)) (hlen : vs.length = ps.length)
    (h : ∀ env s' (cs : List Addr), cs.length = cn.length → Ev env gl (cn.zip cs) → Rm (A.deeper env) n → St w σ B s' ((env.locals, frO env (mkLC fd ps vs ls)) :: ((cn.zip cs).map (fun p => (p.2, clO ((ps.zip vs).lookup p.1))) ++ own)) → wpAny (MM w) (A.deeper env) (execs body env) (Rt Q) (fun _ _ => False) s') :
    wpAny (MM w) A (call (.ref fa) vs) Q E s := wpAny_call (enterCR Z S hf hcd hb ok hbind hlen h)
theorem enterCX {n : Nat} {fa : Addr} {fd : FuncData} {body : List Stmt} {ps ls cn : List Str} {vs : List Value} {Q : Value → Shared → Prop} (Z : Rm A (n + 1)) (S : St w σ B s own)
    (hf : (K w.params).lookup fa = some ⟨.type "function", none, .func fd, #[]⟩) (hcd : codeIn (K w.params) fd.code fd.qualname = true) (hb : fd.body = .stmts body) (ok : okFnC fd ps ls gl cn = true)
    (hbind : bindArgs fd ⟨vs, []⟩ = pure (ps.zip vs)) (hlen : vs.length = ps.length)
    (h : ∀ env s' (cs : List Addr), cs.length = cn.length → Ev env gl (cn.zip cs) → env.code = fd.code → Rm (A.deeper env) n → St w σ B s' ((env.locals, frO env (mkLC fd ps vs ls)) :: ((cn.zip cs).map (fun p => (p.2, clO ((ps.zip vs).lookup p.1))) ++ own)) → wpAny (MM w) (A.deeper env) (execs body env) (Rt Q) (fun _ _ => False) s') :
    wpAny (MM w) A (call (.ref fa) vs) Q E s := wpAny_call (enterCRX Z S hf hcd hb ok hbind hlen h)
/-- a name that stands in a cell gets a value -/
theorem r_storeC {x : Str} {c : Addr} {v₀ : Option Value} {cl : List (Str × Addr)} {Q : Unit → Shared → Prop} (S : St w σ B s own) (V : Ev env gl cl) (hx : Has (x, c) cl) (hk : env.kindOf x = some .cell) (p : Pick (c, clO v₀) own own') (h : ∀ s', St w σ B s' ((c, clO (some v)) :: own') → Q () s') :
    wpAny (MM w) A (storeName env x v) Q E s := by
  obtain ⟨o, ho, f⟩ := (S.pick p).at_
  refine wpAny_storeName_cell V.kind hk (V.cl _ hx.mem).2.2 ⟨o, ho, f⟩ fun h' hc hs => h _ ((S.pick p).upd hs.extBut ?_)
  obtain ⟨o', e, d⟩ := hc
  exact ⟨o', e, d⟩
/-! numbers in a row -/
theorem range_size {n : Nat} : Builtin.Range.rangeSize 0 n 1 = n := by
  unfold Builtin.Range.rangeSize
  simp only [show (1 : Int) > 0 by decide, if_true]
  split <;> omega
theorem range_small {n : Nat} (h : n < 1000) : Builtin.Range.small 0 n 1 = true := by
  unfold Builtin.Range.small
  rw [range_size]
  unfold Builtin.Range.rangeFitsLong
  simp only [show (1 : Int) > 0 by decide, if_true, Bool.and_eq_true, Bool.or_eq_true, decide_eq_true_eq]
  refine ⟨⟨⟨⟨?_, ?_⟩, ?_⟩, ?_⟩, .inr ?_⟩ <;> omega
def rgO (n : Nat) (o : Obj) : Prop := ∃ t u v, o = { cls := .type "range", data := .fields #[.int 0 t, .int n u, .int 1 v] }
theorem k_range1 {n : Nat} {t : Tok} {Q : Value → Shared → Prop} (S : St w σ B s own) (h : ∀ r s', St w σ B s' ((r, rgO n) :: own) → Q (.ref r) s') : wpAny (MM w) A (call (.type "range") [.int n t]) Q E s :=
  call_range_1 (h _ _ (S.push (t := s.toks + 1 + 1) rfl ⟨_, _, _, rfl⟩))
theorem k_range2 {n : Nat} {t u : Tok} {Q : Value → Shared → Prop} (S : St w σ B s own) (h : ∀ r s', St w σ B s' ((r, rgO n) :: own) → Q (.ref r) s') : wpAny (MM w) A (call (.type "range") [.int 0 t, .int n u]) Q E s :=
  call_range_2 (h _ _ (S.push (t := s.toks + 1) rfl ⟨_, _, _, rfl⟩))
theorem it_range {r : Addr} {n : Nat} {Q : Value → Shared → Prop} (hh : A.handled = none) (S : St w σ B s own) (p : Pick (r, rgO n) own own') (hn : n < 1000) (h : ∀ I Fi s', It w A I n (fun i v => ∃ t, v = .int i t) Fi B → St w σ B s' ((I, Fi 0) :: own') → Q (.ref I) s') : wpAny (MM w) A (pyIter (.ref r)) Q E s := by
  obtain ⟨o, ho, t, u, v, rfl⟩ := (S.pick p).at_
  refine wpAny_pyIter_range (t := t) (u := u) (v := v) ho (range_small hn) ?_
  rw [range_size]
  refine h s.heap.objs.size (fun i o => o = { cls := .type "range_iterator", data := .fields #[rawInt ((0 : Int) + (i : Nat) * 1), rawInt ((n : Int) - (i : Nat)), rawInt 1] }) _ ?_ (St.push (t := s.toks) (S.pick p).drop rfl (by simp))
  have hw := Walks.range (prog := pw) (w := w) (A := A) hh s.heap.objs.size 0 1 n
  have e2 : (fun (i : Nat) (v : Value) => ∃ t, v = Value.int (0 + i * 1) t) = fun i v => ∃ t, v = .int i t := by funext i v; simp
  rw [e2] at hw
  exact {
    item := fun {i σ B s own own' Q E} hi k S p h => by
      obtain ⟨o, ho, rfl⟩ := (S.pick p).at_
      refine hw.item i s _ _ hi ho fun v h' tk hP hW hk => h v _ hP ?_
      exact (S.pick p).upd (fun b o hb e => hk b o (by simpa using hb) e) ⟨_, hW, rfl⟩
    done := fun {σ B s own own' Q E} k S p ne h => by
      obtain ⟨o, ho, rfl⟩ := (S.pick p).at_
      refine hw.done s _ _ ho fun h' tk hk => h _ ?_
      have S₁ := S.pick p
      have hn := List.nodup_cons.mp S₁.nodup
      have hI := S₁.has _ (.head _)
      have S₂ := S₁.drop
      have keep : ∀ b o, b ≠ _ → s.heap.get? b = some o → h'.get? b = some o := fun b o hb e => hk b o (by simpa using hb) e
      refine ⟨S.pg, let ⟨h, _, e⟩ := S.rest; ⟨h', tk, by rw [e]⟩, S.base, fun b o e => keep b o (fun q => ?_) (S.keep b o e), ?_, fun q hq => ?_, S₂.nodup⟩
      · subst q; rw [hI.2.1] at e; cases e
      · obtain ⟨q, hm⟩ := List.exists_mem_of_ne_nil _ ne
        obtain ⟨⟨o, e, _⟩, _, z⟩ := S₂.has q hm
        have hq : q.1 ≠ _ := fun z => hn.1 (List.mem_map.mpr ⟨q, hm, z⟩)
        exact Nat.le_of_lt (Nat.lt_of_le_of_lt z (Heap.lt_size (keep _ _ hq e)))
      · obtain ⟨⟨o, e, x⟩, r⟩ := S₂.has q hq
        exact ⟨⟨o, keep _ _ (fun z => hn.1 (List.mem_map.mpr ⟨q, hq, z⟩)) e, x⟩, r⟩
    self := fun {i σ B s own own' Q E} k S p h => by
      obtain ⟨o, ho, rfl⟩ := (S.pick p).at_
      exact hw.self i s _ _ ho h
    go := fun {i σ B s own own' Q E} target v S p h => by
      obtain ⟨o, ho, rfl⟩ := (S.pick p).at_
      exact go_of ho rfl rfl (by decide) h }
/-- a map's keys, sorted -/
theorem k_sortD {kvs : List (Nm × Value)} {q : Pt} {ns : List Int} {Q : Value → Shared → Prop} (hh : A.handled = none) (S : St w σ B s own) (p : Pick (a, dcO w kvs) own own') (hk : kvs.map (·.1) = ns.map some) (hz : ns.length < 64)
    (h : ∀ c ys (ns' : List Int) s', NmsAre ys (ns'.map some) → ns'.Perm ns → ns'.Pairwise (· ≤ ·) → St w σ B s' ((c, lsO ys) :: own) → Q (.ref c) s') :
    wpAny (MM w) A (call (.builtin "sorted") [.ref a]) Q E s := by
  obtain ⟨ep, hd⟩ := (S.dict p).dictAt
  have hlen : kvs.length = ns.length := by have := congrArg List.length hk; simpa using this
  refine Calls.call_function_entry kind_sorted plain_sorted entry_sorted (args_sorted1 _) ?_
  unfold Builtin.«sorted»
  refine wpAny_bind (m := checkCount "sorted" 1 1 _) (wpAny_pure ?_)
  refine wpAny_bind (kdu_collect (A := A.in1) (kdl_dict (knd := nmKind w) (kvs := kvs) (ep := ep) (S.notSys p)) hh hd (by rw [hlen, sizeLine_eq]; omega) fun h' tk acc hk' hacc => ?_)
  have hl : acc.toList.length = kvs.length := by rw [Array.length_toList]; exact hacc.1
  have hi : IntsAre acc.toList ns := by
    refine ints_nms.mp ?_
    rw [← hk]
    have hat : ∀ j v, acc.toList[j]? = some v → ∃ k x, kvs[j]? = some (k, x) ∧ NmV k v := fun j v e => by
      obtain ⟨k, x, e1, e2⟩ := hacc.2 j v (by rw [← Array.getElem?_toList]; exact e)
      exact ⟨k, x, e1, nmIs_iff.mp e2⟩
    have hlen2 := hlen
    clear hacc hk hd S p hlen hlen2
    generalize acc.toList = l at hl hat
    induction l generalizing kvs with
    | nil => cases kvs with | nil => exact .nil | cons _ _ => simp at hl
    | cons v l ih =>
      cases kvs with
      | nil => simp at hl
      | cons kv kvs =>
        obtain ⟨k, x, e1, e2⟩ := hat 0 v rfl
        simp at e1
        subst e1
        exact .cons e2 (ih (by simpa using hl) fun j v e => hat (j + 1) v e)
  have S₁ := S.ext (t := tk) p hk'
  refine wpAny_bind (wpAny_newList ?_ (by rw [hl, hlen, sizeLine_eq]; omega))
  have S₂ := S₁.push (t := tk) (o := seqObj "list" acc.toList.toArray 0) (P := fun o => o = seqObj "list" acc.toList.toArray 0) rfl rfl
  have ho : (h'.push (seqObj "list" acc.toList.toArray 0)).get? h'.objs.size = some (seqObj "list" acc.toList.toArray 0) := Heap.get?_push_size _ rfl
  refine wpAny_bind (wpAny_holding (wpAny_call_entry slot_list_sort ⟨_, ho, rfl⟩ entry_list_sort (list_sort_tree ho hi (by rw [hl, hlen]; exact hz) fun out ns' a1 a2 a3 => ⟨_, rfl, ?_⟩) (args_list_sort _)))
  refine wpAny_pure ⟨_, rfl, ?_⟩
  refine h _ out.toList ns' _ (ints_nms.mpr a1) a2 a3 ?_
  obtain ⟨e, he⟩ := sortedHeap_at (out := out) ho
  refine S₂.upd (t := tk) (fun b o hb e => ?_) ⟨_, he, e, by simp [seqObj]⟩
  rw [sortedHeap_old hb (Heap.lt_size e)]
  exact e
end
theorem bt {P Q : Prop} (h : P) : (true = true → P) ∧ (true = false → Q) := ⟨fun _ => h, fun e => by cases e⟩
theorem bf {P Q : Prop} (h : Q) : (false = true → P) ∧ (false = false → Q) := ⟨fun e => by (cases e), fun _ => h⟩
theorem bnt {P Q : Prop} (h : Q) : ((!true) = true → P) ∧ ((!true) = false → Q) := ⟨fun e => by (cases e), fun _ => h⟩
theorem bnf {P Q : Prop} (h : P) : ((!false) = true → P) ∧ ((!false) = false → Q) := ⟨fun _ => h, fun e => by cases e⟩
theorem seq0 (n : Nat) : seqIndex? 0 (n + 1) = some 0 := by unfold seqIndex?; simp
theorem seq1 (n : Nat) : seqIndex? 1 (n + 1 + 1) = some 1 := by
  unfold seqIndex?
  simp
  omega
section
variable {w : World} {s : Shared} {A : Around} {E : Value → Shared → Prop} {env : Env} {a : Value} {pos : Pos} {e : Expr} {rest : List Expr} {Q : Value → Shared → Prop}
theorem cw0 {id : String} (h : wpAny (MM w) A (call (.builtin id) [a]) Q E s) : wpAny (MM w) A (callWith pos (.builtin id) [a] (backTo pos (starEach [] env)) []) Q E s := callWith_method0 h
theorem cw1 {id : String} (h : wpAny (MM w) A (spliced (backTo pos (starEach (e :: rest) env))) (fun vs s₁ => wpAny (MM w) A (call (.builtin id) (a :: vs)) Q E s₁) E s) (he : starEach (e :: rest) env = (false, eval e env) :: starEach rest env := by rfl)
    (hplain : (backTo pos (starEach rest env)).any (·.1) = false := by rfl) : wpAny (MM w) A (callWith pos (.builtin id) [a] (backTo pos (starEach (e :: rest) env)) []) Q E s := callWith_method1 h he hplain
theorem cwK {f : Addr} (X : (K w.params).In s.heap) (hk : keepIn (K w.params) (.ref f) = true) (h : wpAny (MM w) A (spliced (backTo pos (starEach (e :: rest) env))) (fun vs s₁ => KI w s₁ ∧ wpAny (MM w) A (call (.ref f) (a :: vs)) Q E s₁) E s)
    (he : starEach (e :: rest) env = (false, eval e env) :: starEach rest env := by rfl) (hplain : (backTo pos (starEach rest env)).any (·.1) = false := by rfl) : wpAny (MM w) A (callWith pos (.ref f) [a] (backTo pos (starEach (e :: rest) env)) []) Q E s :=
  callWith_K (h₀ := s.heap) X hk h he hplain
theorem cwK0 {f : Addr} (X : (K w.params).In s.heap) (hk : keepIn (K w.params) (.ref f) = true) (h : wpAny (MM w) A (call (.ref f) [a]) Q E s) : wpAny (MM w) A (callWith pos (.ref f) [a] (backTo pos (starEach [] env)) []) Q E s := callWith_K0 X hk h
end
theorem st_trans {B B' B'' : Heap} (a : B.StaysIn B') (b : B'.StaysIn B'') : B.StaysIn B'' := fun x o e => b x o (a x o e)
section
variable {w : World} {σ : Shared} {B : Heap} {s : Shared} {own own' : List Pt} {A : Around} {E : Value → Shared → Prop} {env : Env} {a : Addr} {v : Value} {xs : List Value} {m : Nm} {Q : Value → Shared → Prop}
theorem i_nmT (S : St w σ B s own) (hm : NmV m v) (h : ∀ s', St w σ B s' own → Q (.bool false) s') : wpAny (MM w) A (call (.builtin "isinstance") [v, .type "tuple"]) Q E s := by
  cases m with
  | some n => obtain ⟨t, rfl⟩ := hm; exact i_int S (k_it _) h
  | none => obtain ⟨t, rfl⟩ := hm; exact i_str S (k_st _) h
theorem neg_one {k : Nat} {p1 p2 : Pos} {s : Shared} {Q : Value → Shared → Prop} (h : ∀ t u s', s' = { s with toks := u } → Q (.int (-1) t) s') : wpAny (MM w) A (eval (.UnaryOp .USub (.Constant (.int 1) k p1) p2) env) Q E s := by
  exact wpAny_UnaryOp (wpAny_Constant_int (h := neg_int (h _ _ _ rfl)))
theorem rev_end {Q : Addr → Shared → Prop} (S : St w σ B s own) (hl : Lst s.heap a xs) (hz : xs.length < 1000) (h : ∀ c s', St w σ B s' ((c, lsO xs.reverse) :: own) → Q c s') :
    ∃ σ₁ B₁ own₁ l xs, Value.ref a = .ref l ∧ St w σ₁ B₁ s own₁ ∧ Lst s.heap l xs ∧ xs.length < 1000 ∧ ∀ c s', St w σ₁ B₁ s' ((c, lsO xs.reverse) :: own₁) → Q c s' := ⟨_, _, _, _, _, rfl, S, hl, hz, h⟩
theorem upto_end {Q : Addr → Shared → Prop} {k : Int} {t : Tok} (S : St w σ B s own) (hl : Lst s.heap a xs) (hz : xs.length < 1000) (h0 : 0 ≤ k) (h : ∀ c s', St w σ B s' ((c, lsO (xs.take k.toNat)) :: own) → Q c s') :
    ∃ σ₁ B₁ own₁ l xs k' t', Value.ref a = .ref l ∧ Value.int k t = .int k' t' ∧ 0 ≤ k' ∧ St w σ₁ B₁ s own₁ ∧ Lst s.heap l xs ∧ xs.length < 1000 ∧ ∀ c s', St w σ₁ B₁ s' ((c, lsO (xs.take k'.toNat)) :: own₁) → Q c s' := ⟨_, _, _, _, _, _, _, rfl, rfl, h0, S, hl, hz, h⟩
end
theorem ki_in {w : World} {σ : Shared} {B : Heap} {s : Shared} {own : List Pt} {P : Prop} (S : St w σ B s own) (h : P) : KI w s ∧ P := ⟨S.inK, h⟩
theorem r_bytes {w : World} {σ : Shared} {B : Heap} {s : Shared} {own : List Pt} {A : Around} {E : Value → Shared → Prop} {env : Env} {b : List UInt8} {k : Nat} {pos : Pos} {Q : Value → Shared → Prop} (S : St w σ B s own) (h : ∀ t s', St w σ B s' own → Q (.bytes b.toArray t) s') :
    wpAny (MM w) A (eval (.Constant (.bytes b) k pos) env) Q E s := by
  show wpAny (MM w) A (do standAt pos; mkTextBytes b.toArray) Q E s
  exact wpAny_bind (wpAny_standAt (wpAny_mkTextBytes (h _ _ (S.toks _))))
end
/-! W19 -/
noncomputable section
section
variable {w : World} {σ : Shared} {B B₀ : Heap} {s : Shared} {own own' rest : List Pt} {A : Around} {E : Value → Shared → Prop} {F : Value → Shared → Prop} {env : Env} {I : Addr} {n : Nat} {Pi : Nat → Value → Prop} {Fi : Nat → Obj → Prop} {N : Shared → Prop} {R : Flow → Shared → Prop} {gl gl' : List Str} {cl cs : List (Str × Addr)}
theorem for_in {X : Type} (fixed : X → List Pt) (P : Nat → X → Heap → Prop) (x₀ : X) {target : Expr} {body : List Stmt} (W : It w A I n Pi Fi B₀) (k : B₀.StaysIn B) (S : St w σ B s ((I, Fi 0) :: fixed x₀)) (h0 : P 0 x₀ B) (ne : ∀ x, fixed x ≠ [])
    (turn : ∀ i v x B s, i < n → Pi i v → B₀.StaysIn B → P i x B → St w σ B s ((I, Fi (i + 1)) :: fixed x) → wpAny (MM w) A (assign target env v) (fun _ s' => wpAny (MM w) A (execs body env)
      (Lp (fun s₃ => ∃ x' B', B₀.StaysIn B' ∧ P (i + 1) x' B' ∧ St w σ B' s₃ ((I, Fi (i + 1)) :: fixed x')) N R) Fls s') Fls s)
    (fin : ∀ x B s, B₀.StaysIn B → P n x B → St w σ B s (fixed x) → N s) :
    ∃ I' n P Fi B₀ σ B own, ∃ J : Nat → Heap → List Pt → Prop, Value.ref I = .ref I' ∧ It w A I' n P Fi B₀ ∧ B₀.StaysIn B ∧ St w σ B s ((I', Fi 0) :: own) ∧ J 0 B own ∧
      (∀ i v B own s, i < n → P i v → B₀.StaysIn B → J i B own → St w σ B s ((I', Fi (i + 1)) :: own) → wpAny (MM w) A (assign target env v) (fun _ s' => wpAny (MM w) A (execs body env)
        (Lp (fun s₃ => ∃ B' own' own'', B₀.StaysIn B' ∧ St w σ B' s₃ own'' ∧ Pick (I', Fi (i + 1)) own'' own' ∧ J (i + 1) B' own') N R) Fls s') Fls s) ∧
      (∀ B own, J n B own → own ≠ []) ∧
      (∀ B own s, B₀.StaysIn B → J n B own → St w σ B s own → N s) :=
  ⟨I, n, Pi, Fi, B₀, σ, B, fixed x₀, fun i B own => ∃ x, P i x B ∧ own = fixed x, rfl, W, k, S, ⟨x₀, h0, rfl⟩,
    fun i v B own s hi hv hB ⟨x, hP, e⟩ S => wpAny_mono (turn i v x B s hi hv hB hP (e ▸ S)) (fun _ s' z => wpAny_mono z (fun f s₃ z => by
      have step : (∃ x' B', B₀.StaysIn B' ∧ P (i + 1) x' B' ∧ St w σ B' s₃ ((I, Fi (i + 1)) :: fixed x')) → ∃ B' own' own'', B₀.StaysIn B' ∧ St w σ B' s₃ own'' ∧ Pick (I, Fi (i + 1)) own'' own' ∧ ∃ x, P (i + 1) x B' ∧ own' = fixed x :=
        fun ⟨x', B', a, b, c⟩ => ⟨B', fixed x', _, a, c, .head, x', b, rfl⟩
      cases f <;> first | exact step z | exact z) fun _ _ z => z) fun _ _ z => z,
    fun B own ⟨x, _, e⟩ => e ▸ ne x, fun B own s hB ⟨x, hP, e⟩ S => fin x B s hB hP (e ▸ S)⟩
theorem comp_in {ls : List Str} {target elt : Expr} {ifs : List Expr} {own₀ : List Pt} {Fin : Shared → Heap → Addr → Env → List (Option Value) → List Value → List Pt → Shared → Prop} (fixed : List Pt) (P : Nat → List Value → Heap → Prop) (W : It w A I n Pi Fi B₀) (k : B₀.StaysIn B) (S : St w σ B s ((I, Fi 0) :: fixed)) (hn : n < 1000) (h0 : P 0 [] B)
    (turn : ∀ cenv D i v ys B s us, Ev cenv gl' cs → i < n → Pi i v → B₀.StaysIn B → P i ys B → us.length = ls.length → St w σ B s ((cenv.locals, frO cenv (ls.zip us)) :: (D, lsO ys) :: (I, Fi (i + 1)) :: fixed) →
      wpAny (MM w) A (assign target cenv v) (fun _ s' => wpAny (MM w) A (tests ifs cenv) (fun ok s₃ =>
        (ok = true → wpAny (MM w) A (eval elt cenv) (fun y s₄ => ∃ B' us', B₀.StaysIn B' ∧ us'.length = ls.length ∧ P (i + 1) (ys ++ [y]) B' ∧ St w σ B' s₄ ((cenv.locals, frO cenv (ls.zip us')) :: (D, lsO ys) :: (I, Fi (i + 1)) :: fixed)) Fls s₃) ∧
        (ok = false → ∃ B' us', B₀.StaysIn B' ∧ us'.length = ls.length ∧ P (i + 1) ys B' ∧ St w σ B' s₃ ((cenv.locals, frO cenv (ls.zip us')) :: (D, lsO ys) :: (I, Fi (i + 1)) :: fixed))) Fls s') Fls s)
    (fin : ∀ ys B D cenv us s, P n ys B → B₀.StaysIn B → us.length = ls.length → St w σ B s ((cenv.locals, frO cenv (ls.zip us)) :: (D, lsO ys) :: fixed) → Fin σ B D cenv us ys fixed s) :
    CompOk w A cs gl' ls target elt ifs own₀ Fin (.ref I) s := by
  refine ⟨I, n, Pi, Fi, B₀, σ, B, fixed, fun i ys B own => P i ys B ∧ own = fixed, rfl, W, k, S, hn, ⟨h0, rfl⟩, fun cenv D i v ys B own s us V hi hv hB hP hu S₂ => ?_, fun ys B own D cenv us s hP hB hu S₂ => ?_⟩
  · obtain ⟨hP, rfl⟩ := hP
    refine wpAny_mono (turn cenv D i v ys B s us V hi hv hB hP hu S₂) (fun _ s' z => wpAny_mono z (fun ok s₃ z => ⟨fun e => wpAny_mono (z.1 e) (fun y s₄ z => ?_) fun _ _ z => z, fun e => ?_⟩) fun _ _ z => z) fun _ _ z => z
    · obtain ⟨B', us', a, b, c, d⟩ := z
      exact ⟨B', us', _, _, a, b, d, .cons .head (.cons .head (.cons .head .nil)), c, rfl⟩
    · obtain ⟨B', us', a, b, c, d⟩ := z.2 e
      exact ⟨B', us', _, _, a, b, d, .cons .head (.cons .head (.cons .head .nil)), c, rfl⟩
  · obtain ⟨hP, rfl⟩ := hP
    exact fin ys B D cenv us s hP hB hu S₂
theorem sw_comp {elt : Expr} {gens : List Comprehension} {sc : Scope} {pos px : Pos} {x : Str} {ln : Nat} (hb : env.blockKind = .function) (hk : env.kindOf x = some .local) (hl : (px.line == pos.line) = true) (hn : (sc.names.any fun p => p.1 == x && (p.2 == .local || p.2 == .cell)) = false) :
    swapsWith (.ListComp elt gens sc pos) (some (.Name x px)) ln env = pure true := by
  show (pure (env.blockKind == .function && env.kindOf x == some .local && px.line == (Expr.ListComp elt gens sc pos).pos.line && !(sc.names.any fun p => p.1 == x && (p.2 == .local || p.2 == .cell))) : Sem Bool) = pure true
  rw [hb, hk, hn]
  have : (px.line == (Expr.ListComp elt gens sc pos).pos.line) = true := hl
  rw [this]
  rfl
theorem x_compS {l : List (Str × Option Value)} {u : Option Value} {ls : List Str} {x : Str} {px : Pos} {target elt iter : Expr} {ifs : List Expr} {scope : Scope} {pos spos : Pos} (S : St w σ B s own) (V : Ev env gl cl) (p : Pick (env.locals, frO env l) own own') (hx : Has (x, u) l) (hl : (px.line == pos.line) = true) (hn : (scope.names.any fun p => p.1 == x && (p.2 == .local || p.2 == .cell)) = false)
    (ok : okComp scope ls gl' (cs.map Prod.fst) = true) (hcs : ∀ p ∈ cs, p ∈ cl)
    (h : wpAny (MM w) A (eval iter env) (fun xv s₁ => wpAny (MM w) A (pyIter xv) (fun it s₂ => CompOk w A cs gl' ls target elt ifs [] (fun σ B D cenv us ys own s => ∃ l l' own', Pick (env.locals, frO env l) own own' ∧ Set1 x (some (.ref D)) l l' ∧ ∀ s', St w σ B s' ((env.locals, frO env l') :: (D, lsO ys) :: own') → N s') it s₂) F s₁) F s)
    (hs : ∀ x, foldedSetIterable iter env x = pure x := by intro _; rfl) :
    wpAny (MM w) A (exec (.Assign [.Name x px] (.ListComp elt [⟨target, iter, ifs, 0⟩] scope pos) spos) env) (Nx N R) F s :=
  x_comp (own := []) V ok hcs h (sw_comp V.block (S.kind p hx) hl hn) hs
theorem cend1 {x : Str} {u : Option Value} (S : St w σ B s ((env.locals, frO env [(x, u)]) :: rest)) : St w σ B s ((env.locals, frO env ([x].zip [u])) :: rest) := S
theorem cend2 {x y : Str} {u v : Option Value} (S : St w σ B s ((env.locals, frO env [(x, u), (y, v)]) :: rest)) : St w σ B s ((env.locals, frO env ([x, y].zip [u, v])) :: rest) := S
end
theorem c_ints {w : World} {s : Shared} {A : Around} {E : Value → Shared → Prop} {a b : Int} {t u : Tok} {Q : Value → Shared → Prop} (h : Q (.bool (decide (a = b))) s) : wpAny (MM w) A (compareOp .Eq (.int a t) (.int b u)) Q E s := by
  refine c_eq (SeqAt.RcAt.int_int a t b u) ?_
  have : (a == b) = decide (a = b) := by simp [BEq.beq]
  rw [this]; exact h
/-- a name more -/
inductive AppA (x : Str) (v : Value) : List (Str × Value) → List (Str × Value) → Prop
  | nil : AppA x v [] [(x, v)]
  | cons {p l l'} : AppA x v l l' → AppA x v (p :: l) (p :: l')
theorem AppA.eq {x : Str} {v : Value} {l l' : List (Str × Value)} (h : AppA x v l l') : l' = l ++ [(x, v)] := by
  induction h with
  | nil => rfl
  | cons _ ih => rw [ih]; rfl
theorem r_setAttr3 {w : World} {σ : Shared} {B : Heap} {s : Shared} {own own' : List Pt} {A : Around} {E : Value → Shared → Prop} {x C dx : Addr} {name : Str} {v : Value} {l l' : List (Str × Value)} {Q : Unit → Shared → Prop} (S : St w σ B s own) (I : Ins B x C dx) (p : Pick (dx, atO l) own own') (hn : Has (C, name) ats) (ha : AppA name v l l') (hl : (l.map Prod.fst).contains name = false) (hz : l.length < 1000)
    (h : ∀ s', St w σ B s' ((dx, atO l') :: own') → Q () s') : wpAny (MM w) A (setAttr (.ref x) name v) Q E s := r_setAttr2 S I p hn hl hz (by rw [← ha.eq]; exact h)
section
variable {w : World} {σ : Shared} {B : Heap} {s : Shared} {own own' : List Pt} {A : Around} {E F : Value → Shared → Prop} {env : Env} {N : Shared → Prop} {R : Flow → Shared → Prop}
theorem x_augAttr {o value : Expr} {attr : Str} {tpos pos : Pos} {op : Operator} (h : wpAny (MM w) A (eval o env) (fun ov s₁ => wpAny (MM w) A (getAttr ov attr true) (fun old s₂ => wpAny (MM w) A (eval value env) (fun v s₃ => wpAny (MM w) A (inplaceOp op old v) (fun new s₄ => wpAny (MM w) A (setAttr ov attr new) (fun _ s₅ => N s₅) F s₄) F s₃) F s₂) F s₁) F s) :
    wpAny (MM w) A (exec (.AugAssign (.Attribute o attr tpos) op value pos) env) (Nx N R) F s := wpAny_AugAssign_AttributeAny h
theorem r_iadd {a b : Int} {t u : Tok} {Q : Value → Shared → Prop} (S : St w σ B s own) (h : ∀ t s', St w σ B s' own → Q (.int (a + b) t) s') : wpAny (MM w) A (inplaceOp .Add (.int a t) (.int b u)) Q E s := wpAny_iadd_int (h _ _ (S.toks _))
theorem c_isnotNone {Q : Value → Shared → Prop} (h : Q (.bool false) s) : wpAny (MM w) A (compareOp .IsNot .none .none) Q E s := isnot_none_none h
end
theorem list2 {α : Type} {us : List α} (h : us.length = 2) : ∃ a b, us = [a, b] := by
  match us, h with
  | [a, b], _ => exact ⟨a, b, rfl⟩
theorem list3 {α : Type} {us : List α} (h : us.length = 3) : ∃ a b c, us = [a, b, c] := by
  match us, h with
  | [a, b, c], _ => exact ⟨a, b, c, rfl⟩
end
local macro_rules | `(tactic| kt_at_get) => `(tactic| (repeat (first | with_reducible exact Pick.head | with_reducible apply Pick.tail)))
local macro_rules | `(tactic| kt_at_method) => `(tactic| (repeat (first | with_reducible exact Has.head | with_reducible apply Has.tail)))
local macro_rules | `(tactic| lcg_off) => `(tactic| (repeat (first | with_reducible exact Set1.head | with_reducible apply Set1.tail | with_reducible exact SetA.head | with_reducible apply SetA.tail)))
local macro_rules | `(tactic| krn_off) => `(tactic| (repeat (first | with_reducible exact Arr.nil | with_reducible exact Re.nil | ((with_reducible apply Arr.cons); kt_at_get) | (with_reducible refine' Re.cons ?ap ?_; (case ap => kt_at_get)) | with_reducible refine' Re.skip ?_)))
local macro_rules | `(tactic| tb_rel) => `(tactic| first
  | with_reducible assumption
  | ((with_reducible refine' Tup.keeps ?fa ?fk); (case fk => with_reducible assumption); (case fa => tb_rel))
  | ((with_reducible refine' Lst.keeps ?fa ?fk); (case fk => with_reducible assumption); (case fa => tb_rel))
  | ((with_reducible refine' Ins.keeps ?fa ?fk); (case fk => with_reducible assumption); (case fa => tb_rel))
  | ((with_reducible refine' st_trans ?fa ?fk); (case fk => with_reducible assumption); (case fa => tb_rel)))
local macro_rules | `(tactic| kcj_m) => `(tactic| first
  | ((with_reducible refine' St.lst ?S1 ?p1); (case S1 => with_reducible assumption); (case p1 => kt_at_get))
  | ((with_reducible refine' St.lstB ?S1 ?f1); (case S1 => with_reducible assumption); (case f1 => tb_rel))
  | ((with_reducible refine' St.tupB ?S1 ?f1); (case S1 => with_reducible assumption); (case f1 => tb_rel)))
local macro_rules | `(tactic| kcf_m) => `(tactic| first
  | (with_reducible assumption)
  | exact NmsAre.nil
  | ((with_reducible refine' NmsAre.cons ?n1 ?n2); (case n1 => kcf_m); (case n2 => kcf_m))
  | (simp only [List.length_cons, List.length_nil, List.length_append, List.length_reverse]; omega)
  | omega)
local macro_rules | `(tactic| kt_at_item) => `(tactic| first
  | ((with_reducible refine' r_local ?S1 ?V1 ?p1 ?m1 ?_); (case S1 => with_reducible assumption); (case V1 => with_reducible assumption); (case p1 => kt_at_get); (case m1 => kt_at_method))
  | ((with_reducible refine' r_cell ?S1 ?V1 ?m1 ?p1 ?_); (case S1 => with_reducible assumption); (case V1 => with_reducible assumption); (case m1 => kt_at_method); (case p1 => kt_at_get))
  | ((with_reducible refine' r_glob ?S1 ?V1 ?m1 ?m2 ?_); (case S1 => with_reducible assumption); (case V1 => with_reducible assumption); (case m1 => kt_at_method); (case m2 => kt_at_method))
  | ((with_reducible refine' r_blt ?S1 ?V1 ?m1 ?m2 ?_); (case S1 => with_reducible assumption); (case V1 => with_reducible assumption); (case m1 => kt_at_method); (case m2 => kt_at_method))
  | ((with_reducible refine' r_int ?S1 ?_); (case S1 => with_reducible assumption); intro _ _ _)
  | ((with_reducible refine' r_str ?S1 ?_); (case S1 => with_reducible assumption); intro _ _ _)
  | with_reducible refine r_none ?_
  | ((with_reducible refine' r_bytes ?S1 ?_); (case S1 => with_reducible assumption); intro _ _ _)
  | with_reducible refine r_bool ?_
  | ((with_reducible refine' r_args ?_ ?h1); (case h1 => exact rfl))
  | with_reducible refine r_args0 ?_
  | ((with_reducible refine' r_rev ?h1 ?_ ?h2); (case h2 => exact fun _ _ => ⟨_, by with_unfolding_all rfl⟩); (case h1 => exact fun h => neg_one h))
  | ((with_reducible refine' r_upto ?_ ?h2); (case h2 => exact fun _ _ => ⟨_, by with_unfolding_all rfl⟩))
  | ((with_reducible refine' rev_end ?S1 ?l1 ?z1 ?_); (case S1 => with_reducible assumption); (case l1 => kcj_m); (case z1 => kcf_m); intro _ _ _)
  | ((with_reducible refine' upto_end ?S1 ?l1 ?z1 ?z2 ?_); (case S1 => with_reducible assumption); (case l1 => kcj_m); (case z1 => kcf_m); (case z2 => omega); intro _ _ _)
  | with_reducible refine r_subs ?_
  | with_reducible refine r_binop ?_
  | with_reducible refine r_list ?_
  | with_reducible refine r_tuple ?_
  | ((with_reducible refine' r_newL ?S1 ?z1 ?_); (case S1 => with_reducible assumption); (case z1 => kcf_m); intro _ _ _)
  | ((with_reducible refine' r_newT ?S1 ?z1 ?_); (case S1 => with_reducible assumption); (case z1 => kcf_m); intro _ _ _ _ _ _)
  | ((with_reducible refine' r_dict ?S1 ?_); (case S1 => with_reducible assumption); intro _ _ _)
  | ((with_reducible refine' r_item (St.li ?S1 ?p1) ?c1 ?c2 ?c3 ?_ ?c4); (case c4 => with_unfolding_all rfl); (case S1 => with_reducible assumption); (case p1 => kt_at_get); (case c1 => decide); (case c2 => decide); (case c3 => exact rfl))
  | ((with_reducible refine' r_itemT (St.tupB ?S1 ?f1) ?c1 ?c2 ?c3 ?c5 ?_ ?c4); (case c4 => with_unfolding_all rfl); (case S1 => with_reducible assumption); (case f1 => tb_rel); (case c1 => decide); (case c2 => decide); (case c3 => first | exact rfl | exact seq0 _ | exact seq1 _); (case c5 => exact rfl))
  | ((with_reducible refine' r_callT ?S1 ?V1 ?m1 ?m2 ?_ ?h1 ?h2); (case h1 => exact rfl); (case h2 => exact rfl); (case S1 => with_reducible assumption); (case V1 => with_reducible assumption); (case m1 => kt_at_method); (case m2 => kt_at_method))
  | ((with_reducible refine' r_callB ?S1 ?V1 ?m1 ?m2 ?_ ?h1 ?h2); (case h1 => exact rfl); (case h2 => exact rfl); (case S1 => with_reducible assumption); (case V1 => with_reducible assumption); (case m1 => kt_at_method); (case m2 => kt_at_method))
  | ((with_reducible refine' r_call ?S1 ?V1 ?m1 ?m2 ?k1 ?_ ?h1 ?h2); (case h1 => exact rfl); (case h2 => exact rfl); (case S1 => with_reducible assumption); (case V1 => with_reducible assumption); (case m1 => kt_at_method); (case m2 => kt_at_method); (case k1 => exact keep_of (by decide)))
  | ((with_reducible refine' r_call0 ?S1 ?V1 ?m1 ?m2 ?k1 ?_); (case S1 => with_reducible assumption); (case V1 => with_reducible assumption); (case m1 => kt_at_method); (case m2 => kt_at_method); (case k1 => exact keep_of (by decide)))
  | ((with_reducible refine' ki_in ?S1 ?_); (case S1 => with_reducible assumption))
  | ((with_reducible refine' MethodCall_ ?_ ?h1); (case h1 => exact rfl))
  | ((with_reducible refine' Attribute_any_ ?_ ?h1); (case h1 => with_unfolding_all rfl))
  | ((with_reducible refine' r_attr ?S1 ?I1 ?p1 ?m1 ?m2 ?h1 ?_); (case S1 => with_reducible assumption); (case I1 => tb_rel); (case p1 => kt_at_get); (case m1 => kt_at_method); (case m2 => kt_at_method); (case h1 => exact rfl); intro _ _)
  | ((with_reducible refine' r_meth ?S1 ?I1 ?p1 ?m1 ?l1 ?_); (case S1 => with_reducible assumption); (case I1 => tb_rel); (case p1 => kt_at_get); (case m1 => kt_at_method); (case l1 => kernel_rfl))
  | ((with_reducible refine' m_append ?l1 ?_); (case l1 => kcj_m))
  | ((with_reducible refine' m_extend ?l1 ?_); (case l1 => kcj_m))
  | ((with_reducible refine' m_remove ?l1 ?_); (case l1 => kcj_m))
  | ((with_reducible refine' m_pop ?l1 ?_); (case l1 => kcj_m))
  | ((with_reducible refine' m_get ?S1 ?p1 ?_); (case S1 => with_reducible assumption); (case p1 => kt_at_get))
  | ((with_reducible refine' m_popD ?S1 ?p1 ?_); (case S1 => with_reducible assumption); (case p1 => kt_at_get))
  | ((with_reducible refine' d_get ?S1 ?p1 ?k1 ?_); (case S1 => with_reducible assumption); (case p1 => kt_at_get); (case k1 => kcf_m); intro _ _)
  | ((with_reducible refine' d_set ?S1 ?p1 ?k1 ?z1 ?_); (case S1 => with_reducible assumption); (case p1 => kt_at_get); (case k1 => kcf_m); (case z1 => kcf_m); intro _ _)
  | ((with_reducible refine' d_sub ?S1 ?p1 ?k1 ?v1 ?_ ?h1); (case h1 => with_unfolding_all rfl); (case S1 => with_reducible assumption); (case p1 => kt_at_get); (case k1 => with_reducible assumption); (case v1 => with_reducible assumption); intro _ _)
  | ((with_reducible refine' d_pop ?S1 ?p1 ?k1 ?v1 ?z1 ?_); (case S1 => with_reducible assumption); (case p1 => kt_at_get); (case k1 => with_reducible assumption); (case v1 => with_reducible assumption); (case z1 => kcf_m); intro _ _)
  | with_reducible refine cw0 ?_
  | ((with_reducible refine' cw1 ?_ ?h1 ?h2); (case h1 => exact rfl); (case h2 => exact rfl))
  | ((with_reducible refine' cwK (St.inK ?S1) ?k1 ?_ ?h1 ?h2); (case S1 => with_reducible assumption); (case h1 => exact rfl); (case h2 => exact rfl); (case k1 => exact keep_of (by decide)))
  | ((with_reducible refine' cwK0 (St.inK ?S1) ?k1 ?_); (case S1 => with_reducible assumption); (case k1 => exact keep_of (by decide)))
  | ((with_reducible refine' k_append ?S1 ?p1 ?z1 ?_); (case S1 => with_reducible assumption); (case p1 => kt_at_get); (case z1 => kcf_m); intro _ _)
  | ((with_reducible refine' k_len ?S1 ?l1 ?z1 ?_); (case S1 => with_reducible assumption); (case l1 => kcj_m); (case z1 => kcf_m); intro _ _ _)
  | ((with_reducible refine' k_listT ?S1 ?l1 ?z1 ?_); (case S1 => with_reducible assumption); (case l1 => kcj_m); (case z1 => kcf_m); intro _ _ _)
  | ((with_reducible refine' k_listL ?S1 ?l1 ?z1 ?_); (case S1 => with_reducible assumption); (case l1 => kcj_m); (case z1 => kcf_m); intro _ _ _)
  | ((with_reducible refine' k_tupleL ?S1 ?p1 ?l1 ?z1 ?_); (case S1 => with_reducible assumption); (case l1 => kcj_m); (case p1 => exact Pick.head); (case z1 => kcf_m); intro _ _ _ _ _ _)
  | ((with_reducible refine' k_extend ?S1 ?p1 ?l1 ?z1 ?z2 ?_); (case S1 => with_reducible assumption); (case p1 => kt_at_get); (case l1 => kcj_m); (case z1 => kcf_m); (case z2 => kcf_m); intro _ _)
  | with_reducible refine x_seq ?_
  | ((with_reducible refine' x_set ?_ ?h1); (case h1 => exact rfl))
  | ((with_reducible refine' r_store ?S1 ?V1 ?p1 ?m1 ?_); (case S1 => with_reducible assumption); (case V1 => with_reducible assumption); (case p1 => kt_at_get); (case m1 => lcg_off); intro _ _)
  | with_reducible refine x_augAttr ?_
  | ((with_reducible refine' r_iadd ?S1 ?_); (case S1 => with_reducible assumption); intro _ _ _)
  | with_reducible refine c_isnotNone ?_
  | with_reducible refine x_if ?_
  | with_reducible refine r_ifExp ?_
  | with_reducible refine t_not ?_
  | with_reducible refine t_and ?_
  | with_reducible refine t_and0 ?_
  | with_reducible refine t_or ?_
  | with_reducible refine t_or0 ?_
  | with_reducible refine r_and ?_
  | with_reducible refine r_and1 ?_
  | ((with_reducible refine' t_cmp ?_ ?h1); (case h1 => with_unfolding_all rfl))
  | ((with_reducible refine' r_cmp ?_ ?h1); (case h1 => with_unfolding_all rfl))
  | ((with_reducible refine' t_val ?_ ?h1); (case h1 => exact rfl))
  | with_reducible refine t_bool ?_
  | with_reducible refine bt ?_
  | with_reducible refine bf ?_
  | with_reducible refine bnt ?_
  | with_reducible refine bnf ?_
  | with_reducible refine x_ret ?_
  | with_reducible refine x_ret0 ?_
  | with_reducible refine x_cont ?_
  | with_reducible refine nx_ret ?_
  | with_reducible refine rt_ret ?_
  | with_reducible refine lp_ret ?_
  | with_reducible refine lp_cont ?_
  | with_reducible refine call_int_int ?_
  | ((with_reducible refine' r_mod ?S1 ?b1 ?_); (case S1 => with_reducible assumption); (case b1 => omega); intro _ _ _)
  | ((with_reducible refine' r_add ?S1 ?_); (case S1 => with_reducible assumption); intro _ _ _)
  | ((with_reducible refine' k_add ?S1 ?l1 ?l2 ?z1 ?z2 ?_); (case S1 => with_reducible assumption); (case l1 => kcj_m); (case l2 => kcj_m); (case z1 => kcf_m); (case z2 => kcf_m); intro _ _ _)
  | ((with_reducible refine' r_fdiv ?S1 ?b1 ?b2 ?_); (case S1 => with_reducible assumption); (case b1 => omega); (case b2 => omega); intro _ _ _)
  | ((with_reducible refine' x_setItem ?_ ?h1); (case h1 => exact rfl))
  | ((with_reducible refine' x_setAttr ?_ ?h1); (case h1 => exact rfl))
  | ((with_reducible refine' r_setAttr1 ?S1 ?I1 ?p1 ?m1 ?m2 ?z1 ?_); (case S1 => with_reducible assumption); (case I1 => tb_rel); (case p1 => kt_at_get); (case m1 => kt_at_method); (case m2 => lcg_off); (case z1 => simp only [List.length_cons, List.length_nil]; omega); intro _ _)
  | ((with_reducible refine' r_setAttr3 ?S1 ?I1 ?p1 ?m1 ?a1 ?l1 ?z1 ?_); (case S1 => with_reducible assumption); (case I1 => tb_rel); (case p1 => kt_at_get); (case m1 => kt_at_method); (case a1 => (repeat (first | with_reducible exact AppA.nil | with_reducible apply AppA.cons))); (case l1 => kernel_rfl); (case z1 => simp only [List.length_cons, List.length_nil]; omega); intro _ _)
  | ((with_reducible refine' x_expr ?V1 ?_ ?h1); (case h1 => exact rfl); (case V1 => with_reducible assumption))
  | with_reducible refine x_nil ?_
  | with_reducible refine x_nilQ ?_
  | with_reducible refine x_nilL ?_
  | ((with_reducible refine' r_setList ?S1 ?p1 ?c1 ?c2 ?c3 ?_); (case S1 => with_reducible assumption); (case p1 => kt_at_get); (case c1 => decide); (case c2 => decide); (case c3 => (simp only [List.length_cons, List.length_nil]; decide)); intro _ _))
local macro_rules | `(tactic| kt_at_in) => `(tactic| (refine' St.get (St.lose (q := (_, frO _ _)) ?S1 ?p1) ?p2 ?_; (case S1 => assumption); (case p1 => kt_at_get); (case p2 => kt_at_get)))
local macro_rules | `(tactic| kt_at_notin) => `(tactic| ((with_reducible refine' r_mul ?S1 ?b1 ?_); (case S1 => assumption); rotate_left; intro _ _ _))
/-! F0 -/
noncomputable section
theorem f_within0 (P : Params) : (K P).lookup 29 = some (o29 P) := by kernel_rfl
theorem c_within0 (P : Params) : codeIn (K P) (.ref 28) "objects_within" = true := by kernel_rfl
theorem f_cinit (P : Params) : (K P).lookup 43 = some (o43 P) := by kernel_rfl
theorem c_cinit (P : Params) : codeIn (K P) (.ref 42) "Collector.__init__" = true := by kernel_rfl
theorem f_begin (P : Params) : (K P).lookup 50 = some (o50 P) := by kernel_rfl
theorem c_begin (P : Params) : codeIn (K P) (.ref 49) "Collector.begin" = true := by kernel_rfl
theorem f_colour_of (P : Params) : (K P).lookup 57 = some (o57 P) := by kernel_rfl
theorem c_colour_of (P : Params) : codeIn (K P) (.ref 56) "Collector.colour_of" = true := by kernel_rfl
theorem f_shade (P : Params) : (K P).lookup 64 = some (o64 P) := by kernel_rfl
theorem c_shade (P : Params) : codeIn (K P) (.ref 63) "Collector.shade" = true := by kernel_rfl
theorem f_step (P : Params) : (K P).lookup 71 = some (o71 P) := by kernel_rfl
theorem c_step (P : Params) : codeIn (K P) (.ref 70) "Collector.step" = true := by kernel_rfl
theorem f_barrier (P : Params) : (K P).lookup 78 = some (o78 P) := by kernel_rfl
theorem c_barrier (P : Params) : codeIn (K P) (.ref 77) "Collector.barrier" = true := by kernel_rfl
theorem f_made (P : Params) : (K P).lookup 85 = some (o85 P) := by kernel_rfl
theorem c_made (P : Params) : codeIn (K P) (.ref 84) "Collector.made" = true := by kernel_rfl
theorem f_gone (P : Params) : (K P).lookup 92 = some (o92 P) := by kernel_rfl
theorem c_gone (P : Params) : codeIn (K P) (.ref 91) "Collector.gone" = true := by kernel_rfl
theorem f_finish (P : Params) : (K P).lookup 97 = some (o97 P) := by kernel_rfl
theorem c_finish (P : Params) : codeIn (K P) (.ref 96) "Collector.finish" = true := by kernel_rfl
theorem f_kinit (P : Params) : (K P).lookup 158 = some (o158 P) := by kernel_rfl
theorem c_kinit (P : Params) : codeIn (K P) (.ref 157) "Kept.__init__" = true := by kernel_rfl
theorem f_held_values (P : Params) : (K P).lookup 170 = some (o170 P) := by kernel_rfl
theorem c_held_values (P : Params) : codeIn (K P) (.ref 169) "held_values" = true := by kernel_rfl
theorem f_hinit (P : Params) : (K P).lookup 185 = some (o185 P) := by kernel_rfl
theorem c_hinit (P : Params) : codeIn (K P) (.ref 184) "Heap.__init__" = true := by kernel_rfl
theorem f_make (P : Params) : (K P).lookup 193 = some (o193 P) := by kernel_rfl
theorem c_make (P : Params) : codeIn (K P) (.ref 192) "Heap.make" = true := by kernel_rfl
theorem f_make_named (P : Params) : (K P).lookup 200 = some (o200 P) := by kernel_rfl
theorem c_make_named (P : Params) : codeIn (K P) (.ref 199) "Heap.make_named" = true := by kernel_rfl
theorem f_kept_at (P : Params) : (K P).lookup 207 = some (o207 P) := by kernel_rfl
theorem c_kept_at (P : Params) : codeIn (K P) (.ref 206) "Heap.kept_at" = true := by kernel_rfl
theorem f_numbers (P : Params) : (K P).lookup 226 = some (o226 P) := by kernel_rfl
theorem c_numbers (P : Params) : codeIn (K P) (.ref 225) "Heap.numbers" = true := by kernel_rfl
theorem f_values_in (P : Params) : (K P).lookup 233 = some (o233 P) := by kernel_rfl
theorem c_values_in (P : Params) : codeIn (K P) (.ref 232) "Heap.values_in" = true := by kernel_rfl
theorem f_free (P : Params) : (K P).lookup 240 = some (o240 P) := by kernel_rfl
theorem c_free (P : Params) : codeIn (K P) (.ref 239) "Heap.free" = true := by kernel_rfl
theorem f_drop (P : Params) : (K P).lookup 247 = some (o247 P) := by kernel_rfl
theorem c_drop (P : Params) : codeIn (K P) (.ref 246) "Heap.drop" = true := by kernel_rfl
theorem f_pool (P : Params) : (K P).lookup 310 = some (o310 P) := by kernel_rfl
theorem c_pool (P : Params) : codeIn (K P) (.ref 309) "_law_pool" = true := by kernel_rfl
theorem f_one (P : Params) : (K P).lookup 324 = some (o324 P) := by kernel_rfl
theorem c_one (P : Params) : codeIn (K P) (.ref 323) "_law_one" = true := by kernel_rfl
theorem f_leaf (P : Params) : (K P).lookup 331 = some (o331 P) := by kernel_rfl
theorem c_leaf (P : Params) : codeIn (K P) (.ref 330) "_law_leaf" = true := by kernel_rfl
theorem f_held (P : Params) : (K P).lookup 336 = some (o336 P) := by kernel_rfl
theorem c_held (P : Params) : codeIn (K P) (.ref 335) "_law_held" = true := by kernel_rfl
theorem f_value (P : Params) : (K P).lookup 343 = some (o343 P) := by kernel_rfl
theorem c_value (P : Params) : codeIn (K P) (.ref 342) "_law_value" = true := by kernel_rfl
theorem f_once (P : Params) : (K P).lookup 348 = some (o348 P) := by kernel_rfl
theorem c_once (P : Params) : codeIn (K P) (.ref 347) "_law_once" = true := by kernel_rfl
theorem f_lshade (P : Params) : (K P).lookup 355 = some (o355 P) := by kernel_rfl
theorem c_lshade (P : Params) : codeIn (K P) (.ref 354) "_law_shade" = true := by kernel_rfl
theorem f_is_like (P : Params) : (K P).lookup 360 = some (o360 P) := by kernel_rfl
theorem c_is_like (P : Params) : codeIn (K P) (.ref 359) "_law_is_like" = true := by kernel_rfl
theorem f_deed (P : Params) : (K P).lookup 367 = some (o367 P) := by kernel_rfl
theorem c_deed (P : Params) : codeIn (K P) (.ref 366) "_law_deed" = true := by kernel_rfl
theorem f_left_white (P : Params) : (K P).lookup 372 = some (o372 P) := by kernel_rfl
theorem c_left_white (P : Params) : codeIn (K P) (.ref 371) "_law_left_white" = true := by kernel_rfl
theorem f_right (P : Params) : (K P).lookup 377 = some (o377 P) := by kernel_rfl
theorem c_right (P : Params) : codeIn (K P) (.ref 376) "_law_right" = true := by kernel_rfl
theorem f_law (P : Params) : (K P).lookup 384 = some (o384 P) := by kernel_rfl
theorem c_law (P : Params) : codeIn (K P) (.ref 383) "law" = true := by kernel_rfl
end
/-! F1 -/
noncomputable section
section
variable {w : World} {σ : Shared} {B : Heap} {s : Shared} {own own' : List Pt} {A : Around} {E : Value → Shared → Prop} {a : Addr}
theorem f_take (P : Params) : (K P).lookup 317 = some ⟨.type "function", none, .func (fnOf "_law_take" "_law_take" (fA 17) (fB 17) (fS 17) .none .none .none (.str "law_xw0046_01" 593) none (.ref 316) .none), #[]⟩ := by kernel_rfl
theorem c_take (P : Params) : codeIn (K P) (.ref 316) "_law_take" = true := by kernel_rfl
/-- the draws' source -/
def srcO (o : Obj) : Prop := ∃ x y t u, liO [.int x t, .int y u] o ∧ 0 ≤ x ∧ 0 ≤ y ∧ y < 2147483647
theorem St.src (S : St w σ B s own) (p : Pick (a, srcO) own own') : ∃ x y t u, St w σ B s ((a, liO [.int x t, .int y u]) :: own') ∧ 0 ≤ x ∧ 0 ≤ y ∧ y < 2147483647 := by
  have S₁ := S.pick p
  obtain ⟨o, ho, x, y, t, u, h, r⟩ := S₁.at_
  refine ⟨x, y, t, u, ?_, r⟩
  have ha := S₁.has _ (.head _)
  exact ⟨S₁.pg, S₁.rest, S₁.base, S₁.keep, S₁.size, fun q hq => by
    cases hq with
    | head => exact ⟨⟨o, ho, h⟩, ha.2⟩
    | tail _ hq => exact S₁.has q (.tail _ hq), S₁.nodup⟩
set_option maxHeartbeats 1000000 in
theorem take_spec {n : Nat} {src : Addr} {top : Int} {v : Tok} {Q : Value → Shared → Prop} (Z : Rm A (n + 2)) (S : St w σ B s own) (p : Pick (src, srcO) own own') (htop : 0 < top) (hbig : top < 100)
    (k : ∀ r t s', 0 ≤ r → r < top → St w σ B s' ((src, srcO) :: own') → Q (.int r t) s') : wpAny (MM w) A (call (.ref 317) [.ref src, .int top v]) Q E s := by
  obtain ⟨x, y, tx, ty, S₀, hx, hy, hy2⟩ := S.src p
  refine enter (vs := [.ref src, .int top v]) (ps := ["source", "top"]) (ls := ["digit"]) (gl := ["int"]) (n := n + 1) Z S₀ (f_take _) (c_take _) rfl (by kernel_rfl) (BindsTo.of_eq (by kernel_rfl)) rfl fun env s V Z S => ?_
  change St _ _ _ _ ((env.locals, frO env [("source", some (.ref src)), ("top", some (.int top v)), ("digit", none)]) :: _) at S
  with_unfolding_all refine x_seq ?_
  repeat kt_at_item
  refine gt_int ?_
  refine t_bool ?_
  refine ⟨fun hc => ?_, fun hc => ?_⟩
  · repeat kt_at_item
    refine k _ _ _ (Int.fmod_nonneg hx (by omega)) (Int.fmod_lt_of_pos _ htop) ?_
    kt_at_in
    exact fun o ho => ⟨_, y, _, _, ho, Int.fdiv_nonneg hx (by omega), hy, hy2⟩
  · repeat kt_at_item
    kt_at_notin
    · repeat kt_at_item
      have y1 := Int.fmod_nonneg (a := y * 39373 + 7) (b := 2147483647) (by omega) (by omega)
      have y2 := Int.fmod_lt_of_pos (y * 39373 + 7) (b := 2147483647) (by omega)
      kt_at_notin
      · repeat kt_at_item
        refine k _ _ _ (Int.fmod_nonneg (Int.fdiv_nonneg (Int.fmod_nonneg (Int.mul_nonneg y1 y1) (by omega)) (by omega)) (by omega)) (Int.fmod_lt_of_pos _ htop) ?_
        kt_at_in
        exact fun o ho => ⟨x, _, _, _, ho, hx, y1, y2⟩
      · exact IntMulOk.of_left (bits32 y1 (by omega))
    · exact IntMulOk.of_left (bits32 hy (by omega))
end
end
/-! F2 -/
noncomputable section
/-! what a value leads to -/
mutual
inductive Leads (B : Heap) : Value → List Nm → Nat → Prop
  | none : Leads B .none [] 0
  | int (n : Int) (t : Tok) : Leads B (.int n t) [] 0
  | bool (b : Bool) : Leads B (.bool b) [] 0
  | bytes (b : Array UInt8) (t : Tok) : Leads B (.bytes b t) [] 0
  | far {a b : Addr} {k : Str} {t : Tok} {v : Value} {m : Nm} {r1 r2 : List Value} : (k = "ptr" ∨ k = "slice") → Tup B a (.str k t :: .ref b :: r1) → Tup B b (v :: r2) → NmV m v → Leads B (.ref a) [m] 0
  | near {a : Addr} {k : Str} {t : Tok} {v : Value} {m : Nm} : (k = "map" ∨ k = "chan" ∨ k = "iter") → Tup B a [.str k t, v] → NmV m v → Leads B (.ref a) [m] 0
  | func {a b : Addr} {t : Tok} {x : Value} {vs : List Value} {ms : List Nm} {k : Nat} : Tup B a [.str "func" t, x, .ref b] → Tup B b vs → LeadsL B vs ms k → Leads B (.ref a) ms k
  | face {a : Addr} {t : Tok} {x v : Value} {ms : List Nm} {k : Nat} : Tup B a [.str "face" t, x, v] → Leads B v ms k → Leads B (.ref a) ms (k + 1)
  | row {a b : Addr} {k : Str} {t : Tok} {vs : List Value} {ms : List Nm} {n : Nat} : (k = "struct" ∨ k = "array") → Tup B a [.str k t, .ref b] → Tup B b vs → LeadsL B vs ms n → Leads B (.ref a) ms n
inductive LeadsL (B : Heap) : List Value → List Nm → Nat → Prop
  | nil : LeadsL B [] [] 0
  | cons {v : Value} {vs : List Value} {ms ns : List Nm} {i j : Nat} : Leads B v ms i → LeadsL B vs ns j → LeadsL B (v :: vs) (ms ++ ns) (i + j + 1)
end
mutual
theorem Leads.keeps {B B' : Heap} (k : B.StaysIn B') : ∀ {v ms n}, Leads B v ms n → Leads B' v ms n
  | _, _, _, .none => .none
  | _, _, _, .int n t => .int n t
  | _, _, _, .bool b => .bool b
  | _, _, _, .bytes b t => .bytes b t
  | _, _, _, .far h a b c => .far h (a.keeps k) (b.keeps k) c
  | _, _, _, .near h a c => .near h (a.keeps k) c
  | _, _, _, .func a b c => .func (a.keeps k) (b.keeps k) (c.keeps k)
  | _, _, _, .face a c => .face (a.keeps k) (c.keeps k)
  | _, _, _, .row h a b c => .row h (a.keeps k) (b.keeps k) (c.keeps k)
theorem LeadsL.keeps {B B' : Heap} (k : B.StaysIn B') : ∀ {v ms n}, LeadsL B v ms n → LeadsL B' v ms n
  | _, _, _, .nil => .nil
  | _, _, _, .cons a b => .cons (a.keeps k) (b.keeps k)
end
mutual
theorem Leads.size {B : Heap} : ∀ {v ms n}, Leads B v ms n → ms.length ≤ n + 1
  | _, _, _, .none => Nat.zero_le _
  | _, _, _, .int n t => Nat.zero_le _
  | _, _, _, .bool b => Nat.zero_le _
  | _, _, _, .bytes b t => Nat.zero_le _
  | _, _, _, .far h a b c => Nat.le_refl _
  | _, _, _, .near h a c => Nat.le_refl _
  | _, _, _, .func a b c => Nat.le_succ_of_le c.size.1
  | _, _, _, .face a c => Nat.le_succ_of_le c.size
  | _, _, _, .row h a b c => Nat.le_succ_of_le c.size.1
theorem LeadsL.size {B : Heap} : ∀ {v ms n}, LeadsL B v ms n → ms.length ≤ n ∧ v.length ≤ n
  | _, _, _, .nil => ⟨Nat.le_refl _, Nat.le_refl _⟩
  | _, _, _, .cons a b => by
    have := a.size
    have := b.size
    simp only [List.length_append, List.length_cons]
    omega
end
theorem LeadsL.append {B : Heap} : ∀ {vs us ms ns i j}, LeadsL B vs ms i → LeadsL B us ns j → LeadsL B (vs ++ us) (ms ++ ns) (i + j)
  | _, _, _, _, _, _, .nil, h => by simpa using h
  | _, _, _, _, _, _, .cons (ms := m1) (i := i1) (j := j1) a b, h => by
    have := LeadsL.cons a (b.append h)
    rw [List.append_assoc]
    refine cast ?_ this
    congr 1
    omega
/-- each once, as it stands first -/
def onceA (acc ms : List Nm) : List Nm := ms.foldl (fun acc m => if m ∈ acc then acc else acc ++ [m]) acc
theorem onceA_cons {acc ms : List Nm} {m : Nm} : onceA acc (m :: ms) = onceA (if m ∈ acc then acc else acc ++ [m]) ms := rfl
theorem onceA_size : ∀ (ms acc : List Nm), (onceA acc ms).length ≤ acc.length + ms.length
  | [], acc => Nat.le_refl _
  | m :: ms, acc => by
    rw [onceA_cons]
    refine Nat.le_trans (onceA_size ms _) ?_
    split <;> simp <;> omega
section
variable {w : World} {σ : Shared} {B B₀ : Heap} {s : Shared} {own own' rest : List Pt} {A : Around} {E : Value → Shared → Prop} {v : Value} {ms : List Nm} {k : Nat}
theorem St.shrink (S : St w σ B s own) (h : σ.heap.StaysIn B₀) (k : B₀.StaysIn B) : St w σ B₀ s own :=
  ⟨S.pg, S.rest, h, fun b o e => S.keep b o (k b o e), S.size, fun p hp => let ⟨a, b, c⟩ := S.has p hp; ⟨a, fresh_get k b, c⟩, S.nodup⟩
theorem f_within (P : Params) : (K P).lookup 29 = some ⟨.type "function", none, .func (fnOf "objects_within" "objects_within" (fA 6) (fB 6) (fS 6) .none .none .none (.str "chancore.collector" 194) none (.ref 28) .none), #[]⟩ := by kernel_rfl
theorem c_within (P : Params) : codeIn (K P) (.ref 28) "objects_within" = true := by kernel_rfl
def wiJ (w : World) (σ : Shared) (B : Heap) (own : List Pt) (env : Env) (fa wa : Addr) (v : Value) (goal : List Nm) (m : Nat) (s : Shared) : Prop := ∃ W ms' acc xs B' u1 u2 u3, LeadsL B' W.reverse ms' m ∧ NmsAre xs acc ∧ onceA acc ms' = goal ∧ acc.length + m < 500 ∧ B.StaysIn B' ∧
    St w σ B' s ((env.locals, frO env [("value", some v), ("found", some (.ref fa)), ("waiting", some (.ref wa)), ("here", u1), ("kind", u2), ("number", u3)]) :: (fa, lsO xs) :: (wa, lsO W) :: own)
set_option maxHeartbeats 2000000 in
theorem within_spec {n : Nat} {Q : Value → Shared → Prop} (Z : Rm A (n + 2)) (S : St w σ B s own) (hv : Leads B v ms k) (hk : k < 400) (h : ∀ a xs s', NmsAre xs (onceA [] ms) → St w σ B s' ((a, lsO xs) :: own) → Q (.ref a) s') : wpAny (MM w) A (call (.ref 29) [v]) Q E s := by
  have hσ := S.base
  refine enter (vs := [v]) (ps := ["value"]) (ls := ["found", "waiting", "here", "kind", "number"]) (gl := ["isinstance", "tuple", "REFERRING", "list"]) (n := n + 1) Z S (f_within _) (c_within _) rfl (by kernel_rfl) (BindsTo.of_eq (by kernel_rfl)) rfl fun env s₁ V Z S => ?_
  change St _ _ _ _ ((env.locals, frO env [("value", some v), ("found", none), ("waiting", none), ("here", none), ("kind", none), ("number", none)]) :: _) at S
  with_unfolding_all refine x_seq ?_
  refine x_swap2 Z.1 S V .head (by kt_at_method) (by kt_at_method) rfl rfl rfl rfl rfl rfl rfl ?_
  repeat kt_at_item
  rename_i fa _ _ wa _ _ ta B1 _ kB hT S1
  refine ⟨_, _, _, _, _, _, _, _, rfl, S1, .head, hT, fun s₂ S => ?_⟩
  clear S1
  repeat kt_at_item
  rename_i s₃ _ s₄ S1
  clear S
  refine x_while (wiJ w σ B own env fa wa v (onceA [] ms)) (k + 1) ?_ ?_
  · refine ⟨[v], ms, [], [], B1, none, none, none, ?_, .nil, rfl, by simp; omega, kB, S1.re (by krn_off)⟩
    have := LeadsL.cons (hv.keeps kB) .nil
    simpa using this
  · clear S1 hT
    rintro m s ⟨W, ms', acc, xs, B', u1, u2, u3, hW, hx, ho, hz, kB', S⟩
    have hxl := hx.length
    have hWl := hW.size.2
    rw [List.length_reverse] at hWl
    repeat kt_at_item
    rename_i tb _ S
    refine c_neE Z.units (by kcj_m) (by kcj_m) ?_
    replace S := S.lose (q := (tb, lsO [])) (by kt_at_get)
    refine t_bool ⟨fun hc => ?_, fun hc => ?_⟩
    · have hne : W ≠ [] := by simpa using hc
      obtain ⟨W', v', rfl⟩ : ∃ W' v', W = W' ++ [v'] := ⟨W.dropLast, W.getLast hne, (List.dropLast_concat_getLast hne).symm⟩
      rw [List.reverse_append] at hW
      cases hW with
      | @cons _ _ m1 m2 i j hv' hW' =>
      have hW2 : W'.length < 1000 := by rw [List.length_append] at hWl; omega
      repeat kt_at_item
      refine k_pop (by assumption) (by kt_at_get) hW2 fun s S => ?_
      repeat kt_at_item
      have atom : ∀ s S, (∃ u2 u3, St w σ B' s ((env.locals, frO env [("value", some v), ("found", some (.ref fa)), ("waiting", some (.ref wa)), ("here", some v'), ("kind", u2), ("number", u3)]) :: (wa, lsO W') :: (fa, lsO xs) :: own)) → m1 = [] → S = s → ∃ m, m < i + j + 1 ∧ wiJ w σ B own env fa wa v (onceA [] ms) m S := by
        rintro s _ ⟨u2, u3, S⟩ rfl rfl
        exact ⟨j, by omega, W', m2, acc, xs, B', _, u2, u3, hW', hx, by simpa using ho, by omega, kB', S.re (by krn_off)⟩
      cases hv' with
      | none =>
        refine i_none (by assumption) (k_nt _) fun s S => ?_
        repeat kt_at_item
        exact atom _ _ ⟨_, _, S⟩ rfl rfl
      | int n t =>
        refine i_int (by assumption) (k_it _) fun s S => ?_
        repeat kt_at_item
        exact atom _ _ ⟨_, _, S⟩ rfl rfl
      | bool b =>
        refine i_bool (by assumption) (k_bt _) fun s S => ?_
        repeat kt_at_item
        exact atom _ _ ⟨_, _, S⟩ rfl rfl
      | bytes b t =>
        refine i_bytes (by assumption) (k_yt _) fun s S => ?_
        repeat kt_at_item
        exact atom _ _ ⟨_, _, S⟩ rfl rfl
      | @far a b k t v m r1 r2 hk ha hb hm =>
        refine i_tuple (by assumption) (by kcj_m) (k_tt _) fun s S => ?_
        repeat kt_at_item
        refine c_eqT Z.units (by kcj_m) (by kcj_m) ?_
        refine t_bool ⟨fun h => absurd h (by simp), fun _ => ?_⟩
        repeat kt_at_item
        refine c_inRef (by assumption) ?_
        rw [show refNames.any (· == k) = true from by rcases hk with rfl | rfl <;> decide]
        repeat kt_at_item
        refine i_tuple (by assumption) (by kcj_m) (k_tt _) fun s S => ?_
        repeat kt_at_item
        refine c_notN (by kcj_m) hx hm ?_
        refine t_bool ⟨fun hc => ?_, fun hc => ?_⟩
        · repeat kt_at_item
          rename_i S
          have hn : m ∉ acc := by simpa using hc
          refine ⟨j, by omega, W', m2, acc ++ [m], xs ++ [v], _, _, _, _, hW'.keeps (by assumption), hx.append (.one hm), ?_, by simp; omega, by tb_rel, S.re (by krn_off)⟩
          rw [← ho, List.singleton_append, onceA_cons, if_neg hn]
        · repeat kt_at_item
          rename_i S
          have hn : m ∈ acc := by simpa using hc
          refine ⟨j, by omega, W', m2, acc, xs, _, _, _, _, hW'.keeps (by assumption), hx, ?_, by omega, by tb_rel, S.re (by krn_off)⟩
          rw [← ho, List.singleton_append, onceA_cons, if_pos hn]
      | @near a k t v m hk ha hm =>
        refine i_tuple (by assumption) (by kcj_m) (k_tt _) fun s S => ?_
        repeat kt_at_item
        refine c_eqT Z.units (by kcj_m) (by kcj_m) ?_
        refine t_bool ⟨fun h => absurd h (by simp), fun _ => ?_⟩
        repeat kt_at_item
        refine c_inRef (by assumption) ?_
        rw [show refNames.any (· == k) = true from by rcases hk with rfl | rfl | rfl <;> decide]
        repeat kt_at_item
        refine i_nmT (by assumption) hm fun s S => ?_
        repeat kt_at_item
        refine c_notN (by kcj_m) hx hm ?_
        refine t_bool ⟨fun hc => ?_, fun hc => ?_⟩
        · repeat kt_at_item
          rename_i S
          have hn : m ∉ acc := by simpa using hc
          refine ⟨j, by omega, W', m2, acc ++ [m], xs ++ [v], _, _, _, _, hW'.keeps (by assumption), hx.append (.one hm), ?_, by simp; omega, by tb_rel, S.re (by krn_off)⟩
          rw [← ho, List.singleton_append, onceA_cons, if_neg hn]
        · repeat kt_at_item
          rename_i S
          have hn : m ∈ acc := by simpa using hc
          refine ⟨j, by omega, W', m2, acc, xs, _, _, _, _, hW'.keeps (by assumption), hx, ?_, by omega, by tb_rel, S.re (by krn_off)⟩
          rw [← ho, List.singleton_append, onceA_cons, if_pos hn]
      | @func a b t x vs _ i ha hb hl =>
        have hsz := hl.size
        refine i_tuple (by assumption) (by kcj_m) (k_tt _) fun s S => ?_
        repeat kt_at_item
        refine c_eqT Z.units (by kcj_m) (by kcj_m) ?_
        refine t_bool ⟨fun h => absurd h (by simp), fun _ => ?_⟩
        repeat kt_at_item
        refine c_inRef (by assumption) ?_
        rw [show refNames.any (· == (Str.ofString "func")) = false from by decide]
        repeat kt_at_item
        refine c_strs ?_
        rw [show ((Str.ofString "func") == (Str.ofString "func")) = true from by decide]
        repeat kt_at_item
        refine c_strs ?_
        rw [show ((Str.ofString "func") == (Str.ofString "func")) = true from by decide]
        repeat kt_at_item
        rename_i S
        refine ⟨i + j, by omega, W' ++ vs.reverse, m1 ++ m2, acc, xs, _, _, _, _, ?_, hx, ho, by omega, by tb_rel, S.re (by krn_off)⟩
        have := (hl.append hW').keeps (by assumption)
        simpa using this
      | @face a t x u _ i ha hl =>
        refine i_tuple (by assumption) (by kcj_m) (k_tt _) fun s S => ?_
        repeat kt_at_item
        refine c_eqT Z.units (by kcj_m) (by kcj_m) ?_
        refine t_bool ⟨fun h => absurd h (by simp), fun _ => ?_⟩
        repeat kt_at_item
        refine c_inRef (by assumption) ?_
        rw [show refNames.any (· == (Str.ofString "face")) = false from by decide]
        repeat kt_at_item
        refine c_strs ?_
        rw [show ((Str.ofString "face") == (Str.ofString "func")) = false from by decide]
        repeat kt_at_item
        refine c_strs ?_
        rw [show ((Str.ofString "face") == (Str.ofString "face")) = true from by decide]
        repeat kt_at_item
        refine c_strs ?_
        rw [show ((Str.ofString "face") == (Str.ofString "func")) = false from by decide]
        repeat kt_at_item
        rename_i S
        refine ⟨i + j + 1, by omega, W' ++ [u], m1 ++ m2, acc, xs, _, _, _, _, ?_, hx, ho, by omega, by tb_rel, S.re (by krn_off)⟩
        have := (LeadsL.cons hl hW').keeps (by assumption)
        simpa using this
      | @row a b k t vs _ i hk ha hb hl =>
        have hsz := hl.size
        refine i_tuple (by assumption) (by kcj_m) (k_tt _) fun s S => ?_
        repeat kt_at_item
        refine c_eqT Z.units (by kcj_m) (by kcj_m) ?_
        refine t_bool ⟨fun h => absurd h (by simp), fun _ => ?_⟩
        repeat kt_at_item
        refine c_inRef (by assumption) ?_
        rw [show refNames.any (· == k) = false from by rcases hk with rfl | rfl <;> decide]
        repeat kt_at_item
        refine c_strs ?_
        rw [show (k == (Str.ofString "func")) = false from by rcases hk with rfl | rfl <;> decide]
        repeat kt_at_item
        refine c_strs ?_
        rw [show (k == (Str.ofString "face")) = false from by rcases hk with rfl | rfl <;> decide]
        repeat kt_at_item
        refine c_strs ?_
        have hend : ∀ s u3 c1 c2 P1 P2 B'', B'.StaysIn B'' → B.StaysIn B'' → St w σ B'' s ((wa, lsO (W' ++ vs.reverse)) :: (c1, P1) :: (c2, P2) :: (env.locals, frO env [("value", some v), ("found", some (.ref fa)), ("waiting", some (.ref wa)), ("here", some (.ref a)), ("kind", some (.str k t)), ("number", u3)]) :: (fa, lsO xs) :: own) →
            ∃ m, m < i + j + 1 ∧ wiJ w σ B own env fa wa v (onceA [] ms) m s := by
          intro s u3 c1 c2 P1 P2 B'' k1 k2 S
          refine ⟨i + j, by omega, W' ++ vs.reverse, m1 ++ m2, acc, xs, _, _, _, _, ?_, hx, ho, by omega, k2, S.re (by krn_off)⟩
          have := (hl.append hW').keeps k1
          simpa using this
        rcases hk with rfl | rfl
        · rw [show ((Str.ofString "struct") == (Str.ofString "struct")) = true from by decide]
          repeat kt_at_item
          rename_i S
          exact hend _ _ _ _ _ _ _ (by tb_rel) (by tb_rel) S
        · rw [show ((Str.ofString "array") == (Str.ofString "struct")) = false from by decide]
          repeat kt_at_item
          refine c_strs ?_
          rw [show ((Str.ofString "array") == (Str.ofString "array")) = true from by decide]
          repeat kt_at_item
          rename_i S
          exact hend _ _ _ _ _ _ _ (by tb_rel) (by tb_rel) S
    · have hne : W = [] := by simpa using hc
      subst hne
      cases hW
      repeat kt_at_item
      refine h fa xs _ (by rw [← ho]; exact hx) ?_
      exact (S.re (by krn_off)).shrink hσ (by tb_rel)
end
end
/-! F3 -/
noncomputable section
def IsVal (B : Heap) (r : Value) (ms : List Nm) (k : Nat) : Prop := ∃ a v b xs, r = .ref a ∧ Tup B a [v, .ref b] ∧ Leads B v ms k ∧ Lst B b xs ∧ NmsAre xs ms
section
variable {w : World} {σ : Shared} {B B₀ : Heap} {s : Shared} {own own' own'' rest : List Pt} {A : Around} {E : Value → Shared → Prop} {v : Value} {ms : List Nm} {k : Nat} {src a : Addr} {Q : Value → Shared → Prop}
theorem IsVal.keeps {B' : Heap} {r : Value} (h : IsVal B r ms k) (k' : B.StaysIn B') : IsVal B' r ms k := let ⟨a, v, b, xs, e, t, l, x, n⟩ := h; ⟨a, v, b, xs, e, t.keeps k', l.keeps k', x.keeps k', n⟩
theorem St.back {P : Obj → Prop} {x : Pt} (S : St w σ B s (x :: (a, P) :: own'')) (q : Pick (a, P) own' own'') : St w σ B s (x :: own') := S.perm (q.perm.symm.cons _)
set_option maxHeartbeats 1000000 in
theorem one_spec {n : Nat} {ta : Addr} {xs : List Value} (Z : Rm A (n + 4)) (S : St w σ B s own) (p : Pick (src, srcO) own own') (q : Pick (ta, lsO xs) own' own'') (h0 : xs ≠ []) (hz : xs.length < 100)
    (k : ∀ (i : Nat) (v : Value) s', xs[i]? = some v → St w σ B s' ((src, srcO) :: own') → Q v s') : wpAny (MM w) A (call (.ref 324) [.ref src, .ref ta]) Q E s := by
  have hl : 0 < xs.length := List.length_pos_iff.mpr h0
  have hσ := S.base
  replace S : St w σ B s ((src, srcO) :: (ta, lsO xs) :: own'') := S.arr (Arr.cons p (Arr.cons q Arr.nil))
  refine enter (vs := [.ref src, .ref ta]) (ps := ["source", "things"]) (ls := []) (gl := ["_law_take", "len"]) (n := n + 3) Z S (f_one _) (c_one _) rfl (by kernel_rfl) (BindsTo.of_eq (by kernel_rfl)) rfl fun env s₁ V Z S => ?_
  change St _ _ _ _ ((env.locals, frO env [("source", some (.ref src)), ("things", some (.ref ta))]) :: _) at S
  with_unfolding_all refine x_seq ?_
  repeat kt_at_item
  refine take_spec (n := n + 1) Z (by assumption) (by kt_at_get) (by omega) (by omega) fun r t s' h1 h2 S => ?_
  have hr : r.toNat < xs.length := by omega
  refine r_itemL (by kcj_m) h1 (by omega) (List.getElem?_eq_getElem hr) ?_ (by with_unfolding_all rfl)
  refine k r.toNat _ _ (List.getElem?_eq_getElem hr) ?_
  exact (S.re (own₂ := (src, srcO) :: (ta, lsO xs) :: own'') (by krn_off)).back q
theorem leaf_end {b : Addr} {xs : List Value} {B₀ : Heap} (S : St w σ B s own) (hT : Tup B a [v, .ref b]) (hv : Leads B v ms 0) (p : Pick (b, lsO xs) own own') (hx : NmsAre xs ms) (re : Re ((src, srcO) :: own'') own') (hz : ms.length ≤ 1) (hk : B₀.StaysIn B)
    (k : ∀ r ms B' s', B₀.StaysIn B' → IsVal B' r ms 0 → ms.length ≤ 1 → St w σ B' s' ((src, srcO) :: own'') → Q r s') : Q (.ref a) s := by
  obtain ⟨B', kB, ⟨o, ho, n, rfl⟩, S'⟩ := (S.pick p).freeze
  exact k _ ms B' s (st_trans hk kB) ⟨a, v, b, xs, rfl, hT.keeps kB, hv.keeps kB, ⟨n, ho⟩, hx⟩ hz (S'.re re)
set_option maxHeartbeats 1000000 in
theorem leaf_spec {n : Nat} (Z : Rm A (n + 6)) (S : St w σ B s own) (p : Pick (src, srcO) own own') (k : ∀ r ms B' s', B.StaysIn B' → IsVal B' r ms 0 → ms.length ≤ 1 → St w σ B' s' ((src, srcO) :: own') → Q r s') : wpAny (MM w) A (call (.ref 331) [.ref src]) Q E s := by
  replace S := S.pick p
  refine enter (vs := [.ref src]) (ps := ["source"]) (ls := ["number"]) (gl := ["_law_one"]) (n := n + 5) Z S (f_leaf _) (c_leaf _) rfl (by kernel_rfl) (BindsTo.of_eq (by kernel_rfl)) rfl fun env s₁ V Z S => ?_
  change St _ _ _ _ ((env.locals, frO env [("source", some (.ref src)), ("number", none)]) :: _) at S
  with_unfolding_all refine x_seq ?_
  repeat kt_at_item
  refine one_spec (n := n + 1) Z (by assumption) (by kt_at_get) (by kt_at_get) (by simp) (by simp) fun i v s' hi S => ?_
  have hm : ∃ m, NmV m v := by
    rcases i with _ | _ | _ | _ | _ | _ | _ | i <;> simp at hi <;> subst hi <;> first | exact ⟨some _, _, rfl⟩ | exact ⟨none, _, rfl⟩
  obtain ⟨m, hm⟩ := hm
  repeat kt_at_item
  refine one_spec (n := n + 1) Z (by assumption) (by kt_at_get) (by kt_at_get) (by simp) (by simp) fun i v s' hi S => ?_
  rcases i with _ | _ | _ | _ | _ | _ | _ | _ | _ | _ | _ | i
  · obtain rfl := Option.some.inj hi
    refine leaf_end S (by tb_rel) (.none) (by kt_at_get) .nil (by krn_off) (by simp) (by tb_rel) k
  · obtain rfl := Option.some.inj hi
    refine leaf_end S (by tb_rel) (.int _ _) (by kt_at_get) .nil (by krn_off) (by simp) (by tb_rel) k
  · obtain rfl := Option.some.inj hi
    refine leaf_end S (by tb_rel) (.bool _) (by kt_at_get) .nil (by krn_off) (by simp) (by tb_rel) k
  · obtain rfl := Option.some.inj hi
    refine leaf_end S (by tb_rel) (.bytes _ _) (by kt_at_get) .nil (by krn_off) (by simp) (by tb_rel) k
  · obtain rfl := Option.some.inj hi
    refine leaf_end S (by tb_rel) (.func (by tb_rel) (by tb_rel) .nil) (by kt_at_get) .nil (by krn_off) (by simp) (by tb_rel) k
  · obtain rfl := Option.some.inj hi
    refine leaf_end S (by tb_rel) (.far (.inl rfl) (by tb_rel) (by tb_rel) hm) (by kt_at_get) (.one hm) (by krn_off) (by simp) (by tb_rel) k
  · obtain rfl := Option.some.inj hi
    refine leaf_end S (by tb_rel) (.far (.inl rfl) (by tb_rel) (by tb_rel) hm) (by kt_at_get) (.one hm) (by krn_off) (by simp) (by tb_rel) k
  · obtain rfl := Option.some.inj hi
    refine leaf_end S (by tb_rel) (.far (.inr rfl) (by tb_rel) (by tb_rel) hm) (by kt_at_get) (.one hm) (by krn_off) (by simp) (by tb_rel) k
  · obtain rfl := Option.some.inj hi
    refine leaf_end S (by tb_rel) (.near (.inl rfl) (by tb_rel) hm) (by kt_at_get) (.one hm) (by krn_off) (by simp) (by tb_rel) k
  · obtain rfl := Option.some.inj hi
    refine leaf_end S (by tb_rel) (.near (.inr (.inl rfl)) (by tb_rel) hm) (by kt_at_get) (.one hm) (by krn_off) (by simp) (by tb_rel) k
  · obtain rfl := Option.some.inj hi
    refine leaf_end S (by tb_rel) (.near (.inr (.inr rfl)) (by tb_rel) hm) (by kt_at_get) (.one hm) (by krn_off) (by simp) (by tb_rel) k
  · simp at hi
end
end
/-! F4 -/
noncomputable section
inductive Parts (B : Heap) : List Value → List (List Nm) → Prop
  | nil : Parts B [] []
  | cons {r ms rs mss} : IsVal B r ms 0 → ms.length ≤ 1 → Parts B rs mss → Parts B (r :: rs) (ms :: mss)
theorem Parts.keeps {B B' : Heap} (k : B.StaysIn B') {rs mss} (h : Parts B rs mss) : Parts B' rs mss := by
  induction h with
  | nil => exact .nil
  | cons a b _ ih => exact .cons (a.keeps k) b ih
theorem Parts.snoc {B : Heap} {rs mss r ms} (h : Parts B rs mss) (a : IsVal B r ms 0) (b : ms.length ≤ 1) : Parts B (rs ++ [r]) (mss ++ [ms]) := by
  induction h with
  | nil => exact .cons a b .nil
  | cons x y _ ih => exact .cons x y ih
theorem Parts.length {B : Heap} {rs mss} (h : Parts B rs mss) : rs.length = mss.length := by
  induction h with
  | nil => rfl
  | cons _ _ _ ih => simp [ih]
theorem Parts.flat {B : Heap} {rs mss} (h : Parts B rs mss) : mss.flatten.length ≤ rs.length := by
  induction h with
  | nil => simp
  | cons _ b _ ih => rw [List.flatten_cons, List.length_append, List.length_cons]; omega
theorem Parts.at_ {B : Heap} {rs mss} (h : Parts B rs mss) : ∀ {i : Nat} {r : Value}, rs[i]? = some r → ∃ ms, mss[i]? = some ms ∧ IsVal B r ms 0 := by
  induction h with
  | nil => intro i r e; simp at e
  | cons a b _ ih =>
    intro i r e
    cases i with
    | zero => simp at e; subst e; exact ⟨_, rfl, a⟩
    | succ i => exact ih (by simpa using e)
theorem Parts.wss {B : Heap} {rs mss} (h : Parts B rs mss) : ∃ wss : List (List Value), rs.length = wss.length ∧ NmsAre wss.flatten mss.flatten ∧ ∀ (i : Nat) (r : Value), rs[i]? = some r → ∃ a v b ws, r = .ref a ∧ Tup B a [v, .ref b] ∧ wss[i]? = some ws ∧ Lst B b ws := by
  induction h with
  | nil => exact ⟨[], rfl, .nil, fun i r e => by simp at e⟩
  | @cons r ms rs mss a b _ ih =>
    obtain ⟨wss, h1, h2, h3⟩ := ih
    obtain ⟨ad, v, bd, xs, rfl, hT, hL, hX, hN⟩ := a
    refine ⟨xs :: wss, by simp [h1], by simpa using hN.append h2, fun i r e => ?_⟩
    cases i with
    | zero => simp at e; subst e; exact ⟨_, _, _, _, rfl, hT, rfl, hX⟩
    | succ i => obtain ⟨a', v', b', ws, q1, q2, q3, q4⟩ := h3 i r (by simpa using e); exact ⟨a', v', b', ws, q1, q2, by simpa using q3, q4⟩
section
variable {w : World} {σ : Shared} {B B₀ : Heap} {s : Shared} {own own' own'' rest : List Pt} {A : Around} {E : Value → Shared → Prop} {v : Value} {ms : List Nm} {k : Nat} {src a : Addr} {Q : Value → Shared → Prop}
set_option maxHeartbeats 2000000 in
theorem held_spec {n : Nat} (Z : Rm A (n + 10)) (S : St w σ B s own) (p : Pick (src, srcO) own own') (k : ∀ r ms B' s' j, B.StaysIn B' → IsVal B' r ms j → j ≤ 4 → ms.length ≤ 2 → St w σ B' s' ((src, srcO) :: own') → Q r s') : wpAny (MM w) A (call (.ref 336) [.ref src]) Q E s := by
  replace S := S.pick p
  refine enterC (vs := [.ref src]) (ps := ["source"]) (ls := ["parts", "values", "numbers", "way", "value", "led"]) (gl := ["range", "_law_take", "tuple", "_law_leaf"]) (cn := ["source"]) (n := n + 9) Z S (f_held _) (c_held _) rfl (by kernel_rfl) (by kernel_rfl) rfl fun env s₁ cs hcs V Z S => ?_
  obtain ⟨c, rfl⟩ := List.length_eq_one_iff.mp hcs
  change St _ _ _ _ ((env.locals, frO env [("parts", none), ("values", none), ("numbers", none), ("way", none), ("value", none), ("led", none)]) :: (c, clO (some (.ref src))) :: (src, srcO) :: own') at S
  change Ev env _ [("source", c)] at V
  with_unfolding_all refine x_seq ?_
  refine x_compS (ls := ["turn"]) (gl' := ["_law_leaf"]) (cs := [("source", c)]) S V .head (by kt_at_method) rfl (by rfl) (by rfl) (fun p hp => hp) ?_
  repeat kt_at_item
  refine take_spec (n := n + 7) Z (by assumption) (by kt_at_get) (by omega) (by omega) fun r t s' h1 h2 S => ?_
  obtain ⟨m, rfl⟩ := Int.eq_ofNat_of_zero_le h1
  repeat kt_at_item
  refine k_range1 S fun rg s' S => ?_
  refine it_range Z.1 S .head (by omega) fun I Fi s' W S => ?_
  refine comp_in _ (fun i ys B' => ∃ mss, Parts B' ys mss ∧ ys.length = i) W (fun _ _ e => e) S (by omega) ⟨[], .nil, rfl⟩ ?_ ?_
  · rintro cenv D i v ys B1 s us V2 hi ⟨t, rfl⟩ hB ⟨mss, hp, hl⟩ hu S
    obtain ⟨u, rfl⟩ := List.length_eq_one_iff.mp hu
    change St _ _ _ _ ((cenv.locals, frO cenv [("turn", u)]) :: _) at S
    refine assign_Name ?_
    kt_at_item
    refine tests0 ⟨fun _ => ?_, fun h => by cases h⟩
    repeat kt_at_item
    refine leaf_spec (n := n) (Z.mono (by omega)) (by assumption) (by kt_at_get) fun r ms B' s' k1 hv hms S => ?_
    exact ⟨B', [some _], st_trans hB k1, rfl, ⟨mss ++ [ms], (hp.keeps k1).snoc hv hms, by simp [hl]⟩, cend1 (S.re (by krn_off))⟩
  · rintro ys B1 D cenv us s ⟨mss, hp, hl⟩ hB hu S
    refine ⟨_, _, _, by kt_at_get, by lcg_off, fun s' S => ?_⟩
    obtain ⟨B2, k2, ⟨o, ho, nn, rfl⟩, S⟩ := (S.pick (.tail .head)).freeze
    have hD : Lst B2 D ys := ⟨nn, ho⟩
    replace hp := hp.keeps k2
    clear ho
    refine x_seq ?_
    refine x_swap2 Z.1 S V .head (by kt_at_method) (by kt_at_method) rfl rfl rfl rfl rfl rfl rfl ?_
    repeat kt_at_item
    refine r_comp (ls := ["part"]) (gl' := []) (cs := []) (own := []) V (by rfl) (fun p hp => nomatch hp) ?_
    kt_at_item
    refine it_list Z.1 (by assumption) hD fun I Fi s W S => ?_
    refine comp_in _ (fun i ys2 B' => LeadsL B' ys2 (mss.take i).flatten i) W (fun _ _ e => e) S (by omega) (by simpa using .nil) ?_ ?_
    · rintro cenv D2 i v ys2 B3 s us V2 hi hv hB hP hu S
      obtain ⟨u, rfl⟩ := List.length_eq_one_iff.mp hu
      change St _ _ _ _ ((cenv.locals, frO cenv [("part", u)]) :: _) at S
      obtain ⟨ms, hms, a, v', b, xs, rfl, hT, hL, hX, hN⟩ := hp.at_ hv
      replace hT := hT.keeps hB
      refine assign_Name ?_
      kt_at_item
      refine tests0 ⟨fun _ => ?_, fun h => by cases h⟩
      repeat kt_at_item
      rename_i S
      refine ⟨_, [some _], hB, rfl, ?_, cend1 (S.re (by krn_off))⟩
      have := hP.append (.cons (hL.keeps hB) .nil)
      have e : (mss.take (i + 1)).flatten = (mss.take i).flatten ++ ms := by
        obtain ⟨hi', e⟩ := List.getElem?_eq_some_iff.mp hms
        rw [List.take_succ_eq_append_getElem hi', List.flatten_append, e]; simp
      rw [e]
      simpa using this
    · rintro ys2 B3 D2 cenv us s hP hB hu S s' S'
      replace hp := hp.keeps hB
      replace hD := hD.keeps hB
      have hlen := hp.length
      rw [hl, hlen.symm.trans hl |>.symm, List.take_length] at hP
      have hsz := hP.size
      have hfl := hp.flat
      clear S
      repeat kt_at_item
      rename_i tv B4 s4 k4 hTv S4
      obtain ⟨wss, w1, w2, w3⟩ := hp.wss
      refine r_flat (ls := ["part", "number"]) (gl' := []) (cs := []) Z.1 V (by rfl) (fun p hp => nomatch hp) (by simp) ?_
      kt_at_item
      have hwl := w2.length
      refine ⟨_, _, _, ys, wss, D, rfl, S4, hD.keeps k4, w1, by omega, fun i v hv => ?_, fun D4 s5 S5 => ?_⟩
      · obtain ⟨a, v', b, ws, rfl, q1, q2, q3⟩ := w3 i v hv
        refine ⟨b, ws, q2, q3.keeps k4, fun cenv s own us V3 hu S => ?_⟩
        obtain ⟨u1, u2, rfl⟩ := list2 hu
        change St _ _ _ _ ((cenv.locals, frO cenv [("part", u1), ("number", u2)]) :: _) at S
        replace q1 := q1.keeps k4
        refine assign_Name ?_
        repeat kt_at_item
        rename_i S
        exact ⟨rfl, [some _, _], _, rfl, S, by
          refine Arr.cons (own₁ := own) ?_ .nil
          exact (Pick.head : Pick _ ((cenv.locals, frO cenv [("part", some _), ("number", _)]) :: own) own)⟩
      · clear S4
        repeat kt_at_item
        refine ⟨_, _, _, _, _, _, _, _, rfl, by assumption, .head, by tb_rel, fun s₂ S => ?_⟩
        kt_at_item
        kt_at_item
        rename_i S6
        obtain ⟨B7, k7, ⟨o, ho, nn, rfl⟩, S⟩ := (S6.pick (p := (D4, lsO _)) (by kt_at_get)).freeze
        have hD4 : Lst B7 D4 wss.flatten := ⟨nn, ho⟩
        clear S6 ho
        repeat kt_at_item
        refine take_spec (n := n + 7) Z (by assumption) (by kt_at_get) (by omega) (by omega) fun r t s' h1 h2 S => ?_
        repeat kt_at_item
        refine c_ints (t_bool ⟨fun hc => ?_, fun hc => ?_⟩)
        · repeat kt_at_item
          rename_i S
          exact k _ mss.flatten _ _ _ (by tb_rel) ⟨_, _, _, _, rfl, by tb_rel, .row (.inl rfl) (by tb_rel) (by tb_rel) (hP.keeps (by tb_rel)), by tb_rel, w2⟩ (by omega) (by omega) (S.re (by krn_off))
        · repeat kt_at_item
          refine c_ints (t_bool ⟨fun hc => ?_, fun hc => ?_⟩)
          · repeat kt_at_item
            rename_i S
            exact k _ mss.flatten _ _ _ (by tb_rel) ⟨_, _, _, _, rfl, by tb_rel, .row (.inr rfl) (by tb_rel) (by tb_rel) (hP.keeps (by tb_rel)), by tb_rel, w2⟩ (by omega) (by omega) (S.re (by krn_off))
          · repeat kt_at_item
            refine c_ints (t_bool ⟨fun hc => ?_, fun hc => ?_⟩)
            · repeat kt_at_item
              rename_i S
              exact k _ mss.flatten _ _ _ (by tb_rel) ⟨_, _, _, _, rfl, by tb_rel, .func (by tb_rel) (by tb_rel) (hP.keeps (by tb_rel)), by tb_rel, w2⟩ (by omega) (by omega) (S.re (by krn_off))
            · repeat kt_at_item
              refine x_tuple ?_ (by rfl) (by rfl)
              repeat kt_at_item
              refine leaf_spec (n := n + 3) Z (by assumption) (by kt_at_get) fun r ms B8 s' k8 hv hms S => ?_
              obtain ⟨a, v', b, xs, rfl, hT, hL, hX, hN⟩ := hv
              refine k_assign2 Z.1 S .head hT fun s' S => ?_
              repeat kt_at_item
              rename_i S
              exact k _ ms _ _ 1 (by tb_rel) ⟨_, _, _, _, rfl, by tb_rel, .face (by tb_rel) (hL.keeps (by tb_rel)), by tb_rel, hN⟩ (by omega) (by omega) (S.re (by krn_off))
end
end
/-! F5 -/
noncomputable section
section
variable {w : World} {σ : Shared} {B B₀ : Heap} {s : Shared} {own own' own'' rest : List Pt} {A : Around} {E : Value → Shared → Prop} {v : Value} {ms : List Nm} {k : Nat} {src a : Addr} {Q : Value → Shared → Prop}
set_option maxHeartbeats 2000000 in
theorem value_spec {n : Nat} (Z : Rm A (n + 12)) (S : St w σ B s own) (p : Pick (src, srcO) own own') (k : ∀ r ms B' s' j, B.StaysIn B' → IsVal B' r ms j → j ≤ 8 → ms.length ≤ 3 → St w σ B' s' ((src, srcO) :: own') → Q r s') : wpAny (MM w) A (call (.ref 343) [.ref src]) Q E s := by
  replace S := S.pick p
  refine enter (vs := [.ref src]) (ps := ["source"]) (ls := ["one", "other"]) (gl := ["_law_held", "_law_leaf", "_law_one"]) (n := n + 11) Z S (f_value _) (c_value _) rfl (by kernel_rfl) (BindsTo.of_eq (by kernel_rfl)) rfl fun env s₁ V Z S => ?_
  change St _ _ _ _ ((env.locals, frO env [("source", some (.ref src)), ("one", none), ("other", none)]) :: _) at S
  with_unfolding_all refine x_seq ?_
  refine x_swap2 Z.1 S V .head (by kt_at_method) (by kt_at_method) rfl rfl rfl rfl rfl rfl rfl ?_
  repeat kt_at_item
  refine held_spec (n := n + 1) Z (by assumption) (by kt_at_get) fun r1 ms1 B1 s1 j1 k1 hv1 hj1 hm1 S1 => ?_
  repeat kt_at_item
  refine leaf_spec (n := n + 5) Z (by assumption) (by kt_at_get) fun r2 ms2 B2 s2 k2 hv2 hm2 S2 => ?_
  obtain ⟨a1, v1, b1, xs1, rfl, hT1, hL1, hX1, hN1⟩ := hv1
  obtain ⟨a2, v2, b2, xs2, rfl, hT2, hL2, hX2, hN2⟩ := hv2
  have hl1 := hN1.length
  have hl2 := hN2.length
  repeat kt_at_item
  refine ⟨_, _, _, _, _, _, _, _, rfl, by assumption, .head, by tb_rel, fun s₂ S => ?_⟩
  repeat kt_at_item
  refine one_spec (n := n + 7) Z (by assumption) (by kt_at_get) (by kt_at_get) (by simp) (by simp) fun i v s' hi S => ?_
  rcases i with _ | _ | _ | i
  · obtain rfl := Option.some.inj hi
    exact k _ ms1 _ _ _ (by tb_rel) ⟨_, _, _, _, rfl, by tb_rel, hL1.keeps (by tb_rel), by tb_rel, hN1⟩ (by omega) (by omega) (S.re (by krn_off))
  · obtain rfl := Option.some.inj hi
    exact k _ ms2 _ _ _ (by tb_rel) ⟨_, _, _, _, rfl, by tb_rel, hL2.keeps (by tb_rel), by tb_rel, hN2⟩ (by omega) (by omega) (S.re (by krn_off))
  · obtain rfl := Option.some.inj hi
    obtain ⟨B', kB, ⟨o, ho, nn, rfl⟩, S'⟩ := (S.pick (p := (_, lsO (xs1 ++ xs2))) (by kt_at_get)).freeze
    refine k _ (ms1 ++ ms2) _ _ _ (by tb_rel) ⟨_, _, _, _, rfl, by tb_rel, .row (.inl rfl) (by tb_rel) (by tb_rel) (by simpa using LeadsL.cons (hL1.keeps (by tb_rel)) (.cons (hL2.keeps (by tb_rel)) .nil)), ⟨nn, ho⟩, hN1.append hN2⟩ (by omega) (by simp; omega) (S'.re (by krn_off))
  · simp at hi
end
end
/-! F6 -/
noncomputable section
theorem onceA_mem : ∀ (ms acc : List Nm) (m : Nm), m ∈ onceA acc ms ↔ m ∈ acc ∨ m ∈ ms
  | [], acc, m => by simp [onceA]
  | x :: ms, acc, m => by
    rw [onceA_cons, onceA_mem ms]
    split
    · rename_i h
      constructor
      · rintro (h1 | h1)
        · exact .inl h1
        · exact .inr (.tail _ h1)
      · rintro (h1 | h1)
        · exact .inl h1
        · rcases List.mem_cons.mp h1 with rfl | h1
          · exact .inl h
          · exact .inr h1
    · simp only [List.mem_append, List.mem_cons, List.not_mem_nil, or_false]
      constructor
      · rintro ((h1 | rfl) | h1)
        · exact .inl h1
        · exact .inr (.inl rfl)
        · exact .inr (.inr h1)
      · rintro (h1 | rfl | h1)
        · exact .inl (.inl h1)
        · exact .inl (.inr rfl)
        · exact .inr h1
theorem onceA_snoc (ms acc : List Nm) (m : Nm) : onceA acc (ms ++ [m]) = if m ∈ onceA acc ms then onceA acc ms else onceA acc ms ++ [m] := by
  unfold onceA
  rw [List.foldl_append]
  rfl
theorem NmsAre.take {vs : List Value} {ms : List Nm} (h : NmsAre vs ms) : ∀ i, NmsAre (vs.take i) (ms.take i) := by
  induction h with
  | nil => intro i; simp; exact .nil
  | cons a b ih =>
    intro i
    cases i with
    | zero => exact .nil
    | succ i => exact .cons a (ih i)
section
variable {w : World} {σ : Shared} {B B₀ : Heap} {s : Shared} {own own' own'' rest : List Pt} {A : Around} {E : Value → Shared → Prop} {v : Value} {ms : List Nm} {k : Nat} {src a : Addr} {Q : Value → Shared → Prop}
set_option maxHeartbeats 2000000 in
theorem once_spec {n : Nat} {b : Addr} {xs : List Value} (Z : Rm A (n + 2)) (S : St w σ B s own) (hb : Lst B b xs) (hx : NmsAre xs ms) (hz : xs.length < 100) (k : ∀ a ys s', NmsAre ys (onceA [] ms) → St w σ B s' ((a, lsO ys) :: own) → Q (.ref a) s') : wpAny (MM w) A (call (.ref 348) [.ref b]) Q E s := by
  have hlen := hx.length
  refine enterC (vs := [.ref b]) (ps := ["numbers"]) (ls := []) (gl := ["range", "len"]) (cn := ["numbers"]) (n := n + 1) Z S (f_once _) (c_once _) rfl (by kernel_rfl) (by kernel_rfl) rfl fun env s₁ cs hcs V Z S => ?_
  obtain ⟨c, rfl⟩ := List.length_eq_one_iff.mp hcs
  change St _ _ _ _ ((env.locals, frO env []) :: (c, clO (some (.ref b))) :: own) at S
  change Ev env _ [("numbers", c)] at V
  with_unfolding_all refine x_seq ?_
  refine x_ret ?_
  refine r_comp (ls := ["at"]) (gl' := []) (cs := [("numbers", c)]) (own := []) V (by rfl) (fun p hp => hp) ?_
  repeat kt_at_item
  refine k_range1 (by assumption) fun rg s' S => ?_
  refine it_range Z.1 S .head (by omega) fun I Fi s' W S => ?_
  refine comp_in _ (fun i ys B' => NmsAre ys (onceA [] (ms.take i)) ∧ B' = B) W (fun _ _ e => e) S (by omega) ⟨.nil, rfl⟩ ?_ ?_
  · rintro cenv D i v ys B1 s us V2 hi ⟨t, rfl⟩ hB ⟨hP, rfl⟩ hu S
    obtain ⟨u, rfl⟩ := List.length_eq_one_iff.mp hu
    clear hB
    change St _ _ _ _ ((cenv.locals, frO cenv [("at", u)]) :: _) at S
    have hv : xs[i]? = some xs[i] := List.getElem?_eq_getElem hi
    obtain ⟨m, hm, hv2⟩ := hx.at_ hv
    refine assign_Name ?_
    kt_at_item
    refine tests1 ?_
    repeat kt_at_item
    refine r_itemL (by kcj_m) (by omega) (by omega) (v := xs[i]) (by simpa using hv) ?_ (by with_unfolding_all rfl)
    repeat kt_at_item
    refine c_notN (by kcj_m) (hx.take _) hv2 ?_
    have hmem : m ∈ ms.take ((i : Int).toNat) ↔ m ∈ onceA [] (ms.take i) := by rw [onceA_mem]; simp
    have htake : ms.take (i + 1) = ms.take i ++ [m] := by
      obtain ⟨hi', e⟩ := List.getElem?_eq_some_iff.mp hm
      rw [List.take_succ_eq_append_getElem hi', e]
    refine t_bool ⟨fun hc => ?_, fun hc => ?_⟩
    · repeat kt_at_item
      refine r_itemL (by kcj_m) (by omega) (by omega) (v := xs[i]) (by simpa using hv) ?_ (by with_unfolding_all rfl)
      rename_i S
      refine ⟨_, [some _], fun _ _ e => e, rfl, ⟨?_, rfl⟩, cend1 (S.re (by krn_off))⟩
      rw [htake, onceA_snoc, if_neg (fun h => (of_decide_eq_true hc) (hmem.mpr h))]
      exact hP.append (.one hv2)
    · rename_i S
      refine ⟨_, [some _], fun _ _ e => e, rfl, ⟨?_, rfl⟩, cend1 (S.re (by krn_off))⟩
      rw [htake, onceA_snoc, if_pos (hmem.mp (Decidable.of_not_not (of_decide_eq_false hc)))]
      exact hP
  · rintro ys B1 D cenv us s ⟨hP, rfl⟩ hB hu S s' S'
    clear hB
    rw [hlen, List.take_length] at hP
    repeat kt_at_item
    exact k D ys _ hP (S'.re (by krn_off))
end
end
/-! F7 -/
noncomputable section
/-! colours -/
abbrev Cs := Int → Option Str
abbrev sW : Str := "white"
abbrev sG : Str := "grey"
abbrev sB : Str := "black"
def setC (c : Cs) (n : Int) (x : Str) : Cs := fun k => if k = n then some x else c k
def delC (c : Cs) (n : Int) : Cs := fun k => if k = n then none else c k
def ColV : Option Str → Option Value → Prop
  | none, none => True
  | some x, some v => ∃ t, v = .str x t
  | _, _ => False
def ColD (kvs : List (Nm × Value)) (c : Cs) : Prop := valueAt kvs none = none ∧ ∀ n, ColV (c n) (valueAt kvs (some n))
def Sup (c : Cs) (g : Nat) : Prop := ∀ n x, c n = some x → 1 ≤ n ∧ n ≤ g
theorem ColD.nil : ColD [] (fun _ => none) := ⟨rfl, fun _ => trivial⟩
theorem ColD.set {kvs : List (Nm × Value)} {c : Cs} {n : Int} {x : Str} {t : Tok} (h : ColD kvs c) : ColD (stored kvs (some n) (.str x t)) (setC c n x) := by
  refine ⟨by rw [valueAt_stored, if_neg (by simp)]; exact h.1, fun k => ?_⟩
  rw [valueAt_stored]
  unfold setC
  by_cases e : k = n
  · subst e; simp [ColV]
  · have : ¬ (some n : Nm) = some k := fun z => e (Option.some.inj z).symm
    simp only [this, e, if_false]
    exact h.2 k
theorem ColD.del {kvs : List (Nm × Value)} {c : Cs} {n : Int} (h : ColD kvs c) : ColD (without kvs (some n)) (delC c n) := by
  refine ⟨by rw [valueAt_without, if_neg (by simp)]; exact h.1, fun k => ?_⟩
  rw [valueAt_without]
  unfold delC
  by_cases e : k = n
  · subst e; simp [ColV]
  · have : ¬ (some n : Nm) = some k := fun z => e (Option.some.inj z).symm
    simp only [this, e, if_false]
    exact h.2 k
theorem ColD.some {kvs : List (Nm × Value)} {c : Cs} {n : Int} {x : Str} (h : ColD kvs c) (e : c n = some x) : ∃ t, valueAt kvs (some n) = some (.str x t) := by
  have := h.2 n
  rw [e] at this
  cases q : valueAt kvs (Option.some n) with
  | none => rw [q] at this; exact this.elim
  | some v => rw [q] at this; obtain ⟨t, rfl⟩ := this; exact ⟨t, rfl⟩
theorem ColD.none {kvs : List (Nm × Value)} {c : Cs} {n : Int} (h : ColD kvs c) (e : c n = none) : valueAt kvs (Option.some n) = none := by
  have := h.2 n
  rw [e] at this
  cases q : valueAt kvs (Option.some n) with
  | none => rfl
  | some v => rw [q] at this; exact this.elim
def isW (c : Cs) : Nm → Bool
  | some n => c n == some sW
  | none => false
theorem sub_len {l : List Int} : ∀ {r : List Int}, l.Nodup → (∀ n ∈ l, n ∈ r) → l.length ≤ r.length := by
  induction l with
  | nil => intro r _ _; exact Nat.zero_le _
  | cons a l ih =>
    intro r nd h
    have ha := h a (.head _)
    have := ih (r := r.erase a) (List.nodup_cons.mp nd).2 fun n hn => (List.mem_erase_of_ne (fun (e : n = a) => (List.nodup_cons.mp nd).1 (by rw [← e]; exact hn))).mpr (h n (.tail _ hn))
    rw [List.length_erase_of_mem ha] at this
    have h0 : 0 < r.length := List.length_pos_of_mem ha
    simp only [List.length_cons]
    omega
theorem range_len {l : List Int} {g : Nat} (nd : l.Nodup) (h : ∀ n ∈ l, 1 ≤ n ∧ n ≤ g) : l.length ≤ g := by
  have h2 : l.length ≤ ((List.range g).map fun (i : Nat) => (i : Int) + 1).length := by
    refine sub_len nd fun n hn => ?_
    obtain ⟨a, b⟩ := h n hn
    exact List.mem_map.mpr ⟨(n - 1).toNat, List.mem_range.mpr (by omega), by omega⟩
  simpa using h2
theorem ColD.keys {kvs : List (Nm × Value)} {c : Cs} (h : ColD kvs c) (nd : (kvs.map (·.1)).Nodup) : ∃ ns : List Int, kvs.map (·.1) = ns.map Option.some ∧ ns.Nodup ∧ ∀ n, n ∈ ns ↔ ∃ x, c n = Option.some x := by
  have hk : ∀ m ∈ kvs.map (·.1), ∃ n : Int, m = Option.some n := fun m hm => by
    cases m with
    | none => obtain ⟨v, e⟩ := valueAt_key.mp hm; rw [h.1] at e; cases e
    | some n => exact ⟨n, rfl⟩
  obtain ⟨ns, e⟩ : ∃ ns : List Int, kvs.map (·.1) = ns.map Option.some := by
    generalize kvs.map (·.1) = l at hk
    clear nd
    induction l with
    | nil => exact ⟨[], rfl⟩
    | cons m l ih =>
      obtain ⟨n, rfl⟩ := hk m (.head _)
      obtain ⟨ns, e⟩ := ih fun m hm => hk m (.tail _ hm)
      exact ⟨n :: ns, by simp [e]⟩
  refine ⟨ns, e, ?_, fun n => ?_⟩
  · rw [e] at nd
    exact List.Pairwise.of_map Option.some (fun a b h e => h (by rw [e])) nd
  · have : n ∈ ns ↔ Option.some n ∈ kvs.map (·.1) := by rw [e]; simp
    rw [this, valueAt_key]
    have q := h.2 n
    constructor
    · rintro ⟨v, e⟩
      rw [e] at q
      cases hc : c n with
      | none => rw [hc] at q; exact q.elim
      | some x => exact ⟨x, rfl⟩
    · rintro ⟨x, e⟩
      obtain ⟨t, e⟩ := h.some e
      exact ⟨_, e⟩
/-! shading -/
abbrev Sd := Cs × List Int
def sh1 (st : Sd) : Nm → Sd
  | some n => if st.1 n = some sW then (setC st.1 n sG, st.2 ++ [n]) else st
  | none => st
def shadeL (st : Sd) (ms : List Nm) : Sd := ms.foldl sh1 st
structure Ok (g : Nat) (st : Sd) : Prop where
  sup : Sup st.1 g
  nodup : st.2.Nodup
  grey : ∀ n, n ∈ st.2 ↔ st.1 n = some sG
theorem Ok.len {g : Nat} {st : Sd} (h : Ok g st) : st.2.length ≤ g := range_len h.nodup fun n hn => h.sup n _ ((h.grey n).mp hn)
theorem Ok.sh1 {g : Nat} {st : Sd} (h : Ok g st) (m : Nm) : Ok g (sh1 st m) := by
  cases m with
  | none => exact h
  | some n =>
    unfold Mine.sh1
    dsimp only
    split
    · rename_i hw
      refine ⟨fun k x e => ?_, ?_, fun k => ?_⟩
      · unfold setC at e
        dsimp only at e
        split at e
        · rename_i q; rw [q]; exact h.sup n _ hw
        · exact h.sup k x e
      · refine List.nodup_append.mpr ⟨h.nodup, by simp, fun a ha b hb e => ?_⟩
        simp at hb
        subst hb e
        have := (h.grey a).mp ha
        rw [hw] at this
        exact absurd this (by decide)
      · unfold setC
        simp only [List.mem_append, List.mem_cons, List.not_mem_nil, or_false]
        by_cases e : k = n
        · simp [e]
        · simp only [e, or_false, if_false]; exact h.grey k
    · exact h
theorem Ok.shade {g : Nat} : ∀ (ms : List Nm) {st : Sd}, Ok g st → Ok g (shadeL st ms)
  | [], _, h => h
  | m :: ms, _, h => Ok.shade ms (h.sh1 m)
section
variable {w : World} {σ : Shared} {B B₀ : Heap} {s : Shared} {own own' own'' rest : List Pt} {A : Around} {E : Value → Shared → Prop} {v : Value} {ms : List Nm} {k : Nat} {src a cc cg : Addr} {Q : Value → Shared → Prop} {kvs : List (Nm × Value)} {c : Cs} {g : Nat} {m : Nm}
theorem St.keys (S : St w σ B s own) (p : Pick (a, dcO w kvs) own own') : (kvs.map (·.1)).Nodup := let ⟨_, _, _, _, _, _, _, _, h⟩ := S.dict p; h
theorem St.col_len (S : St w σ B s own) (p : Pick (a, dcO w kvs) own own') (h : ColD kvs c) (hs : Sup c g) : kvs.length ≤ g := by
  obtain ⟨ns, e, nd, hm⟩ := h.keys (S.keys p)
  have : kvs.length = ns.length := by have := congrArg List.length e; simpa using this
  rw [this]
  exact range_len nd fun n hn => let ⟨x, e⟩ := (hm n).mp hn; hs n x e
theorem c_col {t : Tok} (h : ColD kvs c) (q : Q (.bool (isW c m)) s) : wpAny (MM w) A (compareOp .Eq ((valueAt kvs m).getD .none) (.str "white" t)) Q E s := by
  cases m with
  | none => rw [h.1]; exact c_noneStr q
  | some n =>
    cases hc : c n with
    | none => rw [h.none hc]; exact c_noneStr (by simpa [isW, hc] using q)
    | some x =>
      obtain ⟨t', e⟩ := h.some hc
      rw [e]
      refine c_strs ?_
      have : (x == sW) = isW c (some n) := by unfold isW; dsimp only; rw [hc]; rfl
      rw [this]; exact q
end
end
/-! F8 -/
noncomputable section
theorem shade_append (st : Sd) (a b : List Nm) : shadeL st (a ++ b) = shadeL (shadeL st a) b := List.foldl_append
/-- what is not white stays so -/
theorem sh1_done {st : Sd} {m : Nm} : isW (sh1 st m).1 m = false := by
  cases m with
  | none => rfl
  | some n =>
    unfold sh1
    dsimp only
    split
    · unfold isW setC; simp; decide
    · rename_i h; unfold isW; simpa using h
theorem sh1_keep {st : Sd} {m m' : Nm} (h : isW st.1 m = false) : isW (sh1 st m').1 m = false := by
  cases m with
  | none => rfl
  | some n =>
    cases m' with
    | none => exact h
    | some k =>
      unfold sh1
      dsimp only
      split
      · unfold isW setC
        dsimp only
        split
        · decide
        · exact h
      · exact h
theorem sh1_noop {st : Sd} {m : Nm} (h : isW st.1 m = false) : sh1 st m = st := by
  cases m with
  | none => rfl
  | some n =>
    unfold sh1
    dsimp only
    rw [if_neg (by unfold isW at h; simpa using h)]
theorem shade_mem : ∀ (ms : List Nm) {st : Sd} {m : Nm}, (m ∈ ms ∨ isW st.1 m = false) → isW (shadeL st ms).1 m = false
  | [], _, _, h => h.resolve_left (by simp)
  | x :: ms, st, m, h => by
    refine shade_mem ms (st := sh1 st x) ?_
    rcases h with h | h
    · rcases List.mem_cons.mp h with rfl | h
      · exact .inr sh1_done
      · exact .inl h
    · exact .inr (sh1_keep h)
theorem shade_once (st : Sd) (ms : List Nm) : shadeL st (onceA [] ms) = shadeL st ms := by
  have key : ∀ (ms acc : List Nm), shadeL st (onceA acc ms) = shadeL (shadeL st acc) ms := by
    intro ms
    induction ms with
    | nil => intro acc; rfl
    | cons m ms ih =>
      intro acc
      rw [onceA_cons, ih]
      show _ = shadeL (sh1 (shadeL st acc) m) ms
      congr 1
      split
      · rename_i h; rw [sh1_noop (shade_mem acc (.inl h))]
      · rw [shade_append]; rfl
  exact key ms []
section
variable {w : World} {σ : Shared} {B B₀ : Heap} {s : Shared} {own own1 own2 rest : List Pt} {A : Around} {E : Value → Shared → Prop} {v : Value} {ms : List Nm} {k : Nat} {src a cc cg : Addr} {Q : Value → Shared → Prop} {kvs : List (Nm × Value)} {gs : List Value} {st : Sd} {g : Nat} {m : Nm}
set_option maxHeartbeats 2000000 in
theorem lshade_spec {n : Nat} {b : Addr} {xs : List Value} (Z : Rm A (n + 4)) (S : St w σ B s own) (p1 : Pick (cc, dcO w kvs) own own1) (p2 : Pick (cg, lsO gs) own1 own2) (hc : ColD kvs st.1) (hg : NmsAre gs (st.2.map some)) (ok : Ok g st) (hgz : g ≤ 40)
    (hb : Lst B b xs) (hx : NmsAre xs ms) (hz : xs.length < 100) (k : ∀ v kvs' gs' s', ColD kvs' (shadeL st ms).1 → NmsAre gs' ((shadeL st ms).2.map some) → St w σ B s' ((cc, dcO w kvs') :: (cg, lsO gs') :: own2) → Q v s') : wpAny (MM w) A (call (.ref 355) [.ref cc, .ref cg, .ref b]) Q E s := by
  have hσ := S.base
  replace S : St w σ B s ((cc, dcO w kvs) :: (cg, lsO gs) :: own2) := S.arr (.cons p1 (.cons p2 .nil))
  refine enter (vs := [.ref cc, .ref cg, .ref b]) (ps := ["colours", "greys", "numbers"]) (ls := ["number"]) (gl := ["_law_once"]) (n := n + 3) Z S (f_lshade _) (c_lshade _) rfl (by kernel_rfl) (BindsTo.of_eq (by kernel_rfl)) rfl fun env s₁ V Z S => ?_
  change St _ _ _ _ ((env.locals, frO env [("colours", some (.ref cc)), ("greys", some (.ref cg)), ("numbers", some (.ref b)), ("number", none)]) :: _) at S
  with_unfolding_all refine x_seq ?_
  refine x_for ?_ (fun _ => rfl)
  repeat kt_at_item
  refine once_spec (n := n + 1) Z (by assumption) hb hx hz fun oa ys s2 hy S => ?_
  obtain ⟨B2, k2, ⟨o, ho, nn, rfl⟩, S⟩ := S.freeze
  have hO : Lst B2 oa ys := ⟨nn, ho⟩
  clear ho
  refine it_list Z.1 S hO fun I Fi s W S => ?_
  have hyl := hy.length
  refine for_in (X := Option Value × List (Nm × Value) × List Value) (fun x => (env.locals, frO env [("colours", some (.ref cc)), ("greys", some (.ref cg)), ("numbers", some (.ref b)), ("number", x.1)]) :: (cc, dcO w x.2.1) :: (cg, lsO x.2.2) :: own2)
    (fun i x B' => B' = B2 ∧ ColD x.2.1 (shadeL st ((onceA [] ms).take i)).1 ∧ NmsAre x.2.2 ((shadeL st ((onceA [] ms).take i)).2.map some)) (none, kvs, gs) W (fun _ _ e => e) S ⟨rfl, hc, hg⟩ (fun _ => by simp) ?_ ?_
  · rintro i v ⟨u, kvs, gs⟩ B3 s hi hv hB ⟨rfl, hc, hg⟩ S
    clear hB
    dsimp only at S hc hg
    obtain ⟨m, hm, hv2⟩ := hy.at_ hv
    have ok2 := ok.shade ((onceA [] ms).take i)
    have hkz := S.col_len (.tail (.tail .head)) hc ok2.sup
    have hgl := hg.length
    have hgl2 := ok2.len
    rw [List.length_map] at hgl
    have htake : shadeL st ((onceA [] ms).take (i + 1)) = sh1 (shadeL st ((onceA [] ms).take i)) m := by
      obtain ⟨hi', e⟩ := List.getElem?_eq_some_iff.mp hm
      rw [List.take_succ_eq_append_getElem hi', e, shade_append]; rfl
    generalize shadeL st ((onceA [] ms).take i) = st1 at *
    refine assign_Name ?_
    repeat kt_at_item
    refine c_col hc (t_bool ⟨fun hw => ?_, fun hw => ?_⟩)
    · obtain ⟨n', rfl⟩ : ∃ n', m = some n' := by cases m with | none => cases hw | some n => exact ⟨n, rfl⟩
      have hw' : st1.1 n' = some sW := by unfold isW at hw; simpa using hw
      repeat kt_at_item
      rename_i S
      refine ⟨(some v, _, gs ++ [v]), _, fun _ _ e => e, ⟨rfl, ?_, ?_⟩, S.re (by krn_off)⟩
      · rw [htake]; unfold sh1; dsimp only; rw [if_pos hw']; exact hc.set
      · rw [htake]; unfold sh1; dsimp only; rw [if_pos hw', List.map_append]; exact hg.append (.one hv2)
    · repeat kt_at_item
      rename_i S
      refine ⟨(some v, _, gs), _, fun _ _ e => e, ⟨rfl, ?_, ?_⟩, S.re (by krn_off)⟩
      · rw [htake, sh1_noop hw]; exact hc
      · rw [htake, sh1_noop hw]; exact hg
  · rintro ⟨u, kvs, gs⟩ B3 s hB ⟨rfl, hc, hg⟩ S
    dsimp only at S hc hg
    clear hB
    rw [hyl, List.take_length, shade_once] at hc hg
    repeat kt_at_item
    exact k _ kvs gs _ hc hg ((S.re (by krn_off)).shrink hσ k2)
end
end
/-! F9 -/
noncomputable section
abbrev hAt (kd : Addr) (gv : Int) (tg th : Tok) : Obj → Prop := atO [("kept", .ref kd), ("given", .int gv tg), ("here", .int 0 th), ("watch", .none), ("collector", .none)]
abbrev cAt (hx : Addr) (rv : Value) (cc cg : Addr) (go : Bool) (rd : Int) (tr : Tok) : Obj → Prop := atO [("heap", .ref hx), ("roots", rv), ("colours", .ref cc), ("greys", .ref cg), ("is_going", .bool go), ("rounds", .int rd tr)]
/-- an object of the heap, and what it leads to -/
def KObj (B : Heap) (o : Value) (ms : List Nm) : Prop := ∃ ko kd kind t content wh vs j, o = .ref ko ∧ Ins B ko 161 kd ∧ (∃ ob, B.get? kd = some ob ∧ atO [("kind", .str kind t), ("content", content), ("where", wh)] ob) ∧ LeadsL B vs ms j ∧ j ≤ 40 ∧ handedIn content = true ∧
  ((kind = "var" ∧ vs = [content]) ∨ (kind = "row" ∧ ∃ la, content = .ref la ∧ Lst B la vs))
theorem KObj.keeps {B B' : Heap} {o : Value} {ms : List Nm} (h : KObj B o ms) (k : B.StaysIn B') : KObj B' o ms := by
  obtain ⟨ko, kd, kind, t, content, wh, vs, j, e, I, ⟨ob, h1, h2⟩, L, hj, hh, hk⟩ := h
  refine ⟨ko, kd, kind, t, content, wh, vs, j, e, I.keeps k, ⟨ob, k _ _ h1, h2⟩, L.keeps k, hj, hh, ?_⟩
  rcases hk with hk | ⟨e, la, e2, hl⟩
  · exact .inl hk
  · exact .inr ⟨e, la, e2, hl.keeps k⟩
abbrev Lv := Int → Option (List Nm)
def KV (B : Heap) : Option (List Nm) → Option Value → Prop
  | none, none => True
  | some ms, some o => KObj B o ms
  | _, _ => False
def KeptD (B : Heap) (kept : List (Nm × Value)) (live : Lv) : Prop := ∀ n, KV B (live n) (valueAt kept (some n))
theorem KeptD.keeps {B B' : Heap} {kept : List (Nm × Value)} {live : Lv} (h : KeptD B kept live) (k : B.StaysIn B') : KeptD B' kept live := fun n => by
  have := h n
  cases q : live n <;> cases q2 : valueAt kept (some n) <;> rw [q, q2] at this <;> first | exact this | exact KObj.keeps this k
theorem KeptD.some {B : Heap} {kept : List (Nm × Value)} {live : Lv} {n : Int} {ms : List Nm} (h : KeptD B kept live) (e : live n = some ms) : ∃ o, valueAt kept (Option.some n) = Option.some o ∧ KObj B o ms := by
  have := h n
  rw [e] at this
  cases q : valueAt kept (Option.some n) with
  | none => rw [q] at this; exact this.elim
  | some o => rw [q] at this; exact ⟨o, rfl, this⟩
theorem KeptD.none {B : Heap} {kept : List (Nm × Value)} {live : Lv} {n : Int} (h : KeptD B kept live) (e : live n = Option.none) : valueAt kept (Option.some n) = Option.none := by
  have := h n
  rw [e] at this
  cases q : valueAt kept (Option.some n) with
  | none => rfl
  | some o => rw [q] at this; exact this.elim
section
variable {w : World} {σ : Shared} {B B₀ : Heap} {s : Shared} {own own1 own2 rest : List Pt} {A : Around} {E : Value → Shared → Prop} {v : Value} {ms : List Nm} {k : Nat} {src a cc cg hx hd kd : Addr} {Q : Value → Shared → Prop} {kvs kept : List (Nm × Value)} {gs : List Value} {st : Sd} {g : Nat} {m : Nm} {gv : Int} {tg th : Tok} {key o : Value}
set_option maxHeartbeats 2000000 in
theorem held_values_spec {n : Nat} {kind : Str} {t : Tok} {content : Value} {vs : List Value} (Z : Rm A (n + 2)) (S : St w σ B s own) (hz : vs.length < 100) (hk : (kind = "var" ∧ vs = [content]) ∨ (kind = "row" ∧ ∃ la, content = .ref la ∧ Lst B la vs))
    (k : ∀ a s', St w σ B s' ((a, lsO vs) :: own) → Q (.ref a) s') : wpAny (MM w) A (call (.ref 170) [.str kind t, content]) Q E s := by
  refine enter (vs := [.str kind t, content]) (ps := ["kind", "content"]) (ls := ["rows"]) (gl := ["list"]) (n := n + 1) Z S (f_held_values _) (c_held_values _) rfl (by kernel_rfl) (BindsTo.of_eq (by kernel_rfl)) rfl fun env s₁ V Z S => ?_
  change St _ _ _ _ ((env.locals, frO env [("kind", some (.str kind t)), ("content", some content), ("rows", none)]) :: _) at S
  with_unfolding_all refine x_seq ?_
  repeat kt_at_item
  refine c_strs ?_
  rcases hk with ⟨rfl, rfl⟩ | ⟨rfl, la, rfl, hl⟩
  · rw [show ((Str.ofString "var") == (Str.ofString "var")) = true from by decide]
    repeat kt_at_item
    rename_i S
    exact k _ _ (S.re (by krn_off))
  · rw [show ((Str.ofString "row") == (Str.ofString "var")) = false from by decide]
    repeat kt_at_item
    refine c_strs ?_
    rw [show ((Str.ofString "row") == (Str.ofString "row")) = true from by decide]
    repeat kt_at_item
    rename_i S
    exact k _ _ (S.re (by krn_off))
set_option maxHeartbeats 2000000 in
theorem kept_at_spec {n : Nat} (Z : Rm A (n + 2)) (S : St w σ B s own) (I : Ins B hx 299 hd) (p1 : Pick (hd, hAt kd gv tg th) own own1) (p2 : Pick (kd, dcO w kept) own1 own2) (hm : NmV m key) (hv : valueAt kept m = some o)
    (k : ∀ s', St w σ B s' ((hd, hAt kd gv tg th) :: (kd, dcO w kept) :: own2) → Q o s') : wpAny (MM w) A (call (.ref 207) [.ref hx, key]) Q E s := by
  replace S : St w σ B s ((hd, hAt kd gv tg th) :: (kd, dcO w kept) :: own2) := S.arr (.cons p1 (.cons p2 .nil))
  refine enter (vs := [.ref hx, key]) (ps := ["self", "number"]) (ls := []) (gl := ["MachineFault"]) (n := n + 1) Z S (f_kept_at _) (c_kept_at _) rfl (by kernel_rfl) (BindsTo.of_eq (by kernel_rfl)) rfl fun env s₁ V Z S => ?_
  change St _ _ _ _ ((env.locals, frO env [("self", some (.ref hx)), ("number", some key)]) :: _) at S
  with_unfolding_all refine x_seq ?_
  repeat kt_at_item
  refine d_notIn (by assumption) (by kt_at_get) hm fun s S => ?_
  rw [hv, Option.isSome_some]
  repeat kt_at_item
  rename_i S
  exact k _ (S.re (by krn_off))
set_option maxHeartbeats 2000000 in
theorem values_in_spec {n : Nat} (Z : Rm A (n + 4)) (S : St w σ B s own) (I : Ins B hx 299 hd) (p1 : Pick (hd, hAt kd gv tg th) own own1) (p2 : Pick (kd, dcO w kept) own1 own2) (hm : NmV m key) (hv : valueAt kept m = some o) (ho : KObj B o ms)
    (k : ∀ a vs s' j, LeadsL B vs ms j → j ≤ 40 → St w σ B s' ((a, lsO vs) :: (hd, hAt kd gv tg th) :: (kd, dcO w kept) :: own2) → Q (.ref a) s') : wpAny (MM w) A (call (.ref 233) [.ref hx, key]) Q E s := by
  replace S : St w σ B s ((hd, hAt kd gv tg th) :: (kd, dcO w kept) :: own2) := S.arr (.cons p1 (.cons p2 .nil))
  refine enter (vs := [.ref hx, key]) (ps := ["self", "number"]) (ls := ["kept"]) (gl := ["held_values"]) (n := n + 3) Z S (f_values_in _) (c_values_in _) rfl (by kernel_rfl) (BindsTo.of_eq (by kernel_rfl)) rfl fun env s₁ V Z S => ?_
  change St _ _ _ _ ((env.locals, frO env [("self", some (.ref hx)), ("number", some key), ("kept", none)]) :: _) at S
  with_unfolding_all refine x_seq ?_
  repeat kt_at_item
  refine kept_at_spec (n := n + 1) Z (by assumption) I (by kt_at_get) (by kt_at_get) hm hv fun s S => ?_
  obtain ⟨ko, kd', kind, t, content, wh, vs, j, rfl, IK, hat, L, hj, hh, hk⟩ := ho
  have hvl := L.size.2
  repeat kt_at_item
  refine r_attrB (by assumption) IK hat (by kt_at_method) (by kt_at_method) rfl fun s S => ?_
  repeat kt_at_item
  refine r_attrB (by assumption) IK hat (by kt_at_method) (by kt_at_method) hh fun s S => ?_
  repeat kt_at_item
  refine held_values_spec (n := n + 1) Z (by assumption) (by omega) hk fun a s S => ?_
  exact k a vs _ j L hj (S.re (by krn_off))
set_option maxHeartbeats 2000000 in
/-- what a class's call gives: Kept -/
theorem kept_new {n : Nat} {kind content wh : Value} (Z : Rm A (n + 4)) (S : St w σ B s own) (k : ∀ x dx B' s', B.StaysIn B' → Ins B' x 161 dx → (∃ ob, B'.get? dx = some ob ∧ atO [("kind", kind), ("content", content), ("where", wh)] ob) → St w σ B' s' own → Q (.ref x) s') :
    wpAny (MM w) A (call (.ref 161) [kind, content, wh]) Q E s := by
  refine r_new (n := n) (vs := [kind, content, wh]) (ps := ["self", "kind", "content", "where"]) (ls := []) (gl := []) (Z.mono (by omega)) S (C := 161) (fI := 158) (by kt_at_method) (f_kinit _) (c_kinit _) rfl (by kernel_rfl) (fun x s X => BindsTo.of_eq (by kernel_rfl)) rfl fun A x dx B' env s₁ hB I V Z S => ?_
  change St _ _ _ _ ((env.locals, frO env [("self", some (.ref x)), ("kind", some kind), ("content", some content), ("where", some wh)]) :: _) at S
  with_unfolding_all refine x_seq ?_
  repeat kt_at_item
  rename_i S
  refine ⟨rfl, ?_⟩
  obtain ⟨B2, k2, ho, S2⟩ := (S.pick (p := (dx, atO _)) (by kt_at_get)).freeze
  exact k x dx B2 _ (by tb_rel) (I.keeps k2) ho (S2.re (by krn_off))
end
end
/-! F10 -/
noncomputable section
section
variable {w : World} {σ : Shared} {B B₀ : Heap} {s : Shared} {own own1 own2 rest : List Pt} {A : Around} {E : Value → Shared → Prop} {v : Value} {ms : List Nm} {k : Nat} {src a cc cg hx hd kd cx cd : Addr} {Q : Value → Shared → Prop} {kvs kept : List (Nm × Value)} {gs : List Value} {st : Sd} {g : Nat} {m : Nm} {gv rd : Int} {tg th tr : Tok} {key o rv : Value} {go : Bool}
set_option maxHeartbeats 2000000 in
theorem shade_spec {n j : Nat} (Z : Rm A (n + 4)) (S : St w σ B s own) (I : Ins B cx 100 cd) (p : Arr [(cd, cAt hx rv cc cg go rd tr), (cc, dcO w kvs), (cg, lsO gs)] own rest) (hc : ColD kvs st.1) (hg : NmsAre gs (st.2.map some)) (ok : Ok g st) (hgz : g ≤ 40) (hv : Leads B v ms j) (hj : j < 400)
    (k : ∀ u kvs' gs' s', ColD kvs' (shadeL st ms).1 → NmsAre gs' ((shadeL st ms).2.map some) → St w σ B s' ((cd, cAt hx rv cc cg go rd tr) :: (cc, dcO w kvs') :: (cg, lsO gs') :: rest) → Q u s') : wpAny (MM w) A (call (.ref 64) [.ref cx, v]) Q E s := by
  have hσ := S.base
  replace S : St w σ B s ((cd, cAt hx rv cc cg go rd tr) :: (cc, dcO w kvs) :: (cg, lsO gs) :: rest) := S.arr p
  refine enter (vs := [.ref cx, v]) (ps := ["self", "value"]) (ls := ["number"]) (gl := ["objects_within", "WHITE", "GREY"]) (n := n + 3) Z S (f_shade _) (c_shade _) rfl (by kernel_rfl) (BindsTo.of_eq (by kernel_rfl)) rfl fun env s₁ V Z S => ?_
  change St _ _ _ _ ((env.locals, frO env [("self", some (.ref cx)), ("value", some v), ("number", none)]) :: _) at S
  with_unfolding_all refine x_seq ?_
  refine x_for ?_ (fun _ => rfl)
  repeat kt_at_item
  refine within_spec (n := n + 1) Z (by assumption) hv hj fun oa ys s2 hy S => ?_
  obtain ⟨B2, k2, ⟨o, ho, nn, rfl⟩, S⟩ := S.freeze
  have hO : Lst B2 oa ys := ⟨nn, ho⟩
  clear ho
  refine it_list Z.1 S hO fun It Fi s W S => ?_
  have hyl := hy.length
  replace I := I.keeps k2
  refine for_in (X := Option Value × List (Nm × Value) × List Value) (fun x => (env.locals, frO env [("self", some (.ref cx)), ("value", some v), ("number", x.1)]) :: (cd, cAt hx rv cc cg go rd tr) :: (cc, dcO w x.2.1) :: (cg, lsO x.2.2) :: rest)
    (fun i x B' => B' = B2 ∧ ColD x.2.1 (shadeL st ((onceA [] ms).take i)).1 ∧ NmsAre x.2.2 ((shadeL st ((onceA [] ms).take i)).2.map some)) (none, kvs, gs) W (fun _ _ e => e) S ⟨rfl, hc, hg⟩ (fun _ => by simp) ?_ ?_
  · rintro i v ⟨u, kvs, gs⟩ B3 s hi hv hB ⟨rfl, hc, hg⟩ S
    clear hB
    dsimp only at S hc hg
    obtain ⟨m, hm, hv2⟩ := hy.at_ hv
    have ok2 := ok.shade ((onceA [] ms).take i)
    have hkz := S.col_len (.tail (.tail (.tail .head))) hc ok2.sup
    have hgl := hg.length
    have hgl2 := ok2.len
    rw [List.length_map] at hgl
    have htake : shadeL st ((onceA [] ms).take (i + 1)) = sh1 (shadeL st ((onceA [] ms).take i)) m := by
      obtain ⟨hi', e⟩ := List.getElem?_eq_some_iff.mp hm
      rw [List.take_succ_eq_append_getElem hi', e, shade_append]; rfl
    generalize shadeL st ((onceA [] ms).take i) = st1 at *
    refine assign_Name ?_
    repeat kt_at_item
    refine c_col hc (t_bool ⟨fun hw => ?_, fun hw => ?_⟩)
    · obtain ⟨n', rfl⟩ : ∃ n', m = some n' := by cases m with | none => cases hw | some n => exact ⟨n, rfl⟩
      have hw' : st1.1 n' = some sW := by unfold isW at hw; simpa using hw
      repeat kt_at_item
      rename_i S
      refine ⟨(some v, _, gs ++ [v]), _, fun _ _ e => e, ⟨rfl, ?_, ?_⟩, S.re (by krn_off)⟩
      · rw [htake]; unfold sh1; dsimp only; rw [if_pos hw']; exact hc.set
      · rw [htake]; unfold sh1; dsimp only; rw [if_pos hw', List.map_append]; exact hg.append (.one hv2)
    · repeat kt_at_item
      rename_i S
      refine ⟨(some v, _, gs), _, fun _ _ e => e, ⟨rfl, ?_, ?_⟩, S.re (by krn_off)⟩
      · rw [htake, sh1_noop hw]; exact hc
      · rw [htake, sh1_noop hw]; exact hg
  · rintro ⟨u, kvs, gs⟩ B3 s hB ⟨rfl, hc, hg⟩ S
    dsimp only at S hc hg
    clear hB
    rw [hyl, List.take_length, shade_once] at hc hg
    repeat kt_at_item
    exact k _ kvs gs _ hc hg ((S.re (by krn_off)).shrink hσ k2)
end
end
/-! F11 -/
noncomputable section
section
variable {w : World} {σ : Shared} {B B₀ : Heap} {s : Shared} {own own1 own2 rest : List Pt} {A : Around} {E : Value → Shared → Prop} {v : Value} {ms : List Nm} {k : Nat} {src a cc cg hx hd kd cx cd : Addr} {Q : Value → Shared → Prop} {kvs kept : List (Nm × Value)} {gs : List Value} {st : Sd} {g : Nat} {m : Nm} {gv rd : Int} {tg th tr : Tok} {key o rv : Value} {go : Bool} {c : Cs}
set_option maxHeartbeats 2000000 in
theorem colour_of_spec {n : Nat} (Z : Rm A (n + 2)) (S : St w σ B s own) (I : Ins B cx 100 cd) (p : Arr [(cd, cAt hx rv cc cg go rd tr), (cc, dcO w kvs)] own rest) (hm : NmV m key)
    (k : ∀ s', St w σ B s' ((cd, cAt hx rv cc cg go rd tr) :: (cc, dcO w kvs) :: rest) → Q (if go = true then (valueAt kvs m).getD .none else .none) s') : wpAny (MM w) A (call (.ref 57) [.ref cx, key]) Q E s := by
  replace S : St w σ B s ((cd, cAt hx rv cc cg go rd tr) :: (cc, dcO w kvs) :: rest) := S.arr p
  refine enter (vs := [.ref cx, key]) (ps := ["self", "number"]) (ls := []) (gl := []) (n := n + 1) Z S (f_colour_of _) (c_colour_of _) rfl (by kernel_rfl) (BindsTo.of_eq (by kernel_rfl)) rfl fun env s₁ V Z S => ?_
  change St _ _ _ _ ((env.locals, frO env [("self", some (.ref cx)), ("number", some key)]) :: _) at S
  with_unfolding_all refine x_seq ?_
  repeat kt_at_item
  cases go with
  | true =>
    repeat kt_at_item
    rename_i S
    exact k _ (S.re (by krn_off))
  | false =>
    repeat kt_at_item
    rename_i S
    exact k _ (S.re (by krn_off))
set_option maxHeartbeats 2000000 in
theorem made_spec {n : Nat} {i : Int} {t : Tok} (Z : Rm A (n + 2)) (S : St w σ B s own) (I : Ins B cx 100 cd) (p : Arr [(cd, cAt hx rv cc cg go rd tr), (cc, dcO w kvs)] own rest) (hz : kvs.length < 1000)
    (k : ∀ u kvs' s', (∀ c, ColD kvs c → ColD kvs' (if go = true then setC c i sB else c)) → St w σ B s' ((cd, cAt hx rv cc cg go rd tr) :: (cc, dcO w kvs') :: rest) → Q u s') : wpAny (MM w) A (call (.ref 85) [.ref cx, .int i t]) Q E s := by
  replace S : St w σ B s ((cd, cAt hx rv cc cg go rd tr) :: (cc, dcO w kvs) :: rest) := S.arr p
  refine enter (vs := [.ref cx, .int i t]) (ps := ["self", "number"]) (ls := []) (gl := ["BLACK"]) (n := n + 1) Z S (f_made _) (c_made _) rfl (by kernel_rfl) (BindsTo.of_eq (by kernel_rfl)) rfl fun env s₁ V Z S => ?_
  change St _ _ _ _ ((env.locals, frO env [("self", some (.ref cx)), ("number", some (.int i t))]) :: _) at S
  with_unfolding_all refine x_seq ?_
  have hm : NmV (some i) (.int i t) := ⟨t, rfl⟩
  repeat kt_at_item
  cases go with
  | true =>
    repeat kt_at_item
    rename_i S
    exact k _ _ _ (fun c h => h.set) (S.re (by krn_off))
  | false =>
    repeat kt_at_item
    rename_i S
    exact k _ _ _ (fun c h => h) (S.re (by krn_off))
theorem c_colN {i : Int} {x : Str} {t : Tok} (h : ColD kvs c) (hx : c i = some x) (q : Q (.bool (decide (x ≠ sB))) s) : wpAny (MM w) A (compareOp .NotEq ((valueAt kvs (some i)).getD .none) (.str "black" t)) Q E s := by
  obtain ⟨t', e⟩ := h.some hx
  rw [e]
  refine c_ne (SeqAt.RcNeAt.str_str x t' _ t) ?_
  have : (!(x == sB)) = decide (x ≠ sB) := by simp [BEq.beq]
  rw [this]; exact q
set_option maxHeartbeats 2000000 in
theorem barrier_spec {n j : Nat} {i : Int} {x : Str} (Z : Rm A (n + 6)) (S : St w σ B s own) (I : Ins B cx 100 cd) (p : Arr [(cd, cAt hx rv cc cg true rd tr), (cc, dcO w kvs), (cg, lsO gs)] own rest) (hc : ColD kvs st.1) (hg : NmsAre gs (st.2.map some)) (ok : Ok g st) (hgz : g ≤ 40) (hv : Leads B v ms j) (hj : j < 400) (hm : NmV (some i) key) (hi : st.1 i = some x)
    (k : ∀ u kvs' gs' s', ColD kvs' (if x = sB then st else shadeL st ms).1 → NmsAre gs' ((if x = sB then st else shadeL st ms).2.map some) → St w σ B s' ((cd, cAt hx rv cc cg true rd tr) :: (cc, dcO w kvs') :: (cg, lsO gs') :: rest) → Q u s') : wpAny (MM w) A (call (.ref 78) [.ref cx, key, v]) Q E s := by
  replace S : St w σ B s ((cd, cAt hx rv cc cg true rd tr) :: (cc, dcO w kvs) :: (cg, lsO gs) :: rest) := S.arr p
  refine enter (vs := [.ref cx, key, v]) (ps := ["self", "number", "value"]) (ls := []) (gl := ["BLACK"]) (n := n + 5) Z S (f_barrier _) (c_barrier _) rfl (by kernel_rfl) (BindsTo.of_eq (by kernel_rfl)) rfl fun env s₁ V Z S => ?_
  change St _ _ _ _ ((env.locals, frO env [("self", some (.ref cx)), ("number", some key), ("value", some v)]) :: _) at S
  with_unfolding_all refine x_seq ?_
  repeat kt_at_item
  refine c_colN hc hi (t_bool ⟨fun hb0 => ?_, fun hb0 => ?_⟩)
  · have hb : ¬ x = sB := of_decide_eq_true hb0
    repeat kt_at_item
    refine shade_spec (n := n + 1) Z (by assumption) I (by krn_off) hc hg ok hgz hv hj fun u kvs' gs' s' hc' hg' S => ?_
    repeat kt_at_item
    rw [if_neg hb] at k
    exact k _ _ _ _ hc' hg' (S.re (by krn_off))
  · have hb : x = sB := Decidable.of_not_not (of_decide_eq_false hb0)
    repeat kt_at_item
    rename_i S
    rw [if_pos hb] at k
    exact k _ _ _ _ hc hg (S.re (by krn_off))
end
end
/-! F12 -/
noncomputable section
section
variable {w : World} {σ : Shared} {B B₀ : Heap} {s : Shared} {own own1 own2 rest : List Pt} {A : Around} {E : Value → Shared → Prop} {v : Value} {ms : List Nm} {k : Nat} {src a cc cg hx hd kd cx cd : Addr} {Q : Value → Shared → Prop} {kvs kept : List (Nm × Value)} {gs : List Value} {st : Sd} {g : Nat} {m : Nm} {gv rd : Int} {tg th tr : Tok} {key o rv : Value} {go : Bool} {c : Cs}
set_option maxHeartbeats 2000000 in
theorem heap_new {n : Nat} (Z : Rm A (n + 4)) (S : St w σ B s own) (k : ∀ hx hd kd tg th B' s', B.StaysIn B' → Ins B' hx 299 hd → St w σ B' s' ((hd, hAt kd 0 tg th) :: (kd, dcO w []) :: own) → Q (.ref hx) s') :
    wpAny (MM w) A (call (.ref 299) []) Q E s := by
  refine r_new (n := n) (vs := [.none]) (args := []) (ps := ["self", "watch"]) (ls := []) (gl := []) (Z.mono (by omega)) S (C := 299) (fI := 185) (by kt_at_method) (f_hinit _) (c_hinit _) rfl (by kernel_rfl) (fun x s X => binds_K (o := o178 w.params) X rfl (by kernel_rfl) rfl rfl rfl) rfl fun A x dx B' env s₁ hB I V Z S => ?_
  change St _ _ _ _ ((env.locals, frO env [("self", some (.ref x)), ("watch", some .none)]) :: _) at S
  with_unfolding_all refine x_seq ?_
  repeat kt_at_item
  rename_i S
  exact ⟨rfl, k x dx _ _ _ B' _ hB I (S.re (by krn_off))⟩
set_option maxHeartbeats 2000000 in
theorem coll_new {n : Nat} (Z : Rm A (n + 4)) (S : St w σ B s own) (k : ∀ cx cd cc cg tr B' s', B.StaysIn B' → Ins B' cx 100 cd → St w σ B' s' ((cd, cAt hx rv cc cg false 0 tr) :: (cc, dcO w []) :: (cg, lsO []) :: own) → Q (.ref cx) s') :
    wpAny (MM w) A (call (.ref 100) [.ref hx, rv]) Q E s := by
  refine r_new (n := n) (vs := [.ref hx, rv]) (args := [.ref hx, rv]) (ps := ["self", "heap", "roots"]) (ls := []) (gl := []) (Z.mono (by omega)) S (C := 100) (fI := 43) (by kt_at_method) (f_cinit _) (c_cinit _) rfl (by kernel_rfl) (fun x s X => BindsTo.of_eq (by kernel_rfl)) rfl fun A x dx B' env s₁ hB I V Z S => ?_
  change St _ _ _ _ ((env.locals, frO env [("self", some (.ref x)), ("heap", some (.ref hx)), ("roots", some rv)]) :: _) at S
  with_unfolding_all refine x_seq ?_
  repeat kt_at_item
  rename_i S
  exact ⟨rfl, k x dx _ _ _ B' _ hB I (S.re (by krn_off))⟩
def setV (live : Lv) (n : Int) (ms : List Nm) : Lv := fun k => if k = n then some ms else live k
def delV (live : Lv) (n : Int) : Lv := fun k => if k = n then none else live k
theorem KeptD.set {B : Heap} {live : Lv} {n : Int} {o : Value} (h : KeptD B kept live) (ho : KObj B o ms) : KeptD B (stored kept (Option.some n) o) (setV live n ms) := fun k => by
  rw [valueAt_stored]
  unfold setV
  by_cases e : k = n
  · subst e; simp only [if_true]; exact ho
  · have : ¬ (Option.some n : Nm) = Option.some k := fun z => e (Option.some.inj z).symm
    simp only [this, e, if_false]
    exact h k
theorem KeptD.setMain {B : Heap} {live : Lv} {o : Value} (h : KeptD B kept live) : KeptD B (stored kept Option.none o) live := fun k => by
  rw [valueAt_stored, if_neg (by simp)]
  exact h k
theorem KeptD.del {B : Heap} {live : Lv} {n : Int} (h : KeptD B kept live) : KeptD B (without kept (Option.some n)) (delV live n) := fun k => by
  rw [valueAt_without]
  unfold delV
  by_cases e : k = n
  · subst e; simp [KV]
  · have : ¬ (Option.some n : Nm) = Option.some k := fun z => e (Option.some.inj z).symm
    simp only [this, e, if_false]
    exact h k
set_option maxHeartbeats 2000000 in
theorem make_spec {n j : Nat} {kind : Str} {t : Tok} {content : Value} {vs : List Value} (Z : Rm A (n + 6)) (S : St w σ B s own) (I : Ins B hx 299 hd) (p : Arr [(hd, hAt kd gv tg th), (kd, dcO w kept)] own rest) (hz : kept.length < 900) (L : LeadsL B vs ms j) (hj : j ≤ 40) (hh : handedIn content = true)
    (hk : (kind = "var" ∧ vs = [content]) ∨ (kind = "row" ∧ ∃ la, content = .ref la ∧ Lst B la vs))
    (k : ∀ t tg' o B' s', B.StaysIn B' → KObj B' o ms → St w σ B' s' ((hd, hAt kd (gv + 1) tg' th) :: (kd, dcO w (stored kept (some (gv + 1)) o)) :: rest) → Q (.int (gv + 1) t) s') : wpAny (MM w) A (call (.ref 193) [.ref hx, .str kind t, content]) Q E s := by
  replace S : St w σ B s ((hd, hAt kd gv tg th) :: (kd, dcO w kept) :: rest) := S.arr p
  have hX := S.inK
  refine enter (vs := [.ref hx, .str kind t, content, .str "heap" 445]) (ps := ["self", "kind", "content", "where"]) (ls := []) (gl := ["Kept"]) (n := n + 5) Z S (f_make _) (c_make _) rfl (by kernel_rfl) (binds_K (o := o186 w.params) hX rfl (by kernel_rfl) rfl rfl rfl) rfl fun env s₁ V Z S => ?_
  change St _ _ _ _ ((env.locals, frO env [("self", some (.ref hx)), ("kind", some (.str kind t)), ("content", some content), ("where", some (.str "heap" 445))]) :: _) at S
  with_unfolding_all refine x_seq ?_
  repeat kt_at_item
  refine kept_new (n := n + 1) Z (by assumption) fun x dx B' s hB IK hat S => ?_
  have hm : ∀ t, NmV (some (gv + 1)) (.int (gv + 1) t) := fun t => ⟨t, rfl⟩
  repeat kt_at_item
  refine d_set (by assumption) (by kt_at_get) (hm _) (by omega) fun s S => ?_
  repeat kt_at_item
  rename_i S
  refine k _ _ _ B' _ hB ?_ (S.re (by krn_off))
  refine ⟨x, dx, kind, t, content, _, vs, j, rfl, IK, hat, L.keeps hB, hj, hh, ?_⟩
  rcases hk with hk | ⟨e, la, e2, hl⟩
  · exact .inl hk
  · exact .inr ⟨e, la, e2, hl.keeps hB⟩
set_option maxHeartbeats 2000000 in
theorem make_named_spec {n : Nat} (Z : Rm A (n + 6)) (S : St w σ B s own) (I : Ins B hx 299 hd) (p : Arr [(hd, hAt kd gv tg th), (kd, dcO w kept)] own rest) (hz : kept.length < 900) (hm : NmV none key)
    (k : ∀ u o B' s', B.StaysIn B' → St w σ B' s' ((hd, hAt kd gv tg th) :: (kd, dcO w (stored kept none o)) :: rest) → Q u s') : wpAny (MM w) A (call (.ref 200) [.ref hx, key, v]) Q E s := by
  replace S : St w σ B s ((hd, hAt kd gv tg th) :: (kd, dcO w kept) :: rest) := S.arr p
  refine enter (vs := [.ref hx, key, v]) (ps := ["self", "path", "V"]) (ls := []) (gl := ["Kept"]) (n := n + 5) Z S (f_make_named _) (c_make_named _) rfl (by kernel_rfl) (BindsTo.of_eq (by kernel_rfl)) rfl fun env s₁ V Z S => ?_
  change St _ _ _ _ ((env.locals, frO env [("self", some (.ref hx)), ("path", some key), ("V", some v)]) :: _) at S
  with_unfolding_all refine x_seq ?_
  repeat kt_at_item
  refine kept_new (n := n + 1) Z (by assumption) fun x dx B' s hB IK hat S => ?_
  repeat kt_at_item
  rename_i S
  exact k _ _ B' _ hB (S.re (by krn_off))
end
end
/-! F13 -/
noncomputable section
def Gone (kept kept' : List (Nm × Value)) (ns : List Nm) : Prop := kept'.length ≤ kept.length ∧ ∀ m, valueAt kept' m = if m ∈ ns then none else valueAt kept m
theorem Gone.nil {kept : List (Nm × Value)} : Gone kept kept [] := ⟨Nat.le_refl _, fun m => by simp⟩
theorem Gone.del {kept kept' : List (Nm × Value)} {ns : List Nm} {m : Nm} (h : Gone kept kept' ns) : Gone kept (without kept' m) (ns ++ [m]) := by
  refine ⟨Nat.le_trans (List.length_filter_le _ _) h.1, fun k => ?_⟩
  rw [valueAt_without, h.2]
  by_cases e : m = k
  · subst e; simp
  · have : ¬ k = m := fun z => e z.symm
    simp [e, this]
theorem Gone.skip {kept kept' : List (Nm × Value)} {ns : List Nm} {m : Nm} (h : Gone kept kept' ns) (hm : valueAt kept' m = none) : Gone kept kept' (ns ++ [m]) := by
  refine ⟨h.1, fun k => ?_⟩
  rw [h.2]
  by_cases e : k = m
  · subst e
    have := h.2 k
    rw [hm] at this
    simp
    intro hk
    rw [if_neg hk] at this
    exact this.symm
  · simp [e]
theorem Gone.kept {B : Heap} {kept kept' : List (Nm × Value)} {ns : List Int} {live : Lv} (h : Gone kept kept' (ns.map some)) (hk : KeptD B kept live) : KeptD B kept' (fun n => if n ∈ ns then none else live n) := fun n => by
  rw [h.2]
  by_cases e : n ∈ ns
  · simp [e, KV]
  · simp only [e, if_false]
    rw [if_neg (by simpa using e)]
    exact hk n
/-! one pop of the greys -/
def popS (live : Lv) (st : Sd) : Sd := match st.2.getLast? with
  | none => st
  | some n => shadeL (setC st.1 n sB, st.2.dropLast) ((live n).getD [])
def pops (live : Lv) : Nat → Sd → Sd
  | 0, st => st
  | k + 1, st => popS live (pops live k st)
theorem popS_nil {live : Lv} {st : Sd} (h : st.2 = []) : popS live st = st := by unfold popS; rw [h]; rfl
theorem Ok.black {g : Nat} {st : Sd} {n : Int} {l : List Int} (h : Ok g st) (e : st.2 = l ++ [n]) : Ok g (setC st.1 n sB, l) := by
  have hn : st.1 n = some sG := (h.grey n).mp (by rw [e]; simp)
  have nd := h.nodup
  rw [e] at nd
  have nd2 := List.nodup_append.mp nd
  refine ⟨fun k x q => ?_, nd2.1, fun k => ?_⟩
  · unfold setC at q
    dsimp only at q
    split at q
    · rename_i z; rw [z]; exact h.sup n _ hn
    · exact h.sup k x q
  · unfold setC
    dsimp only
    by_cases z : k = n
    · subst z
      simp only [if_true]
      constructor
      · intro hk; exact absurd rfl (nd2.2.2 k hk k (by simp))
      · intro hk; exact absurd hk (by decide)
    · simp only [z, if_false]
      rw [← h.grey k, e]
      simp [z]
theorem Ok.pop {g : Nat} {st : Sd} {live : Lv} (h : Ok g st) : Ok g (popS live st) := by
  rcases List.eq_nil_or_concat st.2 with e | ⟨l, n, e⟩
  · rw [popS_nil e]; exact h
  · rw [List.concat_eq_append] at e
    unfold popS
    rw [e]
    simp only [List.getLast?_append, List.getLast?_singleton, Option.some_or, List.dropLast_concat]
    exact (h.black e).shade _
theorem Ok.pops {g : Nat} {st : Sd} {live : Lv} (h : Ok g st) : ∀ k, Ok g (pops live k st)
  | 0 => h
  | k + 1 => (h.pops k).pop
section
variable {w : World} {σ : Shared} {B B₀ : Heap} {s : Shared} {own own1 own2 rest : List Pt} {A : Around} {E : Value → Shared → Prop} {v : Value} {ms : List Nm} {k : Nat} {src a cc cg hx hd kd cx cd : Addr} {Q : Value → Shared → Prop} {kvs kept : List (Nm × Value)} {gs : List Value} {st : Sd} {g : Nat} {m : Nm} {gv rd : Int} {tg th tr : Tok} {key o rv : Value} {go : Bool} {c : Cs} {live : Lv}
theorem it_seq {a : Addr} {xs : List Value} (hh : A.handled = none) (S : St w σ B s own) (hl : Lst B a xs ∨ Tup B a xs) (h : ∀ I Fi s', It w A I xs.length (fun i v => xs[i]? = some v) Fi B → St w σ B s' ((I, Fi 0) :: own) → Q (.ref I) s') : wpAny (MM w) A (pyIter (.ref a)) Q E s := by
  rcases hl with hl | hl
  · exact it_list hh S hl h
  · exact it_tuple hh S hl h
set_option maxHeartbeats 2000000 in
theorem free_spec {n : Nat} {b : Addr} {xs : List Value} {ns : List Nm} (Z : Rm A (n + 4)) (S : St w σ B s own) (I : Ins B hx 299 hd) (p : Arr [(hd, hAt kd gv tg th), (kd, dcO w kept)] own rest) (hb : Lst B b xs ∨ Tup B b xs) (hx' : NmsAre xs ns) (hz : kept.length < 900)
    (k : ∀ u kept' s', Gone kept kept' ns → St w σ B s' ((hd, hAt kd gv tg th) :: (kd, dcO w kept') :: rest) → Q u s') : wpAny (MM w) A (call (.ref 240) [.ref hx, .ref b]) Q E s := by
  replace S : St w σ B s ((hd, hAt kd gv tg th) :: (kd, dcO w kept) :: rest) := S.arr p
  have hxl := hx'.length
  refine enter (vs := [.ref hx, .ref b]) (ps := ["self", "numbers"]) (ls := ["number"]) (gl := []) (n := n + 3) Z S (f_free _) (c_free _) rfl (by kernel_rfl) (BindsTo.of_eq (by kernel_rfl)) rfl fun env s₁ V Z S => ?_
  change St _ _ _ _ ((env.locals, frO env [("self", some (.ref hx)), ("numbers", some (.ref b)), ("number", none)]) :: _) at S
  with_unfolding_all refine x_seq ?_
  refine x_for ?_ (fun _ => rfl)
  repeat kt_at_item
  refine it_seq Z.1 S hb fun It Fi s W S => ?_
  refine for_in (X := Option Value × List (Nm × Value)) (fun x => (env.locals, frO env [("self", some (.ref hx)), ("numbers", some (.ref b)), ("number", x.1)]) :: (hd, hAt kd gv tg th) :: (kd, dcO w x.2) :: rest)
      (fun i x B' => B' = B ∧ Gone kept x.2 (ns.take i)) (none, kept) W (fun _ _ e => e) S ⟨rfl, by simpa using Gone.nil⟩ (fun _ => by simp) ?_ ?_
  · rintro i v ⟨u, kept'⟩ B3 s hi hv hB ⟨rfl, hG⟩ S
    clear hB
    dsimp only at S hG
    obtain ⟨m, hm, hv2⟩ := hx'.at_ hv
    have htake : ns.take (i + 1) = ns.take i ++ [m] := by
      obtain ⟨hi', e⟩ := List.getElem?_eq_some_iff.mp hm
      rw [List.take_succ_eq_append_getElem hi', e]
    have hkz := hG.1
    refine assign_Name ?_
    repeat kt_at_item
    refine d_in (by assumption) (by kt_at_get) hv2 fun s S => ?_
    cases hq : valueAt kept' m with
    | none =>
      rw [Option.isSome_none]
      repeat kt_at_item
      rename_i S
      refine ⟨(some v, _), _, fun _ _ e => e, ⟨rfl, ?_⟩, S.re (by krn_off)⟩
      rw [htake]; exact hG.skip hq
    | some o =>
      rw [Option.isSome_some]
      repeat kt_at_item
      rename_i S
      refine ⟨(some v, _), _, fun _ _ e => e, ⟨rfl, ?_⟩, S.re (by krn_off)⟩
      rw [htake]; exact hG.del
  · rintro ⟨u, kept'⟩ B3 s hB ⟨rfl, hG⟩ S
    dsimp only at S hG
    clear hB
    rw [hxl, List.take_length] at hG
    repeat kt_at_item
    exact k _ kept' _ hG (S.re (by krn_off))
set_option maxHeartbeats 2000000 in
theorem drop_spec {n : Nat} (Z : Rm A (n + 6)) (S : St w σ B s own) (I : Ins B hx 299 hd) (p : Arr [(hd, hAt kd gv tg th), (kd, dcO w kept)] own rest) (hm : NmV m key) (hz : kept.length < 900)
    (k : ∀ u kept' s', Gone kept kept' [m] → St w σ B s' ((hd, hAt kd gv tg th) :: (kd, dcO w kept') :: rest) → Q u s') : wpAny (MM w) A (call (.ref 247) [.ref hx, key]) Q E s := by
  replace S : St w σ B s ((hd, hAt kd gv tg th) :: (kd, dcO w kept) :: rest) := S.arr p
  have hσ := S.base
  refine enter (vs := [.ref hx, key]) (ps := ["self", "number"]) (ls := []) (gl := []) (n := n + 5) Z S (f_drop _) (c_drop _) rfl (by kernel_rfl) (BindsTo.of_eq (by kernel_rfl)) rfl fun env s₁ V Z S => ?_
  change St _ _ _ _ ((env.locals, frO env [("self", some (.ref hx)), ("number", some key)]) :: _) at S
  with_unfolding_all refine x_seq ?_
  repeat kt_at_item
  rename_i b B2 s2 hB hT S
  refine free_spec (n := n + 1) (xs := [key]) (ns := [m]) Z (by assumption) (by tb_rel) (by krn_off) (.inr hT) (.one hm) hz fun u kept' s' hG S => ?_
  repeat kt_at_item
  exact k _ _ _ hG ((S.re (by krn_off)).shrink hσ hB)
end
end
/-! F14 -/
noncomputable section
theorem pops_stop {live : Lv} {st : Sd} {i : Nat} (h : (pops live i st).2 = []) : ∀ d, pops live (i + d) st = pops live i st
  | 0 => rfl
  | d + 1 => by show popS live (pops live (i + d) st) = _; rw [pops_stop h d, popS_nil h]
theorem sh1_in {st : Sd} {m : Nm} {n : Int} : ((sh1 st m).1 n).isSome = (st.1 n).isSome := by
  cases m with
  | none => rfl
  | some k =>
    unfold sh1
    dsimp only
    split
    · rename_i h
      unfold setC
      dsimp only
      split
      · rename_i e; subst e; rw [h]; rfl
      · rfl
    · rfl
theorem shade_in {n : Int} : ∀ (ms : List Nm) {st : Sd}, ((shadeL st ms).1 n).isSome = (st.1 n).isSome
  | [], _ => rfl
  | m :: ms, st => by show ((shadeL (sh1 st m) ms).1 n).isSome = _; rw [shade_in ms, sh1_in]
theorem setC_in {c : Cs} {k n : Int} {x y : Str} (h : c k = some y) : ((setC c k x) n).isSome = (c n).isSome := by
  unfold setC
  split
  · rename_i e; subst e; rw [h]; rfl
  · rfl
theorem popS_snoc {live : Lv} {st : Sd} {l : List Int} {n : Int} (e : st.2 = l ++ [n]) : popS live st = shadeL (setC st.1 n sB, l) ((live n).getD []) := by
  unfold popS
  rw [e]
  simp only [List.getLast?_append, List.getLast?_singleton, Option.some_or, List.dropLast_concat]
theorem popS_in {g : Nat} {live : Lv} {st : Sd} {n : Int} (ok : Ok g st) : ((popS live st).1 n).isSome = (st.1 n).isSome := by
  rcases List.eq_nil_or_concat st.2 with e | ⟨l, k, e⟩
  · rw [popS_nil e]
  · rw [List.concat_eq_append] at e
    rw [popS_snoc e, shade_in]
    exact setC_in ((ok.grey k).mp (by rw [e]; simp))
theorem pops_in {g : Nat} {live : Lv} {st : Sd} {n : Int} (ok : Ok g st) : ∀ k, ((pops live k st).1 n).isSome = (st.1 n).isSome
  | 0 => rfl
  | k + 1 => by show ((popS live (pops live k st)).1 n).isSome = _; rw [popS_in (ok.pops k), pops_in ok k]
theorem NmsAre.snoc {vs : List Value} {ms : List Nm} (h : NmsAre vs ms) (hne : vs ≠ []) : ∃ us u ns n, vs = us ++ [u] ∧ ms = ns ++ [n] ∧ NmsAre us ns ∧ NmV n u := by
  induction h with
  | nil => exact absurd rfl hne
  | cons a b ih =>
    rename_i v m vs ms
    cases b with
    | nil => exact ⟨[], _, [], _, rfl, rfl, .nil, a⟩
    | cons c d =>
      obtain ⟨us, u, ns, n, e1, e2, h1, h2⟩ := ih (by simp)
      exact ⟨_ :: us, u, _ :: ns, n, by rw [e1]; rfl, by rw [e2]; rfl, .cons a h1, h2⟩
theorem map_snoc {l : List Int} {ns : List Nm} {n : Nm} (h : l.map Option.some = ns ++ [n]) : ∃ l' k, l = l' ++ [k] ∧ ns = l'.map Option.some ∧ n = Option.some k := by
  rcases List.eq_nil_or_concat l with e | ⟨l', k, e⟩
  · subst e; simp at h
  · rw [List.concat_eq_append] at e
    subst e
    rw [List.map_append] at h
    obtain ⟨h1, h2⟩ := List.append_inj' h rfl
    refine ⟨l', k, rfl, h1.symm, ?_⟩
    simpa using h2.symm
section
variable {w : World} {σ : Shared} {B B₀ : Heap} {s : Shared} {own own1 own2 rest : List Pt} {A : Around} {E : Value → Shared → Prop} {v : Value} {ms : List Nm} {k : Nat} {src a cc cg hx hd kd cx cd : Addr} {Q : Value → Shared → Prop} {kvs kept : List (Nm × Value)} {gs : List Value} {st : Sd} {g : Nat} {m : Nm} {gv rd : Int} {tg th tr : Tok} {key o rv : Value} {go : Bool} {c : Cs} {live : Lv}
theorem live_some (hl : ∀ n, (st.1 n).isSome → (live n).isSome) {n : Int} {x : Str} (h : st.1 n = some x) : ∃ ms, live n = some ms := by
  have := hl n (by rw [h]; rfl)
  cases q : live n with
  | none => rw [q] at this; cases this
  | some ms => exact ⟨ms, rfl⟩
theorem LeadsL.next {vs : List Value} {i j : Nat} (h : LeadsL B (vs.drop i) ms j) (hv : vs[i]? = some v) : ∃ m1 m2 j1 j2, ms = m1 ++ m2 ∧ Leads B v m1 j1 ∧ j1 ≤ j ∧ LeadsL B (vs.drop (i + 1)) m2 j2 ∧ j2 ≤ j := by
  obtain ⟨hi, e⟩ := List.getElem?_eq_some_iff.mp hv
  rw [List.drop_eq_getElem_cons hi, e] at h
  cases h with
  | cons a b => exact ⟨_, _, _, _, rfl, a, by omega, b, by omega⟩
theorem LeadsL.over {vs : List Value} {i j : Nat} (h : LeadsL B (vs.drop i) ms j) (hi : vs.length ≤ i) : ms = [] := by
  rw [List.drop_eq_nil_of_le hi] at h
  cases h; rfl
set_option maxHeartbeats 2000000 in
theorem step_spec {n : Nat} (Z : Rm A (n + 6)) (S : St w σ B s own) (I : Ins B cx 100 cd) (IH : Ins B hx 299 hd) (p : Arr [(cd, cAt hx rv cc cg true rd tr), (cc, dcO w kvs), (cg, lsO gs), (hd, hAt kd gv tg th), (kd, dcO w kept)] own rest) (hc : ColD kvs st.1) (hg : NmsAre gs (st.2.map some)) (ok : Ok g st) (hgz : g ≤ 40) (hK : KeptD B kept live) (hl : ∀ n, (st.1 n).isSome → (live n).isSome) {many : Nat} {t : Tok} (hmz : many ≤ 40)
    (k : ∀ b kvs' gs' s', b = decide ((pops live many st).2 = []) → ColD kvs' (pops live many st).1 → NmsAre gs' ((pops live many st).2.map some) → St w σ B s' ((cd, cAt hx rv cc cg true rd tr) :: (cc, dcO w kvs') :: (cg, lsO gs') :: (hd, hAt kd gv tg th) :: (kd, dcO w kept) :: rest) → Q (.bool b) s') : wpAny (MM w) A (call (.ref 71) [.ref cx, .int many t]) Q E s := by
  replace S : St w σ B s ((cd, cAt hx rv cc cg true rd tr) :: (cc, dcO w kvs) :: (cg, lsO gs) :: (hd, hAt kd gv tg th) :: (kd, dcO w kept) :: rest) := S.arr p
  refine enter (vs := [.ref cx, .int many t]) (ps := ["self", "many"]) (ls := ["turn", "number", "value"]) (gl := ["range", "BLACK"]) (n := n + 5) Z S (f_step _) (c_step _) rfl (by kernel_rfl) (BindsTo.of_eq (by kernel_rfl)) rfl fun env s₁ V Z S => ?_
  change St _ _ _ _ ((env.locals, frO env [("self", some (.ref cx)), ("many", some (.int many t)), ("turn", none), ("number", none), ("value", none)]) :: _) at S
  with_unfolding_all refine x_seq ?_
  have hσ := S.base
  refine x_for ?_ (fun _ => rfl)
  repeat kt_at_item
  refine k_range1 (by assumption) fun r s S => ?_
  refine it_range Z.1 (by assumption) (by kt_at_get) (by omega) fun It Fi s W S => ?_
  refine for_in (X := (Option Value × Option Value × Option Value) × List (Nm × Value) × List Value) (fun x => (env.locals, frO env [("self", some (.ref cx)), ("many", some (.int many t)), ("turn", x.1.1), ("number", x.1.2.1), ("value", x.1.2.2)]) :: (cd, cAt hx rv cc cg true rd tr) :: (cc, dcO w x.2.1) :: (cg, lsO x.2.2) :: (hd, hAt kd gv tg th) :: (kd, dcO w kept) :: rest)
    (fun i x B' => B' = B ∧ ColD x.2.1 (pops live i st).1 ∧ NmsAre x.2.2 ((pops live i st).2.map some)) ((none, none, none), kvs, gs) W (fun _ _ e => e) S ⟨rfl, hc, hg⟩ (fun _ => by simp) ?_ ?_
  · rintro i v ⟨⟨u1, u2, u3⟩, kvs, gs⟩ B3 s hi hv hB ⟨rfl, hc, hg⟩ S
    clear hB
    dsimp only at S hc hg
    have ok1 := ok.pops (live := live) i
    have hstop := pops_stop (live := live) (st := st) (i := i)
    have hnext : pops live (i + 1) st = popS live (pops live i st) := rfl
    have hkz := S.col_len (.tail (.tail (.tail .head))) hc ok1.sup
    have hgl := hg.length
    have hgl2 := ok1.len
    rw [List.length_map] at hgl
    refine assign_Name ?_
    repeat kt_at_item
    refine c_eqE Z.units (by kcj_m) (by kcj_m) (t_bool ⟨fun hb0 => ?_, fun hb0 => ?_⟩)
    · have hb : gs = [] := of_decide_eq_true hb0
      subst hb
      have he : (pops live i st).2 = [] := by cases q : (pops live i st).2 with | nil => rfl | cons a l => rw [q] at hg; cases hg
      have hw := hstop he (many - i)
      rw [show i + (many - i) = many from by omega] at hw
      repeat kt_at_item
      rename_i S
      rw [hw, he] at k
      refine k true kvs [] _ rfl hc ?_ (S.re (by krn_off))
      exact .nil
    · have hb : ¬ gs = [] := of_decide_eq_false hb0
      obtain ⟨us, u, ns, m, rfl, e2, hg, hu⟩ := hg.snoc hb
      obtain ⟨l, y, e, rfl, rfl⟩ := map_snoc e2
      have hy : (pops live i st).1 y = some sG := (ok1.grey y).mp (by rw [e]; simp)
      obtain ⟨ms, hms⟩ := live_some (st := pops live i st) (live := live) (fun n h => hl n (by rwa [pops_in ok] at h)) hy
      obtain ⟨o, ho, hKo⟩ := hK.some hms
      have ok2 := ok1.black e
      rw [popS_snoc e, hms, Option.getD_some] at hnext
      simp only [List.length_append, List.length_singleton] at hgl
      repeat kt_at_item
      refine k_pop (by assumption) (by kt_at_get) (by omega) fun s S => ?_
      repeat kt_at_item
      refine x_for ?_ (fun _ => rfl)
      repeat kt_at_item
      refine values_in_spec (n := n + 1) Z (by assumption) IH (by kt_at_get) (by kt_at_get) hu ho hKo fun a vs s j L hj S => ?_
      replace S : St w σ _ _ ((a, lsO vs) :: (env.locals, frO env [("self", some (.ref cx)), ("many", some (.int many t)), ("turn", some v), ("number", some u), ("value", u3)]) :: (It, Fi (i + 1)) :: (cd, cAt hx rv cc cg true rd tr) :: (cc, dcO w (stored kvs (some y) (.str sB _))) :: (cg, lsO us) :: (hd, hAt kd gv tg th) :: (kd, dcO w kept) :: rest) := S.re (by krn_off)
      replace hc := fun t => hc.set (n := y) (x := sB) (t := t)
      obtain ⟨B2, k2, ⟨ob, hob, nn, rfl⟩, S⟩ := S.freeze
      have hO : Lst B2 a vs := ⟨nn, hob⟩
      clear hob
      have I2 := I.keeps k2
      replace L := L.keeps k2
      refine it_list Z.1 S hO fun It2 Fi2 s W2 S => ?_
      refine for_in (X := Option Value × List (Nm × Value) × List Value) (fun x => (env.locals, frO env [("self", some (.ref cx)), ("many", some (.int many t)), ("turn", some v), ("number", some u), ("value", x.1)]) :: (It, Fi (i + 1)) :: (cd, cAt hx rv cc cg true rd tr) :: (cc, dcO w x.2.1) :: (cg, lsO x.2.2) :: (hd, hAt kd gv tg th) :: (kd, dcO w kept) :: rest)
        (fun i2 x B' => B' = B2 ∧ ∃ m1 m2 j2, ms = m1 ++ m2 ∧ LeadsL B2 (vs.drop i2) m2 j2 ∧ j2 ≤ 40 ∧ ColD x.2.1 (shadeL (setC (pops live i st).1 y sB, l) m1).1 ∧ NmsAre x.2.2 ((shadeL (setC (pops live i st).1 y sB, l) m1).2.map some)) (u3, _, us) W2 (fun _ _ e => e) S ⟨rfl, [], ms, j, rfl, L, hj, hc _, hg⟩ (fun _ => by simp) ?_ ?_
      · rintro i2 v2 ⟨u3, kvs, gs⟩ B4 s hi2 hv2 hB ⟨rfl, m1, m2, j2, rfl, L, hj, hc, hg⟩ S
        clear hB
        dsimp only at S hc hg
        obtain ⟨m3, m4, j3, j4, rfl, L3, hj3, L4, hj4⟩ := L.next hv2
        refine assign_Name ?_
        repeat kt_at_item
        refine shade_spec (n := n + 1) Z (by assumption) I2 (by krn_off) hc hg (ok2.shade m1) hgz L3 (by omega) fun uu kvs' gs' s' hc hg S => ?_
        repeat kt_at_item
        refine ⟨(some v2, kvs', gs'), _, fun _ _ e => e, ⟨rfl, m1 ++ m3, m4, j4, by rw [List.append_assoc], L4, by omega, ?_, ?_⟩, S.re (by krn_off)⟩
        · rw [shade_append]; exact hc
        · rw [shade_append]; exact hg
      · rintro ⟨u3, kvs, gs⟩ B4 s hB ⟨rfl, m1, m2, j2, rfl, L, hj, hc, hg⟩ S
        clear hB
        dsimp only at S hc hg
        have := L.over (Nat.le_refl _)
        subst this
        rw [List.append_nil] at hnext
        repeat kt_at_item
        refine ⟨((some v, some u, u3), kvs, gs), _, fun _ _ e => e, ⟨rfl, ?_, ?_⟩, (S.re (by krn_off)).shrink hσ k2⟩
        · rw [hnext]; exact hc
        · rw [hnext]; exact hg
  · rintro ⟨⟨u1, u2, u3⟩, kvs, gs⟩ B3 s hB ⟨rfl, hc, hg⟩ S
    dsimp only at S hc hg
    clear hB
    repeat kt_at_item
    refine c_eqE Z.units (by kcj_m) (by kcj_m) ?_
    rename_i S
    refine k _ kvs gs _ ?_ hc hg (S.re (by krn_off))
    have hgl := hg.length
    rw [List.length_map] at hgl
    by_cases q : gs = []
    · subst q
      have : (pops live many st).2 = [] := List.length_eq_zero_iff.mp hgl.symm
      simp [this]
    · have : ¬ (pops live many st).2 = [] := fun z => q (List.length_eq_zero_iff.mp (by rw [hgl, z]; rfl))
      simp [this, q]
end
end
/-! F15 -/
noncomputable section
def goneS (live : Lv) (st : Sd) (n : Int) : Sd :=
  let st1 := if st.1 n = some sB then st else shadeL st ((live n).getD [])
  (delC st1.1 n, st1.2.erase n)
theorem Ok.gone {g : Nat} {st : Sd} {live : Lv} {n : Int} (h : Ok g st) : Ok g (goneS live st n) := by
  have key : ∀ st : Sd, Ok g st → Ok g (delC st.1 n, st.2.erase n) := fun st h => by
    refine ⟨fun k x e => ?_, h.nodup.erase _, fun k => ?_⟩
    · unfold delC at e
      dsimp only at e
      split at e
      · cases e
      · exact h.sup k x e
    · unfold delC
      dsimp only
      rw [h.nodup.mem_erase_iff]
      by_cases q : k = n
      · simp [q]
      · simp only [q, if_false]
        rw [← h.grey k]
        exact ⟨fun z => z.2, fun z => ⟨q, z⟩⟩
  unfold goneS
  dsimp only
  split
  · exact key _ h
  · exact key _ (h.shade _)
theorem map_erase {y : Int} : ∀ l : List Int, (l.map Option.some).erase (Option.some y) = (l.erase y).map Option.some
  | [] => rfl
  | a :: l => by
    by_cases e : a = y
    · subst e; simp
    · have h1 : ¬ (a == y) = true := by simpa using e
      have h2 : ¬ (Option.some a == Option.some y) = true := by simpa using e
      rw [List.map_cons, List.erase_cons_tail h2, List.erase_cons_tail h1, List.map_cons, map_erase l]
theorem c_blackN {w : World} {A : Around} {E : Value → Shared → Prop} {Q : Value → Shared → Prop} {s : Shared} {x : Str} {t' t : Tok} (q : Q (.bool (decide (x ≠ sB))) s) : wpAny (MM w) A (compareOp .NotEq (.str x t') (.str "black" t)) Q E s := by
  refine c_ne (SeqAt.RcNeAt.str_str x t' _ t) ?_
  have : (!(x == sB)) = decide (x ≠ sB) := by simp [BEq.beq]
  rw [this]; exact q
section
variable {w : World} {σ : Shared} {B B₀ : Heap} {s : Shared} {own own1 own2 rest : List Pt} {A : Around} {E : Value → Shared → Prop} {v : Value} {ms : List Nm} {k : Nat} {src a cc cg hx hd kd cx cd : Addr} {Q : Value → Shared → Prop} {kvs kept : List (Nm × Value)} {gs : List Value} {st : Sd} {g : Nat} {m : Nm} {gv rd : Int} {tg th tr : Tok} {key o rv : Value} {go : Bool} {c : Cs} {live : Lv}
set_option maxHeartbeats 2000000 in
theorem gone_no {n : Nat} (Z : Rm A (n + 6)) (S : St w σ B s own) (I : Ins B cx 100 cd) (p : Arr [(cd, cAt hx rv cc cg false rd tr)] own rest)
    (k : ∀ u s', St w σ B s' ((cd, cAt hx rv cc cg false rd tr) :: rest) → Q u s') : wpAny (MM w) A (call (.ref 92) [.ref cx, key]) Q E s := by
  replace S : St w σ B s ((cd, cAt hx rv cc cg false rd tr) :: rest) := S.arr p
  refine enter (vs := [.ref cx, key]) (ps := ["self", "number"]) (ls := ["value"]) (gl := ["BLACK"]) (n := n + 5) Z S (f_gone _) (c_gone _) rfl (by kernel_rfl) (BindsTo.of_eq (by kernel_rfl)) rfl fun env s₁ V Z S => ?_
  change St _ _ _ _ ((env.locals, frO env [("self", some (.ref cx)), ("number", some key), ("value", none)]) :: _) at S
  with_unfolding_all refine x_seq ?_
  repeat kt_at_item
  rename_i S
  exact k _ _ (S.re (by krn_off))
set_option maxHeartbeats 4000000 in
theorem gone_spec {n : Nat} {y : Int} {x : Str} (Z : Rm A (n + 6)) (S : St w σ B s own) (I : Ins B cx 100 cd) (IH : Ins B hx 299 hd) (p : Arr [(cd, cAt hx rv cc cg true rd tr), (cc, dcO w kvs), (cg, lsO gs), (hd, hAt kd gv tg th), (kd, dcO w kept)] own rest) (hc : ColD kvs st.1) (hg : NmsAre gs (st.2.map some)) (ok : Ok g st) (hgz : g ≤ 40) (hK : KeptD B kept live) (hl : ∀ n, (st.1 n).isSome → (live n).isSome) (hu : NmV (some y) key) (hx' : st.1 y = some x)
    (k : ∀ u kvs' gs' s', ColD kvs' (goneS live st y).1 → NmsAre gs' ((goneS live st y).2.map some) → St w σ B s' ((cd, cAt hx rv cc cg true rd tr) :: (cc, dcO w kvs') :: (cg, lsO gs') :: (hd, hAt kd gv tg th) :: (kd, dcO w kept) :: rest) → Q u s') : wpAny (MM w) A (call (.ref 92) [.ref cx, key]) Q E s := by
  replace S : St w σ B s ((cd, cAt hx rv cc cg true rd tr) :: (cc, dcO w kvs) :: (cg, lsO gs) :: (hd, hAt kd gv tg th) :: (kd, dcO w kept) :: rest) := S.arr p
  have hσ := S.base
  refine enter (vs := [.ref cx, key]) (ps := ["self", "number"]) (ls := ["value"]) (gl := ["BLACK"]) (n := n + 5) Z S (f_gone _) (c_gone _) rfl (by kernel_rfl) (BindsTo.of_eq (by kernel_rfl)) rfl fun env s₁ V Z S => ?_
  change St _ _ _ _ ((env.locals, frO env [("self", some (.ref cx)), ("number", some key), ("value", none)]) :: _) at S
  obtain ⟨t', hx2⟩ := hc.some hx'
  have hs2 : (valueAt kvs (some y)).isSome = true := by rw [hx2]; rfl
  obtain ⟨ms, hms⟩ := live_some hl hx'
  have hgo : goneS live st y = (delC (if x = sB then st else shadeL st ms).1 y, (if x = sB then st else shadeL st ms).2.erase y) := by unfold goneS; rw [hx', hms]; simp
  obtain ⟨o, ho, hKo⟩ := hK.some hms
  have tail : ∀ (st1 : Sd) kvs gs u s, Ok g st1 → (∃ x, st1.1 y = some x) → ColD kvs st1.1 → NmsAre gs (st1.2.map some) → goneS live st y = (delC st1.1 y, st1.2.erase y) → St w σ B s ((env.locals, frO env [("self", some (.ref cx)), ("number", some key), ("value", u)]) :: (cd, cAt hx rv cc cg true rd tr) :: (cc, dcO w kvs) :: (cg, lsO gs) :: (hd, hAt kd gv tg th) :: (kd, dcO w kept) :: rest) →
      wpAny (MM w) (A.deeper env) (execs ((mB 7 7).drop 2) env) (Rt Q) (fun _ _ => False) s := by
    intro st1 kvs gs u s ok1 ⟨x1, hx1⟩ hc hg he S
    rw [he] at k
    obtain ⟨t2, hx3⟩ := hc.some hx1
    have hkz := S.col_len (.tail (.tail .head)) hc ok1.sup
    have hgl := hg.length
    have hgl2 := ok1.len
    rw [List.length_map] at hgl
    with_unfolding_all refine x_seq ?_
    repeat kt_at_item
    refine c_inN (by kcj_m) hg hu (t_bool ⟨fun hb0 => ?_, fun hb0 => ?_⟩)
    · have hb := of_decide_eq_true hb0
      repeat kt_at_item
      refine k_remove (by assumption) (by kt_at_get) hg hu hb (by omega) fun ys s hys S => ?_
      rw [map_erase] at hys
      repeat kt_at_item
      rename_i S
      exact k _ _ ys _ hc.del hys (S.re (by krn_off))
    · have hb := of_decide_eq_false hb0
      have hb2 : y ∉ st1.2 := fun z => hb (List.mem_map.mpr ⟨y, z, rfl⟩)
      rw [List.erase_of_not_mem hb2] at k
      repeat kt_at_item
      rename_i S
      exact k _ _ gs _ hc.del hg (S.re (by krn_off))
  with_unfolding_all refine x_seq ?_
  repeat kt_at_item
  refine d_notIn (by assumption) (by kt_at_get) hu fun s S => ?_
  rw [hs2]
  repeat kt_at_item
  refine c_blackN (t_bool ⟨fun hb0 => ?_, fun hb0 => ?_⟩)
  · have hb : ¬ x = sB := of_decide_eq_true hb0
    rw [if_neg hb] at hgo
    repeat kt_at_item
    refine x_for ?_ (fun _ => rfl)
    repeat kt_at_item
    refine values_in_spec (n := n + 1) Z (by assumption) IH (by kt_at_get) (by kt_at_get) hu ho hKo fun a vs s j L hj S => ?_
    replace S : St w σ _ _ ((a, lsO vs) :: (env.locals, frO env [("self", some (.ref cx)), ("number", some key), ("value", none)]) :: (cd, cAt hx rv cc cg true rd tr) :: (cc, dcO w kvs) :: (cg, lsO gs) :: (hd, hAt kd gv tg th) :: (kd, dcO w kept) :: rest) := S.re (by krn_off)
    obtain ⟨B2, k2, ⟨ob, hob, nn, rfl⟩, S⟩ := S.freeze
    have hO : Lst B2 a vs := ⟨nn, hob⟩
    clear hob
    have I2 := I.keeps k2
    replace L := L.keeps k2
    refine it_list Z.1 S hO fun It2 Fi2 s W2 S => ?_
    refine for_in (X := Option Value × List (Nm × Value) × List Value) (fun x => (env.locals, frO env [("self", some (.ref cx)), ("number", some key), ("value", x.1)]) :: (cd, cAt hx rv cc cg true rd tr) :: (cc, dcO w x.2.1) :: (cg, lsO x.2.2) :: (hd, hAt kd gv tg th) :: (kd, dcO w kept) :: rest)
      (fun i2 x B' => B' = B2 ∧ ∃ m1 m2 j2, ms = m1 ++ m2 ∧ LeadsL B2 (vs.drop i2) m2 j2 ∧ j2 ≤ 40 ∧ ColD x.2.1 (shadeL st m1).1 ∧ NmsAre x.2.2 ((shadeL st m1).2.map some)) (none, kvs, gs) W2 (fun _ _ e => e) S ⟨rfl, [], ms, j, rfl, L, hj, hc, hg⟩ (fun _ => by simp) ?_ ?_
    · rintro i2 v2 ⟨u3, kvs, gs⟩ B4 s hi2 hv2 hB ⟨rfl, m1, m2, j2, rfl, L, hj, hc, hg⟩ S
      clear hB
      dsimp only at S hc hg
      obtain ⟨m3, m4, j3, j4, rfl, L3, hj3, L4, hj4⟩ := L.next hv2
      refine assign_Name ?_
      repeat kt_at_item
      refine shade_spec (n := n + 1) Z (by assumption) I2 (by krn_off) hc hg (ok.shade m1) hgz L3 (by omega) fun uu kvs' gs' s' hc hg S => ?_
      repeat kt_at_item
      refine ⟨(some v2, kvs', gs'), _, fun _ _ e => e, ⟨rfl, m1 ++ m3, m4, j4, by rw [List.append_assoc], L4, by omega, ?_, ?_⟩, S.re (by krn_off)⟩
      · rw [shade_append]; exact hc
      · rw [shade_append]; exact hg
    · rintro ⟨u3, kvs, gs⟩ B4 s hB ⟨rfl, m1, m2, j2, rfl, L, hj, hc, hg⟩ S
      clear hB
      dsimp only at S hc hg
      have := L.over (Nat.le_refl _)
      subst this
      rw [List.append_nil] at hgo
      refine x_nil ?_
      refine tail (shadeL st m1) kvs gs u3 _ (ok.shade _) ?_ hc hg hgo ((S.re (by krn_off)).shrink hσ k2)
      have : ((shadeL st m1).1 y).isSome = true := by rw [shade_in, hx']; rfl
      exact Option.isSome_iff_exists.mp this
  · have hb : x = sB := Decidable.of_not_not (of_decide_eq_false hb0)
    rw [if_pos hb] at hgo
    refine x_nil ?_
    rename_i S
    exact tail st kvs gs none _ ok ⟨_, hx'⟩ hc hg hgo (S.re (by krn_off))
end
end
/-! F16 -/
noncomputable section
/-! the greys run out -/
theorem pops_add {live : Lv} {st : Sd} {b : Nat} : ∀ a, pops live a (pops live b st) = pops live (b + a) st
  | 0 => rfl
  | a + 1 => by show popS live _ = popS live (pops live (b + a) st); rw [pops_add a]
def NB (c : Cs) (n : Int) : Prop := c n ≠ none ∧ c n ≠ some sB
def nbD (c : Cs) (n : Int) : Decidable (NB c n) := by unfold NB; exact inferInstance
def nbL (g : Nat) (c : Cs) : List Int := ((List.range g).map fun (i : Nat) => (i : Int) + 1).filter fun n => @decide (NB c n) (nbD c n)
theorem nbL_mem {g : Nat} {c : Cs} {n : Int} (hs : Sup c g) : n ∈ nbL g c ↔ NB c n := by
  unfold nbL
  rw [List.mem_filter]
  constructor
  · exact fun h => @of_decide_eq_true _ (nbD c n) h.2
  · intro h
    refine ⟨?_, @decide_eq_true _ (nbD c n) h⟩
    cases q : c n with
    | none => exact absurd q h.1
    | some x =>
      have := hs n x q
      exact List.mem_map.mpr ⟨(n - 1).toNat, List.mem_range.mpr (by omega), by omega⟩
theorem nbL_nodup {g : Nat} {c : Cs} : (nbL g c).Nodup := by
  refine List.Pairwise.filter _ (List.Pairwise.map _ (fun a b h e => h ?_) List.nodup_range)
  omega
theorem sh1_nb {st : Sd} {m : Nm} {n : Int} : NB (sh1 st m).1 n ↔ NB st.1 n := by
  cases m with
  | none => exact .rfl
  | some k =>
    unfold sh1
    dsimp only
    split
    · rename_i h
      unfold NB setC
      dsimp only
      by_cases e : n = k
      · subst e; rw [h]; simp; decide
      · simp [e]
    · exact .rfl
theorem shade_nb {n : Int} : ∀ (ms : List Nm) {st : Sd}, NB (shadeL st ms).1 n ↔ NB st.1 n
  | [], _ => .rfl
  | m :: ms, st => by show NB (shadeL (sh1 st m) ms).1 n ↔ _; rw [shade_nb ms, sh1_nb]
theorem pop_nb {g : Nat} {live : Lv} {st : Sd} (ok : Ok g st) (hne : st.2 ≠ []) : (nbL g (popS live st).1).length < (nbL g st.1).length := by
  rcases List.eq_nil_or_concat st.2 with e | ⟨l, k, e⟩
  · exact absurd e hne
  · rw [List.concat_eq_append] at e
    have hk : st.1 k = some sG := (ok.grey k).mp (by rw [e]; simp)
    have ok2 := ok.pop (live := live)
    have hm : ∀ n, NB (popS live st).1 n ↔ NB st.1 n ∧ n ≠ k := by
      intro n
      rw [popS_snoc e, shade_nb]
      unfold NB setC
      dsimp only
      by_cases q : n = k
      · subst q; simp
      · simp [q]
    have hkb : NB st.1 k := by unfold NB; rw [hk]; decide
    have h1 : (k :: nbL g (popS live st).1).Nodup := List.nodup_cons.mpr ⟨fun z => ((hm k).mp ((nbL_mem ok2.sup).mp z)).2 rfl, nbL_nodup⟩
    have := sub_len (r := nbL g st.1) h1 fun n hn => by
      rw [nbL_mem ok.sup]
      rcases List.mem_cons.mp hn with rfl | hn
      · exact hkb
      · exact ((hm n).mp ((nbL_mem ok2.sup).mp hn)).1
    rw [List.length_cons] at this
    exact this
theorem pops_nb {g : Nat} {live : Lv} {st : Sd} (ok : Ok g st) (hne : st.2 ≠ []) : ∀ k, 0 < k → (nbL g (pops live k st).1).length < (nbL g st.1).length
  | 0, h => absurd h (by decide)
  | 1, _ => pop_nb ok hne
  | k + 2, _ => by
    have ih := pops_nb (live := live) ok hne (k + 1) (by omega)
    show (nbL g (popS live (pops live (k + 1) st)).1).length < _
    by_cases q : (pops live (k + 1) st).2 = []
    · rw [popS_nil q]; exact ih
    · exact Nat.lt_trans (pop_nb (ok.pops _) q) ih
theorem pops_one {live : Lv} {st : Sd} {a b : Nat} (ha : (pops live a st).2 = []) (hb : (pops live b st).2 = []) : pops live a st = pops live b st := by
  rcases Nat.le_total a b with h | h
  · have := pops_stop ha (b - a); rw [show a + (b - a) = b from by omega] at this; exact this.symm
  · have := pops_stop hb (a - b); rw [show b + (a - b) = a from by omega] at this; exact this
/-- two rows in order, with the same members -/
theorem sorted_one : ∀ {a b : List Int}, a.Pairwise (· < ·) → b.Pairwise (· < ·) → (∀ n, n ∈ a ↔ n ∈ b) → a = b
  | [], [], _, _, _ => rfl
  | [], y :: b, _, _, h => absurd ((h y).mpr (.head _)) (by simp)
  | x :: a, [], _, _, h => absurd ((h x).mp (.head _)) (by simp)
  | x :: a, y :: b, ha, hb, h => by
    have ha' := List.pairwise_cons.mp ha
    have hb' := List.pairwise_cons.mp hb
    have e : x = y := by
      rcases List.mem_cons.mp ((h x).mp (.head _)) with e | hx
      · exact e
      · rcases List.mem_cons.mp ((h y).mpr (.head _)) with e | hy
        · exact e.symm
        · have := ha'.1 y hy; have := hb'.1 x hx; omega
    subst e
    rw [sorted_one ha'.2 hb'.2 fun n => ?_]
    constructor
    · intro hn
      rcases List.mem_cons.mp ((h n).mp (.tail _ hn)) with e | q
      · subst e; have := ha'.1 n hn; omega
      · exact q
    · intro hn
      rcases List.mem_cons.mp ((h n).mpr (.tail _ hn)) with e | q
      · subst e; have := hb'.1 n hn; omega
      · exact q
theorem lt_of_le {l : List Int} (h : l.Pairwise (· ≤ ·)) (nd : l.Nodup) : l.Pairwise (· < ·) := by
  have := List.pairwise_and_iff.mpr ⟨h, nd⟩
  exact this.imp fun ⟨a, b⟩ => by omega
end
/-! F17 -/
noncomputable section
section
variable {w : World} {σ : Shared} {B B₀ : Heap} {s : Shared} {own own1 own2 rest : List Pt} {A : Around} {E : Value → Shared → Prop} {v : Value} {ms : List Nm} {k : Nat} {src a cc cg hx hd kd cx cd : Addr} {Q : Value → Shared → Prop} {kvs kept : List (Nm × Value)} {gs : List Value} {st : Sd} {g : Nat} {m : Nm} {gv rd : Int} {tg th tr : Tok} {key o rv : Value} {go : Bool} {c : Cs} {live : Lv}
set_option maxHeartbeats 4000000 in
theorem finish_spec {n : Nat} (Z : Rm A (n + 8)) (S : St w σ B s own) (I : Ins B cx 100 cd) (IH : Ins B hx 299 hd) (p : Arr [(cd, cAt hx rv cc cg true rd tr), (cc, dcO w kvs), (cg, lsO gs), (hd, hAt kd gv tg th), (kd, dcO w kept)] own rest) (hc : ColD kvs st.1) (hg : NmsAre gs (st.2.map some)) (ok : Ok g st) (hgz : g ≤ 40) (hK : KeptD B kept live) (hl : ∀ n, (st.1 n).isSome → (live n).isSome) (hz : kept.length < 900)
    (k : ∀ b ys (ws : List Int) m kept' cc' tr' B' s', B.StaysIn B' → Lst B' b ys → NmsAre ys (ws.map some) → ws.Pairwise (· < ·) → (∀ n, n ∈ ws ↔ (pops live m st).1 n = some sW) → (pops live m st).2 = [] → Gone kept kept' (ws.map some) → St w σ B' s' ((cd, cAt hx rv cc' cg false (rd + 1) tr') :: (cc', dcO w []) :: (cg, lsO []) :: (hd, hAt kd gv tg th) :: (kd, dcO w kept') :: rest) → Q (.ref b) s') : wpAny (MM w) A (call (.ref 97) [.ref cx]) Q E s := by
  replace S : St w σ B s ((cd, cAt hx rv cc cg true rd tr) :: (cc, dcO w kvs) :: (cg, lsO gs) :: (hd, hAt kd gv tg th) :: (kd, dcO w kept) :: rest) := S.arr p
  have hσ := S.base
  refine enterC (vs := [.ref cx]) (ps := ["self"]) (ls := ["freed"]) (gl := ["len", "sorted"]) (cn := ["self"]) (n := n + 7) Z S (f_finish _) (c_finish _) rfl (by kernel_rfl) (by kernel_rfl) rfl fun env s₁ cs hcs V Z S => ?_
  obtain ⟨c, rfl⟩ := List.length_eq_one_iff.mp hcs
  change St _ _ _ _ ((env.locals, frO env [("freed", none)]) :: (c, clO (some (.ref cx))) :: (cd, cAt hx rv cc cg true rd tr) :: (cc, dcO w kvs) :: (cg, lsO gs) :: (hd, hAt kd gv tg th) :: (kd, dcO w kept) :: rest) at S
  change Ev env _ [("self", c)] at V
  with_unfolding_all refine x_seq ?_
  repeat kt_at_item
  rename_i S
  refine x_while (fun q s => ∃ m kvs gs, (nbL g (pops live m st).1).length = q ∧ ColD kvs (pops live m st).1 ∧ NmsAre gs ((pops live m st).2.map some) ∧ St w σ B s ((env.locals, frO env [("freed", none)]) :: (c, clO (some (.ref cx))) :: (cd, cAt hx rv cc cg true rd tr) :: (cc, dcO w kvs) :: (cg, lsO gs) :: (hd, hAt kd gv tg th) :: (kd, dcO w kept) :: rest)) _ ⟨0, kvs, gs, rfl, hc, hg, S.re (by krn_off)⟩ ?_
  clear S hc hg
  rintro q s ⟨m, kvs, gs, rfl, hc, hg, S⟩
  have ok1 := ok.pops (live := live) m
  have hgl := hg.length
  have hgl2 := ok1.len
  rw [List.length_map] at hgl
  repeat kt_at_item
  refine c_neE Z.units (by kcj_m) (by kcj_m) (t_bool ⟨fun hb0 => ?_, fun hb0 => ?_⟩)
  · have hb : gs ≠ [] := of_decide_eq_true hb0
    have hb2 : (pops live m st).2 ≠ [] := fun z => hb (List.length_eq_zero_iff.mp (by rw [hgl, z]; rfl))
    have hgp : 0 < gs.length := List.length_pos_iff.mpr hb
    repeat kt_at_item
    refine step_spec (n := n + 1) Z (by assumption) I IH (by krn_off) hc hg ok1 hgz hK (fun n h => hl n (by rwa [pops_in ok] at h)) (by omega) fun b kvs' gs' s' eb hc hg S => ?_
    rw [pops_add] at hc hg
    have hlt := pops_nb (live := live) ok1 hb2 gs.length hgp
    rw [pops_add] at hlt
    repeat kt_at_item
    exact ⟨_, hlt, _, kvs', gs', rfl, hc, hg, S.re (by krn_off)⟩
  · have hb : gs = [] := by simpa using hb0
    subst hb
    have he : (pops live m st).2 = [] := List.length_eq_zero_iff.mp hgl.symm
    have hkz := S.col_len (.tail (.tail (.tail .head))) hc ok1.sup
    obtain ⟨ns, hns, hnd, hmem⟩ := hc.keys (S.keys (.tail (.tail (.tail .head))))
    rename_i S
    replace S : St w σ B _ ((env.locals, frO env [("freed", none)]) :: (c, clO (some (.ref cx))) :: (cd, cAt hx rv cc cg true rd tr) :: (cc, dcO w kvs) :: (cg, lsO []) :: (hd, hAt kd gv tg th) :: (kd, dcO w kept) :: rest) := S.re (by krn_off)
    have hnl : kvs.length = ns.length := by have := congrArg List.length hns; simpa using this
    refine x_seq ?_
    refine x_compS (ls := ["number"]) (gl' := ["WHITE"]) (cs := [("self", c)]) S V (by kt_at_get) (by kt_at_method) rfl rfl (by rfl) (fun p hp => hp) ?_
    repeat kt_at_item
    refine k_sortD (q := (cx, fun _ => True)) Z.1 (by assumption) (by kt_at_get) hns (by omega) fun sc ys ns' s hys hperm hpw S => ?_
    replace S : St w σ B _ ((sc, lsO ys) :: (env.locals, frO env [("freed", none)]) :: (c, clO (some (.ref cx))) :: (cd, cAt hx rv cc cg true rd tr) :: (cc, dcO w kvs) :: (cg, lsO []) :: (hd, hAt kd gv tg th) :: (kd, dcO w kept) :: rest) := S.re (by krn_off)
    obtain ⟨B2, k2, ⟨ob, hob, nn, rfl⟩, S⟩ := S.freeze
    have hO : Lst B2 sc ys := ⟨nn, hob⟩
    clear hob
    have I2 := I.keeps k2
    have hpl := hperm.length_eq
    have hysl := hys.length
    rw [List.length_map] at hysl
    have hmem' : ∀ n, n ∈ ns' ↔ ∃ x, (pops live m st).1 n = some x := fun n => by rw [hperm.mem_iff]; exact hmem n
    have hlt := lt_of_le hpw (hperm.symm.nodup hnd)
    refine it_list Z.1 S hO fun It Fi s W S => ?_
    refine comp_in _ (fun i out B' => NmsAre out (((ns'.take i).filter fun n => decide ((pops live m st).1 n = some sW)).map some) ∧ B' = B2) W (fun _ _ e => e) S (by omega) ⟨.nil, rfl⟩ ?_ ?_
    · rintro cenv D i v out B1 s us V2 hi hv hB ⟨hP, rfl⟩ hu S
      obtain ⟨u, rfl⟩ := List.length_eq_one_iff.mp hu
      clear hB
      change St _ _ _ _ ((cenv.locals, frO cenv [("number", u)]) :: _) at S
      obtain ⟨m0, hm0, hv2⟩ := hys.at_ hv
      rw [List.getElem?_map] at hm0
      obtain ⟨y, hy, rfl⟩ := Option.map_eq_some_iff.mp hm0
      obtain ⟨x, hx'⟩ := (hmem' y).mp (List.mem_of_getElem? hy)
      obtain ⟨t', hx2⟩ := hc.some hx'
      have htake : ns'.take (i + 1) = ns'.take i ++ [y] := by
        obtain ⟨hi', e⟩ := List.getElem?_eq_some_iff.mp hy
        rw [List.take_succ_eq_append_getElem hi', e]
      rw [htake, List.filter_append, List.map_append]
      refine assign_Name ?_
      kt_at_item
      refine tests1 ?_
      repeat kt_at_item
      refine c_strs (t_bool ⟨fun hb0 => ?_, fun hb0 => ?_⟩)
      · have hb : x = sW := by simpa using hb0
        subst hb
        repeat kt_at_item
        rename_i S
        refine ⟨_, [some v], fun _ _ e => e, rfl, ⟨?_, rfl⟩, cend1 (S.re (by krn_off))⟩
        rw [List.filter_cons_of_pos (by simpa using hx'), List.filter_nil]
        exact hP.append (.one hv2)
      · have hb : ¬ x = sW := by simpa using hb0
        rename_i S
        refine ⟨_, [some v], fun _ _ e => e, rfl, ⟨?_, rfl⟩, cend1 (S.re (by krn_off))⟩
        rw [List.filter_cons_of_neg (by simp [hx', hb]), List.filter_nil]
        simpa using hP
    · rintro out B1 D cenv us s ⟨hP, rfl⟩ hB hu S
      clear hB
      rw [hysl, List.take_length] at hP
      refine ⟨_, _, _, by kt_at_get, by lcg_off, fun s' S => ?_⟩
      repeat kt_at_item
      rename_i S
      obtain ⟨B3, k3, ⟨ob, hob, nn, rfl⟩, S⟩ := (S.pick (p := (D, lsO out)) (by kt_at_get)).freeze
      have hD : Lst B3 D out := ⟨nn, hob⟩
      clear hob
      have I3 := I2.keeps k3
      have k23 : B.StaysIn B3 := st_trans k2 k3
      refine free_spec (n := n + 3) Z (by assumption) ((IH.keeps k2).keeps k3) (by krn_off) (.inl hD) hP hz fun u kept' s' hG S => ?_
      repeat kt_at_item
      rename_i S
      refine k D out _ m kept' _ _ B3 _ k23 hD hP (hlt.filter _) ?_ he hG (S.re (by krn_off))
      intro n
      rw [List.mem_filter, decide_eq_true_iff]
      exact ⟨fun z => z.2, fun z => ⟨(hmem' n).mpr ⟨_, z⟩, z⟩⟩
end
end
/-! F18 -/
noncomputable section
section
variable {w : World} {σ : Shared} {B B₀ : Heap} {s : Shared} {own own1 own2 rest : List Pt} {A : Around} {E : Value → Shared → Prop} {v : Value} {ms : List Nm} {k : Nat} {src a cc cg hx hd kd cx cd : Addr} {Q : Value → Shared → Prop} {kvs kept : List (Nm × Value)} {gs : List Value} {st : Sd} {g : Nat} {m : Nm} {gv rd : Int} {tg th tr : Tok} {key o rv : Value} {go : Bool} {c : Cs} {live : Lv}
theorem St.thaw {P : Obj → Prop} {B' : Heap} (S : St w σ B' s own) (hσ : σ.heap.StaysIn B) (k : B.StaysIn B') (ha : B.get? a = none) (hz : 2 ≤ a) (ho : ∃ o, B'.get? a = some o ∧ P o) : St w σ B s ((a, P) :: own) := by
  obtain ⟨o, e, h⟩ := ho
  refine ⟨S.pg, S.rest, hσ, fun b o e => S.keep _ _ (k _ _ e), S.size, fun q hq => ?_, ?_⟩
  · rcases List.mem_cons.mp hq with rfl | hq
    · exact ⟨⟨o, S.keep _ _ e, h⟩, ha, hz⟩
    · have hh := S.has q hq
      refine ⟨hh.1, ?_, hh.2.2⟩
      cases z : B.get? q.1 with
      | none => rfl
      | some o => have := k _ _ z; rw [hh.2.1] at this; cases this
  · refine List.nodup_cons.mpr ⟨fun z => ?_, S.nodup⟩
    obtain ⟨q, hq, z⟩ := List.mem_map.mp z
    have := (S.has q hq).2.1
    rw [z, e] at this
    cases this
/-- for a while nobody's -/
theorem St.freezeK {P : Obj → Prop} (S : St w σ B s ((a, P) :: own)) : ∃ B', B.StaysIn B' ∧ (∃ o, B'.get? a = some o ∧ P o) ∧ St w σ B' s own ∧ ∀ s' own', St w σ B' s' own' → St w σ B s' ((a, P) :: own') := by
  have h := S.has _ (.head _)
  have hσ := S.base
  obtain ⟨B', k, ho, S'⟩ := S.freeze
  exact ⟨B', k, ho, S', fun s' own' S => S.thaw hσ k h.2.1 h.2.2 ho⟩
def keyI (kept : List (Nm × Value)) : List Int := kept.filterMap (·.1)
def keyN (kept : List (Nm × Value)) : List Nm := (kept.map (·.1)).filter Option.isNone
theorem keyI_mem {n : Int} : n ∈ keyI kept ↔ Option.some n ∈ kept.map (·.1) := by
  unfold keyI
  rw [List.mem_filterMap, List.mem_map]
theorem keyI_nodup (h : (kept.map (·.1)).Nodup) : (keyI kept).Nodup := by
  unfold keyI
  induction kept with
  | nil => exact .nil
  | cons p l ih =>
    have h' := List.nodup_cons.mp h
    obtain ⟨m, v⟩ := p
    cases m with
    | none => exact ih h'.2
    | some n =>
      refine List.nodup_cons.mpr ⟨fun z => h'.1 ?_, ih h'.2⟩
      exact keyI_mem.mp z
theorem keyN_eq : keyN kept = List.replicate (keyN kept).length none := by
  rw [List.eq_replicate_iff]
  refine ⟨rfl, fun b hb => ?_⟩
  have := (List.mem_filter.mp hb).2
  cases b with
  | none => rfl
  | some n => cases this
theorem keyN_len (h : (kept.map (·.1)).Nodup) : (keyN kept).length = if (valueAt kept none).isSome then 1 else 0 := by
  have nd : (keyN kept).Nodup := h.filter _
  rw [keyN_eq] at nd
  have h1 : (keyN kept).length ≤ 1 := by
    generalize (keyN kept).length = q at nd
    match q, nd with
    | 0, _ => omega
    | 1, _ => omega
    | q + 2, nd => exact absurd (List.Mem.head _) (List.nodup_cons.mp nd).1
  have h2 : 0 < (keyN kept).length ↔ (valueAt kept none).isSome := by
    rw [List.length_pos_iff_exists_mem]
    constructor
    · rintro ⟨b, hb⟩
      have hb' := List.mem_filter.mp hb
      cases b with
      | none => obtain ⟨v, e⟩ := valueAt_key.mp hb'.1; rw [e]; rfl
      | some n => cases hb'.2
    · intro hs
      obtain ⟨v, e⟩ := Option.isSome_iff_exists.mp hs
      exact ⟨none, List.mem_filter.mpr ⟨valueAt_key.mpr ⟨v, e⟩, rfl⟩⟩
  split
  · rename_i hs; have := h2.mpr hs; omega
  · rename_i hs
    have : ¬ 0 < (keyN kept).length := fun z => hs (h2.mp z)
    omega
theorem i_nmS (S : St w σ B s own) (hm : NmV m v) (h : ∀ s', St w σ B s' own → Q (.bool m.isNone) s') : wpAny (MM w) A (call (.builtin "isinstance") [v, .type "str"]) Q E s := by
  cases m with
  | some n => obtain ⟨t, rfl⟩ := hm; exact i_int S (by kernel_rfl) h
  | none => obtain ⟨t, rfl⟩ := hm; exact i_str S (by kernel_rfl) h
theorem i_nmI (S : St w σ B s own) (hm : NmV m v) (h : ∀ s', St w σ B s' own → Q (.bool m.isSome) s') : wpAny (MM w) A (call (.builtin "isinstance") [v, .type "int"]) Q E s := by
  cases m with
  | some n => obtain ⟨t, rfl⟩ := hm; exact i_int S (by kernel_rfl) h
  | none => obtain ⟨t, rfl⟩ := hm; exact i_str S (by kernel_rfl) h
set_option maxHeartbeats 4000000 in
theorem numbers_spec {n : Nat} (Z : Rm A (n + 4)) (S : St w σ B s own) (I : Ins B hx 299 hd) (p : Arr [(hd, hAt kd gv tg th), (kd, dcO w kept)] own rest) (hz : kept.length < 60) (hK : KeptD B kept live)
    (k : ∀ a ys (ns : List Int) s', NmsAre ys (ns.map some ++ List.replicate (if (valueAt kept none).isSome then 1 else 0) none) → ns.Pairwise (· < ·) → (∀ n, n ∈ ns ↔ (live n).isSome) → ns.length < 60 → St w σ B s' ((a, lsO ys) :: (hd, hAt kd gv tg th) :: (kd, dcO w kept) :: rest) → Q (.ref a) s') : wpAny (MM w) A (call (.ref 226) [.ref hx]) Q E s := by
  replace S : St w σ B s ((hd, hAt kd gv tg th) :: (kd, dcO w kept) :: rest) := S.arr p
  have hnd := S.keys (.tail .head)
  have hns := S.notSys (.tail .head)
  refine enter (vs := [.ref hx]) (ps := ["self"]) (ls := ["names"]) (gl := ["sorted"]) (n := n + 3) Z S (f_numbers _) (c_numbers _) rfl (by kernel_rfl) (BindsTo.of_eq (by kernel_rfl)) rfl fun env s₁ V Z S => ?_
  change St _ _ _ _ ((env.locals, frO env [("self", some (.ref hx)), ("names", none)]) :: _) at S
  replace S : St w σ B _ ((kd, dcO w kept) :: (env.locals, frO env [("self", some (.ref hx)), ("names", none)]) :: (hd, hAt kd gv tg th) :: rest) := S.re (by krn_off)
  obtain ⟨B2, k2, hob, S, thaw⟩ := S.freezeK
  have hD : B2.DictOf (nmKind w) kd kept := Heap.dictOf_iff.mpr hob
  replace I := I.keeps k2
  with_unfolding_all refine x_seq ?_
  repeat kt_at_item
  refine r_comp (ls := ["number"]) (gl' := ["isinstance", "str"]) (cs := []) (own := []) V (by rfl) (fun p hp => nomatch hp) ?_
  repeat kt_at_item
  refine it_dict (knd := nmKind w) Z.1 (by assumption) hD hns fun It Fi s W S => ?_
  refine comp_in _ (fun i out B' => NmsAre out (keyN (kept.take i)) ∧ B' = B2) W (fun _ _ e => e) S (by omega) ⟨.nil, rfl⟩ ?_ ?_
  · rintro cenv D i v out B1 s us V2 hi ⟨m, o, hv, hm⟩ hB ⟨hP, rfl⟩ hu S
    obtain ⟨u, rfl⟩ := List.length_eq_one_iff.mp hu
    clear hB
    change St _ _ _ _ ((cenv.locals, frO cenv [("number", u)]) :: _) at S
    replace hm : NmV m v := nmIs_iff.mp hm
    have htake : kept.take (i + 1) = kept.take i ++ [(m, o)] := by
      obtain ⟨hi', e⟩ := List.getElem?_eq_some_iff.mp hv
      rw [List.take_succ_eq_append_getElem hi', e]
    have hkn : keyN (kept.take (i + 1)) = keyN (kept.take i) ++ (if m.isNone then [m] else []) := by
      rw [htake]; unfold keyN; rw [List.map_append, List.filter_append]; cases m <;> rfl
    refine assign_Name ?_
    kt_at_item
    refine tests1 ?_
    repeat kt_at_item
    refine i_nmS (by assumption) hm fun s S => t_bool ⟨fun hb0 => ?_, fun hb0 => ?_⟩
    · rw [if_pos hb0] at hkn
      repeat kt_at_item
      rename_i S
      refine ⟨_, [some v], fun _ _ e => e, rfl, ⟨?_, rfl⟩, cend1 (S.re (by krn_off))⟩
      rw [hkn]; exact hP.append (.one hm)
    · rw [if_neg (by rw [hb0]; decide), List.append_nil] at hkn
      refine ⟨_, [some v], fun _ _ e => e, rfl, ⟨?_, rfl⟩, cend1 (S.re (by krn_off))⟩
      rw [hkn]; exact hP
  · rintro out B1 D cenv us s ⟨hP, rfl⟩ hB hu S s' S'
    clear hB
    rw [List.take_length] at hP
    have hnl := hP.length
    have hnl2 : (keyN kept).length ≤ kept.length := by unfold keyN; exact Nat.le_trans (List.length_filter_le _ _) (by simp)
    rw [keyN_eq] at hP
    repeat kt_at_item
    refine k_sortS (by assumption) (by kcj_m) hP (by omega) fun nd ys1 s hy1 S => ?_
    clear S'
    repeat kt_at_item
    refine r_comp (ls := ["number"]) (gl' := ["isinstance", "str"]) (cs := []) (own := []) V (by rfl) (fun p hp => nomatch hp) ?_
    repeat kt_at_item
    refine it_dict (knd := nmKind w) Z.1 (by assumption) hD hns fun It Fi s W S => ?_
    refine comp_in _ (fun i out B' => NmsAre out ((keyI (kept.take i)).map some) ∧ B' = B1) W (fun _ _ e => e) S (by omega) ⟨.nil, rfl⟩ ?_ ?_
    · rintro cenv D2 i v out B3 s us V2 hi ⟨m, o, hv, hm⟩ hB ⟨hP, rfl⟩ hu S
      obtain ⟨u, rfl⟩ := List.length_eq_one_iff.mp hu
      clear hB
      change St _ _ _ _ ((cenv.locals, frO cenv [("number", u)]) :: _) at S
      replace hm : NmV m v := nmIs_iff.mp hm
      have htake : kept.take (i + 1) = kept.take i ++ [(m, o)] := by
        obtain ⟨hi', e⟩ := List.getElem?_eq_some_iff.mp hv
        rw [List.take_succ_eq_append_getElem hi', e]
      have hkn : (keyI (kept.take (i + 1))).map some = (keyI (kept.take i)).map some ++ (if m.isNone then [] else [m]) := by
        rw [htake]; unfold keyI; rw [List.filterMap_append, List.map_append]; cases m <;> rfl
      refine assign_Name ?_
      kt_at_item
      refine tests1 ?_
      repeat kt_at_item
      refine i_nmS (by assumption) hm fun s S => t_bool ⟨fun hb0 => ?_, fun hb0 => ?_⟩
      · have hb : ¬ m.isNone = true := by intro z; rw [z] at hb0; cases hb0
        rw [if_neg hb] at hkn
        repeat kt_at_item
        rename_i S
        refine ⟨_, [some v], fun _ _ e => e, rfl, ⟨?_, rfl⟩, cend1 (S.re (by krn_off))⟩
        rw [hkn]; exact hP.append (.one hm)
      · have hb : m.isNone = true := by cases z : m.isNone with | true => rfl | false => rw [z] at hb0; cases hb0
        rw [if_pos hb, List.append_nil] at hkn
        refine ⟨_, [some v], fun _ _ e => e, rfl, ⟨?_, rfl⟩, cend1 (S.re (by krn_off))⟩
        rw [hkn]; exact hP
    · rintro out B3 D2 cenv us s ⟨hP, rfl⟩ hB hu S s' S'
      clear hB
      rw [List.take_length] at hP
      have hil := hP.length
      rw [List.length_map] at hil
      have hil2 : (keyI kept).length ≤ kept.length := by unfold keyI; exact List.length_filterMap_le _ _
      repeat kt_at_item
      refine k_sortI (by assumption) (by kcj_m) hP (by omega) fun id ys2 ns' s hy2 hperm hpw S => ?_
      clear S'
      have hpl := hperm.length_eq
      have hl1 := hy1.length
      have hl2 := hy2.length
      rw [List.length_replicate] at hl1
      rw [List.length_map] at hl2
      repeat kt_at_item
      rename_i c _ S
      refine k c _ ns' _ ?_ (lt_of_le hpw (hperm.symm.nodup (keyI_nodup hnd))) ?_ (by omega) ((thaw _ _ (S.re (by krn_off))).re (by krn_off))
      · rw [← keyN_len hnd]
        exact hy2.append hy1
      · intro n
        rw [hperm.mem_iff, keyI_mem, valueAt_key]
        have := hK n
        constructor
        · rintro ⟨v, e⟩
          rw [e] at this
          cases q : live n with
          | none => rw [q] at this; exact this.elim
          | some ms => rfl
        · intro hs
          obtain ⟨ms, e⟩ := Option.isSome_iff_exists.mp hs
          obtain ⟨o, e, _⟩ := hK.some e
          exact ⟨o, e⟩
end
end
/-! F19 -/
noncomputable section
def whites (live : Lv) : Cs := fun n => if (live n).isSome then some sW else none
def inC (ms : List Nm) : Cs := fun n => if (some n : Nm) ∈ ms then some sW else none
theorem inC_some {ms : List Nm} {n : Int} : setC (inC ms) n sW = inC (ms ++ [some n]) := by
  funext k
  unfold setC inC
  by_cases e : k = n
  · subst e; simp
  · simp [e]
theorem inC_none {ms : List Nm} : inC ms = inC (ms ++ [none]) := by
  funext k
  unfold inC
  simp
section
variable {w : World} {σ : Shared} {B B₀ : Heap} {s : Shared} {own own1 own2 rest : List Pt} {A : Around} {E : Value → Shared → Prop} {v : Value} {ms : List Nm} {k : Nat} {src a cc cg hx hd kd cx cd : Addr} {Q : Value → Shared → Prop} {kvs kept : List (Nm × Value)} {gs : List Value} {st : Sd} {g : Nat} {m : Nm} {gv rd : Int} {tg th tr : Tok} {key o rv : Value} {go : Bool} {c : Cs} {live : Lv}
theorem fi_roots (P : Params) : findIn (K P) (.ref 100) "roots" = some none := by kernel_rfl
theorem ga_coll (P : Params) : findIn (K P) (.ref 100) "__getattribute__" = some (some (.builtin "object.__getattribute__")) ∧ findIn (K P) (.ref 100) "__getattr__" = some none := ⟨by kernel_rfl, by kernel_rfl⟩
/-- self.roots(): what the object itself keeps -/
theorem m_roots {pl : Sem Bool} {Q : Value × List Value → Shared → Prop} {own' : List Pt} (S : St w σ B s own) (I : Ins B cx 100 cd) (p : Pick (cd, cAt hx rv cc cg go rd tr) own own') (hh : handedIn rv = true) (h : ∀ s', St w σ B s' own → Q (rv, []) s') : wpAny (MM w) A (getMethod (.ref cx) "roots" pl) Q E s := by
  obtain ⟨od, J, g⟩ := S.inst I p
  refine method_usual S.inK J (ga_coll _).1 (ga_coll _).2 (fi_roots _) rfl ?_
  exact r_attr S I p (by kt_at_method) (by kt_at_method) hh h
set_option maxHeartbeats 4000000 in
theorem begin_spec {n j : Nat} {vs : List Value} (Z : Rm A (n + 8)) (S : St w σ B s own) (I : Ins B cx 100 cd) (IH : Ins B hx 299 hd) (p : Arr [(cd, cAt hx rv cc cg false rd tr), (hd, hAt kd gv tg th), (kd, dcO w kept)] own rest) (hgz : g ≤ 40) (hK : KeptD B kept live) (hL : ∀ n, (live n).isSome → 1 ≤ n ∧ n ≤ g) (hz : kept.length < 60)
    (L : LeadsL B vs ms j) (hj : j < 100) (hrv : handedIn rv = true)
    (hR : ∀ {A : Around} {pos : Pos} {env : Env} {E : Value → Shared → Prop} {Q : Value → Shared → Prop} {s : Shared} {front : List Pt}, Rm A (n + 5) → St w σ B s (front ++ rest) → (∀ a s', St w σ B s' ((a, lsO vs) :: (front ++ rest)) → Q (.ref a) s') → wpAny (MM w) A (callWith pos rv [] (backTo pos (starEach [] env)) []) Q E s)
    (k : ∀ u cc' kvs' cg' gs' s', ColD kvs' (shadeL (whites live, []) ms).1 → NmsAre gs' ((shadeL (whites live, []) ms).2.map some) → St w σ B s' ((cd, cAt hx rv cc' cg' true rd tr) :: (cc', dcO w kvs') :: (cg', lsO gs') :: (hd, hAt kd gv tg th) :: (kd, dcO w kept) :: rest) → Q u s') : wpAny (MM w) A (call (.ref 50) [.ref cx]) Q E s := by
  replace S : St w σ B s ((cd, cAt hx rv cc cg false rd tr) :: (hd, hAt kd gv tg th) :: (kd, dcO w kept) :: rest) := S.arr p
  have hσ := S.base
  refine enter (vs := [.ref cx]) (ps := ["self"]) (ls := ["number", "value"]) (gl := ["isinstance", "int", "WHITE"]) (n := n + 7) Z S (f_begin _) (c_begin _) rfl (by kernel_rfl) (BindsTo.of_eq (by kernel_rfl)) rfl fun env s₁ V Z S => ?_
  change St _ _ _ _ ((env.locals, frO env [("self", some (.ref cx)), ("number", none), ("value", none)]) :: _) at S
  with_unfolding_all refine x_seq ?_
  repeat kt_at_item
  refine x_for ?_ (fun _ => rfl)
  repeat kt_at_item
  refine numbers_spec (n := n + 3) Z (by assumption) IH (by krn_off) hz hK fun na ys ns s hys hpw hmem hnl S => ?_
  obtain ⟨cc2, S⟩ : ∃ cc2, St w σ B s ((na, lsO ys) :: (env.locals, frO env [("self", some (.ref cx)), ("number", none), ("value", none)]) :: (cd, cAt hx rv cc2 cg false rd tr) :: (cc2, dcO w []) :: (hd, hAt kd gv tg th) :: (kd, dcO w kept) :: rest) := ⟨_, S.re (by krn_off)⟩
  generalize hnms : (ns.map some ++ List.replicate (if (valueAt kept none).isSome then 1 else 0) none) = nms at hys
  have hin : ∀ n : Int, (some n : Nm) ∈ nms ↔ (live n).isSome := fun n => by rw [← hmem n, ← hnms]; simp
  have hwh : inC nms = whites live := by
    funext n
    unfold inC whites
    by_cases q : (live n).isSome = true
    · rw [if_pos q, if_pos ((hin n).mpr q)]
    · rw [if_neg q, if_neg (fun z => q ((hin n).mp z))]
  obtain ⟨B2, k2, ⟨ob, hob, nn, rfl⟩, S⟩ := S.freeze
  have hO : Lst B2 na ys := ⟨nn, hob⟩
  clear hob
  have I2 := I.keeps k2
  have hyl := hys.length
  refine it_list Z.1 S hO fun It Fi s W S => ?_
  refine for_in (X := Option Value × List (Nm × Value)) (fun x => (env.locals, frO env [("self", some (.ref cx)), ("number", x.1), ("value", none)]) :: (cd, cAt hx rv cc2 cg false rd tr) :: (cc2, dcO w x.2) :: (hd, hAt kd gv tg th) :: (kd, dcO w kept) :: rest)
    (fun i x B' => B' = B2 ∧ ColD x.2 (inC (nms.take i))) (none, []) W (fun _ _ e => e) S ⟨rfl, ?_⟩ (fun _ => by simp) ?_ ?_
  · have : inC (nms.take 0) = fun _ => none := by funext n; simp [inC]
    rw [this]; exact .nil
  · rintro i v ⟨u, kvs⟩ B4 s hi hv hB ⟨rfl, hc⟩ S
    clear hB
    dsimp only at S hc
    obtain ⟨m, hm, hv2⟩ := hys.at_ hv
    have htake : nms.take (i + 1) = nms.take i ++ [m] := by
      obtain ⟨hi', e⟩ := List.getElem?_eq_some_iff.mp hm
      rw [List.take_succ_eq_append_getElem hi', e]
    have hsup : Sup (inC (nms.take i)) g := by
      intro n x e
      unfold inC at e
      split at e
      · rename_i h; exact hL n ((hin n).mp (List.mem_of_mem_take h))
      · cases e
    have hkz := S.col_len (.tail (.tail (.tail .head))) hc hsup
    refine assign_Name ?_
    repeat kt_at_item
    refine i_nmI (by assumption) hv2 fun s S => t_bool ⟨fun hb0 => ?_, fun hb0 => ?_⟩
    · obtain ⟨y, rfl⟩ := Option.isSome_iff_exists.mp hb0
      repeat kt_at_item
      rename_i S
      refine ⟨(some v, _), _, fun _ _ e => e, ⟨rfl, ?_⟩, S.re (by krn_off)⟩
      rw [htake, ← inC_some]
      exact hc.set
    · have : m = none := by cases m with | none => rfl | some y => cases hb0
      subst this
      repeat kt_at_item
      refine ⟨(some v, _), _, fun _ _ e => e, ⟨rfl, ?_⟩, S.re (by krn_off)⟩
      rw [htake, ← inC_none]
      exact hc
  · rintro ⟨u, kvs⟩ B4 s hB ⟨rfl, hc⟩ S
    clear hB
    dsimp only at S hc
    rw [hyl, List.take_length, hwh] at hc
    replace S := S.shrink hσ k2
    repeat kt_at_item
    refine x_for ?_ (fun _ => rfl)
    repeat kt_at_item
    refine m_roots (by assumption) I (by kt_at_get) hrv fun s S => ?_
    repeat kt_at_item
    obtain ⟨cg2, S⟩ : ∃ cg2, St w σ B s ((env.locals, frO env [("self", some (.ref cx)), ("number", u), ("value", none)]) :: (cd, cAt hx rv cc2 cg2 true rd tr) :: (cc2, dcO w kvs) :: (cg2, lsO []) :: (hd, hAt kd gv tg th) :: (kd, dcO w kept) :: rest) := ⟨_, S.re (by krn_off)⟩
    refine hR (front := [(env.locals, frO env [("self", some (.ref cx)), ("number", u), ("value", none)]), (cd, cAt hx rv cc2 cg2 true rd tr), (cc2, dcO w kvs), (cg2, lsO []), (hd, hAt kd gv tg th), (kd, dcO w kept)]) (Z.mono (by omega)) S fun ra s S => ?_
    dsimp only [List.cons_append, List.nil_append] at S
    obtain ⟨B2, k2, ⟨ob, hob, nn, rfl⟩, S⟩ := S.freeze
    have hO : Lst B2 ra vs := ⟨nn, hob⟩
    clear hob
    have I2 := I.keeps k2
    replace L := L.keeps k2
    have hok : Ok g (whites live, []) := by
      refine ⟨fun n x e => ?_, .nil, fun n => ?_⟩
      · unfold whites at e
        dsimp only at e
        split at e
        · rename_i h; exact hL n h
        · cases e
      · unfold whites
        dsimp only
        split <;> simp <;> decide
    refine it_list Z.1 S hO fun It2 Fi2 s W2 S => ?_
    refine for_in (X := Option Value × List (Nm × Value) × List Value) (fun x => (env.locals, frO env [("self", some (.ref cx)), ("number", u), ("value", x.1)]) :: (cd, cAt hx rv cc2 cg2 true rd tr) :: (cc2, dcO w x.2.1) :: (cg2, lsO x.2.2) :: (hd, hAt kd gv tg th) :: (kd, dcO w kept) :: rest)
      (fun i2 x B' => B' = B2 ∧ ∃ m1 m2 j2, ms = m1 ++ m2 ∧ LeadsL B2 (vs.drop i2) m2 j2 ∧ j2 < 100 ∧ ColD x.2.1 (shadeL (whites live, []) m1).1 ∧ NmsAre x.2.2 ((shadeL (whites live, []) m1).2.map some)) (none, kvs, []) W2 (fun _ _ e => e) S ⟨rfl, [], ms, j, rfl, L, hj, hc, .nil⟩ (fun _ => by simp) ?_ ?_
    · rintro i2 v2 ⟨u3, kvs, gs⟩ B4 s hi2 hv2 hB ⟨rfl, m1, m2, j2, rfl, L, hj, hc, hg⟩ S
      clear hB
      dsimp only at S hc hg
      obtain ⟨m3, m4, j3, j4, rfl, L3, hj3, L4, hj4⟩ := L.next hv2
      refine assign_Name ?_
      repeat kt_at_item
      refine shade_spec (n := n + 3) Z (by assumption) I2 (by krn_off) hc hg (hok.shade m1) hgz L3 (by omega) fun uu kvs' gs' s' hc hg S => ?_
      repeat kt_at_item
      refine ⟨(some v2, kvs', gs'), _, fun _ _ e => e, ⟨rfl, m1 ++ m3, m4, j4, by rw [List.append_assoc], L4, by omega, ?_, ?_⟩, S.re (by krn_off)⟩
      · rw [shade_append]; exact hc
      · rw [shade_append]; exact hg
    · rintro ⟨u3, kvs, gs⟩ B4 s hB ⟨rfl, m1, m2, j2, rfl, L, hj, hc, hg⟩ S
      clear hB
      dsimp only at S hc hg
      have := L.over (Nat.le_refl _)
      subst this
      rw [List.append_nil] at k
      repeat kt_at_item
      exact k _ _ kvs _ gs _ hc hg ((S.re (by krn_off)).shrink hσ k2)
end
end
/-! F20 -/
noncomputable section
section
variable {w : World} {σ : Shared} {B B₀ : Heap} {s : Shared} {own own1 own2 rest : List Pt} {A : Around} {E : Value → Shared → Prop} {v : Value} {ms : List Nm} {k : Nat} {src a cc cg hx hd kd cx cd : Addr} {Q : Value → Shared → Prop} {kvs kept : List (Nm × Value)} {gs : List Value} {st : Sd} {g : Nat} {m : Nm} {gv rd : Int} {tg th tr : Tok} {key o rv : Value} {go : Bool} {c : Cs} {live : Lv}
theorem c_same {c : Cs} {lkv : List (Nm × Value)} (h1 : ColD kvs c) (h2 : ColD lkv c) (q : Q (.bool false) s) : wpAny (MM w) A (compareOp .NotEq ((valueAt kvs m).getD .none) ((valueAt lkv m).getD .none)) Q E s := by
  have nn : wpAny (MM w) A (compareOp .NotEq .none .none) Q E s := c_ne SeqAt.RcNeAt.none_none q
  cases m with
  | none => rw [h1.1, h2.1]; exact nn
  | some n =>
    cases hc : c n with
    | none => rw [h1.none hc, h2.none hc]; exact nn
    | some x =>
      obtain ⟨t, e1⟩ := h1.some hc
      obtain ⟨t', e2⟩ := h2.some hc
      rw [e1, e2]
      refine c_ne (SeqAt.RcNeAt.str_str x t x t') ?_
      simpa using q
set_option maxHeartbeats 4000000 in
theorem is_like_spec {n : Nat} {lc lg : Addr} {lkv : List (Nm × Value)} {lgs : List Value} {c' : Cs} {ns : List Nm} (Z : Rm A (n + 6)) (S : St w σ B s own) (I : Ins B cx 100 cd) (p : Arr [(cd, cAt hx rv cc cg go rd tr), (cc, dcO w kvs), (cg, lsO gs), (lc, dcO w lkv), (lg, lsO lgs)] own rest) (hc : ColD kvs c) (hl : ColD lkv c') (hgo : go = true → c' = c) (hno : go = false → c' = fun _ => none) (hg : NmsAre gs ns) (hg' : NmsAre lgs ns) (hz : ns.length < 100)
    (k : ∀ s', St w σ B s' ((cd, cAt hx rv cc cg go rd tr) :: (cc, dcO w kvs) :: (cg, lsO gs) :: (lc, dcO w lkv) :: (lg, lsO lgs) :: rest) → Q (.bool true) s') : wpAny (MM w) A (call (.ref 360) [.ref cx, .ref lc, .ref lg]) Q E s := by
  replace S : St w σ B s ((cd, cAt hx rv cc cg go rd tr) :: (cc, dcO w kvs) :: (cg, lsO gs) :: (lc, dcO w lkv) :: (lg, lsO lgs) :: rest) := S.arr p
  refine enterC (vs := [.ref cx, .ref lc, .ref lg]) (ps := ["collector", "colours", "greys"]) (ls := ["told"]) (gl := ["range"]) (cn := ["colours", "collector"]) (n := n + 5) Z S (f_is_like _) (c_is_like _) rfl (by kernel_rfl) (by kernel_rfl) rfl fun env s₁ cs hcs V Z S => ?_
  obtain ⟨c2, c1, rfl⟩ := list2 hcs
  change St _ _ _ _ ((env.locals, frO env [("greys", some (.ref lg)), ("told", none)]) :: (c2, clO (some (.ref lc))) :: (c1, clO (some (.ref cx))) :: (cd, cAt hx rv cc cg go rd tr) :: (cc, dcO w kvs) :: (cg, lsO gs) :: (lc, dcO w lkv) :: (lg, lsO lgs) :: rest) at S
  change Ev env _ [("colours", c2), ("collector", c1)] at V
  with_unfolding_all refine x_seq ?_
  refine x_compS (ls := ["number"]) (gl' := []) (cs := [("collector", c1), ("colours", c2)]) S V (by kt_at_get) (by kt_at_method) rfl rfl (by rfl) (fun p hp => by simp only [List.mem_cons, List.not_mem_nil, or_false] at hp ⊢; exact hp.symm) ?_
  repeat kt_at_item
  refine k_range2 (n := 16) (by assumption) fun rg s S => ?_
  refine it_range (n := 16) Z.1 (by assumption) (by kt_at_get) (by omega) fun It Fi s W S => ?_
  refine comp_in _ (fun i out B' => out = [] ∧ B' = B) W (fun _ _ e => e) S (by omega) ⟨rfl, rfl⟩ ?_ ?_
  · rintro cenv D i v out B1 s us V2 hi ⟨t, rfl⟩ hB ⟨rfl, rfl⟩ hu S
    obtain ⟨u, rfl⟩ := List.length_eq_one_iff.mp hu
    clear hB
    change St _ _ _ _ ((cenv.locals, frO cenv [("number", u)]) :: _) at S
    refine assign_Name ?_
    kt_at_item
    refine tests1 ?_
    repeat kt_at_item
    refine colour_of_spec (n := n + 3) (m := some (i : Int)) Z (by assumption) I (by krn_off) ⟨t, rfl⟩ fun s S => ?_
    repeat kt_at_item
    refine d_get (by assumption) (by kt_at_get) (m := some (i : Int)) ⟨_, rfl⟩ fun s S => ?_
    have fin : wpAny (MM w) (A.deeper env) (compareOp .NotEq (if go = true then (valueAt kvs (some (i : Int))).getD .none else .none) ((valueAt lkv (some (i : Int))).getD .none)) (fun b s' => b = .bool false ∧ s' = s) (fun _ _ => False) s := by
      cases go with
      | true => rw [hgo rfl] at hl; exact c_same hc hl ⟨rfl, rfl⟩
      | false =>
        rw [hno rfl] at hl
        rw [hl.none rfl]
        exact c_ne SeqAt.RcNeAt.none_none ⟨rfl, rfl⟩
    refine wpAny_mono fin (fun b s' z => ?_) fun _ _ z => z.elim
    obtain ⟨rfl, rfl⟩ := z
    refine t_bool ⟨fun h => (by cases h), fun _ => ?_⟩
    exact ⟨_, [some _], fun _ _ e => e, rfl, ⟨rfl, rfl⟩, cend1 (S.re (by krn_off))⟩
  · rintro out B1 D cenv us s ⟨rfl, rfl⟩ hB hu S
    clear hB
    refine ⟨_, _, _, by kt_at_get, by lcg_off, fun s' S => ?_⟩
    repeat kt_at_item
    refine c_eqE Z.units (by kcj_m) (by kcj_m) ?_
    rw [show decide (([] : List Value) = []) = true from rfl]
    repeat kt_at_item
    refine c_eqN Z.units (by kcj_m) (by kcj_m) hg hg' ?_
    rw [decide_eq_true rfl]
    repeat kt_at_item
    refine colour_of_spec (n := n + 3) (m := none) Z (by assumption) I (by krn_off) ⟨_, rfl⟩ fun s S => ?_
    have hnone : (if go = true then (valueAt kvs none).getD .none else .none) = Value.none := by rw [hc.1]; cases go <;> rfl
    rw [hnone]
    repeat kt_at_item
    refine is_none_none ?_
    repeat kt_at_item
    exact k _ (S.re (by krn_off))
end
end
/-! F21 -/
noncomputable section
def HeldD (B : Heap) (hkv : List (Nm × Value)) (live : Lv) : Prop := ∀ n ms, live n = some ms → ∃ la ys, valueAt hkv (some n) = some (.ref la) ∧ Lst B la ys ∧ NmsAre ys ms
theorem HeldD.keeps {B B' : Heap} {hkv : List (Nm × Value)} {live : Lv} (h : HeldD B hkv live) (k : B.StaysIn B') : HeldD B' hkv live := fun n ms e => by
  obtain ⟨la, ys, a, b, c⟩ := h n ms e
  exact ⟨la, ys, a, b.keeps k, c⟩
/-- in step: what is met, and what is white no more -/
structure Met (c : Cs) (met : List Int) (st : Sd) : Prop where
  nodup : met.Nodup
  was : ∀ n ∈ met, c n = some sW
  iff_ : ∀ n, st.1 n = some sW ↔ c n = some sW ∧ n ∉ met
theorem Met.hit {c : Cs} {met : List Int} {st : Sd} {y : Int} (h : Met c met st) (hy : st.1 y = some sW) : Met c (met ++ [y]) (sh1 st (some y)) := by
  obtain ⟨h1, h2⟩ := (h.iff_ y).mp hy
  refine ⟨List.nodup_append.mpr ⟨h.nodup, by simp, fun a ha b hb e => h2 (by simp at hb; rw [← hb, ← e]; exact ha)⟩, fun n hn => ?_, fun n => ?_⟩
  · rcases List.mem_append.mp hn with hn | hn
    · exact h.was n hn
    · simp at hn; rw [hn]; exact h1
  · unfold sh1
    dsimp only
    rw [if_pos hy]
    unfold setC
    dsimp only
    by_cases e : n = y
    · subst e; simp; intro z; exact absurd z (by decide)
    · simp only [e, if_false]
      rw [h.iff_ n]
      simp [e]
theorem Met.black {c : Cs} {met : List Int} {st : Sd} {y : Int} {l : List Int} (h : Met c met st) (hy : st.1 y = some sG) : Met c met (setC st.1 y sB, l) := by
  refine ⟨h.nodup, h.was, fun n => ?_⟩
  unfold setC
  dsimp only
  by_cases e : n = y
  · subst e
    rw [if_pos rfl, ← h.iff_ n, hy]
    constructor
    · intro z; exact absurd z (by decide)
    · intro z; exact absurd z (by decide)
  · rw [if_neg e]; exact h.iff_ n
theorem Met.start {st : Sd} : Met st.1 [] st := ⟨List.nodup_nil, (fun n h => nomatch h), fun n => ⟨fun h => ⟨h, List.not_mem_nil⟩, fun h => h.1⟩⟩
section
variable {w : World} {σ : Shared} {B B₀ : Heap} {s : Shared} {own own1 own2 rest : List Pt} {A : Around} {E : Value → Shared → Prop} {v : Value} {ms : List Nm} {k : Nat} {src a cc cg hx hd kd cx cd : Addr} {Q : Value → Shared → Prop} {kvs kept : List (Nm × Value)} {gs : List Value} {st : Sd} {g : Nat} {m : Nm} {gv rd : Int} {tg th tr : Tok} {key o rv : Value} {go : Bool} {c : Cs} {live : Lv}
theorem storeName_cf {A : Around} {E : Value → Shared → Prop} {w : World} {s : Shared} {env : Env} {name : Str} {c : Addr} {v₀ : Option Value} {v : Value} {Q : Unit → Shared → Prop} (hk : env.scope.kind = .function) (hl : env.kindOf name = some .cell ∨ env.kindOf name = some .free)
    (hc : env.cells.lookup name = some c) (hv : s.heap.IsCell c v₀)
    (h : ∀ h', h'.IsCell c (some v) → Heap.SameBut c s.heap h' → Q () { s with heap := h' }) : wpAny (MM w) A (storeName env name v) Q E s := by
  unfold storeName
  rcases hl with hl | hl
  · simp only [hl, hk]
    exact wpAny_bind (wpAny_cellOf hc (wpAny_cellSet hv h))
  · simp only [hl, hk]
    exact wpAny_bind (wpAny_cellOf hc (wpAny_cellSet hv h))
theorem r_storeC2 {w : World} {σ : Shared} {B : Heap} {s : Shared} {own own' : List Pt} {A : Around} {E : Value → Shared → Prop} {env : Env} {gl : List Str} {v : Value} {x : Str} {c : Addr} {v₀ : Option Value} {cl : List (Str × Addr)} {Q : Unit → Shared → Prop} (S : St w σ B s own) (V : Ev env gl cl) (hx : Has (x, c) cl) (p : Pick (c, clO v₀) own own') (h : ∀ s', St w σ B s' ((c, clO (some v)) :: own') → Q () s') :
    wpAny (MM w) A (storeName env x v) Q E s := by
  obtain ⟨o, ho, f⟩ := (S.pick p).at_
  refine storeName_cf V.kind (V.cl _ hx.mem).1 (V.cl _ hx.mem).2.2 ⟨o, ho, f⟩ fun h' hc hs => h _ ((S.pick p).upd hs.extBut ?_)
  obtain ⟨o', e, d⟩ := hc
  exact ⟨o', e, d⟩
/-- of a pair of names of which the first stands in a cell -/
theorem no_swapC {env : Env} {x y : Str} {px py tp vp : Pos} {k k' : Nat} {v1 v2 : Expr} (hx : (env.kindOf x == some .local) = false) : swappedStores [.Tuple [.Name x px, .Name y py] k tp] (.Tuple [v1, v2] k' vp) env = pure none := by
  unfold swappedStores
  dsimp only
  split
  · rfl
  · split
    · rfl
    · rw [if_pos]
      rw [List.filterMap_cons_none (by simp only [hx, Bool.false_and]; rfl)]
      have h1 : ∀ f : Expr → Option Str, (List.filterMap f [Expr.Name y py]).length ≤ 1 := fun f => List.length_filterMap_le _ _
      simp only [Bool.or_eq_true, bne_iff_ne]
      left
      intro z
      exact absurd (z ▸ h1 _) (by simp)
set_option maxHeartbeats 4000000 in
theorem left_white_spec {n : Nat} {lc lg lh : Addr} {lkv hkv : List (Nm × Value)} {lgs : List Value} (Z : Rm A (n + 4)) (S : St w σ B s own) (p : Arr [(lc, dcO w lkv), (lg, lsO lgs), (lh, dcO w hkv)] own rest) (hl : ColD lkv st.1) (hg : NmsAre lgs (st.2.map some)) (ok : Ok g st) (hgz : g ≤ 40) (hH : HeldD B hkv live) (hlv : ∀ n, (st.1 n).isSome → (live n).isSome)
    (k : ∀ b ys (ws : List Int) m s', NmsAre ys (ws.map some) → ws.Pairwise (· < ·) → (∀ n, n ∈ ws ↔ (pops live m st).1 n = some sW) → (pops live m st).2 = [] → St w σ B s' ((b, lsO ys) :: (lc, dcO w lkv) :: (lg, lsO lgs) :: (lh, dcO w hkv) :: rest) → Q (.ref b) s') : wpAny (MM w) A (call (.ref 372) [.ref lc, .ref lg, .ref lh]) Q E s := by
  replace S : St w σ B s ((lc, dcO w lkv) :: (lg, lsO lgs) :: (lh, dcO w hkv) :: rest) := S.arr p
  have hσ := S.base
  have hgl := hg.length
  have hgl2 := ok.len
  rw [List.length_map] at hgl
  refine enterC (vs := [.ref lc, .ref lg, .ref lh]) (ps := ["colours", "greys", "held"]) (ls := ["left", "number"]) (gl := ["list", "sorted"]) (cn := ["met", "colours"]) (n := n + 3) Z S (f_left_white _) (c_left_white _) rfl (by kernel_rfl) (by kernel_rfl) rfl fun env s₁ cs hcs V Z S => ?_
  obtain ⟨c1, c2, rfl⟩ := list2 hcs
  change St _ _ _ _ ((env.locals, frO env [("greys", some (.ref lg)), ("held", some (.ref lh)), ("left", none), ("number", none)]) :: (c1, clO none) :: (c2, clO (some (.ref lc))) :: (lc, dcO w lkv) :: (lg, lsO lgs) :: (lh, dcO w hkv) :: rest) at S
  change Ev env _ [("met", c1), ("colours", c2)] at V
  with_unfolding_all refine x_seq ?_
  have hkc : (env.kindOf "met" == some .local) = false := by
    rcases (V.cl _ (List.Mem.head _)).1 with h | h <;> rw [h] <;> rfl
  refine x_tuple ?_ rfl (no_swapC hkc)
  repeat kt_at_item
  rename_i ma _ _ la _ _ ta B1 _ hB1 hT S
  refine k_assign2 Z.1 S .head hT fun s S => ?_
  refine r_storeC2 S V (by kt_at_method) (by kt_at_get) fun s S => ?_
  refine r_store S V (by kt_at_get) (by lcg_off) fun s S => ?_
  replace S : St w σ B s ((env.locals, frO env [("greys", some (.ref lg)), ("held", some (.ref lh)), ("left", some (.ref la)), ("number", none)]) :: (c1, clO (some (.ref ma))) :: (c2, clO (some (.ref lc))) :: (ma, lsO []) :: (la, lsO lgs) :: (lc, dcO w lkv) :: (lg, lsO lgs) :: (lh, dcO w hkv) :: rest) := (S.re (by krn_off)).shrink hσ hB1
  refine x_seq ?_
  refine x_while (fun q s => ∃ m met mxs lxs u, (nbL g (pops live m st).1).length = q ∧ Met st.1 met (pops live m st) ∧ NmsAre mxs (met.map some) ∧ NmsAre lxs ((pops live m st).2.map some) ∧ St w σ B s ((env.locals, frO env [("greys", some (.ref lg)), ("held", some (.ref lh)), ("left", some (.ref la)), ("number", u)]) :: (c1, clO (some (.ref ma))) :: (c2, clO (some (.ref lc))) :: (ma, lsO mxs) :: (la, lsO lxs) :: (lc, dcO w lkv) :: (lg, lsO lgs) :: (lh, dcO w hkv) :: rest)) _ ⟨0, [], [], lgs, none, rfl, Met.start, .nil, hg, S⟩ ?_
  clear S hT hB1
  rintro q s ⟨m, met, mxs, lxs, u, rfl, hM, hm, hx, S⟩
  have ok1 := ok.pops (live := live) m
  have hxl := hx.length
  have hxl2 := ok1.len
  have hml := hm.length
  have hml2 : met.length ≤ g := range_len hM.nodup fun n hn => ok.sup n _ (hM.was n hn)
  rw [List.length_map] at hxl hml
  repeat kt_at_item
  refine c_neE Z.units (by kcj_m) (by kcj_m) (t_bool ⟨fun hb0 => ?_, fun hb0 => ?_⟩)
  · have hb : lxs ≠ [] := of_decide_eq_true hb0
    have hb2 : (pops live m st).2 ≠ [] := fun z => hb (List.length_eq_zero_iff.mp (by rw [hxl, z]; rfl))
    have hlt := pop_nb (live := live) ok1 hb2
    obtain ⟨us, u1, ns, m1, rfl, e2, hx, hu⟩ := hx.snoc hb
    obtain ⟨l, y, e, rfl, rfl⟩ := map_snoc e2
    have hy : (pops live m st).1 y = some sG := (ok1.grey y).mp (by rw [e]; simp)
    obtain ⟨ms, hms⟩ := live_some (st := pops live m st) (live := live) (fun n h => hlv n (by rwa [pops_in ok] at h)) hy
    obtain ⟨na, nys, ho, hO, hny⟩ := hH y ms hms
    have ok2 := ok1.black e
    have hnext : pops live (m + 1) st = popS live (pops live m st) := rfl
    rw [popS_snoc e, hms, Option.getD_some] at hnext
    rw [popS_snoc e, hms, Option.getD_some] at hlt
    have hM2 := hM.black (l := l) hy
    simp only [List.length_append, List.length_singleton] at hxl
    repeat kt_at_item
    refine x_for ?_ (fun _ => rfl)
    repeat kt_at_item
    refine k_pop (by assumption) (by kt_at_get) (by omega) fun s S => ?_
    repeat kt_at_item
    refine it_list Z.1 (by assumption) hO fun It Fi s W S => ?_
    have hnyl := hny.length
    generalize hst0 : ((setC (pops live m st).1 y sB, l) : Sd) = st0 at *
    refine for_in (X := Option Value × List Value × List Value) (fun x => (env.locals, frO env [("greys", some (.ref lg)), ("held", some (.ref lh)), ("left", some (.ref la)), ("number", x.1)]) :: (c1, clO (some (.ref ma))) :: (c2, clO (some (.ref lc))) :: (ma, lsO x.2.1) :: (la, lsO x.2.2) :: (lc, dcO w lkv) :: (lg, lsO lgs) :: (lh, dcO w hkv) :: rest)
      (fun i x B' => B' = B ∧ ∃ met', Met st.1 met' (shadeL st0 (ms.take i)) ∧ NmsAre x.2.1 (met'.map some) ∧ NmsAre x.2.2 ((shadeL st0 (ms.take i)).2.map some)) (u, mxs, us) W (fun _ _ e => e) (S.re (by krn_off)) ⟨rfl, met, hM2, hm, by rw [← hst0]; exact hx⟩ (fun _ => by simp) ?_ ?_
    · rintro i v ⟨u', mxs', lxs'⟩ B3 s hi hv hB ⟨rfl, met', hM', hm', hx'⟩ S
      clear hB
      dsimp only at S hm' hx'
      obtain ⟨m0, hm0, hv2⟩ := hny.at_ hv
      have htake : shadeL st0 (ms.take (i + 1)) = sh1 (shadeL st0 (ms.take i)) m0 := by
        obtain ⟨hi', e⟩ := List.getElem?_eq_some_iff.mp hm0
        rw [List.take_succ_eq_append_getElem hi', e, shade_append]; rfl
      have ok3 := ok2.shade (ms.take i)
      generalize shadeL st0 (ms.take i) = st1 at *
      have hxl' := hx'.length
      have hxl2' := ok3.len
      have hml' := hm'.length
      have hml2' : met'.length ≤ g := range_len hM'.nodup fun n hn => ok.sup n _ (hM'.was n hn)
      rw [List.length_map] at hxl' hml'
      refine assign_Name ?_
      repeat kt_at_item
      refine c_col hl (t_bool ⟨fun hw => ?_, fun hw => ?_⟩)
      · obtain ⟨y0, rfl⟩ : ∃ n', m0 = some n' := by cases m0 with | none => cases hw | some n => exact ⟨n, rfl⟩
        have hw' : st.1 y0 = some sW := by unfold isW at hw; simpa using hw
        repeat kt_at_item
        refine c_notN (by kcj_m) hm' hv2 (t_bool ⟨fun hn => ?_, fun hn => ?_⟩)
        · have hn' : y0 ∉ met' := fun z => (of_decide_eq_true hn) (List.mem_map.mpr ⟨_, z, rfl⟩)
          have hw1 := (hM'.iff_ y0).mpr ⟨hw', hn'⟩
          repeat kt_at_item
          rename_i S
          refine ⟨(some v, mxs' ++ [v], lxs' ++ [v]), _, fun _ _ e => e, ⟨rfl, met' ++ [y0], ?_, ?_, ?_⟩, S.re (by krn_off)⟩
          · rw [htake]; exact hM'.hit hw1
          · rw [List.map_append]; exact hm'.append (.one hv2)
          · rw [htake]; unfold sh1; dsimp only; rw [if_pos hw1, List.map_append]; exact hx'.append (.one hv2)
        · have hn' : y0 ∈ met' := by
            obtain ⟨z, hz, e⟩ := List.mem_map.mp (Decidable.of_not_not (of_decide_eq_false hn))
            cases e; exact hz
          have hw1 : isW st1.1 (some y0) = false := by
            unfold isW
            have : ¬ st1.1 y0 = some sW := fun z => ((hM'.iff_ y0).mp z).2 hn'
            simpa using this
          repeat kt_at_item
          rename_i S
          refine ⟨(some v, mxs', lxs'), _, fun _ _ e => e, ⟨rfl, met', ?_, hm', ?_⟩, S.re (by krn_off)⟩
          · rw [htake, sh1_noop hw1]; exact hM'
          · rw [htake, sh1_noop hw1]; exact hx'
      · have hw1 : isW st1.1 m0 = false := by
          cases m0 with
          | none => rfl
          | some y0 =>
            unfold isW at hw ⊢
            have h1 : ¬ st.1 y0 = some sW := by simpa using hw
            have : ¬ st1.1 y0 = some sW := fun z => h1 ((hM'.iff_ y0).mp z).1
            simpa using this
        repeat kt_at_item
        rename_i S
        refine ⟨(some v, mxs', lxs'), _, fun _ _ e => e, ⟨rfl, met', ?_, hm', ?_⟩, S.re (by krn_off)⟩
        · rw [htake, sh1_noop hw1]; exact hM'
        · rw [htake, sh1_noop hw1]; exact hx'
    · rintro ⟨u', mxs', lxs'⟩ B3 s hB ⟨rfl, met', hM', hm', hx'⟩ S
      clear hB
      dsimp only at S hm' hx'
      rw [hnyl, List.take_length, ← hnext] at hM' hx'
      rw [← hnext] at hlt
      repeat kt_at_item
      exact ⟨_, hlt, _, met', mxs', lxs', u', rfl, hM', hm', hx', S.re (by krn_off)⟩
  · have hb : lxs = [] := by simpa using hb0
    subst hb
    have he : (pops live m st).2 = [] := List.length_eq_zero_iff.mp hxl.symm
    have hkz := S.col_len (.tail (.tail (.tail (.tail (.tail .head))))) hl ok.sup
    obtain ⟨ns, hns, hnd, hmem⟩ := hl.keys (S.keys (.tail (.tail (.tail (.tail (.tail .head))))))
    have hnl : lkv.length = ns.length := by have := congrArg List.length hns; simpa using this
    refine x_seq ?_
    refine x_ret ?_
    refine r_comp (ls := ["number"]) (gl' := []) (cs := [("colours", c2), ("met", c1)]) (own := []) V (by rfl) (fun p hp => by simp only [List.mem_cons, List.not_mem_nil, or_false] at hp ⊢; exact hp.symm) ?_
    repeat kt_at_item
    refine k_sortD (q := (c1, fun _ => True)) Z.1 (by assumption) (by kt_at_get) hns (by omega) fun sc ys ns' s hys hperm hpw S => ?_
    replace S : St w σ B _ ((sc, lsO ys) :: (env.locals, frO env [("greys", some (.ref lg)), ("held", some (.ref lh)), ("left", some (.ref la)), ("number", u)]) :: (c1, clO (some (.ref ma))) :: (c2, clO (some (.ref lc))) :: (ma, lsO mxs) :: (lc, dcO w lkv) :: (lg, lsO lgs) :: (lh, dcO w hkv) :: rest) := S.re (by krn_off)
    obtain ⟨B2, k2, ⟨ob, hob, nn, rfl⟩, S⟩ := S.freeze
    have hO : Lst B2 sc ys := ⟨nn, hob⟩
    clear hob
    have hpl := hperm.length_eq
    have hysl := hys.length
    rw [List.length_map] at hysl
    have hmem' : ∀ n, n ∈ ns' ↔ ∃ x, st.1 n = some x := fun n => by rw [hperm.mem_iff]; exact hmem n
    have hlt := lt_of_le hpw (hperm.symm.nodup hnd)
    refine it_list Z.1 S hO fun It Fi s W S => ?_
    refine comp_in _ (fun i out B' => NmsAre out (((ns'.take i).filter fun n => decide ((pops live m st).1 n = some sW)).map some) ∧ B' = B2) W (fun _ _ e => e) S (by omega) ⟨.nil, rfl⟩ ?_ ?_
    · rintro cenv D i v out B1 s us V2 hi hv hB ⟨hP, rfl⟩ hu S
      obtain ⟨u, rfl⟩ := List.length_eq_one_iff.mp hu
      clear hB
      change St _ _ _ _ ((cenv.locals, frO cenv [("number", u)]) :: _) at S
      obtain ⟨m0, hm0, hv2⟩ := hys.at_ hv
      rw [List.getElem?_map] at hm0
      obtain ⟨y, hy, rfl⟩ := Option.map_eq_some_iff.mp hm0
      obtain ⟨x, hx'⟩ := (hmem' y).mp (List.mem_of_getElem? hy)
      obtain ⟨t', hx2⟩ := hl.some hx'
      have htake : ns'.take (i + 1) = ns'.take i ++ [y] := by
        obtain ⟨hi', e⟩ := List.getElem?_eq_some_iff.mp hy
        rw [List.take_succ_eq_append_getElem hi', e]
      rw [htake, List.filter_append, List.map_append]
      have hno : ¬ (pops live m st).1 y = some sW → NmsAre out ((((ns'.take i).filter fun n => decide ((pops live m st).1 n = some sW)).map some) ++ (([y].filter fun n => decide ((pops live m st).1 n = some sW)).map some)) := fun z => by
        rw [List.filter_cons_of_neg (by simpa using z), List.filter_nil]
        simpa using hP
      refine assign_Name ?_
      kt_at_item
      refine tests1 ?_
      repeat kt_at_item
      refine c_strs (t_bool ⟨fun hb0 => ?_, fun hb0 => ?_⟩)
      · have hb : x = sW := by simpa using hb0
        subst hb
        repeat kt_at_item
        refine c_notN (by kcj_m) hm hv2 (t_bool ⟨fun hn => ?_, fun hn => ?_⟩)
        · have hn' : y ∉ met := fun z => (of_decide_eq_true hn) (List.mem_map.mpr ⟨_, z, rfl⟩)
          have hw1 := (hM.iff_ y).mpr ⟨hx', hn'⟩
          repeat kt_at_item
          rename_i S
          refine ⟨_, [some v], fun _ _ e => e, rfl, ⟨?_, rfl⟩, cend1 (S.re (by krn_off))⟩
          rw [List.filter_cons_of_pos (by simpa using hw1), List.filter_nil]
          exact hP.append (.one hv2)
        · have hn' : y ∈ met := by
            obtain ⟨z, hz, e⟩ := List.mem_map.mp (Decidable.of_not_not (of_decide_eq_false hn))
            cases e; exact hz
          rename_i S
          refine ⟨fun h => (by cases h), fun _ => ?_⟩
          exact ⟨_, [some v], fun _ _ e => e, rfl, ⟨hno fun z => ((hM.iff_ y).mp z).2 hn', rfl⟩, cend1 (S.re (by krn_off))⟩
      · have hb : ¬ x = sW := by simpa using hb0
        repeat kt_at_item
        rename_i S
        exact ⟨_, [some v], fun _ _ e => e, rfl, ⟨hno fun z => hb (Option.some.inj (hx'.symm.trans ((hM.iff_ y).mp z).1)), rfl⟩, cend1 (S.re (by krn_off))⟩
    · rintro out B1 D cenv us s ⟨hP, rfl⟩ hB hu S s' S'
      clear hB
      rw [hysl, List.take_length] at hP
      repeat kt_at_item
      refine k D out _ m _ hP (hlt.filter _) ?_ he ((S'.re (by krn_off)).shrink hσ k2)
      intro n
      rw [List.mem_filter, decide_eq_true_iff]
      exact ⟨fun z => z.2, fun z => ⟨(hmem' n).mpr ⟨_, ((hM.iff_ n).mp z).1⟩, z⟩⟩
end
end
/-! F22 -/
noncomputable section
/-- the two sides, in step -/
structure Js (B : Heap) (g : Nat) (live : Lv) (st : Sd) (kept kvs lkv hkv : List (Nm × Value)) (gs lgs : List Value) : Prop where
  ok : Ok g st
  hc : ColD kvs st.1
  hg : NmsAre gs (st.2.map some)
  lc : ColD lkv st.1
  lg : NmsAre lgs (st.2.map some)
  hK : KeptD B kept live
  hH : HeldD B hkv live
  same : ∀ n, (st.1 n).isSome = (live n).isSome
  main : (valueAt kept none).isSome = true
theorem Js.keeps {B B' : Heap} {g : Nat} {live : Lv} {st : Sd} {kept kvs lkv hkv : List (Nm × Value)} {gs lgs : List Value} (h : Js B g live st kept kvs lkv hkv gs lgs) (k : B.StaysIn B') : Js B' g live st kept kvs lkv hkv gs lgs :=
  ⟨h.ok, h.hc, h.hg, h.lc, h.lg, h.hK.keeps k, h.hH.keeps k, h.same, h.main⟩
theorem a_setItem {A : Around} {E : Value → Shared → Prop} {w : World} {s : Shared} {env : Env} {o i : Expr} {pos : Pos} {v : Value} {Q : Unit → Shared → Prop}
    (h : wpAny (MM w) A (eval o env) (fun ov s₂ => wpAny (MM w) A (eval i env) (fun iv s₃ => wpAny (MM w) A (setItem ov iv v) (fun _ => Q ()) E s₃) E s₂) E s) : wpAny (MM w) A (assign (.Subscript o i pos) env v) Q E s := fun Γ p hΓ => by
  simp only [assign_Subscript, Sem.wp_bind', Sem.wp_holding, Sem.wp_cmd_standAt, Sem.wp_release, Sem.wp_pure']
  exact Sem.wp_mono _ Γ _ (fun ov p₂ s₂ h₂ => Sem.wp_mono _ Γ _ (fun iv _ s₃ h₃ => h₃ Γ _ hΓ)
    (fun _ _ _ h' => h') _ _ (h₂ Γ p₂ hΓ)) (fun _ _ _ h' => h') _ _ (h Γ _ hΓ)
theorem k_assignS2 {w : World} {σ : Shared} {B : Heap} {s : Shared} {own own' : List Pt} {A : Around} {E : Value → Shared → Prop} {env : Env} {o1 i1 o2 i2 : Expr} {p1 p2 tp : Pos} {k : Nat} {t : Addr} {a1 a2 : Value} {q : Pt} {Q : Unit → Shared → Prop} (hh : A.handled = none) (S : St w σ B s own) (p : Pick q own own') (ht : Tup B t [a1, a2])
    (h : ∀ s', St w σ B s' own → wpAny (MM w) A (assign (.Subscript o1 i1 p1) env a1) (fun _ s₃ => wpAny (MM w) A (assign (.Subscript o2 i2 p2) env a2) Q E s₃) E s') : wpAny (MM w) A (assign (.Tuple [.Subscript o1 i1 p1, .Subscript o2 i2 p2] k tp) env (.ref t)) Q E s := by
  obtain ⟨n, e⟩ := S.tupB ht
  refine wpAny_assign_Tuple (items := [a1, a2].toArray) hh ⟨_, e, rfl, _, rfl⟩ rfl rfl fun h' he => ?_
  have S₁ := S.ext (t := s.toks) p fun b o eb => he b o (Nat.ne_of_lt (Heap.lt_size eb)) eb
  exact wpAny_bind (wpAny_holding (wpAny_mono (h _ S₁) (fun _ _ z => wpAny_bind (wpAny_holding (wpAny_mono z (fun _ _ z => wpAny_pure z) fun _ _ z => z))) fun _ _ z => z))
theorem no_swapS {env : Env} {o1 i1 o2 i2 : Expr} {p1 p2 tp vp : Pos} {k k' : Nat} {v1 v2 : Expr} : swappedStores [.Tuple [.Subscript o1 i1 p1, .Subscript o2 i2 p2] k tp] (.Tuple [v1, v2] k' vp) env = pure none := by
  unfold swappedStores
  dsimp only
  split
  · rfl
  · split
    · rfl
    · rfl
theorem Ok.made {g : Nat} {st : Sd} (h : Ok g st) : Ok (g + 1) (setC st.1 (g + 1) sB, st.2) := by
  refine ⟨fun k x e => ?_, h.nodup, fun k => ?_⟩
  · unfold setC at e
    dsimp only at e
    split at e
    · omega
    · have := h.sup k x e; omega
  · unfold setC
    dsimp only
    by_cases q : k = g + 1
    · subst q
      rw [if_pos rfl, h.grey]
      constructor
      · intro z; have := h.sup _ _ z; omega
      · intro z; exact absurd z (by decide)
    · rw [if_neg q]; exact h.grey k
theorem HeldD.set {B : Heap} {hkv : List (Nm × Value)} {live : Lv} {n : Int} {la : Addr} {ys : List Value} {ms : List Nm} (h : HeldD B hkv live) (hl : Lst B la ys) (hn : NmsAre ys ms) : HeldD B (stored hkv (some n) (.ref la)) (setV live n ms) := fun k m e => by
  unfold setV at e
  rw [valueAt_stored]
  by_cases q : k = n
  · subst q
    rw [if_pos rfl] at e
    rw [if_pos rfl]
    cases e
    exact ⟨la, ys, rfl, hl, hn⟩
  · rw [if_neg q] at e
    rw [if_neg (fun z => q (Option.some.inj z).symm)]
    exact h k m e
theorem KObj.len {B : Heap} {o : Value} {ms : List Nm} (h : KObj B o ms) : ms.length ≤ 40 := by
  obtain ⟨_, _, _, _, _, _, _, j, _, _, _, L, hj, _⟩ := h
  exact Nat.le_trans L.size.1 hj
theorem stored_len {kvs : List (Nm × Value)} {m : Nm} {v : Value} : (stored kvs m v).length ≤ kvs.length + 1 := by
  unfold stored
  split
  · simp
  · simp
theorem Leads.handed {B : Heap} {v : Value} {ms : List Nm} {j : Nat} (h : Leads B v ms j) : handedIn v = true := by
  cases h <;> rfl
section
variable {w : World} {σ : Shared} {B B₀ : Heap} {s : Shared} {own own1 own2 rest : List Pt} {A : Around} {E : Value → Shared → Prop} {v : Value} {ms : List Nm} {k : Nat} {src a cc cg hx hd kd cx cd : Addr} {Q : Value → Shared → Prop} {kvs kept : List (Nm × Value)} {gs : List Value} {st : Sd} {g : Nat} {m : Nm} {gv rd : Int} {tg th tr : Tok} {key o rv : Value} {go : Bool} {c : Cs} {live : Lv}
set_option maxHeartbeats 8000000 in
theorem deed_spec {n : Nat} {lc lg lh : Addr} {lkv hkv : List (Nm × Value)} {lgs : List Value} (Z : Rm A (n + 14)) (S : St w σ B s own) (I : Ins B cx 100 cd) (IH : Ins B hx 299 hd) (p : Arr [(src, srcO), (hd, hAt kd g tg th), (kd, dcO w kept), (cd, cAt hx rv cc cg true rd tr), (cc, dcO w kvs), (cg, lsO gs), (lc, dcO w lkv), (lg, lsO lgs), (lh, dcO w hkv)] own rest) (J : Js B g live st kept kvs lkv hkv gs lgs) (hgz : g < 40) (hz : kept.length < 50) (hhz : hkv.length < 900)
    (k : ∀ B' (g' : Nat) (gv' : Int) live' st' kept' kvs' lkv' hkv' gs' lgs' tg' s', gv' = g' → B.StaysIn B' → g' ≤ g + 1 → kept'.length ≤ kept.length + 1 → hkv'.length ≤ hkv.length + 1 → Js B' g' live' st' kept' kvs' lkv' hkv' gs' lgs' →
      St w σ B' s' ((src, srcO) :: (hd, hAt kd gv' tg' th) :: (kd, dcO w kept') :: (cd, cAt hx rv cc cg true rd tr) :: (cc, dcO w kvs') :: (cg, lsO gs') :: (lc, dcO w lkv') :: (lg, lsO lgs') :: (lh, dcO w hkv') :: rest) → Q (.bool true) s') : wpAny (MM w) A (call (.ref 367) [.ref src, .ref hx, .ref cx, .ref lc, .ref lg, .ref lh]) Q E s := by
  replace S : St w σ B s ((src, srcO) :: (hd, hAt kd g tg th) :: (kd, dcO w kept) :: (cd, cAt hx rv cc cg true rd tr) :: (cc, dcO w kvs) :: (cg, lsO gs) :: (lc, dcO w lkv) :: (lg, lsO lgs) :: (lh, dcO w hkv) :: rest) := S.arr p
  refine enter (vs := [.ref src, .ref hx, .ref cx, .ref lc, .ref lg, .ref lh]) (ps := ["source", "heap", "collector", "colours", "greys", "held"]) (ls := ["way", "there", "value", "numbers", "number", "is_done"]) (gl := ["_law_take", "sorted", "_law_value", "_law_shade", "_law_one"]) (n := n + 13) Z S (f_deed _) (c_deed _) rfl (by kernel_rfl) (BindsTo.of_eq (by kernel_rfl)) rfl fun env s₁ V Z S => ?_
  change St _ _ _ _ ((env.locals, frO env [("source", some (.ref src)), ("heap", some (.ref hx)), ("collector", some (.ref cx)), ("colours", some (.ref lc)), ("greys", some (.ref lg)), ("held", some (.ref lh)), ("way", none), ("there", none), ("value", none), ("numbers", none), ("number", none), ("is_done", none)]) :: _) at S
  have hkz := S.col_len (.tail (.tail (.tail (.tail (.tail (.tail (.tail .head))))))) J.lc J.ok.sup
  obtain ⟨ns, hns, hnd, hmem⟩ := J.lc.keys (S.keys (.tail (.tail (.tail (.tail (.tail (.tail (.tail .head))))))))
  have hnl : lkv.length = ns.length := by have := congrArg List.length hns; simpa using this
  with_unfolding_all refine x_seq ?_
  refine x_swap2 Z.1 S V .head (by kt_at_method) (by kt_at_method) rfl rfl rfl rfl rfl rfl rfl ?_
  repeat kt_at_item
  refine take_spec (n := n + 11) Z (by assumption) (by kt_at_get) (by omega) (by omega) fun way t1 s h0 h6 S => ?_
  repeat kt_at_item
  refine k_sortD (q := (cx, fun _ => True)) Z.1 (by assumption) (by kt_at_get) hns (by omega) fun sc ys ns' s hys hperm hpw S => ?_
  repeat kt_at_item
  refine ⟨_, _, _, _, _, _, _, _, rfl, by assumption, .head, by tb_rel, fun s₂ S => ?_⟩
  repeat kt_at_item
  refine x_tuple ?_
  repeat kt_at_item
  refine value_spec (n := n + 1) Z (by assumption) (by kt_at_get) fun r ms B2 s2 j hB2 hv hj hm S => ?_
  obtain ⟨a1, v1, b1, xs1, rfl, hT1, hL1, hX1, hN1⟩ := hv
  refine k_assign2 Z.1 S .head hT1 fun s S => ?_
  repeat kt_at_item
  have hBB : B.StaysIn B2 := by tb_rel
  replace J := J.keeps hBB
  have hnl1 := hN1.length
  refine lt_int (t_bool ⟨fun hb0 => ?_, fun hb0 => ?_⟩)
  · repeat kt_at_item
    refine shade_spec (n := n + 9) Z (by assumption) (by tb_rel) (by krn_off) J.hc J.hg J.ok (by omega) hL1 (by omega) fun uu kvs1 gs1 s hc hg S => ?_
    repeat kt_at_item
    refine lshade_spec (n := n + 9) Z (by assumption) (by kt_at_get) (by kt_at_get) J.lc J.lg J.ok (by omega) hX1 hN1 (by omega) fun uu lkv1 lgs1 s hlc hlg S => ?_
    repeat kt_at_item
    exact k B2 g g live _ kept kvs1 lkv1 hkv gs1 lgs1 tg _ rfl hBB (by omega) (by omega) (by omega) ⟨J.ok.shade ms, hc, hg, hlc, hlg, J.hK, J.hH, fun n => by rw [shade_in]; exact J.same n, J.main⟩ (S.re (by krn_off))
  · repeat kt_at_item
    refine c_eqE Z.units (by kcj_m) (by kcj_m) (t_bool ⟨fun hb1 => ?_, fun hb1 => ?_⟩)
    · repeat kt_at_item
      refine shade_spec (n := n + 9) Z (by assumption) (by tb_rel) (by krn_off) J.hc J.hg J.ok (by omega) hL1 (by omega) fun uu kvs1 gs1 s hc hg S => ?_
      repeat kt_at_item
      refine lshade_spec (n := n + 9) Z (by assumption) (by kt_at_get) (by kt_at_get) J.lc J.lg J.ok (by omega) hX1 hN1 (by omega) fun uu lkv1 lgs1 s hlc hlg S => ?_
      repeat kt_at_item
      exact k B2 g g live _ kept kvs1 lkv1 hkv gs1 lgs1 tg _ rfl hBB (by omega) (by omega) (by omega) ⟨J.ok.shade ms, hc, hg, hlc, hlg, J.hK, J.hH, fun n => by rw [shade_in]; exact J.same n, J.main⟩ (S.re (by krn_off))
    · have hys0 : ys ≠ [] := of_decide_eq_false hb1
      repeat kt_at_item
      refine c_ints (t_bool ⟨fun hb2 => ?_, fun hb2 => ?_⟩)
      · repeat kt_at_item
        refine make_spec (n := n + 7) (kind := "var") Z (by assumption) (IH.keeps hBB) (by krn_off) (by omega) (LeadsL.cons hL1 .nil) (by omega) hL1.handed (.inl ⟨rfl, rfl⟩) fun t2 tg2 o2 B3 s hB3 hKo S => ?_
        rw [List.append_nil] at hKo
        have hB03 : B.StaysIn B3 := st_trans hBB hB3
        have hm2 : NmV (some ((g : Int) + 1)) (.int ((g : Int) + 1) t2) := ⟨t2, rfl⟩
        repeat kt_at_item
        have hcz := S.col_len (kvs := kvs) (by kt_at_get) J.hc J.ok.sup
        refine made_spec (n := n + 11) Z (by assumption) (I.keeps hB03) (by krn_off) (by omega) fun uu kvs1 s hk1 S => ?_
        repeat kt_at_item
        refine x_tuple ?_ rfl no_swapS
        repeat kt_at_item
        rename_i ta B4 s4 hB4 hT4 S4
        refine k_assignS2 Z.1 S4 .head hT4 fun s S => ?_
        have hB34 : B2.StaysIn B4 := st_trans hB3 hB4
        have hX4 := hX1.keeps hB34
        have J4 := J.keeps hB34
        have hKo4 := hKo.keeps hB4
        refine a_setItem ?_
        repeat kt_at_item
        refine a_setItem ?_
        repeat kt_at_item
        rename_i S
        have hlive : (st.1 (g + 1)) = none := by
          cases q : st.1 (g + 1) with
          | none => rfl
          | some x => have := J.ok.sup _ _ q; omega
        have e1 : B.StaysIn B4 := st_trans hB03 hB4
        refine k B4 (g + 1) ((g : Int) + 1) (setV live (g + 1) ms) (setC st.1 (g + 1) sB, st.2) _ kvs1 _ _ gs lgs tg2 _ (by omega) e1 (Nat.le_refl _) stored_len stored_len ⟨J.ok.made, hk1 _ J.hc, J.hg, J.lc.set, J.lg, J4.hK.set hKo4, J4.hH.set hX4 hN1, fun n => ?_, by rw [valueAt_stored, if_neg (by simp)]; exact J.main⟩ (S.re (by krn_off))
        unfold setC setV
        dsimp only
        by_cases q : n = g + 1
        · rw [if_pos q, if_pos q]; rfl
        · rw [if_neg q, if_neg q]; exact J.same n
      · repeat kt_at_item
        refine c_ints (t_bool ⟨fun hb3 => ?_, fun hb3 => ?_⟩)
        · repeat kt_at_item
          have hysl := hys.length
          have hpl := hperm.length_eq
          rw [List.length_map] at hysl
          refine one_spec (n := n + 9) (ta := sc) (xs := ys) Z (by assumption) (by kt_at_get) (by kt_at_get) hys0 (by omega) fun i yv s hi S => ?_
          obtain ⟨m0, hm0, hyv⟩ := hys.at_ hi
          rw [List.getElem?_map] at hm0
          obtain ⟨y, hy, rfl⟩ := Option.map_eq_some_iff.mp hm0
          obtain ⟨x, hx'⟩ := (hmem y).mp (hperm.mem_iff.mp (List.mem_of_getElem? hy))
          repeat kt_at_item
          refine gone_spec (n := n + 7) (live := live) Z (by assumption) (I.keeps hBB) (IH.keeps hBB) (by krn_off) J.hc J.hg J.ok (by omega) J.hK (fun n h => by rw [← J.same n]; exact h) hyv hx' fun uu kvs1 gs1 s hc hg S => ?_
          repeat kt_at_item
          refine drop_spec (n := n + 7) Z (by assumption) (IH.keeps hBB) (by krn_off) hyv (by omega) fun uu kept1 s hG S => ?_
          obtain ⟨ms2, hms2⟩ := live_some (live := live) (fun n h => by rw [← J.same n]; exact h) hx'
          have hgo : goneS live st y = (delC (if x = sB then st else shadeL st ms2).1 y, (if x = sB then st else shadeL st ms2).2.erase y) := by unfold goneS; rw [hx', hms2]; simp
          obtain ⟨la, hys2, hla, hlb, hln⟩ := J.hH y ms2 hms2
          obtain ⟨t', hx2⟩ := J.lc.some hx'
          have hlnl := hln.length
          obtain ⟨ok0, hok0, hKo⟩ := J.hK.some hms2
          have hln2 : hys2.length < 100 := by have := hKo.len; omega
          refine x_seq ?_
          refine wpAny_mono (?h : wpAny (MM w) (A.deeper env) _ (Nx (fun s => ∃ st1 lkv1 lgs1, Ok g st1 ∧ (∃ x, st1.1 y = some x) ∧ ColD lkv1 st1.1 ∧ NmsAre lgs1 (st1.2.map some) ∧ goneS live st y = (delC st1.1 y, st1.2.erase y) ∧ (∀ n, (st1.1 n).isSome = (st.1 n).isSome) ∧
            St w σ B2 s ((env.locals, frO env [("source", some (.ref src)), ("heap", some (.ref hx)), ("collector", some (.ref cx)), ("colours", some (.ref lc)), ("greys", some (.ref lg)), ("held", some (.ref lh)), ("way", some (.int way t1)), ("there", some (.ref sc)), ("value", some v1), ("numbers", some (.ref b1)), ("number", some yv), ("is_done", none)]) :: (src, srcO) :: (hd, hAt kd g tg th) :: (kd, dcO w kept1) :: (cd, cAt hx rv cc cg true rd tr) :: (cc, dcO w kvs1) :: (cg, lsO gs1) :: (lc, dcO w lkv1) :: (lg, lsO lgs1) :: (lh, dcO w hkv) :: rest)) (fun _ _ => False)) (fun _ _ => False) _) (fun f s z => ?_) (fun _ _ z => z)
          case h =>
            repeat kt_at_item
            refine c_blackN (t_bool ⟨fun hb4 => ?_, fun hb4 => ?_⟩)
            · have hb5 : ¬ x = sB := of_decide_eq_true hb4
              rw [if_neg hb5] at hgo
              repeat kt_at_item
              refine lshade_spec (n := n + 9) Z (by assumption) (by kt_at_get) (by kt_at_get) J.lc J.lg J.ok (by omega) hlb hln hln2 fun uu lkv1 lgs1 s hlc hlg S => ?_
              repeat kt_at_item
              exact ⟨_, lkv1, lgs1, J.ok.shade ms2, Option.isSome_iff_exists.mp (by rw [shade_in, hx']; rfl), hlc, hlg, hgo, fun n => shade_in _, S.re (by krn_off)⟩
            · have hb5 : x = sB := Decidable.of_not_not (of_decide_eq_false hb4)
              rw [if_pos hb5] at hgo
              repeat kt_at_item
              rename_i S
              exact ⟨st, lkv, lgs, J.ok, ⟨_, hx'⟩, J.lc, J.lg, hgo, fun _ => rfl, S.re (by krn_off)⟩
          clear S
          cases f <;> first | exact False.elim z | skip
          obtain ⟨st1, lkv1, lgs1, ok1, ⟨x1, hx1⟩, hlc, hlg, hgo, hin, S⟩ := z
          obtain ⟨t3, hx3⟩ := hlc.some hx1
          have hkl := S.col_len (kvs := lkv1) (by kt_at_get) hlc ok1.sup
          have hgl := hlg.length
          have hgl2 := ok1.len
          rw [List.length_map] at hgl
          have hend : ∀ lkv2 lgs2 s, ColD lkv2 (delC st1.1 y) → NmsAre lgs2 ((st1.2.erase y).map some) → St w σ B2 s ((env.locals, frO env [("source", some (.ref src)), ("heap", some (.ref hx)), ("collector", some (.ref cx)), ("colours", some (.ref lc)), ("greys", some (.ref lg)), ("held", some (.ref lh)), ("way", some (.int way t1)), ("there", some (.ref sc)), ("value", some v1), ("numbers", some (.ref b1)), ("number", some yv), ("is_done", none)]) :: (src, srcO) :: (hd, hAt kd g tg th) :: (kd, dcO w kept1) :: (cd, cAt hx rv cc cg true rd tr) :: (cc, dcO w kvs1) :: (cg, lsO gs1) :: (lc, dcO w lkv2) :: (lg, lsO lgs2) :: (lh, dcO w hkv) :: rest) → Q (.bool true) s := by
            intro lkv2 lgs2 s h1 h2 S
            have hGl := hG.1
            refine k B2 g g _ (goneS live st y) kept1 kvs1 lkv2 hkv gs1 lgs2 tg s rfl hBB (by omega) (by omega) (by omega) ⟨J.ok.gone, hc, hg, by rw [hgo]; exact h1, by rw [hgo]; exact h2, Gone.kept (ns := [y]) hG J.hK, fun n m e => ?_, fun n => ?_, by rw [hG.2, if_neg (by simp)]; exact J.main⟩ (S.re (by krn_off))
            · split at e
              · cases e
              · exact J.hH n m e
            · rw [hgo]
              unfold delC
              dsimp only
              by_cases q : n = y
              · subst q; simp
              · simp [q, hin, J.same]
          change wpAny (MM w) (A.deeper env) _ _ _ _
          repeat kt_at_item
          refine c_strs (t_bool ⟨fun hb4 => ?_, fun hb4 => ?_⟩)
          · have hb5 : x1 = sG := by simpa using hb4
            subst hb5
            have hmem2 : y ∈ st1.2 := (ok1.grey y).mpr hx1
            repeat kt_at_item
            refine k_remove (by assumption) (by kt_at_get) hlg hyv (List.mem_map.mpr ⟨y, hmem2, rfl⟩) (by omega) fun ys2 s hys2 S => ?_
            rw [map_erase] at hys2
            repeat kt_at_item
            rename_i S
            exact hend _ _ _ hlc.del hys2 (S.re (by krn_off))
          · have hb5 : ¬ x1 = sG := by simpa using hb4
            have hmem2 : y ∉ st1.2 := fun z => hb5 (Option.some.inj (hx1.symm.trans ((ok1.grey y).mp z)))
            repeat kt_at_item
            rename_i S
            exact hend _ _ _ hlc.del (by rw [List.erase_of_not_mem hmem2]; exact hlg) (S.re (by krn_off))
        · repeat kt_at_item
          refine c_ints (t_bool ⟨fun hb4 => ?_, fun hb4 => ?_⟩)
          · repeat kt_at_item
            refine step_spec (n := n + 7) (live := live) (many := 1) Z (by assumption) (I.keeps hBB) (IH.keeps hBB) (by krn_off) J.hc J.hg J.ok (by omega) J.hK (fun n h => by rw [← J.same n]; exact h) (by omega) fun b kvs1 gs1 s hb hc hg S => ?_
            rw [show pops live 1 st = popS live st from rfl] at hb hc hg
            have hend : ∀ lkv2 lgs2 u s, ColD lkv2 (popS live st).1 → NmsAre lgs2 ((popS live st).2.map some) → St w σ B2 s ((env.locals, frO env [("source", some (.ref src)), ("heap", some (.ref hx)), ("collector", some (.ref cx)), ("colours", some (.ref lc)), ("greys", some (.ref lg)), ("held", some (.ref lh)), ("way", some (.int way t1)), ("there", some (.ref sc)), ("value", some v1), ("numbers", some (.ref b1)), ("number", u), ("is_done", some (.bool b))]) :: (src, srcO) :: (hd, hAt kd g tg th) :: (kd, dcO w kept) :: (cd, cAt hx rv cc cg true rd tr) :: (cc, dcO w kvs1) :: (cg, lsO gs1) :: (lc, dcO w lkv2) :: (lg, lsO lgs2) :: (lh, dcO w hkv) :: rest) → Q (.bool (b == decide (lgs2 = []))) s := by
              intro lkv2 lgs2 u s h1 h2 S
              have e : (b == decide (lgs2 = [])) = true := by
                rw [hb]
                have hl2 := h2.length
                rw [List.length_map] at hl2
                by_cases q : lgs2 = []
                · subst q
                  have : (popS live st).2 = [] := List.length_eq_zero_iff.mp hl2.symm
                  simp [this]
                · have : ¬ (popS live st).2 = [] := fun z => q (List.length_eq_zero_iff.mp (by rw [hl2, z]; rfl))
                  simp [this, q]
              rw [e]
              exact k B2 g g live (popS live st) kept kvs1 lkv2 hkv gs1 lgs2 tg s rfl hBB (by omega) (by omega) (by omega) ⟨J.ok.pop, hc, hg, h1, h2, J.hK, J.hH, fun n => by rw [popS_in J.ok]; exact J.same n, J.main⟩ (S.re (by krn_off))
            repeat kt_at_item
            refine c_neE Z.units (by kcj_m) (by kcj_m) (t_bool ⟨fun hb5 => ?_, fun hb5 => ?_⟩)
            · have hne : lgs ≠ [] := of_decide_eq_true hb5
              have hJlg := J.lg
              have hgl := hJlg.length
              have hgl2 := J.ok.len
              rw [List.length_map] at hgl
              obtain ⟨us, u1, ns1, m1, rfl, e2, hg1, hu⟩ := hJlg.snoc hne
              obtain ⟨l, y, e, rfl, rfl⟩ := map_snoc e2
              have hy : st.1 y = some sG := (J.ok.grey y).mp (by rw [e]; simp)
              obtain ⟨ms2, hms2⟩ := live_some (live := live) (fun n h => by rw [← J.same n]; exact h) hy
              obtain ⟨la, hys2, hla, hlb, hln⟩ := J.hH y ms2 hms2
              have hpop := popS_snoc (live := live) e
              rw [hms2, Option.getD_some] at hpop
              have ok2 := J.ok.black e
              have hlnl := hln.length
              obtain ⟨ok0, hok0, hKo⟩ := J.hK.some hms2
              have hln2 : hys2.length < 100 := by have := hKo.len; omega
              simp only [List.length_append, List.length_singleton] at hgl
              repeat kt_at_item
              refine k_pop (by assumption) (by kt_at_get) (by omega) fun s S => ?_
              repeat kt_at_item
              refine lshade_spec (n := n + 9) (st := (setC st.1 y sB, l)) Z (by assumption) (by kt_at_get) (by kt_at_get) J.lc.set hg1 ok2 (by omega) hlb hln hln2 fun uu lkv1 lgs1 s hlc hlg S => ?_
              rw [← hpop] at hlc hlg
              repeat kt_at_item
              refine c_eqE Z.units (by kcj_m) (by kcj_m) ?_
              refine c_eq (SeqAt.RcAt.bool_bool _ _) ?_
              repeat kt_at_item
              rename_i S
              exact hend lkv1 lgs1 (some u1) _ hlc hlg (S.re (by krn_off))
            · have hne : lgs = [] := by simpa using hb5
              subst hne
              have hJlg := J.lg
              have he : st.2 = [] := by cases q : st.2 with | nil => rfl | cons a l => rw [q] at hJlg; cases hJlg
              have hpop := popS_nil (live := live) he
              repeat kt_at_item
              refine c_eqE Z.units (by kcj_m) (by kcj_m) ?_
              refine c_eq (SeqAt.RcAt.bool_bool _ _) ?_
              repeat kt_at_item
              rename_i S
              exact hend lkv [] none _ (by rw [hpop]; exact J.lc) (by rw [hpop]; exact J.lg) (S.re (by krn_off))
          · repeat kt_at_item
            have hysl := hys.length
            have hpl := hperm.length_eq
            rw [List.length_map] at hysl
            refine one_spec (n := n + 9) (ta := sc) (xs := ys) Z (by assumption) (by kt_at_get) (by kt_at_get) hys0 (by omega) fun i yv s hi S => ?_
            obtain ⟨m0, hm0, hyv⟩ := hys.at_ hi
            rw [List.getElem?_map] at hm0
            obtain ⟨y, hy, rfl⟩ := Option.map_eq_some_iff.mp hm0
            obtain ⟨x, hx'⟩ := (hmem y).mp (hperm.mem_iff.mp (List.mem_of_getElem? hy))
            obtain ⟨t', hx2⟩ := J.lc.some hx'
            repeat kt_at_item
            refine barrier_spec (n := n + 7) Z (by assumption) (I.keeps hBB) (by krn_off) J.hc J.hg J.ok (by omega) hL1 (by omega) hyv hx' fun uu kvs1 gs1 s hc hg S => ?_
            repeat kt_at_item
            refine c_blackN (t_bool ⟨fun hb5 => ?_, fun hb5 => ?_⟩)
            · have hb6 : ¬ x = sB := of_decide_eq_true hb5
              rw [if_neg hb6] at hc hg
              repeat kt_at_item
              refine lshade_spec (n := n + 9) Z (by assumption) (by kt_at_get) (by kt_at_get) J.lc J.lg J.ok (by omega) hX1 hN1 (by omega) fun uu lkv1 lgs1 s hlc hlg S => ?_
              repeat kt_at_item
              exact k B2 g g live _ kept kvs1 lkv1 hkv gs1 lgs1 tg _ rfl hBB (by omega) (by omega) (by omega) ⟨J.ok.shade ms, hc, hg, hlc, hlg, J.hK, J.hH, fun n => by rw [shade_in]; exact J.same n, J.main⟩ (S.re (by krn_off))
            · have hb6 : x = sB := Decidable.of_not_not (of_decide_eq_false hb5)
              rw [if_pos hb6] at hc hg
              repeat kt_at_item
              rename_i S
              exact k B2 g g live st kept kvs1 lkv hkv gs1 lgs tg _ rfl hBB (by omega) (by omega) (by omega) ⟨J.ok, hc, hg, J.lc, J.lg, J.hK, J.hH, J.same, J.main⟩ (S.re (by krn_off))
end
end
/-! F23 -/
noncomputable section
/-! lambdas: a table of code is owned -/
def tbO (ps : Array Value) (o : Obj) : Prop := o = tabObj ps
theorem nm_builtins (P : Params) : nsIn (K P) mainGlobals "__builtins__" = some (some (.ref 4)) := by kernel_rfl
def lamO (env : Env) (params : Arguments) (body : Expr) (scope : Scope) (clos : List (Str × Addr)) (pm : Value) (c' : Addr) (ctv : Value) : Obj := kla_obj "<lambda>" (env.qual ++ "<lambda>") params body scope clos pm c' ctv
section
variable {w : World} {σ : Shared} {B : Heap} {s : Shared} {own own' : List Pt} {A : Around} {E : Value → Shared → Prop} {env : Env} {gl : List Str} {cl cs : List (Str × Addr)} {a : Addr}
theorem St.adopt {o : Obj} (S : St w σ B s own) (ho : s.heap.get? a = some o) (hB : B.get? a = none) (h2 : 2 ≤ a) (hn : a ∉ own.map Prod.fst) : St w σ B s ((a, (· = o)) :: own) :=
  ⟨S.pg, S.rest, S.base, S.keep, S.size, fun q hq => by
    rcases List.mem_cons.mp hq with rfl | hq
    · exact ⟨⟨o, ho, rfl⟩, hB, h2⟩
    · exact S.has q hq, List.nodup_cons.mpr ⟨hn, S.nodup⟩⟩
theorem r_lambda {params : Arguments} {body : Expr} {scope : Scope} {pos : Pos} {c P : Addr} {clos : List (Str × Addr)} {Q : Value → Shared → Prop} (S : St w σ B s own) (V : Ev env gl cl) (hcode : env.code = .ref c) (hC : codeHdIn (K w.params) c P = true) (p : Pick (P, tbO #[]) own own')
    (hcl : closureFor scope env = pure clos) (hdef : defaultsOf params env = ([], []))
    (h : ∀ f pm c' ctv ps B' s', B.StaysIn B' → B'.get? f = some (lamO env params body scope clos pm c' ctv) → B'.CodeRec (.ref c') (env.qual ++ "<lambda>") → St w σ B' s' ((P, tbO ps) :: own') → Q (.ref f) s') :
    wpAny (MM w) A (eval (.Lambda params body scope pos) env) Q E s := by
  obtain ⟨X, mg, mb, T⟩ := S.pgS
  have S₁ := S.pick p
  obtain ⟨o, ho, hP⟩ := S₁.at_
  have hP : o = tabObj #[] := hP
  subst hP
  have hhas := S₁.has _ (.head _)
  have hgP : mainGlobals ≠ P := fun q => by
    obtain ⟨o, es, ep, e, hd, _⟩ := T.g
    rw [q, ho] at e; cases e; cases hd
  obtain ⟨ob, b1, b2, b3, b4⟩ := T.bm
  have hbP : (4 : Addr) ≠ P := fun q => by rw [q, ho] at b1; cases b1; cases b2
  refine kla_eval hdef (kla_makeFunction (mg := mg) hcl V.globals T.g hcode (codeHd_of_K X hC) ho trivial rfl hgP ⟨4, ob, mg_of X T.g (nm_builtins _), by decide, by decide, hbP, b1, b2, b3, b4⟩ fun c' ctv h' tk hx hge hlt hrec htb => ?_)
  obtain ⟨c2, oc, vs, tq, e2, hoc, hd, hq⟩ := hrec
  cases e2
  have S₂ := S₁.upd (t := tk) hx ⟨_, htb, rfl⟩ (P' := tbO (#[] ++ #[rawInt pos.line, rawInt pos.col, .ref c']))
  have hc'n : s.heap.get? c' = none := by
    cases q : s.heap.get? c' with
    | none => rfl
    | some o => exact absurd (Nat.lt_of_lt_of_le (Heap.lt_size q) hge) (Nat.lt_irrefl _)
  have S₃ := S₂.adopt (a := c') hoc (fresh_get S.keep hc'n) (Nat.le_trans S.size hge) (fun hm => by
    obtain ⟨q, hq, e⟩ := List.mem_map.mp hm
    have : ∃ o, s.heap.get? q.1 = some o := by
      rcases List.mem_cons.mp hq with rfl | hq
      · exact ⟨_, ho⟩
      · obtain ⟨⟨o, e, _⟩, _⟩ := S₁.has q (.tail _ hq)
        exact ⟨o, e⟩
    obtain ⟨o, e'⟩ := this
    rw [e, hc'n] at e'; cases e')
  have S₄ := S₃.push (t := tk) (o := lamO env params body scope clos ((mg "__name__").getD .none) c' ctv) (P := (· = lamO env params body scope clos ((mg "__name__").getD .none) c' ctv)) rfl rfl
  obtain ⟨B', k, hf, S₅⟩ := St.freezes (l := [(_, _), (_, _)]) S₄
  obtain ⟨o1, e1, rfl⟩ := hf _ (.head _)
  obtain ⟨o2, e2, rfl⟩ := hf _ (.tail _ (.head _))
  exact h _ _ c' ctv _ B' _ k e1 ⟨c', _, vs, tq, rfl, e2, hd, hq⟩ S₅
/-- the call of a lambda without parameters -/
theorem enterL {n : Nat} {f : Addr} {fd : FuncData} {body : Expr} {Q : Value → Shared → Prop} (Z : Rm A (n + 1)) (S : St w σ B s own) (ho : B.get? f = some { cls := .type "function", data := .func fd }) (hcd : B.CodeRec fd.code fd.qualname) (hb : fd.body = .expr body)
    (hg : fd.globals = mainGlobals) (hbl : fd.builtins = builtinsNs) (hk : fd.scope.kind = .function) (hco : fd.scope.isCoroutine = false) (hgen : fd.scope.isGenerator = false) (hbind : bindArgs fd ⟨[], []⟩ = pure []) (hcell : ∀ x ∈ fd.scope.names, x.2 ≠ .cell)
    (hcs : ∀ p ∈ cs, fd.scope.names.lookup p.1 = some .free ∧ ((p.1 == ("__debug__" : Str)) = false ∧ (p.1 == ("__classdict__" : Str)) = false) ∧ fd.closure.lookup p.1 = some p.2)
    (h : ∀ env s', Ev env [] cs → Rm (A.deeper env) n → St w σ B s' ((env.locals, frO env []) :: own) → wpAny (MM w) (A.deeper env) (eval body env) Q (fun _ _ => False) s') :
    wpAny (MM w) A (call (.ref f) []) Q E s := by
  have hcd' : s.heap.CodeRec fd.code fd.qualname := let ⟨c, o, vs, t, e, e1, r⟩ := hcd; ⟨c, o, vs, t, e, S.keep _ _ e1, r⟩
  refine wpAny_call (kla_callFunE Z.depth (S.keep _ _ ho) rfl hco hgen hb hcd' ?_)
  rw [hbind]
  refine wpAny_pure (wpAny_newFunctionEnv hcell (fun _ hx => nomatch hx) (fun h₁ hns hsb => ?_) hk)
  generalize hL : s.heap.objs.size = L at hns hsb ⊢
  have fo : ∃ o, h₁.get? L = some o ∧ frO (newEnv fd.scope L fd.globals fd.closure (fd.qualname ++ ".<locals>.") (some f) fd.code none fd.builtins) [] o :=
    frO.of hns (fun p hp => nomatch hp) .nil (fun p hp => nomatch hp)
  have S₂ := S.grow1 (a := L) (t := s.toks + 0) (fun b o e => hsb.extBut b o (Nat.ne_of_lt (hL ▸ Heap.lt_size e)) (Heap.get?_push_of_some _ e)) (hL ▸ get_size _) (Nat.le_of_eq hL) fo
  refine ⟨S₂.nolimit, ?_⟩
  have V : Ev (newEnv fd.scope L fd.globals fd.closure (fd.qualname ++ ".<locals>.") (some f) fd.code none fd.builtins) [] cs :=
    ⟨hg, hbl, hk, fun _ hx => (nomatch hx), fun p hp => ⟨.inr (hcs p hp).1, (hcs p hp).2.1, (hcs p hp).2.2⟩⟩
  exact kla_codeExpr (wpAny_mono (h _ _ V (Z.deeper _) S₂) (fun v s' x => x) fun _ _ x => x.elim)
end
end
/-! F24 -/
noncomputable section
section
variable {w : World} {σ : Shared} {B : Heap} {s : Shared} {own own' : List Pt} {A : Around} {E : Value → Shared → Prop} {Q : Value → Shared → Prop}
theorem k_max {a b : Int} {t u : Tok} {q : Pt} (hh : A.handled = none) (S : St w σ B s own) (p : Pick q own own') (h : ∀ m v s', a ≤ m → b ≤ m → St w σ B s' own → Q (.int m v) s') : wpAny (MM w) A (call (.builtin "max") [.int a t, .int b u]) Q E s := by
  refine max_two_ints hh fun h' tk hk => ?_
  have S₁ := S.ext (t := tk) p hk
  split
  · rename_i hc
    exact h b u _ (by omega) (by omega) S₁
  · rename_i hc
    exact h a t _ (by omega) (by omega) S₁
theorem k_neg1 {k : Nat} {p1 p2 : Pos} {env : Env} (S : St w σ B s own) (h : ∀ t s', St w σ B s' own → Q (.int (-1) t) s') : wpAny (MM w) A (eval (.UnaryOp .USub (.Constant (.int 1) k p1) p2) env) Q E s :=
  neg_one fun t u s' e => h t s' (e ▸ S.toks u)
theorem k_bool {b : Bool} (S : St w σ B s own) (h : ∀ t s', St w σ B s' own → Q (.int (if b then 1 else 0) t) s') : wpAny (MM w) A (call (.type "int") [.bool b]) Q E s :=
  call_int_bool (h _ _ (S.toks _))
theorem k_pow {t u : Tok} (S : St w σ B s own) (h : ∀ t s', St w σ B s' own → Q (.int (10 ^ 18) t) s') : wpAny (MM w) A (binaryOp .Pow (.int 10 t) (.int 18 u)) Q E s :=
  AutoIntOps.pow_4 (by decide) (by decide) (by decide) (by decide) (by decide) (h _ _ (S.toks _))
theorem k_lenI {a : Addr} {xs : List Value} (S : St w σ B s own) (hl : s.heap.IsList a xs.toArray) (hz : xs.length < 1000) (h : ∀ t s', St w σ B s' own → Q (.int xs.length t) s') : wpAny (MM w) A (call (.builtin "len") [.ref a]) Q E s :=
  call_len_list hl (by rw [List.size_toArray]; omega) (by simpa using h _ _ (S.toks _))
set_option maxHeartbeats 2000000 in
theorem pool_spec {n : Nat} {sa : Addr} {xs : List Value} {is : List Int} {tk : Tok} (Z : Rm A (n + 2)) (S : St w σ B s own) (hL : B.IsList sa xs.toArray) (hi : IntsAre xs is) (hz : xs.length < 1000)
    (k : ∀ a s', St w σ B s' ((a, srcO) :: own) → Q (.ref a) s') : wpAny (MM w) A (call (.ref 310) [.ref sa, .int 0 tk]) Q E s := by
  have hLs : ∀ s own, St w σ B s own → s.heap.IsList sa xs.toArray := fun s own S => let ⟨o, e, r⟩ := hL; ⟨o, S.keep _ _ e, r⟩
  refine enter (vs := [.ref sa, .int 0 tk]) (ps := ["script", "k"]) (ls := ["cell", "big", "mixed"]) (gl := ["len", "max", "int"]) (n := n + 1) Z S (f_pool _) (c_pool _) rfl (by kernel_rfl) (BindsTo.of_eq (by kernel_rfl)) rfl fun env s₁ V Z S => ?_
  change St _ _ _ _ ((env.locals, frO env [("script", some (.ref sa)), ("k", some (.int 0 tk)), ("cell", none), ("big", none), ("mixed", none)]) :: _) at S
  with_unfolding_all refine x_seq ?_
  kt_at_item
  kt_at_item
  kt_at_item
  kt_at_item
  refine wpAny_mono (?h : wpAny (MM w) (A.deeper env) _ (Nx (fun s => ∃ c tc, St w σ B s ((env.locals, frO env [("script", some (.ref sa)), ("k", some (.int 0 tk)), ("cell", some (.int c tc)), ("big", none), ("mixed", none)]) :: own)) (fun _ _ => False)) (fun _ _ => False) _) (fun f s z => ?_) (fun _ _ z => z)
  case h =>
    repeat kt_at_item
    rename_i S
    refine k_lenI S (hLs _ _ S) hz fun t s S => ?_
    refine lt_int (t_bool ⟨fun hb => ?_, fun hb => ?_⟩)
    · have hb := of_decide_eq_true hb
      have h0 : 0 < xs.length := by omega
      obtain ⟨x0, xs0, rfl⟩ : ∃ x0 xs0, xs = x0 :: xs0 := by cases xs with | nil => simp at h0 | cons a b => exact ⟨a, b, rfl⟩
      cases hi with
      | cons i t hi =>
      repeat kt_at_item
      refine r_item (hLs _ _ (by assumption)) (by omega) (by omega) (xs := .int i t :: xs0) (v := .int i t) rfl ?_ (by with_unfolding_all rfl)
      repeat kt_at_item
      rename_i S
      exact ⟨i, t, S.re (by krn_off)⟩
    · repeat kt_at_item
      rename_i S
      exact ⟨0, _, S.re (by krn_off)⟩
  clear S
  cases f <;> first | exact False.elim z | skip
  obtain ⟨c, tc, S⟩ := z
  change wpAny (MM w) (A.deeper env) _ _ _ _
  repeat kt_at_item
  refine k_neg1 (by assumption) fun t s S => ?_
  repeat kt_at_item
  refine r_sub (by assumption) fun t s S => ?_
  repeat kt_at_item
  refine k_max Z.1 (by assumption) (by kt_at_get) fun m v s hm1 hm2 S => ?_
  have hm0 : 0 ≤ m := by omega
  repeat kt_at_item
  refine r_mul (by assumption) (.of_left (by decide)) fun t s S => ?_
  repeat kt_at_item
  refine r_mul (by assumption) (.of_right (by decide)) fun t s S => ?_
  repeat kt_at_item
  refine r_mul (by assumption) (.of_left (by decide)) fun t s S => ?_
  repeat kt_at_item
  refine r_mul (by assumption) (.of_right (by decide)) fun t s S => ?_
  repeat kt_at_item
  refine k_pow (by assumption) fun t s S => ?_
  refine ge_int ?_
  repeat kt_at_item
  refine k_bool (by assumption) fun t s S => ?_
  refine r_mul (by assumption) (.of_right ?_) fun t s S => ?_
  · split <;> decide
  repeat kt_at_item
  rename_i S
  refine k _ _ ((S.re (by krn_off)).get .head fun o ho => ?_)
  obtain ⟨nn, rfl⟩ := ho
  refine ⟨_, _, _, _, ⟨rfl, nn, rfl⟩, ?_, Int.fmod_nonneg ?_ (by omega), Int.fmod_lt_of_pos _ (by omega)⟩
  · split <;> omega
  · have := Int.fmod_nonneg (a := m) (b := 2147483629) hm0 (by omega)
    omega
end
end
/-! F25 -/
noncomputable section
/-! small rules for right -/
theorem no_swC {env : Env} {elt : Expr} {gens : List Comprehension} {sc : Scope} {pos px : Pos} {x : Str} {ln : Nat} (hk : (env.kindOf x == some .local) = false) : swapsWith (.ListComp elt gens sc pos) (some (.Name x px)) ln env = pure false := by
  show (pure (env.blockKind == .function && env.kindOf x == some .local && px.line == (Expr.ListComp elt gens sc pos).pos.line && !(sc.names.any fun p => p.1 == x && (p.2 == .local || p.2 == .cell))) : Sem Bool) = pure false
  rw [hk, Bool.and_false, Bool.false_and, Bool.false_and]
theorem Ev.notLocal {env : Env} {gl : List Str} {cl : List (Str × Addr)} {x : Str} {c : Addr} (V : Ev env gl cl) (h : Has (x, c) cl) : (env.kindOf x == some .local) = false := by
  rcases (V.cl _ h.mem).1 with e | e <;> rw [e] <;> rfl
theorem c_neI {w : World} {s : Shared} {A : Around} {E : Value → Shared → Prop} {a b : Int} {t u : Tok} {Q : Value → Shared → Prop} (h : Q (.bool (decide (a ≠ b))) s) : wpAny (MM w) A (compareOp .NotEq (.int a t) (.int b u)) Q E s := by
  refine c_ne (SeqAt.RcNeAt.int_int a t b u) ?_
  have : (!(a == b)) = decide (a ≠ b) := by simp [BEq.beq]
  rw [this]; exact h
theorem whites_set {live : Lv} {n : Int} {ms : List Nm} : setC (whites live) n sW = whites (setV live n ms) := by
  funext k
  unfold setC whites setV
  by_cases e : k = n
  · simp [e]
  · simp [e]
/-- what is drawn: rows of a value and the numbers that it leads to -/
inductive Vals (B : Heap) : List Value → List Value → List (List Nm) → List (List Value) → Prop
  | nil : Vals B [] [] [] []
  | cons {a b : Addr} {v : Value} {ms : List Nm} {xs : List Value} {j : Nat} {rs vs : List Value} {mss : List (List Nm)} {wss : List (List Value)} : Tup B a [v, .ref b] → Leads B v ms j → j ≤ 8 → ms.length ≤ 3 → Lst B b xs → NmsAre xs ms → Vals B rs vs mss wss → Vals B (.ref a :: rs) (v :: vs) (ms :: mss) (xs :: wss)
theorem Vals.keeps {B B' : Heap} (k : B.StaysIn B') {rs vs : List Value} {mss : List (List Nm)} {wss : List (List Value)} (h : Vals B rs vs mss wss) : Vals B' rs vs mss wss := by
  induction h with
  | nil => exact .nil
  | cons a b c d e f _ ih => exact .cons (a.keeps k) (b.keeps k) c d (e.keeps k) f ih
theorem Vals.snoc {B : Heap} {rs vs : List Value} {mss : List (List Nm)} {wss : List (List Value)} (h : Vals B rs vs mss wss) {r : Value} {ms : List Nm} {j : Nat} (hv : IsVal B r ms j) (hj : j ≤ 8) (hm : ms.length ≤ 3) : ∃ v xs, Vals B (rs ++ [r]) (vs ++ [v]) (mss ++ [ms]) (wss ++ [xs]) := by
  obtain ⟨a, v, b, xs, rfl, hT, hL, hX, hN⟩ := hv
  refine ⟨v, xs, ?_⟩
  induction h with
  | nil => exact .cons hT hL hj hm hX hN .nil
  | cons a b c d e f _ ih => exact .cons a b c d e f ih
theorem Vals.len {B : Heap} {rs vs : List Value} {mss : List (List Nm)} {wss : List (List Value)} (h : Vals B rs vs mss wss) : vs.length = rs.length ∧ mss.length = rs.length ∧ wss.length = rs.length := by
  induction h with
  | nil => exact ⟨rfl, rfl, rfl⟩
  | cons a b c d e f _ ih => simp [ih]
theorem Vals.at_ {B : Heap} {rs vs : List Value} {mss : List (List Nm)} {wss : List (List Value)} (h : Vals B rs vs mss wss) : ∀ {i : Nat} {r : Value}, rs[i]? = some r → ∃ a b v ms xs j, r = .ref a ∧ Tup B a [v, .ref b] ∧ Leads B v ms j ∧ j ≤ 8 ∧ ms.length ≤ 3 ∧ Lst B b xs ∧ NmsAre xs ms ∧ vs[i]? = some v ∧ mss[i]? = some ms ∧ wss[i]? = some xs := by
  induction h with
  | nil => intro i r e; simp at e
  | @cons a b v ms xs j rs vs mss wss h1 h2 h3 h4 h5 h6 _ ih =>
    intro i r e
    cases i with
    | zero => simp at e; subst e; exact ⟨a, b, v, ms, xs, j, rfl, h1, h2, h3, h4, h5, h6, rfl, rfl, rfl⟩
    | succ i => exact ih (by simpa using e)
theorem Vals.leads {B : Heap} {rs vs : List Value} {mss : List (List Nm)} {wss : List (List Value)} (h : Vals B rs vs mss wss) : ∃ j, LeadsL B vs mss.flatten j ∧ j ≤ 9 * rs.length := by
  induction h with
  | nil => exact ⟨0, .nil, by simp⟩
  | cons a b c d e f _ ih =>
    obtain ⟨j, h1, h2⟩ := ih
    exact ⟨_, .cons b h1, by simp only [List.length_cons]; omega⟩
theorem Vals.nms {B : Heap} {rs vs : List Value} {mss : List (List Nm)} {wss : List (List Value)} (h : Vals B rs vs mss wss) : NmsAre wss.flatten mss.flatten ∧ mss.flatten.length ≤ 3 * rs.length := by
  induction h with
  | nil => exact ⟨.nil, by simp⟩
  | cons a b c d e f _ ih =>
    obtain ⟨h1, h2⟩ := ih
    exact ⟨f.append h1, by simp only [List.flatten_cons, List.length_append, List.length_cons]; omega⟩
theorem take_snoc {α : Type} {l : List α} {i : Nat} {x : α} (h : l[i]? = some x) : l.take (i + 1) = l.take i ++ [x] := by
  obtain ⟨hi, e⟩ := List.getElem?_eq_some_iff.mp h
  rw [List.take_succ_eq_append_getElem hi, e]
end
/-! F26 -/
noncomputable section
section
variable {w : World} {σ : Shared} {B B₀ : Heap} {s : Shared} {own own1 own2 rest : List Pt} {A : Around} {E : Value → Shared → Prop} {v : Value} {ms : List Nm} {k : Nat} {src a cc cg hx hd kd cx cd lc lg lh c1 c2 c3 : Addr} {Q : Value → Shared → Prop} {kvs kept lkv hkv : List (Nm × Value)} {gs lgs : List Value} {st : Sd} {g : Nat} {m : Nm} {gv rd : Int} {tg th tr : Tok} {key o rv : Value} {go : Bool} {c : Cs} {live : Lv} {env : Env} {u1 u2 u3 u4 u5 u6 u7 u8 : Option Value}
/-- right's names -/
abbrev rgl : List Str := ["Heap", "range", "_law_take", "len", "Collector", "_law_is_like", "_law_shade", "_law_deed", "_law_left_white", "sorted"]
abbrev rfr (h hl cl t sm va nu ro nm co gr : Option Value) : List (Str × Option Value) := [("heap", h), ("held", hl), ("colours", cl), ("turn", t), ("some", sm), ("value", va), ("numbers", nu), ("row", ro), ("number", nm), ("collector", co), ("greys", gr)]
set_option maxHeartbeats 8000000 in
theorem right_14 {n : Nat} (Z : Rm A (n + 15)) (V : Ev env rgl [("roots", c1), ("due", c2), ("source", c3)]) (I : Ins B cx 100 cd) (IH : Ins B hx 299 hd) (J : Js B g live st kept kvs lkv hkv gs lgs) (hgz : g < 40) (hz : kept.length < 60)
    (S : St w σ B s ((env.locals, frO env (rfr (some (.ref hx)) (some (.ref lh)) (some (.ref lc)) u1 u2 u3 u4 u5 u6 (some (.ref cx)) (some (.ref lg)))) :: (c2, clO none) :: (c3, clO u8) :: (src, srcO) :: (hd, hAt kd gv tg th) :: (kd, dcO w kept) :: (cd, cAt hx rv cc cg true 0 tr) :: (cc, dcO w kvs) :: (cg, lsO gs) :: (lc, dcO w lkv) :: (lg, lsO lgs) :: (lh, dcO w hkv) :: rest))
    (k : ∀ B' s', B.StaysIn B' → St w σ B' s' rest → Q (.bool true) s') :
    wpAny (MM w) A (execs ((fB 27).drop 14) env) (Rt Q) (fun _ _ => False) s := by
  with_unfolding_all refine x_seq ?_
  refine x_set ?_ rfl
  repeat kt_at_item
  refine left_white_spec (n := n + 11) (live := live) Z (by assumption) (by krn_off) J.lc J.lg J.ok (by omega) J.hH (fun n h => by rw [← J.same n]; exact h) fun b ys ws m1 s hys hpw hmem he S => ?_
  refine r_storeC2 S V (by kt_at_method) (by kt_at_get) fun s S => ?_
  replace S : St w σ B s ((b, lsO ys) :: (env.locals, frO env (rfr (some (.ref hx)) (some (.ref lh)) (some (.ref lc)) u1 u2 u3 u4 u5 u6 (some (.ref cx)) (some (.ref lg)))) :: (c2, clO (some (.ref b))) :: (hd, hAt kd gv tg th) :: (kd, dcO w kept) :: (cd, cAt hx rv cc cg true 0 tr) :: (cc, dcO w kvs) :: (cg, lsO gs) :: (lc, dcO w lkv) :: rest) := S.re (by krn_off)
  obtain ⟨B1, kb, ⟨ob, hob, nn, rfl⟩, S⟩ := S.freeze
  have hD : Lst B1 b ys := ⟨nn, hob⟩
  clear hob
  replace J := J.keeps kb
  replace I := I.keeps kb
  replace IH := IH.keeps kb
  refine x_seq ?_
  repeat kt_at_item
  refine finish_spec (n := n + 7) (live := live) Z (by assumption) I IH (by krn_off) J.hc J.hg J.ok (by omega) J.hK (fun n h => by rw [← J.same n]; exact h) (by omega) fun b2 ys2 ws2 m2 kept2 cc2 tr2 B2 s hB2 hD2 hys2 hpw2 hmem2 he2 hG S => ?_
  have hw : ws2 = ws := sorted_one hpw2 hpw fun n => by rw [hmem2, hmem, pops_one he2 he]
  subst hw
  replace J := J.keeps hB2
  replace I := I.keeps hB2
  replace IH := IH.keeps hB2
  replace hD := hD.keeps hB2
  have e1 : B.StaysIn B2 := st_trans kb hB2
  clear hB2 kb
  repeat kt_at_item
  refine c_neN Z.units (by kcj_m) (by kcj_m) hys2 hys ?_
  rw [show decide (ws2.map (some : Int → Nm) ≠ ws2.map some) = false from by simp]
  repeat kt_at_item
  refine is_like_spec (n := n + 9) (go := false) (c := fun _ => none) (c' := fun _ => none) (ns := []) Z (by assumption) I (by krn_off) ColD.nil ColD.nil (fun h => by cases h) (fun _ => rfl) .nil .nil (by simp) fun s S => ?_
  repeat kt_at_item
  refine c_neI ?_
  rw [show decide ((0 : Int) + 1 ≠ 1) = false from by decide]
  repeat kt_at_item
  have hmain2 : (valueAt kept2 none).isSome = true := by rw [hG.2, if_neg (by simp)]; exact J.main
  have hK2 := Gone.kept (ns := ws2) hG J.hK
  refine numbers_spec (n := n + 11) Z (by assumption) IH (by krn_off) (by have := hG.1; omega) hK2 fun na ys3 ns3 s hys3 hpw3 hmem3 hl3 S => ?_
  rw [if_pos hmain2] at hys3
  have hkz := S.col_len (kvs := lkv) (by kt_at_get) J.lc J.ok.sup
  obtain ⟨ns, hns, hnd, hmem4⟩ := J.lc.keys (S.keys (kvs := lkv) (by kt_at_get))
  have hnl : lkv.length = ns.length := by have := congrArg List.length hns; simpa using this
  repeat kt_at_item
  refine r_comp (ls := ["number"]) (gl' := []) (cs := [("due", c2)]) (own := []) V (by rfl) (fun p hp => by simp only [List.mem_cons, List.not_mem_nil, or_false] at hp ⊢; exact .inr (.inl hp)) ?_
  repeat kt_at_item
  refine k_sortD (q := (c2, fun _ => True)) Z.1 (by assumption) (by kt_at_get) hns (by omega) fun sc ys5 ns5 s hys5 hperm hpw5 S => ?_
  replace S : St w σ B2 s ((sc, lsO ys5) :: (na, lsO ys3) :: (env.locals, frO env (rfr (some (.ref hx)) (some (.ref lh)) (some (.ref lc)) u1 u2 u3 u4 u5 u6 (some (.ref cx)) (some (.ref lg)))) :: (c2, clO (some (.ref b))) :: rest) := S.re (by krn_off)
  obtain ⟨B3, k3, ⟨ob, hob, nn, rfl⟩, S⟩ := S.freeze
  have hO : Lst B3 sc ys5 := ⟨nn, hob⟩
  clear hob
  replace hD := hD.keeps k3
  have e2 : B.StaysIn B3 := st_trans e1 k3
  have hpl := hperm.length_eq
  have hysl := hys5.length
  rw [List.length_map] at hysl
  have hlt5 := lt_of_le hpw5 (hperm.symm.nodup hnd)
  refine it_list Z.1 S hO fun It Fi s W S => ?_
  refine comp_in _ (fun i out B' => NmsAre out (((ns5.take i).filter fun n => decide (n ∉ ws2)).map some) ∧ B' = B3) W (fun _ _ e => e) S (by omega) ⟨.nil, rfl⟩ ?_ ?_
  · rintro cenv D i v out B1 s us V2 hi hv hB ⟨hP, rfl⟩ hu S
    obtain ⟨u, rfl⟩ := List.length_eq_one_iff.mp hu
    clear hB
    change St _ _ _ _ ((cenv.locals, frO cenv [("number", u)]) :: _) at S
    obtain ⟨m0, hm0, hv2⟩ := hys5.at_ hv
    rw [List.getElem?_map] at hm0
    obtain ⟨y, hy, rfl⟩ := Option.map_eq_some_iff.mp hm0
    rw [take_snoc hy, List.filter_append, List.map_append]
    refine assign_Name ?_
    kt_at_item
    refine tests1 ?_
    repeat kt_at_item
    refine c_notN (by kcj_m) hys hv2 (t_bool ⟨fun hn => ?_, fun hn => ?_⟩)
    · have hn' : y ∉ ws2 := fun z => (of_decide_eq_true hn) (List.mem_map.mpr ⟨_, z, rfl⟩)
      repeat kt_at_item
      rename_i S
      refine ⟨_, [some v], fun _ _ e => e, rfl, ⟨?_, rfl⟩, cend1 (S.re (by krn_off))⟩
      rw [List.filter_cons_of_pos (by simpa using hn'), List.filter_nil]
      exact hP.append (.one hv2)
    · have hn' : y ∈ ws2 := by
        obtain ⟨z, hz, e⟩ := List.mem_map.mp (Decidable.of_not_not (of_decide_eq_false hn))
        cases e; exact hz
      rename_i S
      refine ⟨_, [some v], fun _ _ e => e, rfl, ⟨?_, rfl⟩, cend1 (S.re (by krn_off))⟩
      rw [List.filter_cons_of_neg (by simpa using hn'), List.filter_nil]
      simpa using hP
  · rintro out B1 D cenv us s ⟨hP, rfl⟩ hB hu S s' S'
    clear hB S
    rw [hysl, List.take_length] at hP
    have hol := hP.length
    rw [List.length_map] at hol
    have hol2 : (ns5.filter fun n => decide (n ∉ ws2)).length ≤ ns5.length := List.length_filter_le _ _
    repeat kt_at_item
    refine c_eqN Z.units (by kcj_m) (by kcj_m) hys3 (hP.append (.one (m := none) ⟨_, rfl⟩)) ?_
    have hfin : ns3 = ns5.filter fun n => decide (n ∉ ws2) := by
      refine sorted_one hpw3 (hlt5.filter _) fun n => ?_
      rw [hmem3, List.mem_filter, decide_eq_true_iff, hperm.mem_iff, hmem4]
      have hs := J.same n
      by_cases q : n ∈ ws2
      · simp [q]
      · simp only [q, if_false, not_false_eq_true, and_true]
        rw [← hs]
        exact Option.isSome_iff_exists
    rw [hfin]
    rw [decide_eq_true (by rfl)]
    refine rt_ret ?_
    rename_i S
    exact k _ _ e2 (S.re (by krn_off))
end
end
/-! F27 -/
noncomputable section
structure Rs where
  u : Option Value
  g : Nat
  gv : Int
  tg : Tok
  live : Lv
  st : Sd
  kept : List (Nm × Value)
  kvs : List (Nm × Value)
  lkv : List (Nm × Value)
  hkv : List (Nm × Value)
  gs : List Value
  lgs : List Value
section
variable {w : World} {σ : Shared} {B B₀ : Heap} {s : Shared} {own own1 own2 rest : List Pt} {A : Around} {E : Value → Shared → Prop} {v : Value} {ms : List Nm} {k : Nat} {src a cc cg hx hd kd cx cd lc lg lh c1 c2 c3 : Addr} {Q : Value → Shared → Prop} {kvs kept lkv hkv : List (Nm × Value)} {gs lgs : List Value} {st : Sd} {g : Nat} {m : Nm} {gv rd : Int} {tg th tr : Tok} {key o rv : Value} {go : Bool} {c : Cs} {live : Lv} {env : Env} {u1 u2 u3 u4 u5 u6 u7 u8 : Option Value}
set_option maxHeartbeats 8000000 in
theorem right_13 {n : Nat} (Z : Rm A (n + 15)) (V : Ev env rgl [("roots", c1), ("due", c2), ("source", c3)]) (I : Ins B cx 100 cd) (IH : Ins B hx 299 hd) (J : Js B g live st kept kvs lkv hkv gs lgs) (hgz : g ≤ 8) (hz : kept.length ≤ 10) (hhz : hkv.length ≤ 10)
    (S : St w σ B s ((env.locals, frO env (rfr (some (.ref hx)) (some (.ref lh)) (some (.ref lc)) u1 u2 u3 u4 u5 u6 (some (.ref cx)) (some (.ref lg)))) :: (c2, clO none) :: (c3, clO (some (.ref src))) :: (src, srcO) :: (hd, hAt kd g tg th) :: (kd, dcO w kept) :: (cd, cAt hx rv cc cg true 0 tr) :: (cc, dcO w kvs) :: (cg, lsO gs) :: (lc, dcO w lkv) :: (lg, lsO lgs) :: (lh, dcO w hkv) :: rest))
    (k : ∀ B' s', B.StaysIn B' → St w σ B' s' rest → Q (.bool true) s') :
    wpAny (MM w) A (execs ((fB 27).drop 13) env) (Rt Q) (fun _ _ => False) s := by
  with_unfolding_all refine x_seq ?_
  refine x_for ?_ (fun _ => rfl)
  repeat kt_at_item
  refine take_spec (n := n + 13) Z (by assumption) (by kt_at_get) (by omega) (by omega) fun r t s h1 h2 S => ?_
  obtain ⟨m, rfl⟩ := Int.eq_ofNat_of_zero_le h1
  repeat kt_at_item
  refine k_range1 S fun rg s S => ?_
  refine it_range Z.1 S .head (by omega) fun It Fi s W S => ?_
  refine for_in (X := Rs) (fun x => (env.locals, frO env (rfr (some (.ref hx)) (some (.ref lh)) (some (.ref lc)) x.u u2 u3 u4 u5 u6 (some (.ref cx)) (some (.ref lg)))) :: (c2, clO none) :: (c3, clO (some (.ref src))) :: (src, srcO) :: (hd, hAt kd x.gv x.tg th) :: (kd, dcO w x.kept) :: (cd, cAt hx rv cc cg true 0 tr) :: (cc, dcO w x.kvs) :: (cg, lsO x.gs) :: (lc, dcO w x.lkv) :: (lg, lsO x.lgs) :: (lh, dcO w x.hkv) :: rest)
    (fun i x B' => x.gv = x.g ∧ x.g ≤ g + i ∧ x.kept.length ≤ kept.length + i ∧ x.hkv.length ≤ hkv.length + i ∧ Js B' x.g x.live x.st x.kept x.kvs x.lkv x.hkv x.gs x.lgs) ⟨u1, g, g, tg, live, st, kept, kvs, lkv, hkv, gs, lgs⟩ W (fun _ _ e => e) (S.re (by krn_off)) ⟨rfl, Nat.le_refl _, Nat.le_refl _, Nat.le_refl _, J⟩ (fun _ => by simp) ?_ ?_
  · rintro i v ⟨u', g', gv', tg', live', st', kept', kvs', lkv', hkv', gs', lgs'⟩ B3 s hi hv hB ⟨e0, b1, b2, b3, J'⟩ S
    dsimp only at e0 S J' b1 b2 b3
    subst e0
    refine assign_Name ?_
    repeat kt_at_item
    refine deed_spec (n := n + 1) Z (by assumption) (I.keeps hB) (IH.keeps hB) (by krn_off) J' (by omega) (by omega) (by omega) fun B4 g4 gv4 live4 st4 kept4 kvs4 lkv4 hkv4 gs4 lgs4 tg4 s e4 hB4 d1 d2 d3 J4 S => ?_
    have e5 : B.StaysIn B4 := st_trans hB hB4
    have hol := J4.ok.len
    repeat kt_at_item
    refine is_like_spec (n := n + 9) (go := true) (c := st4.1) (c' := st4.1) (ns := st4.2.map some) Z (by assumption) (I.keeps e5) (by krn_off) J4.hc J4.lc (fun _ => rfl) (fun h => by cases h) J4.hg J4.lg (by rw [List.length_map]; omega) fun s S => ?_
    repeat kt_at_item
    exact ⟨⟨some v, g4, gv4, tg4, live4, st4, kept4, kvs4, lkv4, hkv4, gs4, lgs4⟩, B4, e5, ⟨e4, by dsimp only; omega, by dsimp only; omega, by dsimp only; omega, J4⟩, S.re (by krn_off)⟩
  · rintro ⟨u', g', gv', tg', live', st', kept', kvs', lkv', hkv', gs', lgs'⟩ B3 s hB ⟨e0, b1, b2, b3, J'⟩ S
    dsimp only at e0 S J' b1 b2 b3
    subst e0
    exact right_14 Z V (I.keeps hB) (IH.keeps hB) J' (by omega) (by omega) S fun B5 s' h5 S5 => k B5 s' (st_trans hB h5) S5
end
end
/-! F28 -/
noncomputable section
theorem r_cellB {w : World} {σ : Shared} {B : Heap} {s : Shared} {own : List Pt} {A : Around} {E : Value → Shared → Prop} {env : Env} {gl : List Str} {cl : List (Str × Addr)} {x : Str} {c : Addr} {v : Value} {pos : Pos} {Q : Value → Shared → Prop} (S : St w σ B s own) (V : Ev env gl cl) (hx : Has (x, c) cl) (p : ∃ o, B.get? c = some o ∧ clO (some v) o) (h : Q v s) :
    wpAny (MM w) A (eval (.Name x pos) env) Q E s := by
  obtain ⟨o, ho, f⟩ := p
  obtain ⟨k, d, e⟩ := V.cl _ hx.mem
  have hc : s.heap.IsCell c (some v) := ⟨o, S.keep _ _ ho, f⟩
  refine wpAny_Name ?_ d.1
  rcases k with k | k
  · exact wpAny_loadName_cell V.kind k e hc h
  · exact wpAny_loadName_free V.kind k e hc h d.2
section
variable {w : World} {σ : Shared} {B B₀ : Heap} {s : Shared} {own own1 own2 rest : List Pt} {A : Around} {E : Value → Shared → Prop} {v : Value} {ms : List Nm} {k : Nat} {src a cc cg hx hd kd cx cd lc lg lh c1 c2 c3 : Addr} {Q : Value → Shared → Prop} {kvs kept lkv hkv : List (Nm × Value)} {gs lgs : List Value} {st : Sd} {g : Nat} {m : Nm} {gv rd : Int} {tg th tr : Tok} {key o rv : Value} {go : Bool} {c : Cs} {live : Lv} {env : Env} {u1 u2 u3 u4 u5 u6 u7 u8 : Option Value}
/-- right's lambda -/
noncomputable def rlam : Expr := match ((fB 27)[5]?).getD (.Pass default) with
  | .Assign _ (.Tuple ((.Call _ (_ :: e :: _) _ _) :: _) _ _) _ => e
  | _ => .Constant .none 0 default
def lamBody : Expr → Expr
  | .Lambda _ b _ _ => b
  | e => e
def lamArgs : Expr → Arguments
  | .Lambda a _ _ _ => a
  | _ => ⟨[], [], none, [], [], none, []⟩
def lamScope : Expr → Scope
  | .Lambda _ _ s _ => s
  | _ => default
theorem lam_names : (lamScope rlam).names = [(("roots" : Str), NameKind.free)] := by kernel_rfl
set_option maxHeartbeats 4000000 in
theorem roots_spec {n : Nat} {f ra : Addr} {pm ctv : Value} {c' : Addr} {rs vs : List Value} {mss : List (List Nm)} {wss : List (List Value)} {pos : Pos} {env' : Env} (Z : Rm A (n + 2)) (hf : B.get? f = some (lamO env (lamArgs rlam) (lamBody rlam) (lamScope rlam) [("roots", c1)] pm c' ctv)) (hcd : B.CodeRec (.ref c') (env.qual ++ "<lambda>"))
    (hc : ∃ o, B.get? c1 = some o ∧ clO (some (.ref ra)) o) (hr : Lst B ra rs) (hV : Vals B rs vs mss wss) (hz : rs.length < 100) (S : St w σ B s own) (k : ∀ a s', St w σ B s' ((a, lsO vs) :: own) → Q (.ref a) s') :
    wpAny (MM w) A (callWith pos (.ref f) [] (backTo pos (starEach [] env')) []) Q E s := by
  refine callWith_F0 ⟨_, _, _, _, S.keep _ _ hf⟩ ?_
  refine enterL (n := n + 1) (cs := [("roots", c1)]) Z S hf hcd rfl rfl rfl rfl rfl rfl (by kernel_rfl) (by show ∀ x ∈ (lamScope rlam).names, _; rw [lam_names]; intro x hx; rw [List.mem_singleton.mp hx]; decide)
    (fun p hp => by rw [List.mem_singleton.mp hp]; exact ⟨by show (lamScope rlam).names.lookup _ = _; rw [lam_names]; rfl, ⟨by show (("roots" : Str) == "__debug__") = false; decide, by show (("roots" : Str) == "__classdict__") = false; decide⟩, by show List.lookup ("roots" : Str) [(("roots" : Str), c1)] = some c1; rw [List.lookup_cons, beq_self_eq_true]⟩) fun env s V Z S => ?_
  replace S := S.drop
  with_unfolding_all refine r_comp (ls := ["value", "numbers"]) (gl' := []) (cs := []) (own := []) V (by rfl) (fun p hp => nomatch hp) ?_
  refine r_cellB S V (by kt_at_method) hc ?_
  refine it_list Z.1 S hr fun It Fi s W S => ?_
  refine comp_in _ (fun i out B' => out = vs.take i ∧ B' = B) W (fun _ _ e => e) S (by omega) ⟨rfl, rfl⟩ ?_ ?_
  · rintro cenv D i v out B1 s us V2 hi hv hB ⟨rfl, rfl⟩ hu S
    obtain ⟨u1, u2, rfl⟩ := list2 hu
    clear hB
    change St _ _ _ _ ((cenv.locals, frO cenv [("value", u1), ("numbers", u2)]) :: _) at S
    obtain ⟨a, b, x, ms, xs, j, rfl, hT, hL, hj, hm, hX, hN, hvi, hmi, hwi⟩ := hV.at_ hv
    refine k_assign2 Z.1 S .head hT fun s S => ?_
    repeat kt_at_item
    refine tests0 ⟨fun _ => ?_, fun h => by cases h⟩
    repeat kt_at_item
    rename_i S _
    refine ⟨_, [some _, some _], fun _ _ e => e, rfl, ⟨(take_snoc hvi).symm, rfl⟩, cend2 (S.re (by krn_off))⟩
  · rintro out B1 D cenv us s ⟨rfl, rfl⟩ hB hu S s' S'
    clear hB
    have hvl := hV.len.1
    rw [← hvl, List.take_length] at S'
    exact k D _ S'
end
end
/-! F29 -/
noncomputable section
section
variable {w : World} {σ : Shared} {B B₀ : Heap} {s : Shared} {own own1 own2 rest : List Pt} {A : Around} {E : Value → Shared → Prop} {v : Value} {ms : List Nm} {k : Nat} {src a cc cg hx hd kd cx cd lc lg lh c1 c2 c3 f ra : Addr} {Q : Value → Shared → Prop} {kvs kept lkv hkv : List (Nm × Value)} {gs lgs : List Value} {st : Sd} {g : Nat} {m : Nm} {gv rd : Int} {tg th tr : Tok} {key o rv : Value} {go : Bool} {c : Cs} {live : Lv} {env : Env} {u1 u2 u3 u4 u5 u6 u7 u8 : Option Value} {rs vs : List Value} {mss : List (List Nm)} {wss : List (List Value)} {pm ctv : Value} {c' : Addr}
theorem Ok.whites {g : Nat} {live : Lv} (h : ∀ n, (live n).isSome → 1 ≤ n ∧ n ≤ g) : Ok g (whites live, []) := by
  refine ⟨fun n x e => ?_, .nil, fun n => ?_⟩
  · unfold Mine.whites at e
    dsimp only at e
    split at e
    · rename_i q; exact h n q
    · cases e
  · unfold Mine.whites
    dsimp only
    split <;> simp <;> decide
theorem whites_in {live : Lv} {n : Int} : (whites live n).isSome = (live n).isSome := by
  unfold whites
  split
  · rename_i h; rw [h]; rfl
  · rename_i h; simpa using h
set_option maxHeartbeats 8000000 in
theorem right_10 {n : Nat} (Z : Rm A (n + 15)) (V : Ev env rgl [("roots", c1), ("due", c2), ("source", c3)]) (I : Ins B cx 100 cd) (IH : Ins B hx 299 hd) (hgz : g ≤ 8) (hz : kept.length ≤ 10) (hhz : hkv.length ≤ 10)
    (hK : KeptD B kept live) (hL : ∀ n, (live n).isSome → 1 ≤ n ∧ n ≤ g) (hH : HeldD B hkv live) (hlc : ColD lkv (whites live)) (hmain : (valueAt kept none).isSome = true)
    (hf : B.get? f = some (lamO env (lamArgs rlam) (lamBody rlam) (lamScope rlam) [("roots", c1)] pm c' ctv)) (hcd : B.CodeRec (.ref c') (env.qual ++ "<lambda>"))
    (hc : ∃ o, B.get? c1 = some o ∧ clO (some (.ref ra)) o) (hr : Lst B ra rs) (hV : Vals B rs vs mss wss) (hrz : rs.length ≤ 3)
    (S : St w σ B s ((env.locals, frO env (rfr (some (.ref hx)) (some (.ref lh)) (some (.ref lc)) u1 u2 u3 u4 u5 u6 (some (.ref cx)) (some (.ref lg)))) :: (c2, clO none) :: (c3, clO (some (.ref src))) :: (src, srcO) :: (hd, hAt kd g tg th) :: (kd, dcO w kept) :: (cd, cAt hx (.ref f) cc cg false 0 tr) :: (lc, dcO w lkv) :: (lg, lsO []) :: (lh, dcO w hkv) :: rest))
    (k : ∀ B' s', B.StaysIn B' → St w σ B' s' rest → Q (.bool true) s') :
    wpAny (MM w) A (execs ((fB 27).drop 10) env) (Rt Q) (fun _ _ => False) s := by
  have hok := Ok.whites hL
  obtain ⟨j, hLs, hj⟩ := hV.leads
  with_unfolding_all refine x_seq ?_
  repeat kt_at_item
  refine begin_spec (n := n + 7) Z (by assumption) I IH (by krn_off) (g := g) (by omega) hK hL (by omega) hLs (by omega) rfl (fun Z S k => roots_spec (n := n + 10) Z hf hcd hc hr hV (by omega) S k) fun uu cc2 kvs2 cg2 gs2 s hc2 hg2 S => ?_
  refine x_seq ?_
  refine x_for ?_ (fun _ => rfl)
  refine r_cellB S V (by kt_at_method) hc ?_
  refine it_list Z.1 S hr fun It Fi s W S => ?_
  refine for_in (X := (Option Value × Option Value) × List (Nm × Value) × List Value) (fun x => (env.locals, frO env (rfr (some (.ref hx)) (some (.ref lh)) (some (.ref lc)) u1 u2 x.1.1 x.1.2 u5 u6 (some (.ref cx)) (some (.ref lg)))) :: (c2, clO none) :: (c3, clO (some (.ref src))) :: (src, srcO) :: (hd, hAt kd g tg th) :: (kd, dcO w kept) :: (cd, cAt hx (.ref f) cc2 cg2 true 0 tr) :: (cc2, dcO w kvs2) :: (cg2, lsO gs2) :: (lc, dcO w x.2.1) :: (lg, lsO x.2.2) :: (lh, dcO w hkv) :: rest)
    (fun i x B' => B' = B ∧ ColD x.2.1 (shadeL (whites live, []) (mss.take i).flatten).1 ∧ NmsAre x.2.2 ((shadeL (whites live, []) (mss.take i).flatten).2.map some)) ((u3, u4), lkv, []) W (fun _ _ e => e) (S.re (by krn_off)) ⟨rfl, hlc, .nil⟩ (fun _ => by simp) ?_ ?_
  · rintro i v ⟨⟨y1, y2⟩, lkv', lgs'⟩ B3 s hi hv hB ⟨rfl, h1, h2⟩ S
    clear hB
    dsimp only at S h1 h2
    obtain ⟨a, b, x, ms, xs, j, rfl, hT, hL', hj', hm, hX, hN, hvi, hmi, hwi⟩ := hV.at_ hv
    have hxl := hN.length
    refine k_assign2 Z.1 S .head hT fun s S => ?_
    repeat kt_at_item
    refine lshade_spec (n := n + 11) Z (by assumption) (by kt_at_get) (by kt_at_get) h1 h2 (hok.shade _) (by omega) hX hN (by omega) fun uu lkv1 lgs1 s h3 h4 S => ?_
    repeat kt_at_item
    refine ⟨((some _, some _), lkv1, lgs1), _, fun _ _ e => e, ⟨rfl, ?_, ?_⟩, S.re (by krn_off)⟩
    · rw [take_snoc hmi, List.flatten_append, List.flatten_singleton, shade_append]; exact h3
    · rw [take_snoc hmi, List.flatten_append, List.flatten_singleton, shade_append]; exact h4
  · rintro ⟨⟨y1, y2⟩, lkv', lgs'⟩ B3 s hB ⟨rfl, h1, h2⟩ S
    clear hB
    dsimp only at S h1 h2
    have hml := hV.len.2.1
    rw [← hml, List.take_length] at h1 h2
    generalize hst : shadeL (whites live, []) mss.flatten = st1 at *
    have ok1 : Ok g st1 := hst ▸ hok.shade _
    have hol := ok1.len
    have J : Js B3 g live st1 kept kvs2 lkv' hkv gs2 lgs' := ⟨ok1, hc2, hg2, h1, h2, hK, hH, fun n => by rw [← hst, shade_in]; exact whites_in, hmain⟩
    refine x_seq ?_
    repeat kt_at_item
    refine is_like_spec (n := n + 9) (go := true) (c := st1.1) (c' := st1.1) (ns := st1.2.map some) Z (by assumption) I (by krn_off) J.hc J.lc (fun _ => rfl) (fun h => by cases h) J.hg J.lg (by rw [List.length_map]; omega) fun s S => ?_
    kt_at_item
    kt_at_item
    kt_at_item
    exact right_13 Z V I IH J hgz hz hhz (S.re (by krn_off)) k
end
end
/-! F30 -/
noncomputable section
section
variable {w : World} {σ : Shared} {B B₀ : Heap} {s : Shared} {own own1 own2 rest : List Pt} {A : Around} {E : Value → Shared → Prop} {v : Value} {ms : List Nm} {k : Nat} {src a cc cg hx hd kd cx cd lc lg lh c1 c2 c3 f ra : Addr} {Q : Value → Shared → Prop} {kvs kept lkv hkv : List (Nm × Value)} {gs lgs : List Value} {st : Sd} {g : Nat} {m : Nm} {gv rd : Int} {tg th tr : Tok} {key o rv : Value} {go : Bool} {c : Cs} {live : Lv} {env : Env} {u1 u2 u3 u4 u5 u6 u7 u8 : Option Value} {rs vs : List Value} {mss : List (List Nm)} {wss : List (List Value)}
theorem ok_none {g : Nat} : Ok g (((fun _ => none, []) : Sd)) := ⟨fun n x e => (by cases e), .nil, fun n => (by simp)⟩
theorem shade_none {ms : List Nm} : shadeL ((fun _ => none, []) : Sd) ms = (fun _ => none, []) := by
  induction ms with
  | nil => rfl
  | cons m ms ih =>
    show shadeL (sh1 _ m) ms = _
    rw [sh1_noop (by cases m <;> rfl)]
    exact ih
theorem hd376 (P : Params) : codeHdIn (K P) 376 374 = true := by kernel_rfl
set_option maxHeartbeats 8000000 in
theorem right_5 {n : Nat} (Z : Rm A (n + 15)) (V : Ev env rgl [("roots", c1), ("due", c2), ("source", c3)]) (hcode : env.code = .ref 376) (IH : Ins B hx 299 hd) (hgz : g ≤ 8) (hz : kept.length ≤ 10) (hhz : hkv.length ≤ 10)
    (hK : KeptD B kept live) (hL : ∀ n, (live n).isSome → 1 ≤ n ∧ n ≤ g) (hH : HeldD B hkv live) (hlc : ColD lkv (whites live)) (hmain : (valueAt kept none).isSome = true)
    (hc : ∃ o, B.get? c1 = some o ∧ clO (some (.ref ra)) o) (hr : Lst B ra rs) (hV : Vals B rs vs mss wss) (hrz : rs.length ≤ 3)
    (S : St w σ B s ((env.locals, frO env (rfr (some (.ref hx)) (some (.ref lh)) (some (.ref lc)) u1 u2 u3 u4 u5 u6 none none)) :: (c2, clO none) :: (c3, clO (some (.ref src))) :: (src, srcO) :: (hd, hAt kd g tg th) :: (kd, dcO w kept) :: (lc, dcO w lkv) :: (lh, dcO w hkv) :: (374, tbO #[]) :: rest))
    (k : ∀ B' ps s', B.StaysIn B' → St w σ B' s' ((374, tbO ps) :: rest) → Q (.bool true) s') :
    wpAny (MM w) A (execs ((fB 27).drop 5) env) (Rt Q) (fun _ _ => False) s := by
  with_unfolding_all refine x_seq ?_
  refine x_swap2 Z.1 S V .head (by kt_at_method) (by kt_at_method) rfl rfl rfl rfl rfl rfl rfl ?_
  repeat kt_at_item
  refine r_lambda (by assumption) V hcode (hd376 _) (by kt_at_get) (closure_of (cs := [("roots", c1)]) rfl fun p hp => (V.cl p (by rw [List.mem_singleton.mp hp]; exact .head _)).2.2) rfl fun f pm c' ctv ps B2 s hB2 hf hcd S => ?_
  repeat kt_at_item
  refine coll_new (n := n + 11) Z (by assumption) fun cx cd cc cg tr B3 s hB3 I S => ?_
  repeat kt_at_item
  rename_i ta B4 _ hB4 hT S
  refine ⟨_, _, _, _, _, _, _, _, rfl, S, .head, hT, fun s₂ S => ?_⟩
  replace I := I.keeps hB4
  have e1 : B2.StaysIn B4 := st_trans hB3 hB4
  have e2 : B.StaysIn B4 := st_trans hB2 e1
  have hf4 := e1 _ _ hf
  have hcd4 : B4.CodeRec (.ref c') (env.qual ++ "<lambda>") := let ⟨c, o, vs, t, e, e3, r⟩ := hcd; ⟨c, o, vs, t, e, e1 _ _ e3, r⟩
  have IH4 := IH.keeps e2
  have hK4 := hK.keeps e2
  have hH4 := hH.keeps e2
  have hr4 := hr.keeps e2
  have hV4 := hV.keeps e2
  have hc4 : ∃ o, B4.get? c1 = some o ∧ clO (some (.ref ra)) o := let ⟨o, e, x⟩ := hc; ⟨o, e2 _ _ e, x⟩
  clear hT hB2 hB3 hB4 e1 hf hcd
  repeat kt_at_item
  refine made_spec (n := n + 13) (go := false) Z (by assumption) I (by krn_off) (by simp) fun uu kvs1 s hk1 S => ?_
  have hk1' : ColD kvs1 (fun _ => none) := hk1 _ ColD.nil
  repeat kt_at_item
  refine gone_no (n := n + 9) Z (by assumption) I (by krn_off) fun uu s S => ?_
  repeat kt_at_item
  rename_i hT7t B7 s7 hB7 hT7 S7
  have hld : Leads B7 (.ref hT7t) [some 1] 0 := .far (.inl rfl) hT7 (by tb_rel) ⟨_, rfl⟩
  have e7 : B4.StaysIn B7 := by tb_rel
  have I7 := I.keeps e7
  refine shade_spec (n := n + 11) (st := (fun _ => none, [])) (g := 0) (ms := [some 1]) (j := 0) Z S7 I7 (by krn_off) hk1' .nil ok_none (by omega) hld (by omega) fun uu kvs2 gs2 s hc2 hg2 S => ?_
  rw [shade_none] at hc2 hg2
  cases hg2
  repeat kt_at_item
  refine is_like_spec (n := n + 9) (go := false) (c := fun _ => none) (c' := fun _ => none) (ns := []) Z (by assumption) I7 (by krn_off) hc2 ColD.nil (fun h => by cases h) (fun _ => rfl) .nil .nil (by simp) fun s S => ?_
  kt_at_item
  kt_at_item
  kt_at_item
  have e8 : B.StaysIn B7 := st_trans e2 e7
  exact right_10 Z V I7 (IH4.keeps e7) hgz hz hhz (hK4.keeps e7) hL (hH4.keeps e7) hlc hmain (e7 _ _ hf4) (let ⟨c, o, vs, t, e, e3, r⟩ := hcd4; ⟨c, o, vs, t, e, e7 _ _ e3, r⟩) (let ⟨o, e, x⟩ := hc4; ⟨o, e7 _ _ e, x⟩) (hr4.keeps e7) (hV4.keeps e7) hrz (S.re (by krn_off)) fun B' s' hB' S' => k B' ps s' (st_trans e8 hB') S'
end
end
/-! F31 -/
noncomputable section
section
variable {w : World} {σ : Shared} {B B₀ : Heap} {s : Shared} {own own1 own2 rest : List Pt} {A : Around} {E : Value → Shared → Prop} {v : Value} {ms : List Nm} {k : Nat} {src a cc cg hx hd kd cx cd lc lg lh c1 c2 c3 f ra : Addr} {Q : Value → Shared → Prop} {kvs kept lkv hkv : List (Nm × Value)} {gs lgs : List Value} {st : Sd} {g : Nat} {m : Nm} {gv rd : Int} {tg th tr : Tok} {key o rv : Value} {go : Bool} {c : Cs} {live : Lv} {env : Env} {u1 u2 u3 u4 u5 u6 u7 u8 : Option Value} {rs vs : List Value} {mss : List (List Nm)} {wss : List (List Value)}
set_option maxHeartbeats 8000000 in
theorem right_4 {n : Nat} (Z : Rm A (n + 15)) (V : Ev env rgl [("roots", c1), ("due", c2), ("source", c3)]) (hcode : env.code = .ref 376) (IH : Ins B hx 299 hd) (hgz : g ≤ 8) (hz : kept.length ≤ 10) (hhz : hkv.length ≤ 10)
    (hK : KeptD B kept live) (hL : ∀ n, (live n).isSome → 1 ≤ n ∧ n ≤ g) (hH : HeldD B hkv live) (hlc : ColD lkv (whites live)) (hmain : (valueAt kept none).isSome = true)
    (hc : ∃ o, B.get? c1 = some o ∧ clO (some (.ref ra)) o) (hr : Lst B ra rs) (hV : Vals B rs vs mss wss) (hrz : rs.length ≤ 3)
    (S : St w σ B s ((env.locals, frO env (rfr (some (.ref hx)) (some (.ref lh)) (some (.ref lc)) u1 u2 u3 u4 u5 u6 none none)) :: (c2, clO none) :: (c3, clO (some (.ref src))) :: (src, srcO) :: (hd, hAt kd g tg th) :: (kd, dcO w kept) :: (lc, dcO w lkv) :: (lh, dcO w hkv) :: (374, tbO #[]) :: rest))
    (k : ∀ B' ps s', B.StaysIn B' → St w σ B' s' ((374, tbO ps) :: rest) → Q (.bool true) s') :
    wpAny (MM w) A (execs ((fB 27).drop 4) env) (Rt Q) (fun _ _ => False) s := by
  with_unfolding_all refine x_seq ?_
  kt_at_item
  kt_at_item
  refine r_comp (ls := ["value", "numbers"]) (gl' := ["objects_within", "_law_once"]) (cs := []) (own := []) V (by rfl) (fun p hp => nomatch hp) ?_
  refine r_cellB S V (by kt_at_method) hc ?_
  refine it_list Z.1 S hr fun It Fi s W S => ?_
  refine comp_in _ (fun i out B' => out = [] ∧ B' = B) W (fun _ _ e => e) S (by omega) ⟨rfl, rfl⟩ ?_ ?_
  · rintro cenv D i v out B1 s us V2 hi hv hB ⟨rfl, rfl⟩ hu S
    obtain ⟨y1, y2, rfl⟩ := list2 hu
    clear hB
    change St _ _ _ _ ((cenv.locals, frO cenv [("value", y1), ("numbers", y2)]) :: _) at S
    obtain ⟨a, b, x, ms, xs, j, rfl, hT, hL, hj, hm, hX, hN, hvi, hmi, hwi⟩ := hV.at_ hv
    have hxl := hN.length
    refine k_assign2 Z.1 S .head hT fun s S => ?_
    repeat kt_at_item
    refine tests1 ?_
    repeat kt_at_item
    refine within_spec (n := n + 13) Z (by assumption) hL (by omega) fun wa xs1 s hx1 S => ?_
    repeat kt_at_item
    refine once_spec (n := n + 13) Z (by assumption) hX hN (by omega) fun wb xs2 s hx2 S => ?_
    refine c_neN Z.units (by kcj_m) (by kcj_m) hx1 hx2 ?_
    rw [show decide (onceA [] ms ≠ onceA [] ms) = false from by simp]
    refine t_bool ⟨fun h => (by cases h), fun _ => ?_⟩
    exact ⟨_, [some _, some _], fun _ _ e => e, rfl, ⟨rfl, rfl⟩, cend2 (S.re (by krn_off))⟩
  · rintro out B1 D cenv us s ⟨rfl, rfl⟩ hB hu S s' S'
    clear hB S
    repeat kt_at_item
    refine c_neE Z.units (by kcj_m) (by kcj_m) ?_
    rw [show decide (([] : List Value) ≠ []) = false from by simp]
    kt_at_item
    kt_at_item
    kt_at_item
    rename_i S
    exact right_5 Z V hcode IH hgz hz hhz hK hL hH hlc hmain hc hr hV hrz (S.re (by krn_off)) k
end
end
/-! F32 -/
noncomputable section
section
variable {w : World} {σ : Shared} {B B₀ : Heap} {s : Shared} {own own1 own2 rest : List Pt} {A : Around} {E : Value → Shared → Prop} {v : Value} {ms : List Nm} {k : Nat} {src a cc cg hx hd kd cx cd lc lg lh c1 c2 c3 f ra : Addr} {Q : Value → Shared → Prop} {kvs kept lkv hkv : List (Nm × Value)} {gs lgs : List Value} {st : Sd} {g : Nat} {m : Nm} {gv rd : Int} {tg th tr : Tok} {key o rv : Value} {go : Bool} {c : Cs} {live : Lv} {env : Env} {u1 u2 u3 u4 u5 u6 u7 u8 : Option Value} {rs vs : List Value} {mss : List (List Nm)} {wss : List (List Value)}
set_option maxHeartbeats 8000000 in
theorem right_2 {n : Nat} (Z : Rm A (n + 15)) (V : Ev env rgl [("roots", c1), ("due", c2), ("source", c3)]) (hcode : env.code = .ref 376) (IH : Ins B hx 299 hd) (hgz : g ≤ 8) (hz : kept.length ≤ 9) (hhz : hkv.length ≤ 10)
    (hK : KeptD B kept live) (hL : ∀ n, (live n).isSome → 1 ≤ n ∧ n ≤ g) (hH : HeldD B hkv live) (hlc : ColD lkv (whites live))
    (S : St w σ B s ((env.locals, frO env (rfr (some (.ref hx)) (some (.ref lh)) (some (.ref lc)) u1 u2 u3 u4 u5 u6 none none)) :: (c1, clO none) :: (c2, clO none) :: (c3, clO (some (.ref src))) :: (src, srcO) :: (hd, hAt kd g tg th) :: (kd, dcO w kept) :: (lc, dcO w lkv) :: (lh, dcO w hkv) :: (374, tbO #[]) :: rest))
    (k : ∀ B' ps s', B.StaysIn B' → St w σ B' s' ((374, tbO ps) :: rest) → Q (.bool true) s') :
    wpAny (MM w) A (execs ((fB 27).drop 2) env) (Rt Q) (fun _ _ => False) s := by
  with_unfolding_all refine x_seq ?_
  repeat kt_at_item
  rename_i B1 s1 hB1 hT1 S1
  have e1 : B.StaysIn B1 := by tb_rel
  refine make_named_spec (n := n + 9) Z (by assumption) (IH.keeps e1) (by krn_off) (by omega) ⟨_, rfl⟩ fun uu o B2 s hB2 S => ?_
  have e2 : B.StaysIn B2 := st_trans e1 hB2
  have IH2 := IH.keeps e2
  have hK2 := (hK.keeps e2).setMain (o := o)
  have hH2 := hH.keeps e2
  have hmain : (valueAt (stored kept none o) none).isSome = true := by rw [valueAt_stored]; rfl
  have hkl := stored_len (kvs := kept) (m := none) (v := o)
  replace S : St w σ B2 s ((env.locals, frO env (rfr (some (.ref hx)) (some (.ref lh)) (some (.ref lc)) u1 u2 u3 u4 u5 u6 none none)) :: (c1, clO none) :: (c2, clO none) :: (c3, clO (some (.ref src))) :: (src, srcO) :: (hd, hAt kd g tg th) :: (kd, dcO w (stored kept none o)) :: (lc, dcO w lkv) :: (lh, dcO w hkv) :: (374, tbO #[]) :: rest) := S.re (by krn_off)
  clear hT1 S1 hB1 e1 hB2
  refine x_seq ?_
  refine x_set ?_ (no_swC (V.notLocal (by kt_at_method)))
  refine r_comp (ls := ["turn"]) (gl' := ["_law_value"]) (cs := [("source", c3)]) (own := []) V (by rfl) (fun p hp => by rw [List.mem_singleton.mp hp]; exact .tail _ (.tail _ (.head _))) ?_
  repeat kt_at_item
  refine take_spec (n := n + 13) Z (by assumption) (by kt_at_get) (by omega) (by omega) fun r t s h1 h2 S => ?_
  obtain ⟨m, rfl⟩ := Int.eq_ofNat_of_zero_le h1
  repeat kt_at_item
  refine k_range1 S fun rg s S => ?_
  refine it_range Z.1 S .head (by omega) fun It Fi s W S => ?_
  refine comp_in _ (fun i ys B' => ∃ vs mss wss, Vals B' ys vs mss wss ∧ ys.length = i) W (fun _ _ e => e) S (by omega) ⟨[], [], [], .nil, rfl⟩ ?_ ?_
  · rintro cenv D i v ys B3 s us V2 hi ⟨t, rfl⟩ hB ⟨vs, mss, wss, hV, hl⟩ hu S
    obtain ⟨u, rfl⟩ := List.length_eq_one_iff.mp hu
    change St _ _ _ _ ((cenv.locals, frO cenv [("turn", u)]) :: _) at S
    refine assign_Name ?_
    kt_at_item
    refine tests0 ⟨fun _ => ?_, fun h => by cases h⟩
    repeat kt_at_item
    refine value_spec (n := n + 3) Z (by assumption) (by kt_at_get) fun r ms B4 s j k1 hv hj hms S => ?_
    obtain ⟨v, xs, hV2⟩ := (hV.keeps k1).snoc hv hj hms
    exact ⟨B4, [some _], st_trans hB k1, rfl, ⟨_, _, _, hV2, by simp [hl]⟩, cend1 (S.re (by krn_off))⟩
  · rintro rs B3 D cenv us s ⟨vs, mss, wss, hV, hl⟩ hB hu S s' S'
    clear S
    refine r_storeC2 S' V (by kt_at_method) (by kt_at_get) fun s S => ?_
    replace S : St w σ B3 s ((D, lsO rs) :: (c1, clO (some (.ref D))) :: (env.locals, frO env (rfr (some (.ref hx)) (some (.ref lh)) (some (.ref lc)) u1 u2 u3 u4 u5 u6 none none)) :: (c2, clO none) :: (c3, clO (some (.ref src))) :: (src, srcO) :: (hd, hAt kd g tg th) :: (kd, dcO w (stored kept none o)) :: (lc, dcO w lkv) :: (lh, dcO w hkv) :: (374, tbO #[]) :: rest) := S.re (by krn_off)
    obtain ⟨B5, k5, hfz, S⟩ := St.freezes (l := [(_, _), (_, _)]) S
    obtain ⟨ob, hob, nn, rfl⟩ := hfz _ (.head _)
    have hc := hfz _ (.tail _ (.head _))
    have e5 := st_trans hB k5
    have e6 := st_trans e2 e5
    exact right_4 Z V hcode (IH2.keeps e5) hgz (by omega) hhz (hK2.keeps e5) hL (hH2.keeps e5) hlc hmain hc ⟨nn, hob⟩ (hV.keeps k5) (by omega) S fun B' ps s' hB' S' => k B' ps s' (st_trans e6 hB') S'
end
end
/-! F33 -/
noncomputable section
structure Rh where
  u1 : Option Value
  u2 : Option Value
  u5 : Option Value
  u6 : Option Value
  gv : Int
  tg : Tok
  live : Lv
  kept : List (Nm × Value)
  lkv : List (Nm × Value)
  hkv : List (Nm × Value)
section
variable {w : World} {σ : Shared} {B B₀ : Heap} {s : Shared} {own own1 own2 rest : List Pt} {A : Around} {E : Value → Shared → Prop} {v : Value} {ms : List Nm} {k : Nat} {src a cc cg hx hd kd cx cd lc lg lh c1 c2 c3 f ra : Addr} {Q : Value → Shared → Prop} {kvs kept lkv hkv : List (Nm × Value)} {gs lgs : List Value} {st : Sd} {g : Nat} {m : Nm} {gv rd : Int} {tg th tr : Tok} {key o rv : Value} {go : Bool} {c : Cs} {live : Lv} {env : Env} {u1 u2 u3 u4 u5 u6 u7 u8 : Option Value} {rs vs : List Value} {mss : List (List Nm)} {wss : List (List Value)}
theorem LeadsL.handed {j : Nat} (h : LeadsL B (v :: vs) ms j) : handedIn v = true := by
  cases h with
  | cons a b => exact a.handed
set_option maxHeartbeats 8000000 in
theorem right_spec {n : Nat} (Z : Rm A (n + 16)) (S : St w σ B s own) (p : Arr [(src, srcO), (374, tbO #[])] own rest) (k : ∀ B' ps s', B.StaysIn B' → St w σ B' s' ((374, tbO ps) :: rest) → Q (.bool true) s') :
    wpAny (MM w) A (call (.ref 377) [.ref src]) Q E s := by
  replace S : St w σ B s ((src, srcO) :: (374, tbO #[]) :: rest) := S.arr p
  refine enterCX (vs := [.ref src]) (ps := ["source"]) (ls := ["heap", "held", "colours", "turn", "some", "value", "numbers", "row", "number", "collector", "greys"]) (gl := rgl) (cn := ["roots", "due", "source"]) (n := n + 15) Z S (f_right _) (c_right _) rfl (by kernel_rfl) (by kernel_rfl) rfl fun env s₁ cs hcs V hcode Z S => ?_
  obtain ⟨c1, c2, c3, rfl⟩ := list3 hcs
  change St _ _ _ _ ((env.locals, frO env (rfr none none none none none none none none none none none)) :: (c1, clO none) :: (c2, clO none) :: (c3, clO (some (.ref src))) :: (src, srcO) :: (374, tbO #[]) :: rest) at S
  change Ev env _ [("roots", c1), ("due", c2), ("source", c3)] at V
  change env.code = .ref 376 at hcode
  with_unfolding_all refine x_seq ?_
  refine x_swap3 Z.1 S V .head (by kt_at_method) (by kt_at_method) (by kt_at_method) rfl rfl rfl rfl rfl rfl rfl rfl rfl rfl rfl ?_
  repeat kt_at_item
  refine heap_new (n := n + 11) Z (by assumption) fun hx hd kd tg th B1 s hB1 IH S => ?_
  repeat kt_at_item
  rename_i ta B2 _ hB2 hT S
  refine ⟨_, _, _, _, _, _, _, _, _, rfl, S, .head, hT, fun s₂ S => ?_⟩
  have e2 : B.StaysIn B2 := st_trans hB1 hB2
  replace IH := IH.keeps hB2
  clear hT hB1 hB2
  kt_at_item
  kt_at_item
  kt_at_item
  rename_i S
  obtain ⟨lc, lh, S⟩ : ∃ lc lh, St w σ B2 _ ((env.locals, frO env (rfr (some (.ref hx)) (some (.ref lh)) (some (.ref lc)) none none none none none none none none)) :: (c1, clO none) :: (c2, clO none) :: (c3, clO (some (.ref src))) :: (src, srcO) :: (hd, hAt kd 0 tg th) :: (kd, dcO w []) :: (lc, dcO w []) :: (lh, dcO w []) :: (374, tbO #[]) :: rest) := ⟨_, _, S.re (by krn_off)⟩
  refine x_seq ?_
  refine x_for ?_ (fun _ => rfl)
  repeat kt_at_item
  refine take_spec (n := n + 13) Z (by assumption) (by kt_at_get) (by omega) (by omega) fun r t s h1 h2 S => ?_
  obtain ⟨m, rfl⟩ := Int.eq_ofNat_of_zero_le h1
  repeat kt_at_item
  refine k_range1 S fun rg s S => ?_
  refine it_range Z.1 S .head (by omega) fun It Fi s W S => ?_
  refine for_in (X := Rh) (fun x => (env.locals, frO env (rfr (some (.ref hx)) (some (.ref lh)) (some (.ref lc)) x.u1 x.u2 none none x.u5 x.u6 none none)) :: (c1, clO none) :: (c2, clO none) :: (c3, clO (some (.ref src))) :: (src, srcO) :: (hd, hAt kd x.gv x.tg th) :: (kd, dcO w x.kept) :: (lc, dcO w x.lkv) :: (lh, dcO w x.hkv) :: (374, tbO #[]) :: rest)
    (fun i x B' => x.gv = (i : Int) ∧ KeptD B' x.kept x.live ∧ HeldD B' x.hkv x.live ∧ ColD x.lkv (whites x.live) ∧ (∀ n, (x.live n).isSome → 1 ≤ n ∧ n ≤ (i : Int)) ∧ x.kept.length ≤ i ∧ x.hkv.length ≤ i) ⟨none, none, none, none, 0, tg, fun _ => none, [], [], []⟩ W (fun _ _ e => e) (S.re (by krn_off)) ⟨rfl, fun n => trivial, fun n ms e => (by cases e), ColD.nil, fun n e => (by cases e), Nat.le_refl _, Nat.le_refl _⟩ (fun _ => by simp) ?_ ?_
  · rintro i v ⟨u1, u2, u5, u6, gv, tg, live, kept, lkv, hkv⟩ B3 s hi hv hB ⟨e0, hK, hH, hlc, hL, hkz, hhz⟩ S
    dsimp only at S e0 hK hH hlc hL hkz hhz
    subst e0
    have IH3 := IH.keeps hB
    refine assign_Name ?_
    kt_at_item
    rename_i S
    refine x_seq ?_
    refine x_compS (ls := ["part"]) (gl' := ["_law_value"]) (cs := [("source", c3)]) S V (by kt_at_get) (by kt_at_method) rfl rfl (by rfl) (fun p hp => by rw [List.mem_singleton.mp hp]; exact .tail _ (.tail _ (.head _))) ?_
    repeat kt_at_item
    refine take_spec (n := n + 13) Z (by assumption) (by kt_at_get) (by omega) (by omega) fun r t s h3 h4 S => ?_
    obtain ⟨q, rfl⟩ := Int.eq_ofNat_of_zero_le h3
    repeat kt_at_item
    rename_i S
    rw [show (1 : Int) + (q : Int) = ((1 + q : Nat) : Int) from by omega]
    refine k_range1 S fun rg s S => ?_
    refine it_range Z.1 S .head (by omega) fun It2 Fi2 s W2 S => ?_
    refine comp_in _ (fun i ys B' => ∃ vs mss wss, Vals B' ys vs mss wss ∧ ys.length = i) W2 (fun _ _ e => e) S (by omega) ⟨[], [], [], .nil, rfl⟩ ?_ ?_
    · rintro cenv D i v ys B4 s us V2 hi ⟨t, rfl⟩ hB' ⟨vs, mss, wss, hV, hl⟩ hu S
      obtain ⟨u, rfl⟩ := List.length_eq_one_iff.mp hu
      change St _ _ _ _ ((cenv.locals, frO cenv [("part", u)]) :: _) at S
      refine assign_Name ?_
      kt_at_item
      refine tests0 ⟨fun _ => ?_, fun h => by cases h⟩
      repeat kt_at_item
      refine value_spec (n := n + 3) Z (by assumption) (by kt_at_get) fun r ms B5 s j k1 hv hj hms S => ?_
      obtain ⟨v, xs, hV2⟩ := (hV.keeps k1).snoc hv hj hms
      exact ⟨B5, [some _], st_trans hB' k1, rfl, ⟨_, _, _, hV2, by simp [hl]⟩, cend1 (S.re (by krn_off))⟩
    · rintro rs B4 D cenv us s ⟨vs, mss, wss, hV, hl⟩ hB' hu S
      refine ⟨_, _, _, by kt_at_get, by lcg_off, fun s' S => ?_⟩
      replace S : St w σ B4 s' ((D, lsO rs) :: (env.locals, frO env (rfr (some (.ref hx)) (some (.ref lh)) (some (.ref lc)) (some v) (some (.ref D)) none none u5 u6 none none)) :: (c1, clO none) :: (c2, clO none) :: (c3, clO (some (.ref src))) :: (It, Fi (i + 1)) :: (src, srcO) :: (hd, hAt kd i tg th) :: (kd, dcO w kept) :: (lc, dcO w lkv) :: (lh, dcO w hkv) :: (374, tbO #[]) :: rest) := S.re (by krn_off)
      obtain ⟨B5, k5, ⟨ob, hob, nn, rfl⟩, S⟩ := S.freeze
      have hD : Lst B5 D rs := ⟨nn, hob⟩
      clear hob
      replace hV := hV.keeps k5
      have e5 : B3.StaysIn B5 := st_trans hB' k5
      clear hB' k5
      refine x_seq ?_
      refine x_compS (ls := ["value", "numbers"]) (gl' := []) (cs := []) S V (by kt_at_get) (by kt_at_method) rfl rfl (by rfl) (fun p hp => nomatch hp) ?_
      repeat kt_at_item
      refine it_list Z.1 (by assumption) hD fun It3 Fi3 s W3 S => ?_
      refine comp_in _ (fun i out B' => out = vs.take i ∧ B' = B5) W3 (fun _ _ e => e) S (by omega) ⟨rfl, rfl⟩ ?_ ?_
      · rintro cenv D2 i v out B6 s us V2 hi hv hB' ⟨rfl, rfl⟩ hu S
        obtain ⟨y1, y2, rfl⟩ := list2 hu
        clear hB'
        change St _ _ _ _ ((cenv.locals, frO cenv [("value", y1), ("numbers", y2)]) :: _) at S
        obtain ⟨a, b, x, ms, xs, j, rfl, hT, hL', hj', hm, hX, hN, hvi, hmi, hwi⟩ := hV.at_ hv
        refine k_assign2 Z.1 S .head hT fun s S => ?_
        repeat kt_at_item
        refine tests0 ⟨fun _ => ?_, fun h => by cases h⟩
        repeat kt_at_item
        rename_i S _
        refine ⟨_, [some _, some _], fun _ _ e => e, rfl, ⟨(take_snoc hvi).symm, rfl⟩, cend2 (S.re (by krn_off))⟩
      · rintro out B6 D2 cenv us s ⟨rfl, rfl⟩ hB' hu S
        clear hB'
        have hvl := hV.len.1
        refine ⟨_, _, _, by kt_at_get, by lcg_off, fun s' S => ?_⟩
        rw [← hvl, List.take_length] at S
        replace S : St w σ B6 s' ((D2, lsO vs) :: (env.locals, frO env (rfr (some (.ref hx)) (some (.ref lh)) (some (.ref lc)) (some v) (some (.ref D)) none none (some (.ref D2)) u6 none none)) :: (c1, clO none) :: (c2, clO none) :: (c3, clO (some (.ref src))) :: (It, Fi (i + 1)) :: (src, srcO) :: (hd, hAt kd i tg th) :: (kd, dcO w kept) :: (lc, dcO w lkv) :: (lh, dcO w hkv) :: (374, tbO #[]) :: rest) := S.re (by krn_off)
        obtain ⟨B7, k7, ⟨ob, hob, nn, rfl⟩, S⟩ := S.freeze
        have hD2 : Lst B7 D2 vs := ⟨nn, hob⟩
        clear hob
        replace hV := hV.keeps k7
        replace hD := hD.keeps k7
        have e7 : B3.StaysIn B7 := st_trans e5 k7
        clear e5 k7
        have IH7 := IH3.keeps e7
        have hK7 := hK.keeps e7
        have hH7 := hH.keeps e7
        obtain ⟨j, hLs, hj⟩ := hV.leads
        refine x_seq ?_
        refine x_set (wpAny_mono (?h : wpAny (MM w) (A.deeper env) _ (fun vv s => ∃ t tg' o B', vv = .int ((i : Int) + 1) t ∧ B7.StaysIn B' ∧ KObj B' o mss.flatten ∧ St w σ B' s ((env.locals, frO env (rfr (some (.ref hx)) (some (.ref lh)) (some (.ref lc)) (some v) (some (.ref D)) none none (some (.ref D2)) u6 none none)) :: (c1, clO none) :: (c2, clO none) :: (c3, clO (some (.ref src))) :: (It, Fi (i + 1)) :: (src, srcO) :: (hd, hAt kd ((i : Int) + 1) tg' th) :: (kd, dcO w (stored kept (some ((i : Int) + 1)) o)) :: (lc, dcO w lkv) :: (lh, dcO w hkv) :: (374, tbO #[]) :: rest)) (fun _ _ => False) _) (fun vv s z => ?_) fun _ _ z => z) rfl
        case h =>
          repeat kt_at_item
          refine c_ints (t_bool ⟨fun hb => ?_, fun hb => ?_⟩)
          · have hb := of_decide_eq_true hb
            have hvl1 : vs.length = 1 := by omega
            obtain ⟨v0, rfl⟩ := List.length_eq_one_iff.mp hvl1
            have hh : handedIn v0 = true := hLs.handed
            repeat kt_at_item
            refine r_itemL (by kcj_m) (by omega) (by omega) (v := v0) rfl ?_ (by with_unfolding_all rfl)
            repeat kt_at_item
            refine make_spec (n := n + 9) (kind := "var") Z (by assumption) IH7 (by krn_off) (by omega) hLs (by omega) hh (.inl ⟨rfl, rfl⟩) fun t tg' o B8 s hB8 hKo S => ?_
            exact ⟨t, tg', o, B8, rfl, hB8, hKo, S.re (by krn_off)⟩
          · repeat kt_at_item
            refine make_spec (n := n + 9) (kind := "row") Z (by assumption) IH7 (by krn_off) (by omega) hLs (by omega) rfl (.inr ⟨rfl, _, rfl, hD2⟩) fun t tg' o B8 s hB8 hKo S => ?_
            exact ⟨t, tg', o, B8, rfl, hB8, hKo, S.re (by krn_off)⟩
        clear S
        obtain ⟨t, tg', o, B8, rfl, hB8, hKo, S⟩ := z
        replace hV := hV.keeps hB8
        replace hD := hD.keeps hB8
        replace hH7 := hH7.keeps hB8
        replace hK7 := hK7.keeps hB8
        have e8 : B3.StaysIn B8 := st_trans e7 hB8
        have hm2 : NmV (some ((i : Int) + 1)) (.int ((i : Int) + 1) t) := ⟨t, rfl⟩
        obtain ⟨hN, hNl⟩ := hV.nms
        have hNl2 := hN.length
        kt_at_item
        refine x_seq ?_
        refine x_tuple ?_ rfl no_swapS
        repeat kt_at_item
        rename_i S
        refine r_flat (ls := ["value", "numbers", "one"]) (gl' := []) (cs := []) Z.1 V (by rfl) (fun p hp => nomatch hp) (by simp) ?_
        repeat kt_at_item
        refine ⟨_, _, _, rs, wss, D, rfl, S, hD, hV.len.2.2.symm, by omega, fun i v hv => ?_, fun D4 s5 S5 => ?_⟩
        · obtain ⟨a, b, x, ms, xs, j, rfl, hT, hL', hj', hm, hX, hN, hvi, hmi, hwi⟩ := hV.at_ hv
          refine ⟨b, xs, hwi, hX, fun cenv s own us V3 hu S => ?_⟩
          obtain ⟨u1, u2, u3, rfl⟩ := list3 hu
          change St _ _ _ _ ((cenv.locals, frO cenv [("value", u1), ("numbers", u2), ("one", u3)]) :: _) at S
          refine k_assign2 Z.1 S .head hT fun s S => ?_
          repeat kt_at_item
          rename_i S
          exact ⟨rfl, [some _, some _, _], _, rfl, S, by
            refine Arr.cons (own₁ := own) ?_ .nil
            exact (Pick.head : Pick _ ((cenv.locals, frO cenv [("value", some _), ("numbers", some _), ("one", _)]) :: own) own)⟩
        · clear S
          obtain ⟨B9, k9, ⟨ob, hob, nn, rfl⟩, S⟩ := S5.freeze
          have hD4 : Lst B9 D4 wss.flatten := ⟨nn, hob⟩
          clear hob S5
          repeat kt_at_item
          rename_i tw s9 S9 ta B10 s10 hB10 hT10 S10
          have hlc10 := hlc.set (n := (i : Int) + 1) (x := sW) (t := tw)
          rw [whites_set (ms := mss.flatten)] at hlc10
          clear S9
          refine k_assignS2 Z.1 S10 .head hT10 fun s S => ?_
          have e10 : B8.StaysIn B10 := st_trans k9 hB10
          have hD10 := hD4.keeps hB10
          have hK10 := (hK7.keeps e10).set (n := (i : Int) + 1) (hKo.keeps e10)
          have hH10 := (hH7.keeps e10).set (n := (i : Int) + 1) hD10 hN
          have e11 : B.StaysIn B10 := st_trans e2 (st_trans hB (st_trans e8 e10))
          have e12 : B2.StaysIn B10 := st_trans hB (st_trans e8 e10)
          have hlz : lkv.length < 1000 := by
            have := S.col_len (kvs := lkv) (g := i) (by kt_at_get) hlc (fun n x e => by
              unfold whites at e
              split at e
              · rename_i h; exact hL n h
              · cases e)
            omega
          refine a_setItem ?_
          repeat kt_at_item
          refine a_setItem ?_
          repeat kt_at_item
          rename_i S
          refine ⟨⟨some v, some (.ref D), some (.ref D2), some (.int ((i : Int) + 1) t), (i : Int) + 1, tg', setV live ((i : Int) + 1) mss.flatten, stored kept (some ((i : Int) + 1)) o, stored lkv (some ((i : Int) + 1)) (.str sW tw), stored hkv (some ((i : Int) + 1)) (.ref D4)⟩, B10, e12, ⟨by dsimp only; omega, hK10, hH10, hlc10, fun n h => ?_, ?_, ?_⟩, S.re (by krn_off)⟩
          · dsimp only at h
            unfold setV at h
            split at h
            · omega
            · have := hL n h; omega
          · exact Nat.le_trans stored_len (by omega)
          · exact Nat.le_trans stored_len (by omega)
  · rintro ⟨u1, u2, u5, u6, gv, tg, live, kept, lkv, hkv⟩ B3 s hB ⟨e0, hK, hH, hlc, hL, hkz, hhz⟩ S
    dsimp only at S e0 hK hH hlc hL hkz hhz
    subst e0
    exact right_2 Z V hcode (IH.keeps hB) (g := m) (by omega) (by omega) (by omega) hK hL hH hlc S fun B' ps s' hB' S' => k B' ps s' (st_trans e2 (st_trans hB hB')) S'
end
end
/-! F34 -/
noncomputable section
section
variable {w : World} {σ : Shared} {B B₀ : Heap} {s : Shared} {own own1 own2 rest : List Pt} {A : Around} {E : Value → Shared → Prop} {Q : Value → Shared → Prop} {env : Env}
theorem hd383 (P : Params) : codeHdIn (K P) 383 379 = true := by kernel_rfl
/-- law's lambda -/
noncomputable def llam : Expr := match ((fB 28)[1]?).getD (.Pass default) with
  | .Assign _ (.Call _ (_ :: e :: _) _ _) _ => e
  | _ => .Constant .none 0 default
theorem llam_names : (lamScope llam).names = [] := by kernel_rfl
theorem roots0_spec {n : Nat} {f : Addr} {pm ctv : Value} {c' : Addr} {pos : Pos} {env' : Env} (Z : Rm A (n + 2)) (hf : B.get? f = some (lamO env (lamArgs llam) (lamBody llam) (lamScope llam) [] pm c' ctv)) (hcd : B.CodeRec (.ref c') (env.qual ++ "<lambda>"))
    (S : St w σ B s own) (k : ∀ a s', St w σ B s' ((a, lsO []) :: own) → Q (.ref a) s') :
    wpAny (MM w) A (callWith pos (.ref f) [] (backTo pos (starEach [] env')) []) Q E s := by
  refine callWith_F0 ⟨_, _, _, _, S.keep _ _ hf⟩ ?_
  refine enterL (n := n + 1) (cs := []) Z S hf hcd rfl rfl rfl rfl rfl rfl (by kernel_rfl) (by show ∀ x ∈ (lamScope llam).names, _; rw [llam_names]; intro x hx; cases hx) (fun p hp => nomatch hp) fun env s V Z S => ?_
  replace S := S.drop
  with_unfolding_all refine r_list ?_
  refine r_args0 ?_
  exact r_newL S (by simp) fun a s' S' => k a s' S'
set_option maxHeartbeats 8000000 in
theorem law_spec {R : Result → Shared → Prop} {n : Nat} {sa : Addr} {xs : List Value} {is : List Int} (Z : Rm A (n + 18)) (S : St w σ B s own) (p : Arr [(374, tbO #[]), (379, tbO #[])] own rest) (hL : B.IsList sa xs.toArray) (hi : IntsAre xs is) (hz : xs.length < 1000)
    (k : ∀ B' ps1 ps2 s', B.StaysIn B' → St w σ B' s' ((374, tbO ps1) :: (379, tbO ps2) :: rest) → R (.ok (.ret (.bool true))) s') :
    codeAny (MM w) A (.call (.ref 384) ⟨[.ref sa], []⟩) R s := by
  replace S : St w σ B s ((374, tbO #[]) :: (379, tbO #[]) :: rest) := S.arr p
  refine enterRX (vs := [.ref sa]) (ps := ["script"]) (ls := ["heap", "collector"]) (gl := ["Heap", "Collector", "_law_right", "_law_pool"]) (n := n + 17) Z S (f_law _) (c_law _) rfl (by kernel_rfl) (BindsTo.of_eq (by kernel_rfl)) rfl fun env s₁ V hcode Z S => ?_
  change St _ _ _ _ ((env.locals, frO env [("script", some (.ref sa)), ("heap", none), ("collector", none)]) :: _) at S
  change env.code = .ref 383 at hcode
  with_unfolding_all refine x_seq ?_
  repeat kt_at_item
  refine heap_new (n := n + 13) Z (by assumption) fun hx hd kd tg th B1 s hB1 IH S => ?_
  repeat kt_at_item
  refine r_lambda (by assumption) V hcode (hd383 _) (by kt_at_get) (closure_of (cs := []) rfl fun p hp => nomatch hp) rfl fun f pm c' ctv ps B2 s hB2 hf hcd S => ?_
  repeat kt_at_item
  refine coll_new (n := n + 13) Z (by assumption) fun cx cd cc cg tr B3 s hB3 I S => ?_
  have hf3 := hB3 _ _ hf
  have hcd3 : B3.CodeRec (.ref c') (env.qual ++ "<lambda>") := let ⟨c, o, vs, t, e, e3, r⟩ := hcd; ⟨c, o, vs, t, e, hB3 _ _ e3, r⟩
  have IH3 := (IH.keeps hB2).keeps hB3
  have e3 : B.StaysIn B3 := st_trans hB1 (st_trans hB2 hB3)
  clear hB1 hB2 hB3 hf hcd IH
  repeat kt_at_item
  refine begin_spec (n := n + 9) (live := fun _ => none) (kept := []) Z (by assumption) I IH3 (by krn_off) (g := 0) (by omega) (fun n => trivial) (fun n h => by cases h) (by simp) (.nil) (by omega) rfl (fun Z S k => roots0_spec (n := n + 12) Z hf3 hcd3 S k) fun uu cc2 kvs2 cg2 gs2 s hc2 hg2 S => ?_
  repeat kt_at_item
  have hc2' : ColD kvs2 (whites fun _ => none) := hc2
  cases hg2
  have ok0 : Ok 0 (whites fun _ => none, []) := Ok.whites fun n h => by cases h
  have ok1 := ok0.made
  refine make_spec (n := n + 11) (kind := "var") (ms := []) Z (by assumption) IH3 (by krn_off) (by simp) (.cons .none .nil) (by omega) rfl (.inl ⟨rfl, rfl⟩) fun t tg' o B4 s hB4 hKo S => ?_
  have I4 := I.keeps hB4
  have IH4 := IH3.keeps hB4
  have e4 := st_trans e3 hB4
  have hkz := S.col_len (kvs := kvs2) (by kt_at_get) hc2' ok0.sup
  have hK4 : KeptD B4 (stored [] (some (0 + 1)) o) (setV (fun _ => none) (0 + 1) []) := KeptD.set (fun n => trivial) hKo
  clear hB4
  repeat kt_at_item
  refine made_spec (n := n + 15) (go := true) Z (by assumption) I4 (by krn_off) (by omega) fun uu kvs3 s hk3 S => ?_
  have hc3 : ColD kvs3 (setC (whites fun _ => none) (((0 : Nat) : Int) + 1) sB) := hk3 _ hc2'
  repeat kt_at_item
  refine finish_spec (n := n + 9) (st := (setC (whites fun _ => none) (((0 : Nat) : Int) + 1) sB, [])) Z (by assumption) I4 IH4 (by krn_off) hc3 .nil ok1 (by omega) hK4 (fun n h => ?_) (Nat.lt_of_le_of_lt stored_len (by simp)) fun b ys ws m kept' cc' tr' B5 s hB5 hD hys hpw hmem he hG S => ?_
  · unfold setC at h
    unfold setV
    dsimp only at h
    split at h
    · rename_i q; rw [if_pos (by simpa using q)]; rfl
    · cases h
  have hst := pops_stop (live := setV (fun _ => none) (0 + 1) []) (st := (setC (whites fun _ => none) (((0 : Nat) : Int) + 1) sB, [])) (i := 0) rfl m
  have hws : ws = [] := by
    cases ws with
    | nil => rfl
    | cons x ws =>
      have := (hmem x).mp (.head _)
      rw [Nat.zero_add] at hst
      rw [hst] at this
      have this : setC (whites fun _ => none) (((0 : Nat) : Int) + 1) sB x = some sW := this
      unfold setC whites at this
      split at this
      · exact absurd this (by decide)
      · cases this
  subst hws
  cases hys
  have e5 := st_trans e4 hB5
  repeat kt_at_item
  rename_i S
  replace hL : B5.IsList sa xs.toArray := let ⟨o, e, r⟩ := hL; ⟨o, e5 _ _ e, r⟩
  refine c_eqE Z.units (by kcj_m) (by kcj_m) ?_
  rw [show decide (([] : List Value) = []) = true from rfl]
  repeat kt_at_item
  refine pool_spec (n := n + 15) Z (by assumption) hL hi hz fun src s S => ?_
  repeat kt_at_item
  refine right_spec (n := n + 1) Z (by assumption) (by krn_off) fun B6 ps6 s hB6 S => ?_
  refine rt_ret ?_
  exact k B6 _ _ _ (st_trans e5 hB6) (S.re (by krn_off))
end
end
/-! F35 -/
noncomputable section
section
abbrev ltabs : List (Addr × Addr) := [(376, 374), (383, 379)]
theorem notabs (P : Params) : noTabs (K P) = true := by kernel_rfl
theorem nm_law (P : Params) : nsIn (K P) mainGlobals "law" = some (some (.ref 384)) := by kernel_rfl
theorem ints_len {xs : List Value} {is : List Int} (h : IntsAre xs is) : xs.length = is.length := by
  induction h with
  | nil => rfl
  | cons n t _ ih => simp [ih]
/-- the state at the law's call: two tables of code are owned, all else is kept -/
theorem st_of {w : World} {s : Shared} {mg mb : Str → Option Value} {mean : ExcName → Option Value} (Y : YK w s.heap) (T : Top vw (looseW vw lse) mean mg mb s.heap) :
    TabsAt ltabs s.heap ∧ St w { s with heap := ghostOf s.heap ltabs } (ghostOf s.heap ltabs) s [(374, tbO #[]), (379, tbO #[])] := by
  have X : (K w.params).In s.heap := Y.1
  have hT : TabsAt ltabs s.heap := fun q hq => by
    rcases List.mem_cons.mp hq with rfl | hq
    · exact ⟨codeHd_of_K X (hd376 _), Y.2.1⟩
    · rw [List.mem_singleton.mp hq]
      exact ⟨codeHd_of_K X (hd383 _), Y.2.2⟩
  refine ⟨hT, ⟨ghost_K hT X (notabs _), mg, mb, ⟨ghost_ns hT T.g, ghost_ns hT T.b, let ⟨mc, a, r⟩ := T.nolimit; ⟨mc, ghost_ns hT a, r⟩, T.builtins, T.free⟩, ?_⟩, ⟨s.heap, s.toks, rfl⟩, fun _ _ e => e, fun b o e => of_hideAll _ e, ?_, fun p hp => ?_, by decide⟩
  · obtain ⟨bm, ob, a1, a2, a3, a4, r⟩ := T.bmain
    have e : mg "__builtins__" = some (.ref 4) := mg_of X T.g (nm_builtins _)
    have e2 : bm = 4 := by
      have := a1.symm.trans e
      cases this; rfl
    subst e2
    exact ⟨ob, ghost_get hT a3 (fun q => by rw [q] at a4; cases a4), a4, r.1, r.2⟩
  · exact Nat.le_trans (show 2 ≤ 375 by decide) (Heap.lt_size Y.2.1)
  · rcases List.mem_cons.mp hp with rfl | hp
    · exact ⟨⟨_, Y.2.1, rfl⟩, hideAll_none _ (.head _), by decide⟩
    · rw [List.mem_singleton.mp hp]
      exact ⟨⟨_, Y.2.2, rfl⟩, hideAll_none _ (.tail _ (.head _)), by decide⟩
theorem good_of {w : World} {s₁ s' : Shared} {B : Heap} {ps1 ps2 : Array Value} {cw : ClaimW} {cl : Str → Option Addr} {mean : ExcName → Option Value} {args : List WData} (hB : (ghostOf s₁.heap ltabs).StaysIn B) (hg : s₁.gens = #[])
    (S : St w { s₁ with heap := ghostOf s₁.heap ltabs } B s' [(374, tbO ps1), (379, tbO ps2)]) (hn : ∀ cls, cw.raises args cls = false) (hp : cw.post args (.bool true) args = true) :
    GoodW cw cl mean args { s₁ with heap := ghostOf s₁.heap ltabs } (.ok (.ret (.bool true))) s' ∧ GrownAll ltabs s'.heap := by
  obtain ⟨h, t, es⟩ := S.rest
  have g1 : GrownAt 374 s'.heap := let ⟨⟨o, e, x⟩, _⟩ := S.has _ (.head _); ⟨ps1, by rw [e, show o = tabObj ps1 from x]⟩
  have g2 : GrownAt 379 s'.heap := let ⟨⟨o, e, x⟩, _⟩ := S.has _ (.tail _ (.head _)); ⟨ps2, by rw [e, show o = tabObj ps2 from x]⟩
  exact ⟨⟨.inl ⟨.bool true, .bool true, [], rfl, hn, .bool true, hp, unshared_nil⟩, fun b o e => S.keep _ _ (hB _ _ e), by rw [es], by rw [es]; exact hg⟩, g1, g2, trivial⟩
set_option maxHeartbeats 0 in
theorem walk : WalkO vw lse (XL vw []) YK rw0.row.toRowW ⟨"law", fA 28, fB 28, fS 28, ⟨307, 0, 312, 72⟩⟩ [] fun f vs => PySem.call f vs := by
  intro w s₀ s₁ mg mb G Y fa o pm cd doc dV kV ho hd hcd hD hmg hg args vals as hpre hlay hrd hwl hlo
  refine Ground.open G ?_
  intro T Bt D TE TW
  obtain ⟨hT, S⟩ := st_of Y T
  have e : fa = 384 := by
    have := hmg.symm.trans (mg_of Y.1 T.g (nm_law _))
    cases this; rfl
  subst e
  wrow_args hpre hlay hrd hwl hlo
  rename_i is hs hlay0 hL1 hr1 hl2 as4 as3 sa xs as0 hL ra w1 r0 hI hrr hcond htrue
  have hlen : xs.length = is.length := ints_len hI
  have hz : xs.length < 1000 := by omega
  have key : codeAny (MM w) callerA (.call (.ref 384) ⟨[.ref sa], []⟩) (GoodWG rw0.row.toRowW.claim (classAt s₀.heap) (ExcName.means s₀.heap) [ofPy (PyData.list (is.map PyData.int))] s₁) s₁ := by
    refine kn_post (tabs := ltabs) hT (fun a x => ?_) (law_spec (n := 62) (rest := []) rm_caller S (.cons .head (.cons .head .nil)) (ghost_list hT hL) hI hz fun B ps1 ps2 s' hB S' => good_of hB hg S' (raisesW_false ?_) ?_)
    · rfl
    · wrow_none_raised
    · wrow_post
  refine wpAny_call (codeAny_mono key fun r s' g => ?_)
  rcases r with e | (v | _ | _ | _)
  all_goals first | exact g | (obtain ⟨z, _⟩ := g; rcases z with ⟨_, _, _, h, _⟩ | ⟨_, _, _, h, _⟩ <;> cases h)
set_option maxHeartbeats 0 in
theorem holds : rw0.Holds := top walk
end
end
end Mine
theorem PySem.Challenge.cw_xw0046_01_holds : PySem.Challenge.rw_xw0046_01.Holds :=
  Mine.holds
