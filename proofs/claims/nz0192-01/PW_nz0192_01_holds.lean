import PyProof.Rows.All
import Wide.All
import OpenK.AllK
import Wide.FinOn
import Lean
import PySem.Challenge.RW_nz0192_01
open PySem PySem.W PyProof.Rows PySem.Spec PySem.Calls
set_option Elab.async false
set_option compiler.extract_closed false
namespace Mine
set_option maxRecDepth 100000
noncomputable section
noncomputable def vs (x : String) (t : Nat) : Value := .str (Str.ofString x) t
noncomputable def en (P : Params) (k : String) (t : Nat) (v : Value) : DictEntry := ⟨PyData.keyHash P (Str.ofString k), .str (Str.ofString k) t, v⟩
noncomputable def nth : List Stmt → Nat → Stmt
  | [], _ => .Pass ⟨0, 0, 0, 0⟩
  | s :: _, 0 => s
  | _ :: r, n + 1 => nth r n
noncomputable def at0 (i : Nat) : Stmt := nth PySem.Challenge.pw_nz0192_01.main.body i
noncomputable def at1 (i j : Nat) : Stmt := match at0 i with
  | .ClassDef _ _ _ b _ _ _ _ _ _ _ => nth b j
  | s => s
noncomputable def fnAt (st : Stmt) (qual : Str) (dV kV doc pm : Value) (an : Option Addr) (cd ct : Value) : FuncData := match st with
  | .FunctionDef n ps b _ _ _ sc _ _ _ => fnOf n qual ps b sc dV kV doc pm an cd ct
  | _ => fnOf qual qual ⟨[], [], none, [], [], none, []⟩ [] default dV kV doc pm an cd ct
noncomputable def K (P : Params) : Frag :=
  ((nat_lit 2), (⟨.none, none, (.dict #[(en P "type.__subclasses__.Exception.0" 221 (.int 38 0)), (en P "type.__subclasses__.Exception.n" 222 (.int 1 0))] 2), #[]⟩ : Obj)) ::
  ((nat_lit 3), (⟨(.type "dict"), none, (.dict #[(en P "__name__" 165 (vs "law_nz0192_01" 890)), (en P "__doc__" 166 .none), (en P "__package__" 167 .none), (en P "__loader__" 168 (.builtin "__main__.__loader__#opaque")), (en P "__spec__" 169 .none), (en P "__annotations__" 170 (.ref 6)), (en P "__builtins__" 171 (.ref 4)), (en P "__file__" 173 (vs "/claim/cut.py" 172)), (en P "__cached__" 174 .none), (en P "_wall" 193 (.ref 21)), (en P "PerlError" 224 (.ref 38)), (en P "Die" 249 (.ref 58)), (en P "substr_span" 262 (.ref 67)), (en P "substr_value" 272 (.ref 74)), (en P "substr_put" 283 (.ref 81)), (en P "held_within" 292 (.ref 88)), (en P "index_text" 302 (.ref 95)), (en P "rindex_text" 313 (.ref 102)), (en P "FIGURES" 317 (vs "0123456789" 316)), (en P "number_text" 325 (.ref 109)), (en P "HEX_FIGURES" 329 (vs "0123456789abcdef" 328)), (en P "Thing" 363 (.ref 126)), (en P "Scalar" 390 (.ref 147)), (en P "Array" 416 (.ref 166)), (en P "Hash" 443 (.ref 185)), (en P "Code" 473 (.ref 204)), (en P "Glob" 503 (.ref 223)), (en P "Ref" 534 (.ref 243)), (en P "Heap" 611 (.ref 306)), (en P "thing_word" 618 (.ref 317)), (en P "hex_of" 626 (.ref 324)), (en P "ref_text" 634 (.ref 331)), (en P "value_of" 643 (.ref 338)), (en P "to_text" 650 (.ref 345)), (en P "Counter" 773 (.ref 437)), (en P "Limits" 823 (.ref 459)), (en P "LvText" 889 (.ref 501)), (en P "_law_rest" 897 (.ref 512)), (en P "_law_draw" 905 (.ref 519)), (en P "_law_word" 911 (.ref 524)), (en P "_law_ends" 920 (.ref 531)), (en P "_law_part" 926 (.ref 536)), (en P "_law_places" 932 (.ref 541)), (en P "_law_put" 947 (.ref 548)), (en P "_law_given" 957 (.ref 555)), (en P "_law_set" 965 (.ref 562)), (en P "law" 971 (.ref 567))] 47), #[]⟩ : Obj)) ::
  ((nat_lit 34), (⟨(.type "code"), none, (.fields #[(vs "__init__" 208), (vs "PerlError.__init__" 209), (vs "/claim/cut.py" 210), (.int 7 0), (.int 2 0), (.int 0 0), (.int 0 0), (.int 3 0), (.ref 29), (.bool true), (.int 181 0), (.ref 30), .none, (.ref 31), (.ref 32), (.ref 33), (.int 213 0), (.int 7 0), (vs "/claim/cut.py" 214)]), #[]⟩ : Obj)) ::
  ((nat_lit 35), (⟨(.type "function"), none, (.func (fnAt (at1 2 0) (Str.ofString "PerlError.__init__") .none .none .none (vs "perlcore.errors" 194) none (.ref 34) .none)), #[]⟩ : Obj)) ::
  ((nat_lit 37), (⟨(.type "dict"), none, (.dict #[(en P "__module__" 203 (vs "perlcore.errors" 194)), (en P "__firstlineno__" 207 (.int 5 206)), (en P "__init__" 215 (.ref 35)), (en P "__static_attributes__" 217 (.ref 36)), (en P "__weakref__" 219 (.ref 39)), (en P "__doc__" 220 .none)] 3), #[]⟩ : Obj)) ::
  ((nat_lit 38), (⟨(.type "type"), none, (.cls { name := Str.ofString "PerlError", bases := [(.type "Exception")], mro := [(.ref 38), (.type "Exception"), (.type "BaseException"), (.type "object")], ns := 37, qualname := Str.ofString "PerlError", subclasses := [(.ref 58)] }), #[(some (.ref 22)), none, (some (vs "PerlError" 196)), (some (vs "PerlError" 204)), (some (.builtin "Exception.__new__")), (some (.bool true))]⟩ : Obj)) ::
  ((nat_lit 54), (⟨(.type "code"), none, (.fields #[(vs "__init__" 237), (vs "Die.__init__" 238), (vs "/claim/cut.py" 239), (.int 12 0), (.int 2 0), (.int 0 0), (.int 0 0), (.int 3 0), (.ref 49), (.bool true), (.int 181 0), (.ref 50), .none, (.ref 51), (.ref 52), (.ref 53), (.int 242 0), (.int 12 0), (vs "/claim/cut.py" 243)]), #[]⟩ : Obj)) ::
  ((nat_lit 55), (⟨(.type "function"), none, (.func (fnAt (at1 3 0) (Str.ofString "Die.__init__") .none .none .none (vs "perlcore.errors" 194) none (.ref 54) .none)), #[]⟩ : Obj)) ::
  ((nat_lit 57), (⟨(.type "dict"), none, (.dict #[(en P "__module__" 232 (vs "perlcore.errors" 194)), (en P "__firstlineno__" 236 (.int 10 235)), (en P "__init__" 244 (.ref 55)), (en P "__static_attributes__" 246 (.ref 56)), (en P "__doc__" 247 .none)] 2), #[]⟩ : Obj)) ::
  ((nat_lit 58), (⟨(.type "type"), none, (.cls { name := Str.ofString "Die", bases := [(.ref 38)], mro := [(.ref 58), (.ref 38), (.type "Exception"), (.type "BaseException"), (.type "object")], ns := 57, qualname := Str.ofString "Die" }), #[(some (.ref 42)), none, (some (vs "Die" 225)), (some (vs "Die" 233)), (some (.builtin "Exception.__new__")), (some (.bool true))]⟩ : Obj)) ::
  ((nat_lit 66), (⟨(.type "code"), none, (.fields #[(vs "substr_span" 252), (vs "substr_span" 253), (vs "/claim/cut.py" 254), (.int 16 0), (.int 3 0), (.int 0 0), (.int 0 0), (.int 3 0), (.ref 61), (.bool true), (.int 181 0), (.ref 62), .none, (.ref 63), (.ref 64), (.ref 65), (.int 260 0), (.int 16 0), (vs "/claim/cut.py" 261)]), #[]⟩ : Obj)) ::
  ((nat_lit 67), (⟨(.type "function"), none, (.func (fnAt (at0 5) (Str.ofString "substr_span") .none .none .none (vs "perlcore.textops" 250) none (.ref 66) .none)), #[]⟩ : Obj)) ::
  ((nat_lit 73), (⟨(.type "code"), none, (.fields #[(vs "substr_value" 263), (vs "substr_value" 264), (vs "/claim/cut.py" 265), (.int 32 0), (.int 3 0), (.int 0 0), (.int 0 0), (.int 3 0), (.ref 68), (.bool true), (.int 181 0), (.ref 69), .none, (.ref 70), (.ref 71), (.ref 72), (.int 270 0), (.int 32 0), (vs "/claim/cut.py" 271)]), #[]⟩ : Obj)) ::
  ((nat_lit 74), (⟨(.type "function"), none, (.func (fnAt (at0 6) (Str.ofString "substr_value") .none .none .none (vs "perlcore.textops" 250) none (.ref 73) .none)), #[]⟩ : Obj)) ::
  ((nat_lit 80), (⟨(.type "code"), none, (.fields #[(vs "substr_put" 273), (vs "substr_put" 274), (vs "/claim/cut.py" 275), (.int 37 0), (.int 4 0), (.int 0 0), (.int 0 0), (.int 3 0), (.ref 75), (.bool true), (.int 181 0), (.ref 76), .none, (.ref 77), (.ref 78), (.ref 79), (.int 281 0), (.int 37 0), (vs "/claim/cut.py" 282)]), #[]⟩ : Obj)) ::
  ((nat_lit 81), (⟨(.type "function"), none, (.func (fnAt (at0 7) (Str.ofString "substr_put") .none .none .none (vs "perlcore.textops" 250) none (.ref 80) .none)), #[]⟩ : Obj)) ::
  ((nat_lit 87), (⟨(.type "code"), none, (.fields #[(vs "held_within" 284), (vs "held_within" 285), (vs "/claim/cut.py" 286), (.int 42 0), (.int 3 0), (.int 0 0), (.int 0 0), (.int 3 0), (.ref 82), (.bool true), (.int 181 0), (.ref 83), .none, (.ref 84), (.ref 85), (.ref 86), (.int 290 0), (.int 42 0), (vs "/claim/cut.py" 291)]), #[]⟩ : Obj)) ::
  ((nat_lit 88), (⟨(.type "function"), none, (.func (fnAt (at0 8) (Str.ofString "held_within") .none .none .none (vs "perlcore.textops" 250) none (.ref 87) .none)), #[]⟩ : Obj)) ::
  ((nat_lit 94), (⟨(.type "code"), none, (.fields #[(vs "index_text" 293), (vs "index_text" 294), (vs "/claim/cut.py" 295), (.int 44 0), (.int 3 0), (.int 0 0), (.int 0 0), (.int 3 0), (.ref 89), (.bool true), (.int 181 0), (.ref 90), .none, (.ref 91), (.ref 92), (.ref 93), (.int 300 0), (.int 44 0), (vs "/claim/cut.py" 301)]), #[]⟩ : Obj)) ::
  ((nat_lit 95), (⟨(.type "function"), none, (.func (fnAt (at0 9) (Str.ofString "index_text") .none .none .none (vs "perlcore.textops" 250) none (.ref 94) .none)), #[]⟩ : Obj)) ::
  ((nat_lit 101), (⟨(.type "code"), none, (.fields #[(vs "rindex_text" 303), (vs "rindex_text" 304), (vs "/claim/cut.py" 305), (.int 51 0), (.int 3 0), (.int 0 0), (.int 0 0), (.int 3 0), (.ref 96), (.bool true), (.int 181 0), (.ref 97), .none, (.ref 98), (.ref 99), (.ref 100), (.int 311 0), (.int 51 0), (vs "/claim/cut.py" 312)]), #[]⟩ : Obj)) ::
  ((nat_lit 102), (⟨(.type "function"), none, (.func (fnAt (at0 10) (Str.ofString "rindex_text") .none .none .none (vs "perlcore.textops" 250) none (.ref 101) .none)), #[]⟩ : Obj)) ::
  ((nat_lit 122), (⟨(.type "code"), none, (.fields #[(vs "__init__" 342), (vs "Thing.__init__" 343), (vs "/claim/cut.py" 344), (.int 75 0), (.int 2 0), (.int 0 0), (.int 0 0), (.int 3 0), (.ref 117), (.bool true), (.int 181 0), (.ref 118), .none, (.ref 119), (.ref 120), (.ref 121), (.int 347 0), (.int 75 0), (vs "/claim/cut.py" 348)]), #[]⟩ : Obj)) ::
  ((nat_lit 123), (⟨(.type "function"), none, (.func (fnAt (at1 16 0) (Str.ofString "Thing.__init__") .none .none .none (vs "perlcore.values" 326) none (.ref 122) .none)), #[]⟩ : Obj)) ::
  ((nat_lit 125), (⟨(.type "dict"), none, (.dict #[(en P "__module__" 337 (vs "perlcore.values" 326)), (en P "__firstlineno__" 341 (.int 73 340)), (en P "__init__" 349 (.ref 123)), (en P "__static_attributes__" 356 (.ref 124)), (en P "__dict__" 358 (.ref 127)), (en P "__weakref__" 360 (.ref 128)), (en P "__doc__" 361 .none)] 4), #[]⟩ : Obj)) ::
  ((nat_lit 126), (⟨(.type "type"), none, (.cls { name := Str.ofString "Thing", bases := [(.type "object")], mro := [(.ref 126), (.type "object")], ns := 125, qualname := Str.ofString "Thing", subclasses := [(.ref 147), (.ref 166), (.ref 185), (.ref 204), (.ref 223)] }), #[none, none, (some (vs "Thing" 330)), (some (vs "Thing" 338)), (some (.builtin "object.__new__")), (some (.bool true))]⟩ : Obj)) ::
  ((nat_lit 143), (⟨(.type "code"), none, (.fields #[(vs "__init__" 376), (vs "Scalar.__init__" 377), (vs "/claim/cut.py" 378), (.int 84 0), (.int 3 0), (.int 0 0), (.int 0 0), (.int 3 0), (.ref 138), (.bool true), (.int 181 0), (.ref 139), .none, (.ref 140), (.ref 141), (.ref 142), (.int 382 0), (.int 84 0), (vs "/claim/cut.py" 383)]), #[]⟩ : Obj)) ::
  ((nat_lit 144), (⟨(.type "function"), none, (.func (fnAt (at1 17 0) (Str.ofString "Scalar.__init__") .none .none .none (vs "perlcore.values" 326) none (.ref 143) .none)), #[]⟩ : Obj)) ::
  ((nat_lit 146), (⟨(.type "dict"), none, (.dict #[(en P "__module__" 371 (vs "perlcore.values" 326)), (en P "__firstlineno__" 375 (.int 82 374)), (en P "__init__" 384 (.ref 144)), (en P "__static_attributes__" 387 (.ref 145)), (en P "__doc__" 388 .none)] 2), #[]⟩ : Obj)) ::
  ((nat_lit 147), (⟨(.type "type"), none, (.cls { name := Str.ofString "Scalar", bases := [(.ref 126)], mro := [(.ref 147), (.ref 126), (.type "object")], ns := 146, qualname := Str.ofString "Scalar" }), #[(some (.ref 131)), none, (some (vs "Scalar" 364)), (some (vs "Scalar" 372)), (some (.builtin "object.__new__")), (some (.bool true))]⟩ : Obj)) ::
  ((nat_lit 233), (⟨(.type "tuple"), none, (.seq #[(.bool false)] 0), #[]⟩ : Obj)) ::
  ((nat_lit 239), (⟨(.type "code"), none, (.fields #[(vs "__init__" 516), (vs "Ref.__init__" 517), (vs "/claim/cut.py" 518), (.int 120 0), (.int 3 0), (.int 0 0), (.int 0 0), (.int 3 0), (.ref 234), (.bool true), (.int 181 0), (.ref 235), .none, (.ref 236), (.ref 237), (.ref 238), (.int 522 0), (.int 120 0), (vs "/claim/cut.py" 523)]), #[]⟩ : Obj)) ::
  ((nat_lit 240), (⟨(.type "function"), none, (.func (fnAt (at1 22 0) (Str.ofString "Ref.__init__") (.ref 233) .none .none (vs "perlcore.values" 326) none (.ref 239) .none)), #[]⟩ : Obj)) ::
  ((nat_lit 242), (⟨(.type "dict"), none, (.dict #[(en P "__module__" 511 (vs "perlcore.values" 326)), (en P "__firstlineno__" 515 (.int 118 514)), (en P "__init__" 524 (.ref 240)), (en P "__static_attributes__" 527 (.ref 241)), (en P "__dict__" 529 (.ref 244)), (en P "__weakref__" 531 (.ref 245)), (en P "__doc__" 532 .none)] 4), #[]⟩ : Obj)) ::
  ((nat_lit 243), (⟨(.type "type"), none, (.cls { name := Str.ofString "Ref", bases := [(.type "object")], mro := [(.ref 243), (.type "object")], ns := 242, qualname := Str.ofString "Ref" }), #[none, none, (some (vs "Ref" 504)), (some (vs "Ref" 512)), (some (.builtin "object.__new__")), (some (.bool true))]⟩ : Obj)) ::
  ((nat_lit 260), (⟨(.type "code"), none, (.fields #[(vs "__init__" 547), (vs "Heap.__init__" 548), (vs "/claim/cut.py" 549), (.int 125 0), (.int 2 0), (.int 0 0), (.int 0 0), (.int 3 0), (.ref 255), (.bool true), (.int 181 0), (.ref 256), .none, (.ref 257), (.ref 258), (.ref 259), (.int 552 0), (.int 125 0), (vs "/claim/cut.py" 553)]), #[]⟩ : Obj)) ::
  ((nat_lit 261), (⟨(.type "function"), none, (.func (fnAt (at1 23 0) (Str.ofString "Heap.__init__") .none .none .none (vs "perlcore.values" 326) none (.ref 260) .none)), #[]⟩ : Obj)) ::
  ((nat_lit 267), (⟨(.type "code"), none, (.fields #[(vs "next_number" 555), (vs "Heap.next_number" 556), (vs "/claim/cut.py" 557), (.int 130 0), (.int 1 0), (.int 0 0), (.int 0 0), (.int 3 0), (.ref 262), (.bool true), (.int 181 0), (.ref 263), .none, (.ref 264), (.ref 265), (.ref 266), (.int 559 0), (.int 130 0), (vs "/claim/cut.py" 560)]), #[]⟩ : Obj)) ::
  ((nat_lit 268), (⟨(.type "function"), none, (.func (fnAt (at1 23 1) (Str.ofString "Heap.next_number") .none .none .none (vs "perlcore.values" 326) none (.ref 267) .none)), #[]⟩ : Obj)) ::
  ((nat_lit 274), (⟨(.type "code"), none, (.fields #[(vs "new_scalar" 562), (vs "Heap.new_scalar" 563), (vs "/claim/cut.py" 564), (.int 134 0), (.int 2 0), (.int 0 0), (.int 0 0), (.int 3 0), (.ref 269), (.bool true), (.int 181 0), (.ref 270), .none, (.ref 271), (.ref 272), (.ref 273), (.int 567 0), (.int 134 0), (vs "/claim/cut.py" 568)]), #[]⟩ : Obj)) ::
  ((nat_lit 275), (⟨(.type "function"), none, (.func (fnAt (at1 23 2) (Str.ofString "Heap.new_scalar") .none .none .none (vs "perlcore.values" 326) none (.ref 274) .none)), #[]⟩ : Obj)) ::
  ((nat_lit 305), (⟨(.type "dict"), none, (.dict #[(en P "__module__" 542 (vs "perlcore.values" 326)), (en P "__firstlineno__" 546 (.int 123 545)), (en P "__init__" 554 (.ref 261)), (en P "next_number" 561 (.ref 268)), (en P "new_scalar" 569 (.ref 275)), (en P "new_array" 576 (.ref 282)), (en P "new_hash" 583 (.ref 289)), (en P "new_code" 592 (.ref 296)), (en P "new_glob" 600 (.ref 303)), (en P "__static_attributes__" 604 (.ref 304)), (en P "__dict__" 606 (.ref 307)), (en P "__weakref__" 608 (.ref 308)), (en P "__doc__" 609 .none)] 4), #[]⟩ : Obj)) ::
  ((nat_lit 306), (⟨(.type "type"), none, (.cls { name := Str.ofString "Heap", bases := [(.type "object")], mro := [(.ref 306), (.type "object")], ns := 305, qualname := Str.ofString "Heap" }), #[none, none, (some (vs "Heap" 535)), (some (vs "Heap" 543)), (some (.builtin "object.__new__")), (some (.bool true))]⟩ : Obj)) ::
  ((nat_lit 337), (⟨(.type "code"), none, (.fields #[(vs "value_of" 637), (vs "value_of" 638), (vs "/claim/cut.py" 639), (.int 172 0), (.int 1 0), (.int 0 0), (.int 0 0), (.int 3 0), (.ref 332), (.bool true), (.int 181 0), (.ref 333), .none, (.ref 334), (.ref 335), (.ref 336), (.int 641 0), (.int 172 0), (vs "/claim/cut.py" 642)]), #[]⟩ : Obj)) ::
  ((nat_lit 338), (⟨(.type "function"), none, (.func (fnAt (at0 28) (Str.ofString "value_of") .none .none .none (vs "perlcore.convert" 635) none (.ref 337) .none)), #[]⟩ : Obj)) ::
  ((nat_lit 344), (⟨(.type "code"), none, (.fields #[(vs "to_text" 644), (vs "to_text" 645), (vs "/claim/cut.py" 646), (.int 178 0), (.int 1 0), (.int 0 0), (.int 0 0), (.int 3 0), (.ref 339), (.bool true), (.int 181 0), (.ref 340), .none, (.ref 341), (.ref 342), (.ref 343), (.int 648 0), (.int 178 0), (vs "/claim/cut.py" 649)]), #[]⟩ : Obj)) ::
  ((nat_lit 345), (⟨(.type "function"), none, (.func (fnAt (at0 29) (Str.ofString "to_text") .none .none .none (vs "perlcore.convert" 635) none (.ref 344) .none)), #[]⟩ : Obj)) ::
  ((nat_lit 358), (⟨(.type "code"), none, (.fields #[(vs "__init__" 665), (vs "Counter.__init__" 666), (vs "/claim/cut.py" 667), (.int 189 0), (.int 3 0), (.int 0 0), (.int 0 0), (.int 3 0), (.ref 353), (.bool true), (.int 181 0), (.ref 354), .none, (.ref 355), (.ref 356), (.ref 357), (.int 671 0), (.int 189 0), (vs "/claim/cut.py" 672)]), #[]⟩ : Obj)) ::
  ((nat_lit 359), (⟨(.type "function"), none, (.func (fnAt (at1 31 0) (Str.ofString "Counter.__init__") .none .none .none (vs "perlcore.counts" 651) none (.ref 358) .none)), #[]⟩ : Obj)) ::
  ((nat_lit 386), (⟨(.type "code"), none, (.fields #[(vs "take" 698), (vs "Counter.take" 699), (vs "/claim/cut.py" 700), (.int 205 0), (.int 2 0), (.int 0 0), (.int 0 0), (.int 3 0), (.ref 381), (.bool true), (.int 181 0), (.ref 382), .none, (.ref 383), (.ref 384), (.ref 385), (.int 703 0), (.int 205 0), (vs "/claim/cut.py" 704)]), #[]⟩ : Obj)) ::
  ((nat_lit 387), (⟨(.type "function"), none, (.func (fnAt (at1 31 4) (Str.ofString "Counter.take") .none .none .none (vs "perlcore.counts" 651) none (.ref 386) .none)), #[]⟩ : Obj)) ::
  ((nat_lit 391), (⟨(.type "code"), none, (.fields #[(vs "put_off" 706), (vs "Counter.put_off" 707), (vs "/claim/cut.py" 708), (.int 213 0), (.int 3 0), (.int 0 0), (.int 0 0), (.int 3 0), (.ref 388), (.bool true), (.int 181 0), (.ref 389), .none, .none, .none, (.ref 390), (.int 709 0), (.int 213 0), (vs "/claim/cut.py" 710)]), #[]⟩ : Obj)) ::
  ((nat_lit 392), (⟨(.type "function"), none, (.func (fnAt (at1 31 5) (Str.ofString "Counter.put_off") .none .none .none (vs "perlcore.counts" 651) none (.ref 391) .none)), #[]⟩ : Obj)) ::
  ((nat_lit 398), (⟨(.type "code"), none, (.fields #[(vs "store" 712), (vs "Counter.store" 713), (vs "/claim/cut.py" 714), (.int 221 0), (.int 3 0), (.int 0 0), (.int 0 0), (.int 3 0), (.ref 393), (.bool true), (.int 181 0), (.ref 394), .none, (.ref 395), (.ref 396), (.ref 397), (.int 719 0), (.int 221 0), (vs "/claim/cut.py" 720)]), #[]⟩ : Obj)) ::
  ((nat_lit 399), (⟨(.type "function"), none, (.func (fnAt (at1 31 6) (Str.ofString "Counter.store") .none .none .none (vs "perlcore.counts" 651) none (.ref 398) .none)), #[]⟩ : Obj)) ::
  ((nat_lit 405), (⟨(.type "code"), none, (.fields #[(vs "fresh" 722), (vs "Counter.fresh" 723), (vs "/claim/cut.py" 724), (.int 230 0), (.int 2 0), (.int 0 0), (.int 0 0), (.int 3 0), (.ref 400), (.bool true), (.int 181 0), (.ref 401), .none, (.ref 402), (.ref 403), (.ref 404), (.int 728 0), (.int 230 0), (vs "/claim/cut.py" 729)]), #[]⟩ : Obj)) ::
  ((nat_lit 406), (⟨(.type "function"), none, (.func (fnAt (at1 31 7) (Str.ofString "Counter.fresh") .none .none .none (vs "perlcore.counts" 651) none (.ref 405) .none)), #[]⟩ : Obj)) ::
  ((nat_lit 436), (⟨(.type "dict"), none, (.dict #[(en P "__module__" 660 (vs "perlcore.counts" 651)), (en P "__firstlineno__" 664 (.int 187 663)), (en P "__init__" 673 (.ref 359)), (en P "hold" 681 (.ref 366)), (en P "let_go" 689 (.ref 373)), (en P "note" 697 (.ref 380)), (en P "take" 705 (.ref 387)), (en P "put_off" 711 (.ref 392)), (en P "store" 721 (.ref 399)), (en P "fresh" 730 (.ref 406)), (en P "drop" 738 (.ref 413)), (en P "settle" 746 (.ref 420)), (en P "finish" 754 (.ref 427)), (en P "free" 762 (.ref 434)), (en P "__static_attributes__" 766 (.ref 435)), (en P "__dict__" 768 (.ref 438)), (en P "__weakref__" 770 (.ref 439)), (en P "__doc__" 771 .none)] 4), #[]⟩ : Obj)) ::
  ((nat_lit 437), (⟨(.type "type"), none, (.cls { name := Str.ofString "Counter", bases := [(.type "object")], mro := [(.ref 437), (.type "object")], ns := 436, qualname := Str.ofString "Counter" }), #[none, none, (some (vs "Counter" 653)), (some (vs "Counter" 661)), (some (.builtin "object.__new__")), (some (.bool true))]⟩ : Obj)) ::
  ((nat_lit 449), (⟨(.type "tuple"), none, (.seq #[(.int 64 788), (.int 50 789), (.int 1000000 792), (.int 100000 795), (.int 10000 798)] 0), #[]⟩ : Obj)) ::
  ((nat_lit 455), (⟨(.type "code"), none, (.fields #[(vs "__init__" 799), (vs "Limits.__init__" 800), (vs "/claim/cut.py" 801), (.int 249 0), (.int 6 0), (.int 0 0), (.int 0 0), (.int 3 0), (.ref 450), (.bool true), (.int 181 0), (.ref 451), .none, (.ref 452), (.ref 453), (.ref 454), (.int 808 0), (.int 249 0), (vs "/claim/cut.py" 809)]), #[]⟩ : Obj)) ::
  ((nat_lit 456), (⟨(.type "function"), none, (.func (fnAt (at1 33 0) (Str.ofString "Limits.__init__") (.ref 449) .none .none (vs "perlcore.limits" 774) none (.ref 455) .none)), #[]⟩ : Obj)) ::
  ((nat_lit 458), (⟨(.type "dict"), none, (.dict #[(en P "__module__" 783 (vs "perlcore.limits" 774)), (en P "__firstlineno__" 787 (.int 247 786)), (en P "__init__" 810 (.ref 456)), (en P "__static_attributes__" 816 (.ref 457)), (en P "__dict__" 818 (.ref 460)), (en P "__weakref__" 820 (.ref 461)), (en P "__doc__" 821 .none)] 4), #[]⟩ : Obj)) ::
  ((nat_lit 459), (⟨(.type "type"), none, (.cls { name := Str.ofString "Limits", bases := [(.type "object")], mro := [(.ref 459), (.type "object")], ns := 458, qualname := Str.ofString "Limits" }), #[none, none, (some (vs "Limits" 776)), (some (vs "Limits" 784)), (some (.builtin "object.__new__")), (some (.bool true))]⟩ : Obj)) ::
  ((nat_lit 476), (⟨(.type "code"), none, (.fields #[(vs "__init__" 838), (vs "LvText.__init__" 839), (vs "/claim/cut.py" 840), (.int 258 0), (.int 5 0), (.int 0 0), (.int 0 0), (.int 3 0), (.ref 471), (.bool true), (.int 181 0), (.ref 472), .none, (.ref 473), (.ref 474), (.ref 475), (.int 846 0), (.int 258 0), (vs "/claim/cut.py" 847)]), #[]⟩ : Obj)) ::
  ((nat_lit 477), (⟨(.type "function"), none, (.func (fnAt (at1 35 0) (Str.ofString "LvText.__init__") .none .none .none (vs "perlcore.lvalues" 824) none (.ref 476) .none)), #[]⟩ : Obj)) ::
  ((nat_lit 483), (⟨(.type "code"), none, (.fields #[(vs "begin" 849), (vs "LvText.begin" 850), (vs "/claim/cut.py" 851), (.int 265 0), (.int 2 0), (.int 0 0), (.int 0 0), (.int 3 0), (.ref 478), (.bool true), (.int 181 0), (.ref 479), .none, (.ref 480), (.ref 481), (.ref 482), (.int 854 0), (.int 265 0), (vs "/claim/cut.py" 855)]), #[]⟩ : Obj)) ::
  ((nat_lit 484), (⟨(.type "function"), none, (.func (fnAt (at1 35 1) (Str.ofString "LvText.begin") .none .none .none (vs "perlcore.lvalues" 824) none (.ref 483) .none)), #[]⟩ : Obj)) ::
  ((nat_lit 490), (⟨(.type "code"), none, (.fields #[(vs "get" 857), (vs "LvText.get" 858), (vs "/claim/cut.py" 859), (.int 270 0), (.int 1 0), (.int 0 0), (.int 0 0), (.int 3 0), (.ref 485), (.bool true), (.int 181 0), (.ref 486), .none, (.ref 487), (.ref 488), (.ref 489), (.int 862 0), (.int 270 0), (vs "/claim/cut.py" 863)]), #[]⟩ : Obj)) ::
  ((nat_lit 491), (⟨(.type "function"), none, (.func (fnAt (at1 35 2) (Str.ofString "LvText.get") .none .none .none (vs "perlcore.lvalues" 824) none (.ref 490) .none)), #[]⟩ : Obj)) ::
  ((nat_lit 497), (⟨(.type "code"), none, (.fields #[(vs "put" 865), (vs "LvText.put" 866), (vs "/claim/cut.py" 867), (.int 274 0), (.int 2 0), (.int 0 0), (.int 0 0), (.int 3 0), (.ref 492), (.bool true), (.int 181 0), (.ref 493), .none, (.ref 494), (.ref 495), (.ref 496), (.int 874 0), (.int 274 0), (vs "/claim/cut.py" 875)]), #[]⟩ : Obj)) ::
  ((nat_lit 498), (⟨(.type "function"), none, (.func (fnAt (at1 35 3) (Str.ofString "LvText.put") .none .none .none (vs "perlcore.lvalues" 824) none (.ref 497) .none)), #[]⟩ : Obj)) ::
  ((nat_lit 500), (⟨(.type "dict"), none, (.dict #[(en P "__module__" 833 (vs "perlcore.lvalues" 824)), (en P "__firstlineno__" 837 (.int 256 836)), (en P "__init__" 848 (.ref 477)), (en P "begin" 856 (.ref 484)), (en P "get" 864 (.ref 491)), (en P "put" 876 (.ref 498)), (en P "__static_attributes__" 882 (.ref 499)), (en P "__dict__" 884 (.ref 502)), (en P "__weakref__" 886 (.ref 503)), (en P "__doc__" 887 .none)] 4), #[]⟩ : Obj)) ::
  ((nat_lit 501), (⟨(.type "type"), none, (.cls { name := Str.ofString "LvText", bases := [(.type "object")], mro := [(.ref 501), (.type "object")], ns := 500, qualname := Str.ofString "LvText" }), #[none, none, (some (vs "LvText" 826)), (some (vs "LvText" 834)), (some (.builtin "object.__new__")), (some (.bool true))]⟩ : Obj)) ::
  ((nat_lit 511), (⟨(.type "code"), none, (.fields #[(vs "_law_rest" 892), (vs "_law_rest" 893), (vs "/claim/cut.py" 894), (.int 284 0), (.int 0 0), (.int 0 0), (.int 0 0), (.int 3 0), (.ref 506), (.bool true), (.int 181 0), (.ref 507), .none, (.ref 508), (.ref 509), (.ref 510), (.int 895 0), (.int 284 0), (vs "/claim/cut.py" 896)]), #[]⟩ : Obj)) ::
  ((nat_lit 512), (⟨(.type "function"), none, (.func (fnAt (at0 37) (Str.ofString "_law_rest") .none .none .none (vs "law_nz0192_01" 890) none (.ref 511) .none)), #[]⟩ : Obj)) ::
  ((nat_lit 518), (⟨(.type "code"), none, (.fields #[(vs "_law_draw" 898), (vs "_law_draw" 899), (vs "/claim/cut.py" 900), (.int 286 0), (.int 1 0), (.int 0 0), (.int 0 0), (.int 3 0), (.ref 513), (.bool true), (.int 181 0), (.ref 514), .none, (.ref 515), (.ref 516), (.ref 517), (.int 903 0), (.int 286 0), (vs "/claim/cut.py" 904)]), #[]⟩ : Obj)) ::
  ((nat_lit 519), (⟨(.type "function"), none, (.func (fnAt (at0 38) (Str.ofString "_law_draw") .none .none .none (vs "law_nz0192_01" 890) none (.ref 518) .none)), #[]⟩ : Obj)) ::
  ((nat_lit 523), (⟨(.type "code"), none, (.fields #[(vs "_law_word" 906), (vs "_law_word" 907), (vs "/claim/cut.py" 908), (.int 290 0), (.int 2 0), (.int 0 0), (.int 0 0), (.int 3 0), (.ref 520), (.bool true), (.int 181 0), (.ref 521), .none, .none, .none, (.ref 522), (.int 909 0), (.int 290 0), (vs "/claim/cut.py" 910)]), #[]⟩ : Obj)) ::
  ((nat_lit 524), (⟨(.type "function"), none, (.func (fnAt (at0 39) (Str.ofString "_law_word") .none .none .none (vs "law_nz0192_01" 890) none (.ref 523) .none)), #[]⟩ : Obj)) ::
  ((nat_lit 530), (⟨(.type "code"), none, (.fields #[(vs "_law_ends" 912), (vs "_law_ends" 913), (vs "/claim/cut.py" 914), (.int 292 0), (.int 2 0), (.int 0 0), (.int 0 0), (.int 3 0), (.ref 525), (.bool true), (.int 181 0), (.ref 526), .none, (.ref 527), (.ref 528), (.ref 529), (.int 918 0), (.int 292 0), (vs "/claim/cut.py" 919)]), #[]⟩ : Obj)) ::
  ((nat_lit 531), (⟨(.type "function"), none, (.func (fnAt (at0 40) (Str.ofString "_law_ends") .none .none .none (vs "law_nz0192_01" 890) none (.ref 530) .none)), #[]⟩ : Obj)) ::
  ((nat_lit 535), (⟨(.type "code"), none, (.fields #[(vs "_law_part" 921), (vs "_law_part" 922), (vs "/claim/cut.py" 923), (.int 297 0), (.int 2 0), (.int 0 0), (.int 0 0), (.int 3 0), (.ref 532), (.bool true), (.int 181 0), (.ref 533), .none, .none, .none, (.ref 534), (.int 924 0), (.int 297 0), (vs "/claim/cut.py" 925)]), #[]⟩ : Obj)) ::
  ((nat_lit 536), (⟨(.type "function"), none, (.func (fnAt (at0 41) (Str.ofString "_law_part") .none .none .none (vs "law_nz0192_01" 890) none (.ref 535) .none)), #[]⟩ : Obj)) ::
  ((nat_lit 540), (⟨(.type "code"), none, (.fields #[(vs "_law_places" 927), (vs "_law_places" 928), (vs "/claim/cut.py" 929), (.int 302 0), (.int 2 0), (.int 0 0), (.int 0 0), (.int 3 0), (.ref 537), (.bool true), (.int 181 0), (.ref 538), .none, .none, .none, (.ref 539), (.int 930 0), (.int 302 0), (vs "/claim/cut.py" 931)]), #[]⟩ : Obj)) ::
  ((nat_lit 541), (⟨(.type "function"), none, (.func (fnAt (at0 42) (Str.ofString "_law_places") .none .none .none (vs "law_nz0192_01" 890) none (.ref 540) .none)), #[]⟩ : Obj)) ::
  ((nat_lit 547), (⟨(.type "code"), none, (.fields #[(vs "_law_put" 933), (vs "_law_put" 934), (vs "/claim/cut.py" 935), (.int 304 0), (.int 3 0), (.int 0 0), (.int 0 0), (.int 3 0), (.ref 542), (.bool true), (.int 181 0), (.ref 543), .none, (.ref 544), (.ref 545), (.ref 546), (.int 945 0), (.int 304 0), (vs "/claim/cut.py" 946)]), #[]⟩ : Obj)) ::
  ((nat_lit 548), (⟨(.type "function"), none, (.func (fnAt (at0 43) (Str.ofString "_law_put") .none .none .none (vs "law_nz0192_01" 890) none (.ref 547) .none)), #[]⟩ : Obj)) ::
  ((nat_lit 554), (⟨(.type "code"), none, (.fields #[(vs "_law_given" 948), (vs "_law_given" 949), (vs "/claim/cut.py" 950), (.int 315 0), (.int 4 0), (.int 0 0), (.int 0 0), (.int 3 0), (.ref 549), (.bool true), (.int 181 0), (.ref 550), .none, (.ref 551), (.ref 552), (.ref 553), (.int 955 0), (.int 315 0), (vs "/claim/cut.py" 956)]), #[]⟩ : Obj)) ::
  ((nat_lit 555), (⟨(.type "function"), none, (.func (fnAt (at0 44) (Str.ofString "_law_given") .none .none .none (vs "law_nz0192_01" 890) none (.ref 554) .none)), #[]⟩ : Obj)) ::
  ((nat_lit 561), (⟨(.type "code"), none, (.fields #[(vs "_law_set" 958), (vs "_law_set" 959), (vs "/claim/cut.py" 960), (.int 320 0), (.int 2 0), (.int 0 0), (.int 0 0), (.int 3 0), (.ref 556), (.bool true), (.int 181 0), (.ref 557), .none, (.ref 558), (.ref 559), (.ref 560), (.int 963 0), (.int 320 0), (vs "/claim/cut.py" 964)]), #[]⟩ : Obj)) ::
  ((nat_lit 562), (⟨(.type "function"), none, (.func (fnAt (at0 45) (Str.ofString "_law_set") .none .none .none (vs "law_nz0192_01" 890) none (.ref 561) .none)), #[]⟩ : Obj)) ::
  ((nat_lit 566), (⟨(.type "code"), none, (.fields #[(vs "law" 966), (vs "law" 967), (vs "/claim/cut.py" 968), (.int 326 0), (.int 1 0), (.int 0 0), (.int 0 0), (.int 3 0), (.ref 563), (.bool true), (.int 181 0), (.ref 564), .none, .none, .none, (.ref 565), (.int 969 0), (.int 326 0), (vs "/claim/cut.py" 970)]), #[]⟩ : Obj)) ::
  ((nat_lit 567), (⟨(.type "function"), none, (.func (fnAt (at0 46) (Str.ofString "law") .none .none .none (vs "law_nz0192_01" 890) none (.ref 566) .none)), #[]⟩ : Obj)) :: []
noncomputable def kAs : List Addr := (nat_lit 2) :: (nat_lit 3) :: (nat_lit 34) :: (nat_lit 35) :: (nat_lit 37) :: (nat_lit 38) :: (nat_lit 54) :: (nat_lit 55) :: (nat_lit 57) :: (nat_lit 58) :: (nat_lit 66) :: (nat_lit 67) :: (nat_lit 73) :: (nat_lit 74) :: (nat_lit 80) :: (nat_lit 81) :: (nat_lit 87) :: (nat_lit 88) :: (nat_lit 94) :: (nat_lit 95) :: (nat_lit 101) :: (nat_lit 102) :: (nat_lit 122) :: (nat_lit 123) :: (nat_lit 125) :: (nat_lit 126) :: (nat_lit 143) :: (nat_lit 144) :: (nat_lit 146) :: (nat_lit 147) :: (nat_lit 233) :: (nat_lit 239) :: (nat_lit 240) :: (nat_lit 242) :: (nat_lit 243) :: (nat_lit 260) :: (nat_lit 261) :: (nat_lit 267) :: (nat_lit 268) :: (nat_lit 274) :: (nat_lit 275) :: (nat_lit 305) :: (nat_lit 306) :: (nat_lit 337) :: (nat_lit 338) :: (nat_lit 344) :: (nat_lit 345) :: (nat_lit 358) :: (nat_lit 359) :: (nat_lit 386) :: (nat_lit 387) :: (nat_lit 391) :: (nat_lit 392) :: (nat_lit 398) :: (nat_lit 399) :: (nat_lit 405) :: (nat_lit 406) :: (nat_lit 436) :: (nat_lit 437) :: (nat_lit 449) :: (nat_lit 455) :: (nat_lit 456) :: (nat_lit 458) :: (nat_lit 459) :: (nat_lit 476) :: (nat_lit 477) :: (nat_lit 483) :: (nat_lit 484) :: (nat_lit 490) :: (nat_lit 491) :: (nat_lit 497) :: (nat_lit 498) :: (nat_lit 500) :: (nat_lit 501) :: (nat_lit 511) :: (nat_lit 512) :: (nat_lit 518) :: (nat_lit 519) :: (nat_lit 523) :: (nat_lit 524) :: (nat_lit 530) :: (nat_lit 531) :: (nat_lit 535) :: (nat_lit 536) :: (nat_lit 540) :: (nat_lit 541) :: (nat_lit 547) :: (nat_lit 548) :: (nat_lit 554) :: (nat_lit 555) :: (nat_lit 561) :: (nat_lit 562) :: (nat_lit 566) :: (nat_lit 567) :: []
theorem kAs_ok (P : Params) : kAs = (K P).map (·.1) := by rfl
def KFill (K : Params → Frag) (l : OpenLaw) : Prop := ∃ (_ : Params → Frag) (_ : OpenLaw), K = K ∧ l = l
theorem kfill_ok : KFill K PySem.Challenge.rw_nz0192_01 := ⟨K, PySem.Challenge.rw_nz0192_01, rfl, rfl⟩
end

abbrev Led := List (Addr × Obj)
/-- a contract: a call of f upon vs over the ledger news comes back, and Out tells what it gives and how the ledger stands behind it -/
noncomputable def Tel (f : Addr) (dd du : Nat) (vs : List Value) (news : Led) (Out : Value → Led → Prop) : Prop :=
  ∀ (prog : Program) (w : World) (p : Program) (loose : List Str) (mean : ExcName → Option Value) (mg mb : Str → Option Value) (dp un : Nat) (gd : Option (List Code)) (cn : Str) (cs : Scope) (a : Addr) (ccd : Value) (cl : List (Str × Addr)) (outer : List Env) (A₀ : Around) (base h₀ : Heap) (L : Addr) (m : Str → Option Value) (s : Shared) (Q E : Value → Shared → Prop),
    Below A₀ base outer h₀ → Fr h₀ L s.heap m → (K w.params).In h₀ → News h₀ L s.heap news → Top p loose mean mg mb h₀ → cs.kind = .function →
    dp + dd < recursionLimit → un + du < cLine →
    (∀ (r : Value) (news' : Led) (h' : Heap) (tk' : Nat), Fr h₀ L h' m → News h₀ L h' news' → Out r news' → Q r { s with heap := h', toks := tk' }) →
    wpAny (model prog w) (ktrTop dp un gd cn cs L a ccd cl outer) (call (.ref f) vs) Q E s
abbrev lst (vs : List Value) (n : Nat) : Obj := { cls := .type "list", data := .seq vs.toArray n }
abbrev tup (vs : List Value) : Obj := { cls := .type "tuple", data := .seq vs.toArray }
theorem tel_use {f : Addr} {dd du : Nat} {vs : List Value} {news : Led} {Out : Value → Led → Prop} (C : Tel f dd du vs news Out)
    {prog : Program} {w : World} {p : Program} {loose : List Str} {mean : ExcName → Option Value} {mg mb : Str → Option Value} {dp un : Nat} {gd : Option (List Code)} {cn : Str} {cs : Scope} {a : Addr} {ccd : Value} {cl : List (Str × Addr)} {outer : List Env} {A₀ : Around} {base h₀ : Heap} {L : Addr} {m : Str → Option Value} {s : Shared} {Q E : Value → Shared → Prop}
    (B : Below A₀ base outer h₀) (F : Fr h₀ L s.heap m) (X : (K w.params).In h₀) (N : News h₀ L s.heap news) (T : Top p loose mean mg mb h₀) (hk : cs.kind = .function) (hd : dp + dd < recursionLimit) (hu : un + du < cLine)
    (ret : ∀ (r : Value) (news' : Led) (h' : Heap) (tk' : Nat), Fr h₀ L h' m → News h₀ L h' news' → Out r news' → Q r { s with heap := h', toks := tk' }) :
    wpAny (model prog w) (ktrTop dp un gd cn cs L a ccd cl outer) (call (.ref f) vs) Q E s := C prog w p loose mean mg mb dp un gd cn cs a ccd cl outer A₀ base h₀ L m s Q E B F X N T hk hd hu ret
theorem ne_of_all {news : Led} {D c : Nat} (h : ∀ p ∈ news, p.1 < D) (hc : D ≤ c) : ∀ p ∈ news, p.1 ≠ c := fun p hp => Nat.ne_of_lt (Nat.lt_of_lt_of_le (h p hp) hc)
theorem ne_of_allLt {news : Led} {D c : Nat} (h : AllLt D news) (hc : D ≤ c) : ∀ p ∈ news, p.1 ≠ c := fun p hp => Nat.ne_of_lt (Nat.lt_of_lt_of_le (ktn_ltOf h p hp) hc)
theorem news_sub {h₀ h : Heap} {L : Addr} {nw nw' : Led} (N : News h₀ L h nw) (hs : ∀ q ∈ nw', q ∈ nw) : News h₀ L h nw' := fun q hq => N q (hs q hq)
theorem news_keep {h₀ h : Heap} {L d : Addr} {o : Obj} {nw nw' : Led} (N : News h₀ L h ((d, o) :: nw)) (hs : ∀ q ∈ nw', q ∈ nw) : News h₀ L h ((d, o) :: nw') := news_sub N fun q hq => by
  rcases List.mem_cons.mp hq with rfl | hq
  · exact List.mem_cons_self
  · exact List.mem_cons_of_mem _ (hs q hq)
theorem led_lt {h₀ h : Heap} {L : Addr} {nw nw' : Led} (N : News h₀ L h nw) (hs : ∀ q ∈ nw', q ∈ nw) : ∀ q ∈ nw', q.1 < h.objs.size := fun q hq => Heap.lt_size (N q (hs q hq)).1
theorem news_keep2 {h₀ h : Heap} {L d e : Addr} {o u : Obj} {nw nw' : Led} (N : News h₀ L h ((d, o) :: (e, u) :: nw)) (hs : ∀ q ∈ nw', q ∈ nw) : News h₀ L h ((d, o) :: (e, u) :: nw') := news_keep N fun q hq => by
  rcases List.mem_cons.mp hq with rfl | hq
  · exact List.mem_cons_self
  · exact List.mem_cons_of_mem _ (hs q hq)
theorem mem_nil_all {nw : Led} : ∀ q ∈ ([] : Led), q ∈ nw := fun _ h => nomatch h
theorem mem_cons_all {nw l : Led} {x : Addr × Obj} (h : x ∈ nw) (hl : ∀ q ∈ l, q ∈ nw) : ∀ q ∈ x :: l, q ∈ nw := fun q hq => by
  rcases List.mem_cons.mp hq with rfl | hq
  · exact h
  · exact hl q hq
/-- two addresses that differ, said so that no arithmetic looks at it -/
def Apart (a b : Addr) : Prop := a ≠ b
theorem Apart.ne {a b : Addr} (h : Apart a b) : a ≠ b := h
theorem Apart.lt {a b : Addr} (h : @LT.lt Nat _ a b) : Apart a b := Nat.ne_of_lt h
theorem Apart.gt {a b : Addr} (h : @LT.lt Nat _ b a) : Apart a b := Nat.ne_of_gt h
theorem Apart.td {a b c I : Addr} (h : @LT.lt Nat _ a b ∨ @LT.lt Nat _ I a) (hb : @LT.lt Nat _ b c) (hI : @LT.lt Nat _ c I) : Apart a c := h.elim (fun h => Nat.ne_of_lt (Nat.lt_trans h hb)) (fun h => Nat.ne_of_gt (Nat.lt_trans hI h))

local macro_rules | `(tactic| walk_at $s:str) => `(tactic| k_extra $s)
set_option maxRecDepth 100000
example : KFill K PySem.Challenge.rw_nz0192_01 := by
  k_fill
  exact kfill_ok
local macro_rules | `(tactic| k_room) => `(tactic| ktr_room)
local macro_rules | `(tactic| k_units) => `(tactic| ktr_units)
local macro_rules | `(tactic| k_all) => `(tactic| (rename AllLt _ _ => hX9; first | exact ne_of_allLt hX9 (by omega) | (clear hX9; k_all)))
local macro_rules | `(tactic| k_all) => `(tactic| (rename (∀ p : Addr × Obj, p ∈ _ → p.1 < _) => hX9; first | exact ne_of_all hX9 (by omega) | (clear hX9; k_all)))
local macro_rules | `(tactic| k_all) => `(tactic| assumption)
local macro_rules | `(tactic| k_mem) => `(tactic| first | exact List.Mem.head _ | assumption | (refine List.mem_cons_of_mem _ ?_; k_mem))
local macro_rules | `(tactic| is_list) => `(tactic| exact News.isList (by k_asm) (by k_mem))
local macro_rules | `(tactic| k_handed) => `(tactic| assumption)
local macro_rules | `(tactic| k_ne) => `(tactic| (refine Apart.ne ?_; with_reducible assumption))

example : True := by
  k_with "enter_cells" => (refine' code_defC (by k_asm) (by k_asm) (by k_asm) (by k_asm) (by k_asm) (by exact rfl) (by exact rfl) (by assumption) (by k_is) (by k_is) (by ktr_room) (by exact BindsTo.of_eq rfl) (by exact rfl) (by decide +kernel) ?_ (by exact rfl) (by exact rfl) (by exact rfl); k_whole; intro g' L' h' tk' cells' FG' F' N' Y' B' X' T' l1; (try k_lt l1); k_cells Y'; (try simp only [List.cons_append, List.nil_append] at N'); (try dsimp only); (try k_lift B'); (try k_fold))
  k_with "eval ListComp" => (k_here; first | ((with_reducible show wpAny _ _ (eval (PySem.Expr.ListComp _ [PySem.Comprehension.mk _ _ [_] _] _ _) _) _ _ _); k_dflt (refine LCt.ListComp_T (F₀ := by k_asm) (by with_unfolding_all rfl) (by decide) (by rfl) (by decide) (by rfl) ?_)) | ((with_reducible show wpAny _ _ (eval (PySem.Expr.ListComp _ [PySem.Comprehension.mk _ _ [] _] _ _) _) _ _ _); k_dflt (refine LCg.ListComp_U (F₀ := by k_asm) (by with_unfolding_all rfl) (by decide) (by rfl) (by decide) (by rfl) ?_)))
  k_with "is_comp" => first | (with_reducible refine' LCt.CompSrcT.range ?_ ?_ ?_ ?_ ?_ ?_ ?_ ?_) | (with_reducible refine' LCg.CompSrc.range ?_ ?_ ?_ ?_ ?_ ?_ ?_ ?_) | (with_reducible refine' LCt.CompSrcT.ledger ?_ ?_ ?_ ?_ ?_ ?_) | (with_reducible refine' LCg.CompSrc.ledger ?_ ?_ ?_ ?_ ?_ ?_)
  k_with "to_comp" => repeat' (first | ((fail_if_success (walk_at "is_comp")); first | (k_unfold; (try dsimp only)) | (k_end; wrow_close) | walk1 | (dsimp only; walk1) | (leave1; try dsimp only)))
  k_with "comp_range" => first | (refine' LCt.CompSrcT.range (by exact rfl) (by k_asm) (by k_asm) (by assumption) (by exact small_one (by omega) (by omega) (by omega) (by omega)) (by first | exact rangeSize_nat _ _ | rfl) (by rw [PySem.sizeLine_eq]; omega) ?_; intro g') | (refine' LCg.CompSrc.range (by exact rfl) (by k_asm) (by k_asm) (by assumption) (by exact small_one (by omega) (by omega) (by omega) (by omega)) (by first | exact rangeSize_nat _ _ | rfl) (by rw [PySem.sizeLine_eq]; omega) ?_; intro g')
  k_with "mem_tail" => (intro q9 hq9; repeat' (first | with_reducible exact hq9 | refine List.mem_cons_of_mem _ ?_))
  k_with "news_sub" => first | k_asm | (refine news_sub (by k_asm) ?_; walk_at "mem_tail")
  k_with "led_lt" => first | assumption | (refine led_lt (by k_asm) ?_; walk_at "mem_tail") | ((with_reducible rename AllLt _ _ => ql9); exact ktn_ltOf ql9) | ((with_reducible rename _ ∧ AllLt _ _ => ql9); exact ktn_ltOf ql9.2) | ((with_reducible rename _ ∧ _ ∧ AllLt _ _ => ql9); exact ktn_ltOf ql9.2.2)
  k_with "mem_at" => first | exact List.Mem.head _ | (refine List.Mem.tail _ ?_; walk_at "mem_at")
  k_with "mem_any" => first | exact mem_nil_all | exact fun _ h => h | (refine mem_cons_all (by walk_at "mem_at") (by walk_at "mem_any")) | (walk_at "mem_tail")
  k_with "to_while" => repeat' (first | ((fail_if_success (with_reducible show wpAny _ _ (exec (Stmt.While _ _ _ _) _) _ _ _)); first | (k_unfold; (try dsimp only)) | (k_end; wrow_close) | walk1 | (dsimp only; walk1) | (leave1; try dsimp only)))
  k_with "ne9" => first | assumption | exact Nat.ne_of_lt (by omega) | exact Nat.ne_of_gt (by omega) | k_ne
  k_with "enter_n" => (refine' code_def (by k_asm) (by k_asm) (by k_asm) (by k_asm) (by k_asm) (by exact rfl) (by exact rfl) (by first | exact rfl | assumption) (by k_is) (by k_is) (by ktr_room) (by first | exact BindsTo.of_eq rfl | exact binds_K (by k_in) rfl (by k_is) rfl rfl rfl) (by exact locs rfl) ?_ (by exact rfl) (by exact rfl) (by exact rfl) (by decide); k_whole)
  k_with "enter_y" => (walk_at "enter_n"; intro g' L' h' FG' F' N' B' X' T'; (try dsimp only); (try k_lift B'); (try k_fold))
  trivial
section
open PySem.Builtin PySem.Builtin.Str PyProof in
theorem indices_clip {n : Nat} {i j : Int} (hi : 0 ≤ i) (hj : 0 ≤ j) : strSliceIndices (some i) (some j) 1 n = strSliceIndices (some (min i n)) (some (max (min i n) (min j n))) 1 n := by
  have h2 : (1 : Int) > 0 := by decide
  have hn : 0 ≤ (n : Int) := Int.natCast_nonneg n
  have b3 : 0 ≤ min i (n : Int) := Int.le_min.mpr ⟨hi, hn⟩
  have b4 : 0 ≤ min j (n : Int) := Int.le_min.mpr ⟨hj, hn⟩
  have b5 : 0 ≤ max (min i (n : Int)) (min j n) := Int.le_trans b3 (Int.le_max_left _ _)
  have a1 : ¬ i < 0 := Int.not_lt.mpr hi
  have a2 : ¬ j < 0 := Int.not_lt.mpr hj
  have a3 : ¬ (min i (n : Int)) < 0 := Int.not_lt.mpr b3
  have a4 : ¬ (max (min i (n : Int)) (min j n)) < 0 := Int.not_lt.mpr b5
  simp only [strSliceIndices, a1, a2, a3, a4, h2, if_false, if_true, sliceRange, Int.ediv_one]
  have e1 : max 0 (min i (n : Int)) = min i n := Int.max_eq_right b3
  have e2 : max 0 (min (min i (n : Int)) n) = min i n := by rw [Int.min_eq_left (Int.min_le_right i n)]; exact e1
  have e3 : max 0 (min (max (min i (n : Int)) (min j n)) n) = max (min i n) (min j n) := by
    rw [Int.min_eq_left (Int.max_le.mpr ⟨Int.min_le_right i n, Int.min_le_right j n⟩)]; exact Int.max_eq_right b5
  have e4 : max 0 (min j (n : Int)) = min j n := Int.max_eq_right b4
  rw [e1, e2, e3, e4]
  by_cases h : min i (n : Int) < min j n
  · rw [if_pos h, if_pos (Int.lt_of_lt_of_le h (Int.le_max_right _ _))]
    have e5 : max (min i (n : Int)) (min j n) = min j n := Int.max_eq_right (Int.le_of_lt h)
    rw [e5]
  · rw [if_neg h, if_neg (Int.not_lt.mpr (Int.max_le.mpr ⟨Int.le_refl _, Int.not_lt.mp h⟩))]
/-- the part of a text between two places -/
noncomputable def subS (x : Str) (b e : Nat) : Str := ⟨((x.cps.toList.drop b).take (e - b)).toArray⟩
theorem slice_val {x : Str} {i j : Int} (hi : 0 ≤ i) (hj : 0 ≤ j) : Txt.slice x (some i) (some j) = subS x i.toNat j.toNat := by
  have hl : x.length = x.cps.toList.length := by simp [PySem.Str.length]
  have e1 : Txt.slice x (some i) (some j) = Txt.slice x (some (min i (x.length : Int))) (some (max (min i (x.length : Int)) (min j x.length))) := by
    unfold Txt.slice
    rw [indices_clip hi hj]
  rw [e1, beq_iff_eq.mp (slice_closes (x := x) (i := min i (x.length : Int)) (j := max (min i (x.length : Int)) (min j x.length)) (by rw [← hl]; exact ⟨Int.le_min.mpr ⟨hi, Int.natCast_nonneg _⟩, Int.le_max_left _ _, Int.max_le.mpr ⟨Int.min_le_right _ _, Int.min_le_right _ _⟩⟩))]
  unfold subS
  congr 2
  generalize hc : x.cps.toList = l at *
  by_cases h : i.toNat ≤ l.length
  · clear e1
    rw [hl]
    have q1 : min i (l.length : Int) = i := Int.min_eq_left (by omega)
    rw [q1]
    by_cases h3 : j.toNat ≤ l.length
    · have q2 : min j (l.length : Int) = j := Int.min_eq_left (by omega)
      rw [q2]
      congr 1; clear h h3 q1 q2 hl; omega
    · have q2 : min j (l.length : Int) = l.length := Int.min_eq_right (by omega)
      rw [q2, Int.max_eq_right (by omega), List.take_of_length_le (by rw [List.length_drop]; clear q1 q2 hl h3; omega), List.take_of_length_le (by rw [List.length_drop]; clear q1 q2 hl; omega)]
  · rw [List.drop_of_length_le (by omega), List.drop_of_length_le (by omega)]
    simp
theorem slice_val_to {x : Str} {j : Int} (hj : 0 ≤ j) (h : j ≤ x.length) : Txt.slice x none (some j) = subS x 0 j.toNat := by
  have hl : x.length = x.cps.toList.length := by simp [PySem.Str.length]
  rw [beq_iff_eq.mp (slice_closes_to (x := x) (j := j) (by omega))]
  unfold subS
  simp
theorem slice_val_from {x : Str} {i : Int} (hi : 0 ≤ i) (h : i ≤ x.length) : Txt.slice x (some i) none = subS x i.toNat x.length := by
  have hl : x.length = x.cps.toList.length := by simp [PySem.Str.length]
  rw [slice_from_eq (b := (x.length : Int)) hi h rfl]
  unfold subS
  congr 3
  omega
theorem subS_length (x : Str) (b e : Nat) : (subS x b e).length = min (e - b) (x.length - b) := by
  simp [subS, PySem.Str.length]
abbrev chr (c : Nat) : Str := ⟨#[c]⟩
theorem join_fold (cs : List Nat) : ∀ acc : Array Nat, (cs.map chr).foldl (fun acc p => acc ++ (Str.ofString "").cps ++ p.cps) acc = acc ++ cs.toArray := by
  have e0 : (Str.ofString "").cps = #[] := by decide +kernel
  rw [e0]
  induction cs with
  | nil => intro acc; simp
  | cons c r ih => intro acc; rw [List.map_cons, List.foldl_cons, ih]; simp
theorem join_chars (cs : List Nat) : Txt.join (Str.ofString "") (cs.map chr) = ⟨cs.toArray⟩ := by
  show PySem.Builtin.Str.glued _ _ = _
  unfold PySem.Builtin.Str.glued
  cases cs with
  | nil => rfl
  | cons c r =>
    rw [List.map_cons, List.drop_one, List.tail_cons, List.headD_cons, join_fold]
    simp [chr]
theorem item_val {x : Str} {i : Int} (h0 : 0 ≤ i) (h : i < x.length) : Txt.item x i = chr (x.cps.toList.getD i.toNat 0) := by
  have hl : x.length = x.cps.size := rfl
  have hi : i.toNat < x.cps.size := by omega
  refine item_meets (n := x.cps.toList.getD i.toNat 0) h0 ?_
  simp [List.getD, hi]
/-- the signs whose places lie from B on and ahead of e, among the first i -/
noncomputable def pickC (l : List Nat) (B e : Int) : Nat → List Nat
  | 0 => []
  | i + 1 => if B ≤ (i : Int) ∧ (i : Int) < e then pickC l B e i ++ [l.getD i 0] else pickC l B e i
theorem pickC_eq (l : List Nat) (B e : Int) : ∀ i, i ≤ l.length → pickC l B e i = (l.take (min i (max e 0).toNat)).drop (max B 0).toNat := by
  intro i
  induction i with
  | zero => intro _; simp [pickC]
  | succ i ih =>
    intro hi
    have ih := ih (by omega)
    have hlt : i < l.length := by omega
    by_cases he : (i : Int) < e
    · have e1 : min (i + 1) (max e 0).toNat = i + 1 := by omega
      have e2 : min i (max e 0).toNat = i := by omega
      rw [e2] at ih
      rw [e1, List.take_add_one, List.getElem?_eq_getElem hlt]
      by_cases hB : B ≤ (i : Int)
      · rw [pickC, if_pos ⟨hB, he⟩, ih, List.drop_append_of_le_length (by rw [List.length_take]; omega)]
        simp [List.getD, hlt]
      · rw [pickC, if_neg (by omega), ih, List.drop_of_length_le (by rw [List.length_take]; omega), List.drop_of_length_le (by simp; omega)]
    · have e1 : min (i + 1) (max e 0).toNat = min i (max e 0).toNat := by omega
      rw [e1, pickC, if_neg (by omega), ih]
theorem pick_sub (x : Str) (B e : Int) : (⟨(pickC x.cps.toList B e x.length).toArray⟩ : Str) = subS x (max B 0).toNat (min (max e (max B 0)) x.length).toNat := by
  have hl : x.length = x.cps.toList.length := by simp [PySem.Str.length]
  rw [pickC_eq _ _ _ _ (Nat.le_of_eq hl)]
  have hb : 0 ≤ max B 0 := Int.le_max_right _ _
  generalize max B 0 = b at *
  unfold subS
  congr 2
  rw [List.drop_take]
  generalize hc : x.cps.toList = l at *
  by_cases h : b.toNat ≤ l.length
  · congr 1
    clear hc
    by_cases he : e ≤ b
    · rw [Int.max_eq_right he, Nat.sub_eq_zero_of_le (Nat.le_trans (Nat.min_le_right _ _) (Int.toNat_le_toNat (Int.max_le.mpr ⟨he, hb⟩))), Nat.sub_eq_zero_of_le (Int.toNat_le_toNat (Int.min_le_left _ _))]
    · rw [Int.max_eq_left (by omega), Int.max_eq_left (by omega)]; congr 1; clear h hb he; omega
  · rw [List.drop_of_length_le (by omega)]; simp
theorem carried_snoc {ys : List Value} {cs : List Nat} {c : Nat} {t : Tok} (h : CarriedAll ys (cs.map fun c => PyData.str (chr c))) : CarriedAll (ys ++ [.str (chr c) t]) ((cs ++ [c]).map fun c => PyData.str (chr c)) := by
  rw [List.map_append]
  exact CarriedAll.snoc h (.str _ _)
theorem pickC_len (l : List Nat) (B e : Int) : ∀ i, (pickC l B e i).length ≤ i := by
  intro i
  induction i with
  | zero => exact Nat.le_refl _
  | succ i ih =>
    rw [pickC]
    split
    · rw [List.length_append, List.length_singleton]; omega
    · omega

end
section
section
variable {prog : Program} {w : World} {A : Around} {h₀ : Heap} {L : Addr} {m : Str → Option Value} {env : Env} {ct elt : PySem.Expr} {x : Str} {scope : Scope} {cl : List (Str × Addr)} {s : Shared} {S : Led → Prop} {P : Nat → Value → Prop} {Fin : List Value → Led → Prop} {news : Led}
theorem comp_restT {n : Nat} (J : Nat → List Value → Led → Prop) (j0 : J 0 [] news)
    (turn : ∀ i v I oI C oC D m₂ ys nw h tk (E' : Value → Shared → Prop), i < n → P i v → J i ys nw → LCg.NsObj oC m₂ → m₂ x = some v → Fr h₀ L h m → News h₀ L h ((I, oI) :: (C, oC) :: (D, LCg.lst ys) :: nw) → LCg.Off3 I C D nw → ((@Ne Nat I C) ∧ (@Ne Nat I D) ∧ (@Ne Nat C D)) →
      wpAny (model prog w) A (isTrue ct (compEnvC scope cl C env) (eval ct (compEnvC scope cl C env))) (fun b s' => if b = true then wpAny (model prog w) A (eval elt (compEnvC scope cl C env)) (LCg.CompEnd h₀ L m { s with heap := h, toks := tk } I oI C oC D (LCg.lst ys) S (fun y nw' => J (i + 1) (ys ++ [y]) nw')) E' s'
        else LCg.CompEnd h₀ L m { s with heap := h, toks := tk } I oI C oC D (LCg.lst ys) S (fun _ nw' => J (i + 1) ys nw') Value.none s') E' { s with heap := h, toks := tk })
    (fin : ∀ ys nw, J n ys nw → Fin ys nw) : LCt.CompRestT prog w A h₀ L m env ct elt x scope cl s S P Fin n 0 [] news := by
  have key : ∀ (j i : Nat) (ys : List Value) (nw : Led), i + j = n → J i ys nw → LCt.CompRestT prog w A h₀ L m env ct elt x scope cl s S P Fin j i ys nw := by
    intro j
    induction j with
    | zero => intro i ys nw hi hJ; exact LCt.CompRestT.zero (fin ys nw (by rw [← hi]; exact hJ))
    | succ j ih =>
      intro i ys nw hi hJ
      refine LCt.CompRestT.succ ?_
      intro v I oI C oC D m₂ h tk E' hv hC hx F N off ne
      refine wpAny_mono (turn i v I oI C oC D m₂ ys nw h tk E' (by omega) hv hJ hC hx F N off ne) (fun b s₂ hq => ?_) fun _ _ e => e
      cases b with
      | true =>
        simp only [if_true] at hq ⊢
        refine wpAny_mono hq (fun y s₃ hr => ?_) fun _ _ e => e
        obtain ⟨h', tk', nw', e, F', N', off', hS, hn⟩ := hr
        exact ⟨h', tk', nw', e, F', N', off', hS, ih (i + 1) _ _ (by omega) hn⟩
      | false =>
        simp only [Bool.false_eq_true, if_false] at hq ⊢
        obtain ⟨h', tk', nw', e, F', N', off', hS, hn⟩ := hq
        exact ⟨h', tk', nw', e, F', N', off', hS, ih (i + 1) _ _ (by omega) hn⟩
  exact key n 0 [] news (by omega) j0
theorem comp_restT_same {n : Nat} (J : Nat → List Value → Prop) (j0 : J 0 [])
    (turn : ∀ i v I oI C oC D m₂ ys h tk (E' : Value → Shared → Prop), i < n → P i v → J i ys → LCg.NsObj oC m₂ → m₂ x = some v → Fr h₀ L h m → News h₀ L h ((I, oI) :: (C, oC) :: (D, LCg.lst ys) :: news) → LCg.Off3 I C D news → ((@Ne Nat I C) ∧ (@Ne Nat I D) ∧ (@Ne Nat C D)) →
      wpAny (model prog w) A (isTrue ct (compEnvC scope cl C env) (eval ct (compEnvC scope cl C env))) (fun b s' => if b = true then wpAny (model prog w) A (eval elt (compEnvC scope cl C env)) (LCg.CompEnd h₀ L m { s with heap := h, toks := tk } I oI C oC D (LCg.lst ys) S (fun y nw' => nw' = news ∧ J (i + 1) (ys ++ [y]))) E' s'
        else LCg.CompEnd h₀ L m { s with heap := h, toks := tk } I oI C oC D (LCg.lst ys) S (fun _ nw' => nw' = news ∧ J (i + 1) ys) Value.none s') E' { s with heap := h, toks := tk })
    (fin : ∀ ys, J n ys → Fin ys news) : LCt.CompRestT prog w A h₀ L m env ct elt x scope cl s S P Fin n 0 [] news := by
  refine comp_restT (fun i ys nw => nw = news ∧ J i ys) ⟨rfl, j0⟩ ?_ (fun ys nw h => by rw [h.1]; exact fin ys h.2)
  intro i v I oI C oC D m₂ ys nw h tk E' hi hP hJ hC hx F N off ne
  obtain ⟨rfl, hJ⟩ := hJ
  exact turn i v I oI C oC D m₂ ys h tk E' hi hP hJ hC hx F N off ne
theorem comp_rest {n : Nat} (J : Nat → List Value → Led → Prop) (j0 : J 0 [] news)
    (turn : ∀ i v I oI C oC D m₂ ys nw h tk (E' : Value → Shared → Prop), i < n → P i v → J i ys nw → LCg.NsObj oC m₂ → m₂ x = some v → Fr h₀ L h m → News h₀ L h ((I, oI) :: (C, oC) :: (D, LCg.lst ys) :: nw) → LCg.Off3 I C D nw → ((@Ne Nat I C) ∧ (@Ne Nat I D) ∧ (@Ne Nat C D)) →
      wpAny (model prog w) A (eval elt (compEnvC scope cl C env)) (LCg.CompEnd h₀ L m { s with heap := h, toks := tk } I oI C oC D (LCg.lst ys) S (fun y nw' => J (i + 1) (ys ++ [y]) nw')) E' { s with heap := h, toks := tk })
    (fin : ∀ ys nw, J n ys nw → Fin ys nw) : LCg.CompRest prog w A h₀ L m env elt x scope cl s S P Fin n 0 [] news := by
  have key : ∀ (j i : Nat) (ys : List Value) (nw : Led), i + j = n → J i ys nw → LCg.CompRest prog w A h₀ L m env elt x scope cl s S P Fin j i ys nw := by
    intro j
    induction j with
    | zero => intro i ys nw hi hJ; exact LCg.CompRest.zero (fin ys nw (by rw [← hi]; exact hJ))
    | succ j ih =>
      intro i ys nw hi hJ
      refine LCg.CompRest.succ ?_
      intro v I oI C oC D m₂ h tk E' hv hC hx F N off ne
      refine wpAny_mono (turn i v I oI C oC D m₂ ys nw h tk E' (by omega) hv hJ hC hx F N off ne) (fun y s₃ hr => ?_) fun _ _ e => e
      obtain ⟨h', tk', nw', e, F', N', off', hS, hn⟩ := hr
      exact ⟨h', tk', nw', e, F', N', off', hS, ih (i + 1) _ _ (by omega) hn⟩
  exact key n 0 [] news (by omega) j0
theorem comp_rest_led {n : Nat} {c0 : Addr × Obj} (led : Nat → Tok → Nat → Led) {t0 : Tok} {n0 : Nat} (hnews : news = c0 :: led 0 t0 n0)
    (turn : ∀ j v I oI C oC D m₂ ys (cs : List Nat) t1 n1 h tk (E' : Value → Shared → Prop), j < n → P j v → CarriedAll ys (cs.map fun c => PyData.str (chr c)) → cs.length = j → LCg.NsObj oC m₂ → m₂ x = some v → Fr h₀ L h m → News h₀ L h ((I, oI) :: (C, oC) :: (D, LCg.lst ys) :: c0 :: led j t1 n1) → LCg.Off3 I C D (c0 :: led j t1 n1) → ((@Ne Nat I C) ∧ (@Ne Nat I D) ∧ (@Ne Nat C D)) →
      wpAny (model prog w) A (eval elt (compEnvC scope cl C env)) (LCg.CompEnd h₀ L m { s with heap := h, toks := tk } I oI C oC D (LCg.lst ys) S (fun y nw' => ∃ c t2 n2 tt, nw' = c0 :: led (j + 1) t2 n2 ∧ y = .str (chr c) tt ∧ c < 1114112)) E' { s with heap := h, toks := tk })
    (fin : ∀ ys (cs : List Nat) t1 n1, CarriedAll ys (cs.map fun c => PyData.str (chr c)) → cs.length = n → (∀ c ∈ cs, c < 1114112) → Fin ys (c0 :: led n t1 n1)) : LCg.CompRest prog w A h₀ L m env elt x scope cl s S P Fin n 0 [] news := by
  refine comp_rest (fun j ys nw => ∃ (cs : List Nat) (t1 : Tok) (n1 : Nat), nw = c0 :: led j t1 n1 ∧ CarriedAll ys (cs.map fun c => PyData.str (chr c)) ∧ cs.length = j ∧ (∀ c ∈ cs, c < 1114112)) ⟨[], t0, n0, hnews, .nil, rfl, fun _ h => nomatch h⟩ ?_ (fun ys nw h => by
    obtain ⟨cs, t1, n1, rfl, hc, hl, hk⟩ := h
    exact fin ys cs t1 n1 hc hl hk)
  intro j v I oI C oC D m₂ ys nw h tk E' hj hP hJ hC hx F N off ne
  obtain ⟨cs, t1, n1, rfl, hc, hl, hk⟩ := hJ
  refine wpAny_mono (turn j v I oI C oC D m₂ ys cs t1 n1 h tk E' hj hP hc hl hC hx F N off ne) (fun y s₂ hr => ?_) fun _ _ e => e
  obtain ⟨h', tk', nw', e, F', N', off', hS, c, t2, n2, tt, hnw, rfl, hcl⟩ := hr
  refine ⟨h', tk', nw', e, F', N', off', hS, cs ++ [c], t2, n2, hnw, carried_snoc hc, by rw [List.length_append, hl]; rfl, fun q hq => ?_⟩
  rcases List.mem_append.mp hq with hq | hq
  · exact hk q hq
  · rw [List.mem_singleton.mp hq]; exact hcl
end
theorem join_chrs {prog : Program} {w : World} {A : Around} {E : Value → Shared → Prop} {s : Shared} {t : Tok} {Q : Value → Shared → Prop} {D : Addr} {ys : List Value} {cs : List Nat} (hl : s.heap.IsList D ys.toArray) (hc : CarriedAll ys (cs.map fun c => PyData.str (chr c))) (hn : cs.length ≤ 1000)
    (h : ∀ t' k, Q (.str ⟨cs.toArray⟩ t') { s with toks := k }) : wpAny (model prog w) A (call (.builtin "str.join") [.str (PySem.Str.ofString "") t, .ref D]) Q E s :=
  KT.join_B 1 hl hc (fun _ _ => Nat.le_refl _) (by omega) (by decide) fun t' k => by rw [join_chars]; exact h t' k
theorem off1_mem {D : Addr} : ∀ {l : Led}, LCg.Off1 D l → ∀ p ∈ l, p.1 ≠ D
  | [], _, _, h => nomatch h
  | _ :: _, x, p, h => by
    rcases List.mem_cons.mp h with rfl | h
    · exact x.1
    · exact off1_mem x.2 p h

end
example : True := by
  k_with "call builtin:str.join" => (k_here; (with_reducible show wpAny _ _ (call (Value.builtin "str.join") [Value.str _ _, Value.ref _]) _ _ _); (with_reducible rename CarriedAll _ (List.map (fun _ => PyData.str (chr _)) _) => ktC); (refine join_chrs (by first | is_list | exact News.isList (by k_asm) (by k_mem)) ktC (by first | omega | (refine Nat.le_trans (pickC_len _ _ _ _) ?_; omega)) ?_; intro _ _))
  trivial
section
noncomputable def drawVal (ns : List Int) (k : Nat) : Int := ns.getD (k % ns.length) 0 + 3 * ((k / ns.length : Nat) : Int)
set_option maxHeartbeats 4000000 in
theorem draw_ok (p i : Addr) (vs : List Value) (ns : List Int) (k : Nat) (t : Tok) (n n' : Nat) (rest : Led) (hi : (i, lst vs n') ∈ rest) (hv : IntsAre vs ns) (h0 : 0 < ns.length) (hn : ns.length < 2 ^ 20) (hk : k < 2 ^ 20) (hne : ∀ q ∈ rest, q.1 ≠ p) :
    Tel 519 1 8 [.ref p] ((p, lst [.ref i, .int (k : Int) t] n) :: rest) (fun r news' => ∃ t t' n, r = .int (drawVal ns k) t ∧ news' = (p, lst [.ref i, .int (((k + 1 : Nat) : Int)) t'] n) :: rest) := by
  w_top off
  unfold Tel
  intro prog w pp loose mean mg mb dp un gd cn cs a ccd cl outer A₀ base h₀ L m s Q E B F X N T hk9 hd hu hret
  refine wpAny_call ?_
  k_dflt cell_enter
  k_steps
  refine hret _ _ _ _ (by k_asm) (by k_asm) ⟨_, _, _, congrArg (fun z => Value.int z _) ?_, rfl⟩
  unfold drawVal
  rw [Int.fmod_eq_emod_of_nonneg _ (by omega), Int.fdiv_eq_ediv_of_nonneg _ (by omega)]
  rfl
theorem upd_news {h₀ h : Heap} {L d : Addr} {o' : Obj} {pre post : Led} (N : News h₀ L h ((d, o') :: (pre ++ post))) : News h₀ L h (pre ++ (d, o') :: post) := news_sub N fun q hq => by
  rcases List.mem_append.mp hq with h | h
  · exact List.mem_cons_of_mem _ (List.mem_append_left _ h)
  · rcases List.mem_cons.mp h with rfl | h
    · exact List.mem_cons_self
    · exact List.mem_cons_of_mem _ (List.mem_append_right _ h)
theorem upd_front {h₀ h : Heap} {L d : Addr} {o : Obj} {pre post : Led} (N : News h₀ L h (pre ++ (d, o) :: post)) : News h₀ L h ((d, o) :: (pre ++ post)) := news_sub N fun q hq => by
  rcases List.mem_cons.mp hq with rfl | h
  · exact List.mem_append_right _ List.mem_cons_self
  · rcases List.mem_append.mp h with h | h
    · exact List.mem_append_left _ h
    · exact List.mem_append_right _ (List.mem_cons_of_mem _ h)
theorem upd_mem {d a : Addr} {o oa : Obj} {pre post : Led} (h : (a, oa) ∈ pre ++ (d, o) :: post) (hne : a ≠ d) : (a, oa) ∈ pre ++ post := by
  rcases List.mem_append.mp h with h | h
  · exact List.mem_append_left _ h
  · rcases List.mem_cons.mp h with h | h
    · exact absurd (congrArg Prod.fst h) hne
    · exact List.mem_append_right _ h
theorem draw_use {prog : Program} {w : World} {p : Program} {loose : List Str} {mean : ExcName → Option Value} {mg mb : Str → Option Value} {dp un : Nat} {gd : Option (List Code)} {cn : Str} {cs : Scope} {a : Addr} {ccd : Value} {cl : List (Str × Addr)} {outer : List Env} {A₀ : Around} {base h₀ : Heap} {L : Addr} {m : Str → Option Value} {s : Shared} {Q E : Value → Shared → Prop} {pn i : Addr} {vs : List Value} {ns : List Int} {k : Nat} {kz : Int} {t : Tok} {n n' : Nat} {news : Led} {g : Obj → Led} (B : Below A₀ base outer h₀) (F : Fr h₀ L s.heap m) (X : (K w.params).In h₀) (N : News h₀ L s.heap news) (T : Top p loose mean mg mb h₀) (hk : cs.kind = .function) (hd : dp + 1 < recursionLimit) (hu : un + 8 < cLine)
    (U : UpdF pn (lst [.ref i, .int kz t] n) news g) (hz : kz = (k : Int)) (hi : (i, lst vs n') ∈ news) (hip : i ≠ pn) (hv : IntsAre vs ns) (h0 : 0 < ns.length) (hn : ns.length < 2 ^ 20) (hb : k < 2 ^ 20)
    (hq : ∀ (v : Int) t1 t2 n2 h' tk', Fr h₀ L h' m → News h₀ L h' (g (lst [.ref i, .int ((k + 1 : Nat) : Int) t2] n2)) → Q (.int v t1) { s with heap := h', toks := tk' }) :
    wpAny (model prog w) (ktrTop dp un gd cn cs L a ccd cl outer) (call (.ref 519) [.ref pn]) Q E s := by
  subst hz
  obtain ⟨pre, post, rfl, hg, h1, h2⟩ := U.split
  refine tel_use (draw_ok pn i vs ns k t n n' (pre ++ post) (upd_mem hi hip) hv h0 hn hb (fun q hq => (List.mem_append.mp hq).elim (h1 q) (h2 q))) B F X (upd_front N) T hk hd hu fun r news' h' tk' F' N' O => ?_
  obtain ⟨t1, t2, n2, rfl, rfl⟩ := O
  exact hq _ t1 t2 n2 h' tk' F' (by rw [hg]; exact upd_news N')

end
local macro_rules | `(tactic| walk_at "upd") => `(tactic| first | (refine' UpdF.head ?a; (case a => k_all)) | (refine' UpdF.tail ?a ?b; (case a => first | assumption | k_ne); (case b => walk_at "upd")))
example : True := by
  k_with "call ref" => (k_here; (with_reducible show wpAny _ _ (call (Value.ref 519) _) _ _ _); k_dflt (refine' draw_use (by k_asm) (by k_asm) (by k_asm) (by k_asm) (by k_asm) (by first | exact rfl | assumption) (by ktr_room) (by ktr_units) (by walk_at "upd") (by exact rfl) (by k_mem) (by assumption) (by assumption) (by assumption) (by assumption) (by omega) ?_); intro v9 t9 u9 n9 h9 tk9 F9 N9; (try dsimp only at N9); (try dsimp only); (try k_fold); (try k_sweep))
  trivial
section
/-- the value of a count: None or an int -/
inductive CntV : Value → Option Int → Prop
  | none : CntV .none none
  | int (k : Int) (t : Tok) : CntV (.int k t) (some k)
theorem cntV_handed {v : Value} {c : Option Int} (h : CntV v c) : handedIn v = true := by cases h <;> rfl
noncomputable def begOf (n : Nat) (o : Int) : Int := if o < 0 then n + o else o
noncomputable def endOf (n : Nat) (b : Int) (c : Option Int) : Int := match c with
  | none => n
  | some k => if k < 0 then n + k else b + k
noncomputable def spanB (n : Nat) (b : Int) (c : Option Int) : Option (Nat × Nat) :=
  if b > n then none else if endOf n b c < 0 ∧ b < 0 then none else some ((max b 0).toNat, (min (max (endOf n b c) (max b 0)) n).toNat)
noncomputable def SpanOut (n : Nat) (o : Int) (c : Option Int) (news : Led) (r : Value) (news' : Led) : Prop :=
  (spanB n (begOf n o) c = none ∧ r = .none ∧ news' = news) ∨
  (∃ (b e : Int) (d : Addr) (t t' : Tok), spanB n (begOf n o) c = some (b.toNat, e.toNat) ∧ 0 ≤ b ∧ b ≤ e ∧ e ≤ n ∧ r = .ref d ∧ news' = (d, tup [.int b t, .int e t']) :: news ∧ (∀ q ∈ news, q.1 < d))
example : True := by
  k_with "span_arith" => ((try simp only [spanB, begOf, endOf, decide_eq_true_eq, decide_eq_false_iff_not, Bool.not_eq_true]); first | omega | ((repeat' split) <;> first | rfl | omega | (simp only [Option.some.injEq, Prod.mk.injEq]; omega)))
  trivial
def Has (m : Str → Option Value) (ps : List (Str × Value)) : Prop := ∀ p ∈ ps, m p.1 = some p.2
theorem fr_has {h₀ h : Heap} {L : Addr} {m : Str → Option Value} {ps : List (Str × Value)} (F : Fr h₀ L h m) (hp : Has m ps) : Fr h₀ L h (kstB m ps) := by
  have e : kstB m ps = m := by
    funext z
    exact kstB_eq hp fun _ => rfl
  rw [e]
  exact F
/-- statements one behind the other -/
theorem execs_app (env : Env) (r : List Stmt) : ∀ l : List Stmt, execs (l ++ r) env = (execs l env >>= fun f => match f with | .next => execs r env | f => pure f)
  | [] => by rw [List.nil_append, execs_nil, pure_bind]
  | st :: l => by
    rw [List.cons_append, execs_cons, execs_app env r l, execs_cons, LawfulMonad.bind_assoc]
    congr 1
    funext f
    cases f <;> simp only [pure_bind]
theorem wpAny_app {M : Model} {A : Around} {env : Env} {l r : List Stmt} {Q : Flow → Shared → Prop} {E : Value → Shared → Prop} {s : Shared}
    (h : wpAny M A (execs l env) (fun f s' => match f with | .next => wpAny M A (execs r env) Q E s' | f => Q f s') E s) : wpAny M A (execs (l ++ r) env) Q E s := by
  rw [execs_app]
  refine wpAny_bind (wpAny_mono h (fun f s' hq => ?_) fun _ _ e => e)
  cases f with
  | next => exact hq
  | ret v => exact wpAny_pure hq
  | brk => exact wpAny_pure hq
  | cont => exact wpAny_pure hq
/-- what holds between two statements is said once: the ways that lead there are folded -/
theorem cutN {M : Model} {A : Around} {env : Env} {body : List Stmt} {Q : Flow → Shared → Prop} {E : Value → Shared → Prop} {s : Shared} (k : Nat) (Mid : Shared → Prop)
    (h1 : wpAny M A (execs (body.take k) env) (fun f s' => match f with | .next => Mid s' | f => Q f s') E s) (h2 : ∀ s', Mid s' → wpAny M A (execs (body.drop k) env) Q E s') : wpAny M A (execs body env) Q E s := by
  rw [← List.take_append_drop k body]
  refine wpAny_app (wpAny_mono h1 (fun f s' hq => ?_) fun _ _ e => e)
  cases f with
  | next => exact h2 s' hq
  | ret v => exact hq
  | brk => exact hq
  | cont => exact hq
/-- what holds between two statements of a def -/
def Mid9 (s : Shared) (g : Heap) (L : Addr) (news : Led) (P : (Str → Option Value) → Prop) (s' : Shared) : Prop := ∃ (h' : Heap) (tk : Nat) (m' : Str → Option Value), s' = { s with heap := h', toks := tk } ∧ Fr g L h' m' ∧ News g L h' news ∧ P m'
theorem mid_mk {s : Shared} {g : Heap} {L : Addr} {news : Led} {P : (Str → Option Value) → Prop} {h' : Heap} {tk : Nat} {m' : Str → Option Value} (F : Fr g L h' m') (N : News g L h' news) (h : P m') : Mid9 s g L news P { s with heap := h', toks := tk } := ⟨h', tk, m', rfl, F, N, h⟩
theorem ite_max0 (b : Int) : (if 0 > b then 0 else b) = max b 0 := by
  by_cases h : 0 > b
  · rw [if_pos h, Int.max_eq_right (Int.le_of_lt h)]
  · rw [if_neg h, Int.max_eq_left (Int.not_lt.mp h)]
theorem ite_max (e b : Int) : (if b > e then b else e) = max e b := by
  by_cases h : b > e
  · rw [if_pos h, Int.max_eq_right (Int.le_of_lt h)]
  · rw [if_neg h, Int.max_eq_left (Int.not_lt.mp h)]
theorem ite_min (n m : Int) : (if n < m then n else m) = min m n := by
  by_cases h : n < m
  · rw [if_pos h, Int.min_eq_right (Int.le_of_lt h)]
  · rw [if_neg h, Int.min_eq_left (Int.not_lt.mp h)]
set_option maxHeartbeats 4000000 in
theorem span_ok (n : Nat) (o : Int) (c : Option Int) (cv : Value) (t1 t2 : Tok) (news : Led) (hc : CntV cv c) (hn : n ≤ 1000) : Tel 67 1 8 [.int n t1, .int o t2, cv] news (SpanOut n o c news) := by
  w_top off
  unfold Tel
  intro prog w pp loose mean mg mb dp un gd cn cs a ccd cl outer A₀ base h₀ L m s Q E B F X N T hk9 hd hu hret
  refine wpAny_call ?_
  k_dflt (walk_at "enter_n")
  intro g1 L1 h1 FG1 F1 N1 B1 X1 T1
  (try dsimp only)
  (try k_lift B1)
  refine cutN 2 (Mid9 s g1 L1 news fun m' => ∃ (v : Int) (t : Tok), Has m' [(Str.ofString "length", .int n t1), (Str.ofString "count", cv), (Str.ofString "begin", .int v t)] ∧ v = begOf n o) ?_ ?_
  · simp only [List.take]
    k_steps
    all_goals exact mid_mk (by k_asm) (by k_asm) ⟨_, _, by unfold Has; kst_all, by walk_at "span_arith"⟩
  rintro s' ⟨h2, tk2, m2, rfl, F2, N2, b9, tb9, H2, hb9⟩
  clear F1 N1
  have F3 := fr_has F2 H2
  clear F2 H2
  dsimp only [kstB] at F3
  simp only [List.drop]
  refine cutN 3 (Mid9 s g1 L1 news fun m' => ∃ (v : Int) (t : Tok), Has m' [(Str.ofString "length", .int n t1), (Str.ofString "begin", .int b9 tb9), (Str.ofString "end", .int v t)] ∧ v = endOf n b9 c ∧ b9 ≤ n) ?_ ?_
  · simp only [List.take]
    cases hc
    all_goals k_steps
    all_goals first
      | ((show Mid9 _ _ _ _ _ _); refine mid_mk (by k_asm) (by k_asm) ⟨_, _, by unfold Has; kst_all, ?_, ?_⟩)
      | (refine hret _ _ _ _ (by k_asm) (by k_asm) (Or.inl ⟨?_, rfl, rfl⟩); rw [← hb9, spanB, if_pos (by omega)])
    all_goals first | rfl | walk_at "span_arith"
  rintro s' ⟨h4, tk4, m4, rfl, F4, N4, e9, te9, H4, he9, hbn⟩
  clear F3 N2
  have F5 := fr_has F4 H4
  clear F4 H4
  dsimp only [kstB] at F5
  simp only [List.drop]
  have hs : spanB n (begOf n o) c = if e9 < 0 ∧ b9 < 0 then none else some ((max b9 0).toNat, (min (max e9 (max b9 0)) n).toNat) := by
    rw [← hb9, spanB, if_neg (by omega), ← he9]
  clear hb9 he9
  k_steps
  · refine hret _ _ _ _ (by k_asm) (by k_asm) (Or.inl ⟨?_, rfl, rfl⟩)
    rw [hs, if_pos (by omega)]
  all_goals
    refine hret _ _ _ _ (by k_asm) (by k_asm) (Or.inr ⟨_, _, _, _, _, ?_, ?_, ?_, ?_, rfl, rfl, by assumption⟩)
    · rw [hs, if_neg (by omega)]
      simp only [ite_max0, ite_max, ite_min]
    · simp only [ite_max0]
      exact Int.le_max_right _ _
    · simp only [ite_max0, ite_max, ite_min]
      exact Int.le_min.mpr ⟨Int.le_max_right _ _, Int.max_le.mpr ⟨hbn, Int.natCast_nonneg n⟩⟩
    · simp only [ite_max0, ite_max, ite_min]
      exact Int.min_le_right _ _
theorem span_use {prog : Program} {w : World} {p : Program} {loose : List Str} {mean : ExcName → Option Value} {mg mb : Str → Option Value} {dp un : Nat} {gd : Option (List Code)} {cn : Str} {cs : Scope} {a : Addr} {ccd : Value} {cl : List (Str × Addr)} {outer : List Env} {A₀ : Around} {base h₀ : Heap} {L : Addr} {m : Str → Option Value} {s : Shared} {Q E : Value → Shared → Prop} {n : Nat} {o : Int} {c : Option Int} {cv : Value} {t1 t2 : Tok} {news : Led} (B : Below A₀ base outer h₀) (F : Fr h₀ L s.heap m) (X : (K w.params).In h₀) (N : News h₀ L s.heap news) (T : Top p loose mean mg mb h₀) (hk : cs.kind = .function) (hd : dp + 1 < recursionLimit) (hu : un + 8 < cLine) (hc : CntV cv c) (hn : n ≤ 1000)
    (hnone : ∀ h' tk', spanB n (begOf n o) c = none → Fr h₀ L h' m → News h₀ L h' news → Q .none { s with heap := h', toks := tk' })
    (hsome : ∀ (b e : Int) (d : Addr) (t t' : Tok) h' tk', spanB n (begOf n o) c = some (b.toNat, e.toNat) → 0 ≤ b → b ≤ e → e ≤ n → Fr h₀ L h' m → News h₀ L h' ((d, tup [.int b t, .int e t']) :: news) → (∀ q ∈ news, q.1 < d) → Q (.ref d) { s with heap := h', toks := tk' }) :
    wpAny (model prog w) (ktrTop dp un gd cn cs L a ccd cl outer) (call (.ref 67) [.int n t1, .int o t2, cv]) Q E s :=
  tel_use (span_ok n o c cv t1 t2 news hc hn) B F X N T hk hd hu fun r news' h' tk' F' N' O => by
    rcases O with ⟨h1, h2, h3⟩ | ⟨b, e, d, t, t', h1, h2, h3, h4, h5, h6, h7⟩
    · rw [h2]; rw [h3] at N'; exact hnone h' tk' h1 F' N'
    · rw [h5]; rw [h6] at N'; exact hsome b e d t t' h' tk' h1 h2 h3 h4 F' N' h7

end
example : True := by
  k_with_none
  k_with "enter_cells" => (refine' code_defC (by k_asm) (by k_asm) (by k_asm) (by k_asm) (by k_asm) (by exact rfl) (by exact rfl) (by assumption) (by k_is) (by k_is) (by ktr_room) (by exact BindsTo.of_eq rfl) (by exact rfl) (by decide +kernel) ?_ (by exact rfl) (by exact rfl) (by exact rfl); k_whole; intro g' L' h' tk' cells' FG' F' N' Y' B' X' T' l1; (try k_lt l1); k_cells Y'; (try simp only [List.cons_append, List.nil_append] at N'); (try dsimp only); (try k_lift B'); (try k_fold))
  k_with "eval ListComp" => (k_here; first | ((with_reducible show wpAny _ _ (eval (PySem.Expr.ListComp _ [PySem.Comprehension.mk _ _ [_] _] _ _) _) _ _ _); k_dflt (refine LCt.ListComp_T (F₀ := by k_asm) (by with_unfolding_all rfl) (by decide) (by rfl) (by decide) (by rfl) ?_)) | ((with_reducible show wpAny _ _ (eval (PySem.Expr.ListComp _ [PySem.Comprehension.mk _ _ [] _] _ _) _) _ _ _); k_dflt (refine LCg.ListComp_U (F₀ := by k_asm) (by with_unfolding_all rfl) (by decide) (by rfl) (by decide) (by rfl) ?_)))
  k_with "is_comp" => first | (with_reducible refine' LCt.CompSrcT.range ?_ ?_ ?_ ?_ ?_ ?_ ?_ ?_) | (with_reducible refine' LCg.CompSrc.range ?_ ?_ ?_ ?_ ?_ ?_ ?_ ?_) | (with_reducible refine' LCt.CompSrcT.ledger ?_ ?_ ?_ ?_ ?_ ?_) | (with_reducible refine' LCg.CompSrc.ledger ?_ ?_ ?_ ?_ ?_ ?_)
  k_with "to_comp" => repeat' (first | ((fail_if_success (walk_at "is_comp")); first | (k_unfold; (try dsimp only)) | (k_end; wrow_close) | walk1 | (dsimp only; walk1) | (leave1; try dsimp only)))
  k_with "comp_range" => first | (refine' LCt.CompSrcT.range (by exact rfl) (by k_asm) (by k_asm) (by assumption) (by exact small_one (by omega) (by omega) (by omega) (by omega)) (by first | exact rangeSize_nat _ _ | rfl) (by rw [PySem.sizeLine_eq]; omega) ?_; intro g') | (refine' LCg.CompSrc.range (by exact rfl) (by k_asm) (by k_asm) (by assumption) (by exact small_one (by omega) (by omega) (by omega) (by omega)) (by first | exact rangeSize_nat _ _ | rfl) (by rw [PySem.sizeLine_eq]; omega) ?_; intro g')
  k_with "mem_tail" => (intro q9 hq9; repeat' (first | with_reducible exact hq9 | refine List.mem_cons_of_mem _ ?_))
  k_with "news_sub" => first | k_asm | (refine news_sub (by k_asm) ?_; walk_at "mem_tail")
  k_with "led_lt" => first | assumption | (refine led_lt (by k_asm) ?_; walk_at "mem_tail") | ((with_reducible rename AllLt _ _ => ql9); exact ktn_ltOf ql9) | ((with_reducible rename _ ∧ AllLt _ _ => ql9); exact ktn_ltOf ql9.2) | ((with_reducible rename _ ∧ _ ∧ AllLt _ _ => ql9); exact ktn_ltOf ql9.2.2)
  k_with "mem_at" => first | exact List.Mem.head _ | (refine List.Mem.tail _ ?_; walk_at "mem_at")
  k_with "mem_any" => first | exact mem_nil_all | exact fun _ h => h | (refine mem_cons_all (by walk_at "mem_at") (by walk_at "mem_any")) | (walk_at "mem_tail")
  k_with "to_while" => repeat' (first | ((fail_if_success (with_reducible show wpAny _ _ (exec (Stmt.While _ _ _ _) _) _ _ _)); first | (k_unfold; (try dsimp only)) | (k_end; wrow_close) | walk1 | (dsimp only; walk1) | (leave1; try dsimp only)))
  k_with "ne9" => first | assumption | exact Nat.ne_of_lt (by omega) | exact Nat.ne_of_gt (by omega) | k_ne
  k_with "enter_n" => (refine' code_def (by k_asm) (by k_asm) (by k_asm) (by k_asm) (by k_asm) (by exact rfl) (by exact rfl) (by first | exact rfl | assumption) (by k_is) (by k_is) (by ktr_room) (by first | exact BindsTo.of_eq rfl | exact binds_K (by k_in) rfl (by k_is) rfl rfl rfl) (by exact locs rfl) ?_ (by exact rfl) (by exact rfl) (by exact rfl) (by decide); k_whole)
  k_with "enter_y" => (walk_at "enter_n"; intro g' L' h' FG' F' N' B' X' T'; (try dsimp only); (try k_lift B'); (try k_fold))
  k_with "call builtin:str.join" => (k_here; (with_reducible show wpAny _ _ (call (Value.builtin "str.join") [Value.str _ _, Value.ref _]) _ _ _); (with_reducible rename CarriedAll _ (List.map (fun _ => PyData.str (chr _)) _) => ktC); (refine join_chrs (by first | is_list | exact News.isList (by k_asm) (by k_mem)) ktC (by first | omega | (refine Nat.le_trans (pickC_len _ _ _ _) ?_; omega)) ?_; intro _ _))
  k_with "call ref" => (k_here; (with_reducible show wpAny _ _ (call (Value.ref 519) _) _ _ _); k_dflt (refine' draw_use (by k_asm) (by k_asm) (by k_asm) (by k_asm) (by k_asm) (by first | exact rfl | assumption) (by ktr_room) (by ktr_units) (by walk_at "upd") (by exact rfl) (by k_mem) (by assumption) (by assumption) (by assumption) (by assumption) (by omega) ?_); intro v9 t9 u9 n9 h9 tk9 F9 N9; (try dsimp only at N9); (try dsimp only); (try k_fold); (try k_sweep))
  trivial
example : True := by
  k_with "call ref" => (k_here; (with_reducible show wpAny _ _ (call (Value.ref 67) _) _ _ _); k_dflt (refine' span_use (by k_asm) (by k_asm) (by k_asm) (by k_asm) (by k_asm) (by first | exact rfl | assumption) (by ktr_room) (by ktr_units) (by first | assumption | exact CntV.none | exact CntV.int _ _) (by omega) ?_ ?_); (first | (intro h9 tk9 hs9 F9 N9) | (intro b9 e9 d9 t9 u9 h9 tk9 hs9 ha9 hb9 hc9 F9 N9 hl9; k_lt hl9)) <;> (try dsimp only) <;> (try k_fold) <;> (try k_sweep))
  trivial
section
noncomputable def partOf (x : Str) (b : Int) (c : Option Int) : Option Str := (spanB x.length b c).map fun p => subS x p.1 p.2
noncomputable def TextOut (y : Option Str) (news : Led) (r : Value) (news' : Led) : Prop := news' = news ∧ ((y = none ∧ r = .none) ∨ ∃ z t, y = some z ∧ r = .str z t)
set_option maxHeartbeats 4000000 in
theorem value_ok (x : Str) (o : Int) (c : Option Int) (cv : Value) (t1 t2 : Tok) (news : Led) (hc : CntV cv c) (hn : x.length ≤ 1000) : Tel 74 2 16 [.str x t1, .int o t2, cv] news (TextOut (partOf x (begOf x.length o) c) news) := by
  w_top off
  unfold Tel
  intro prog w pp loose mean mg mb dp un gd cn cs a ccd cl outer A₀ base h₀ L m s Q E B F X N T hk9 hd hu hret
  refine wpAny_call ?_
  k_dflt cell_enter
  k_steps
  · refine hret _ _ _ _ (by k_asm) (by k_asm) ⟨rfl, Or.inl ⟨?_, rfl⟩⟩
    (with_reducible rename spanB _ _ _ = none => hs)
    rw [partOf, hs]; rfl
  · (with_reducible rename spanB _ _ _ = some _ => hs)
    refine hret _ _ _ _ (by k_asm) (by first | k_asm | exact cb_drop (by k_asm) (fun _ h => List.mem_cons_of_mem _ h)) ⟨rfl, Or.inr ⟨_, _, ?_, rfl⟩⟩
    rw [partOf, hs, slice_val (by assumption) (by omega)]; rfl
theorem value_use {prog : Program} {w : World} {p : Program} {loose : List Str} {mean : ExcName → Option Value} {mg mb : Str → Option Value} {dp un : Nat} {gd : Option (List Code)} {cn : Str} {cs : Scope} {a : Addr} {ccd : Value} {cl : List (Str × Addr)} {outer : List Env} {A₀ : Around} {base h₀ : Heap} {L : Addr} {m : Str → Option Value} {s : Shared} {Q E : Value → Shared → Prop} {x : Str} {o : Int} {c : Option Int} {cv : Value} {t1 t2 : Tok} {news : Led} (B : Below A₀ base outer h₀) (F : Fr h₀ L s.heap m) (X : (K w.params).In h₀) (N : News h₀ L s.heap news) (T : Top p loose mean mg mb h₀) (hk : cs.kind = .function) (hd : dp + 2 < recursionLimit) (hu : un + 16 < cLine) (hc : CntV cv c) (hn : x.length ≤ 1000)
    (hnone : ∀ h' tk', partOf x (begOf x.length o) c = none → Fr h₀ L h' m → News h₀ L h' news → Q .none { s with heap := h', toks := tk' })
    (hsome : ∀ z t h' tk', partOf x (begOf x.length o) c = some z → Fr h₀ L h' m → News h₀ L h' news → Q (.str z t) { s with heap := h', toks := tk' }) :
    wpAny (model prog w) (ktrTop dp un gd cn cs L a ccd cl outer) (call (.ref 74) [.str x t1, .int o t2, cv]) Q E s :=
  tel_use (value_ok x o c cv t1 t2 news hc hn) B F X N T hk hd hu fun r news' h' tk' F' N' O => by
    obtain ⟨h3, O⟩ := O
    rw [h3] at N'
    rcases O with ⟨h1, h2⟩ | ⟨z, t, h1, h2⟩
    · rw [h2]; exact hnone h' tk' h1 F' N'
    · rw [h2]; exact hsome z t h' tk' h1 F' N'

end
example : True := by
  k_with "call ref" => (k_here; (with_reducible show wpAny _ _ (call (Value.ref 74) _) _ _ _); k_dflt (refine' value_use (by k_asm) (by k_asm) (by k_asm) (by k_asm) (by k_asm) (by first | exact rfl | assumption) (by ktr_room) (by ktr_units) (by first | assumption | exact CntV.none | exact CntV.int _ _) (by omega) ?_ ?_); (first | (intro h9 tk9 hs9 F9 N9) | (intro z9 t9 h9 tk9 hs9 F9 N9)) <;> (try dsimp only) <;> (try k_fold) <;> (try k_sweep))
  trivial
section
noncomputable def begT (n : Nat) (off : Int) (b : Bool) : Int := if b = true then (n : Int) - off else off
set_option maxHeartbeats 4000000 in
theorem ends_ok (n : Nat) (tk : Addr) (off : Int) (b : Bool) (c : Option Int) (cv : Value) (t1 t2 : Tok) (news : Led) (ht : (tk, tup [.int off t2, .bool b, cv]) ∈ news) (hc : CntV cv c) :
    Tel 531 1 8 [.int n t1, .ref tk] news (fun r news' => ∃ (d : Addr) (B e : Int) (t t' : Tok), r = .ref d ∧ news' = (d, tup [.int B t, .int e t']) :: news ∧ (∀ q ∈ news, q.1 < d) ∧ B = begT n off b ∧ e = endOf n (begT n off b) c) := by
  w_top off
  unfold Tel
  intro prog w pp loose mean mg mb dp un gd cn cs a ccd cl outer A₀ base h₀ L m s Q E B F X N T hk9 hd hu hret
  refine wpAny_call ?_
  cases hc <;> cases b
  all_goals (k_dflt cell_enter)
  all_goals k_steps
  all_goals (refine hret _ _ _ _ (by k_asm) (by k_asm) ⟨_, _, _, _, _, rfl, rfl, by assumption, ?_, ?_⟩ <;> (simp only [begT, endOf] <;> first | rfl | ((repeat' split) <;> first | rfl | omega | (simp_all; done))))
theorem ends_use {prog : Program} {w : World} {p : Program} {loose : List Str} {mean : ExcName → Option Value} {mg mb : Str → Option Value} {dp un : Nat} {gd : Option (List Code)} {cn : Str} {cs : Scope} {a : Addr} {ccd : Value} {cl : List (Str × Addr)} {outer : List Env} {A₀ : Around} {base h₀ : Heap} {L : Addr} {m : Str → Option Value} {s : Shared} {Q E : Value → Shared → Prop} {n : Nat} {tk : Addr} {off : Int} {b : Bool} {c : Option Int} {cv : Value} {t1 t2 : Tok} {news : Led} (B : Below A₀ base outer h₀) (F : Fr h₀ L s.heap m) (X : (K w.params).In h₀) (N : News h₀ L s.heap news) (T : Top p loose mean mg mb h₀) (hk : cs.kind = .function) (hd : dp + 1 < recursionLimit) (hu : un + 8 < cLine) (ht : (tk, tup [.int off t2, .bool b, cv]) ∈ news) (hc : CntV cv c)
    (hq : ∀ (B e : Int) (d : Addr) (t t' : Tok) h' tk', B = begT n off b → e = endOf n B c → Fr h₀ L h' m → News h₀ L h' ((d, tup [.int B t, .int e t']) :: news) → (∀ q ∈ news, q.1 < d) → Q (.ref d) { s with heap := h', toks := tk' }) :
    wpAny (model prog w) (ktrTop dp un gd cn cs L a ccd cl outer) (call (.ref 531) [.int n t1, .ref tk]) Q E s :=
  tel_use (ends_ok n tk off b c cv t1 t2 news ht hc) B F X N T hk hd hu fun r news' h' tk' F' N' O => by
    obtain ⟨d, B, e, t, t', h2, h3, h4, h5, h6⟩ := O
    rw [h2]; rw [h3] at N'
    exact hq B e d t t' h' tk' h5 (by rw [h6, h5]) F' N' h4

end
example : True := by
  k_with "call ref" => (k_here; (with_reducible show wpAny _ _ (call (Value.ref 531) _) _ _ _); k_dflt (refine' ends_use (by k_asm) (by k_asm) (by k_asm) (by k_asm) (by k_asm) (by first | exact rfl | assumption) (by ktr_room) (by ktr_units) (by k_mem) (by first | assumption | exact CntV.none | exact CntV.int _ _) ?_); intro B9 e9 d9 t9 u9 h9 tk9 hb9 he9 F9 N9 hl9; k_lt hl9; (try dsimp only); (try k_fold); (try k_sweep))
  trivial
section
/-- what _law_part gives: nothing, or the part and its place -/
noncomputable def lpartOf (x : Str) (off : Int) (b : Bool) (c : Option Int) : Option (Str × Int) := (partOf x (begT x.length off b) c).map fun z => (z, max (begT x.length off b) 0)
set_option linter.unusedSimpArgs false in
set_option maxHeartbeats 4000000 in
theorem part_ok (x : Str) (tk : Addr) (off : Int) (b : Bool) (c : Option Int) (cv : Value) (t1 t2 : Tok) (news : Led) (ht : (tk, tup [.int off t2, .bool b, cv]) ∈ news) (hc : CntV cv c) (hn : x.length ≤ 1000) :
    Tel 536 2 16 [.str x t1, .ref tk] news (fun r news' => (lpartOf x off b c = none ∧ r = .none ∧ news' = news) ∨ ∃ (d : Addr) (z : Str) (k : Int) (t t' : Tok), lpartOf x off b c = some (z, k) ∧ r = .ref d ∧ news' = (d, tup [.str z t, .int k t']) :: news ∧ (∀ q ∈ news, q.1 < d)) := by
  w_top off
  unfold Tel
  intro prog w pp loose mean mg mb dp un gd cn cs a ccd cl outer A₀ base h₀ L m s Q E B F X N T hk9 hd hu hret
  refine wpAny_call ?_
  k_dflt (walk_at "enter_cells")
  walk_at "to_comp"
  iterate 2
    refine hret _ _ _ _ (by k_asm) (by walk_at "news_sub") (Or.inl ⟨?_, rfl, rfl⟩)
    with_reducible rename _ = endOf _ _ _ => he9
    with_reducible rename _ = begT _ _ _ => hb9
    simp only [lpartOf, partOf, spanB, Option.map_eq_none_iff]
    rw [← hb9, ← he9]
    (try simp only [decide_eq_true_eq, decide_eq_false_iff_not] at *)
    first | rw [if_pos (by omega)] | rw [if_neg (by omega), if_pos (by omega)]
  all_goals walk_at "comp_range"
  all_goals (with_reducible rename _ = endOf _ _ _ => he9)
  all_goals (with_reducible rename _ = begT _ _ _ => hb9)
  all_goals refine comp_restT_same (fun i ys => CarriedAll ys ((pickC x.cps.toList (begT x.length off b) (endOf x.length (begT x.length off b) c) i).map fun c => PyData.str (chr c))) .nil ?_ ?_
  iterate 2
    · intro i v I oI C oC D m₂ ys h tk E' hi hP hJ hC hx F N off ne
      obtain ⟨tv, rfl⟩ := hP
      k_steps
      all_goals
        refine LCg.CompEnd.intro (by assumption) (by assumption) _ (fun p hp => hp) off trivial ⟨rfl, ?_⟩
        first
        | (rw [pickC, if_neg (by rw [← hb9, ← he9]; omega)]; exact hJ)
        | (rw [pickC, if_pos (by rw [← hb9, ← he9]; omega), item_val (by omega) (by omega), show (0 + (i : Int)).toNat = i by omega]; exact carried_snoc hJ)
    · intro ys hJ D h9 tk9 F9 N9 off9
      k_steps
      refine hret _ _ _ _ (by k_asm) (news_keep (by k_asm) (by walk_at "mem_tail")) (Or.inr ⟨_, _, _, _, _, ?_, rfl, rfl, ?_⟩)
      · (try simp only [decide_eq_true_eq, decide_eq_false_iff_not] at *)
        simp only [lpartOf, partOf, spanB]
        rw [if_neg (by rw [← hb9]; omega), if_neg (by rw [← hb9, ← he9]; omega)]
        simp only [Option.map_some, Option.some.injEq, Prod.mk.injEq]
        rw [← hb9, ← he9]
        refine ⟨?_, ?_⟩
        · rw [show ((x.length : Int) - 0).toNat = x.length by omega]
          exact (pick_sub x _ _).symm
        · omega
      · walk_at "led_lt"
theorem lpart_facts {x z : Str} {off k : Int} {b : Bool} {c : Option Int} (h : lpartOf x off b c = some (z, k)) : 0 ≤ k ∧ k + (z.length : Int) ≤ (x.length : Int) := by
  simp only [lpartOf, partOf, spanB, Option.map_map] at h
  split at h
  · cases h
  · split at h
    · cases h
    · rename_i hn _
      simp only [Option.map_some, Function.comp, Option.some.injEq, Prod.mk.injEq] at h
      obtain ⟨rfl, rfl⟩ := h
      rw [subS_length]
      have h0 : 0 ≤ max (begT x.length off b) 0 := Int.le_max_right _ _
      have h1 : max (begT x.length off b) 0 ≤ x.length := Int.max_le.mpr ⟨Int.not_lt.mp hn, Int.natCast_nonneg _⟩
      clear hn
      generalize (min (max (endOf x.length (begT x.length off b) c) (max (begT x.length off b) 0)) (x.length : Int)).toNat = E
      generalize max (begT x.length off b) 0 = B at *
      refine ⟨h0, ?_⟩
      omega
theorem part_use {prog : Program} {w : World} {p : Program} {loose : List Str} {mean : ExcName → Option Value} {mg mb : Str → Option Value} {dp un : Nat} {gd : Option (List Code)} {cn : Str} {cs : Scope} {a : Addr} {ccd : Value} {cl : List (Str × Addr)} {outer : List Env} {A₀ : Around} {base h₀ : Heap} {L : Addr} {m : Str → Option Value} {s : Shared} {Q E : Value → Shared → Prop} {x : Str} {tk : Addr} {off : Int} {b : Bool} {c : Option Int} {cv : Value} {t1 t2 : Tok} {news : Led} (B : Below A₀ base outer h₀) (F : Fr h₀ L s.heap m) (X : (K w.params).In h₀) (N : News h₀ L s.heap news) (T : Top p loose mean mg mb h₀) (hk : cs.kind = .function) (hd : dp + 2 < recursionLimit) (hu : un + 16 < cLine) (ht : (tk, tup [.int off t2, .bool b, cv]) ∈ news) (hc : CntV cv c) (hn : x.length ≤ 1000)
    (hnone : ∀ h' tk', lpartOf x off b c = none → Fr h₀ L h' m → News h₀ L h' news → Q .none { s with heap := h', toks := tk' })
    (hsome : ∀ (d : Addr) (z : Str) (k : Int) (t t' : Tok) h' tk', lpartOf x off b c = some (z, k) → 0 ≤ k ∧ k + (z.length : Int) ≤ (x.length : Int) → Fr h₀ L h' m → News h₀ L h' ((d, tup [.str z t, .int k t']) :: news) → (∀ q ∈ news, q.1 < d) → Q (.ref d) { s with heap := h', toks := tk' }) :
    wpAny (model prog w) (ktrTop dp un gd cn cs L a ccd cl outer) (call (.ref 536) [.str x t1, .ref tk]) Q E s :=
  tel_use (part_ok x tk off b c cv t1 t2 news ht hc hn) B F X N T hk hd hu fun r news' h' tk' F' N' O => by
    rcases O with ⟨h1, h2, h3⟩ | ⟨d, z, k, t, t', h1, h2, h3, h4⟩
    · rw [h2]; rw [h3] at N'; exact hnone h' tk' h1 F' N'
    · rw [h2]; rw [h3] at N'; exact hsome d z k t t' h' tk' h1 (lpart_facts h1) F' N' h4

end
example : True := by
  k_with "call ref" => (k_here; (with_reducible show wpAny _ _ (call (Value.ref 536) _) _ _ _); k_dflt (refine' part_use (by k_asm) (by k_asm) (by k_asm) (by k_asm) (by k_asm) (by first | exact rfl | assumption) (by ktr_room) (by ktr_units) (by k_mem) (by first | assumption | exact CntV.none | exact CntV.int _ _) (by omega) ?_ ?_); (first | (intro h9 tk9 hs9 F9 N9) | (intro d9 z9 p9 t9 u9 h9 tk9 hs9 hf9 F9 N9 hl9; (try k_lt hl9))) <;> (try dsimp only) <;> (try k_fold) <;> (try k_sweep))
  trivial
section
theorem abc_ok (k : Nat) : (PySem.Str.ofString "abc").cps.toList.getD k 0 < 1114112 := by
  have e : (PySem.Str.ofString "abc").cps.toList = [97, 98, 99] := by decide +kernel
  rw [e]
  match k with
  | 0 => decide
  | 1 => decide
  | 2 => decide
  | k + 3 => simp [List.getD]
theorem strOk_iff {x : Str} : PyData.strOk x = true ↔ ∀ c ∈ x.cps.toList, c < 1114112 := by
  unfold PyData.strOk
  rw [Array.all_eq_true_iff_forall_mem]
  simp
set_option maxHeartbeats 4000000 in
theorem word_ok (p i : Addr) (vs : List Value) (ns : List Int) (k : Nat) (c : Int) (t tc : Tok) (n n' : Nat) (rest : Led) (hi : (i, lst vs n') ∈ rest) (hv : IntsAre vs ns) (h0 : 0 < ns.length) (hn : ns.length < 2 ^ 20) (hk : k < 2 ^ 19) (hc0 : 0 ≤ c) (hc1 : c ≤ 12) (hip : i ≠ p) (hne : ∀ q ∈ rest, q.1 ≠ p) :
    Tel 524 3 40 [.ref p, .int c tc] ((p, lst [.ref i, .int (k : Int) t] n) :: rest) (fun r news' => ∃ z t1 t2 n2, r = .str z t1 ∧ z.length = c.toNat ∧ PyData.strOk z = true ∧ news' = (p, lst [.ref i, .int (((k + c.toNat : Nat)) : Int) t2] n2) :: rest) := by
  w_top off
  unfold Tel
  intro prog w pp loose mean mg mb dp un gd cn cs a ccd cl outer A₀ base h₀ L m s Q E B F X N T hk9 hd hu hret
  refine wpAny_call ?_
  k_dflt (walk_at "enter_cells")
  walk_at "to_comp"
  walk_at "comp_range"
  refine comp_rest_led (fun j t1 n1 => (p, lst [.ref i, .int (((k + j : Nat)) : Int) t1] n1) :: rest) rfl ?_ ?_
  · intro j v I oI C oC D m₂ ys cs t1 n1 h tk E' hj hP hca hcl hC hx F N off ne
    obtain ⟨tv, rfl⟩ := hP
    have offs := off
    simp only [LCg.Off3] at offs
    obtain ⟨o1, o2, o3⟩ := offs
    k_steps
    have a3 : (PySem.Str.ofString "abc").length = 3 := by decide +kernel
    refine LCg.CompEnd.intro (by k_asm) (by k_asm) _ (fun p hp => hp) ?_ trivial ⟨_, _, _, _, rfl, congrArg (fun z => Value.str z _) (item_val (fmod_lo _ (by decide)) (by rw [a3]; exact fmod_hi _ (by decide))), abc_ok _⟩
    exact ⟨o1, o2, o3⟩
  · intro ys cs t1 n1 hca hcl hck D h9 tk9 F9 N9 off9
    have e9 : (c - 0).toNat = c.toNat := by omega
    rw [e9] at N9 hcl
    k_steps
    exact hret _ _ _ _ (by k_asm) (by walk_at "news_sub") ⟨_, _, _, _, rfl, by rw [← hcl]; simp [PySem.Str.length], strOk_iff.mpr hck, rfl⟩
theorem word_use {prog : Program} {w : World} {p : Program} {loose : List Str} {mean : ExcName → Option Value} {mg mb : Str → Option Value} {dp un : Nat} {gd : Option (List Code)} {cn : Str} {cs : Scope} {a : Addr} {ccd : Value} {cl : List (Str × Addr)} {outer : List Env} {A₀ : Around} {base h₀ : Heap} {L : Addr} {m : Str → Option Value} {s : Shared} {Q E : Value → Shared → Prop} {pn i : Addr} {vs : List Value} {ns : List Int} {k : Nat} {kz c : Int} {t tc : Tok} {n n' : Nat} {news : Led} {g : Obj → Led} (B : Below A₀ base outer h₀) (F : Fr h₀ L s.heap m) (X : (K w.params).In h₀) (N : News h₀ L s.heap news) (T : Top p loose mean mg mb h₀) (hk : cs.kind = .function) (hd : dp + 3 < recursionLimit) (hu : un + 40 < cLine)
    (U : UpdF pn (lst [.ref i, .int kz t] n) news g) (hz : kz = (k : Int)) (hi : (i, lst vs n') ∈ news) (hip : i ≠ pn) (hv : IntsAre vs ns) (h0 : 0 < ns.length) (hn : ns.length < 2 ^ 20) (hb : k < 2 ^ 19) (hc0 : 0 ≤ c) (hc1 : c ≤ 12)
    (hq : ∀ (z : Str) t1 t2 n2 h' tk', z.length = c.toNat → PyData.strOk z = true → Fr h₀ L h' m → News h₀ L h' (g (lst [.ref i, .int ((k + c.toNat : Nat) : Int) t2] n2)) → Q (.str z t1) { s with heap := h', toks := tk' }) :
    wpAny (model prog w) (ktrTop dp un gd cn cs L a ccd cl outer) (call (.ref 524) [.ref pn, .int c tc]) Q E s := by
  subst hz
  obtain ⟨pre, post, rfl, hg, h1, h2⟩ := U.split
  refine tel_use (word_ok pn i vs ns k c t tc n n' (pre ++ post) (upd_mem hi hip) hv h0 hn hb hc0 hc1 hip (fun q hq => (List.mem_append.mp hq).elim (h1 q) (h2 q))) B F X (upd_front N) T hk hd hu fun r news' h' tk' F' N' O => ?_
  obtain ⟨z, t1, t2, n2, rfl, hl, hk9, rfl⟩ := O
  exact hq z _ t2 n2 h' tk' hl hk9 F' (by rw [hg]; exact upd_news N')

end
example : True := by
  k_with "call ref" => (k_here; (with_reducible show wpAny _ _ (call (Value.ref 524) _) _ _ _); (try k_fmods); k_dflt (refine' word_use (by k_asm) (by k_asm) (by k_asm) (by k_asm) (by k_asm) (by first | exact rfl | assumption) (by ktr_room) (by ktr_units) (by walk_at "upd") (by exact rfl) (by k_mem) (by assumption) (by assumption) (by assumption) (by assumption) (by omega) (by omega) (by omega) ?_); intro z9 t9 u9 n9 h9 tk9 zl9 zok9 F9 N9; (try dsimp only at N9); (try dsimp only); (try k_fold); (try k_sweep))
  trivial
section
/-- a part stands at a place of a text -/
noncomputable def Occ (x y : Str) (i : Nat) : Prop := subS x i (i + y.length) = y ∧ i + y.length ≤ x.length
open Classical in
/-- the places where a part stands, among the first i -/
noncomputable def placesN (x y : Str) : Nat → List Int
  | 0 => []
  | i + 1 => if Occ x y i then placesN x y i ++ [(i : Int)] else placesN x y i
theorem occ_iff {x y : Str} {i : Nat} {j e : Int} (hj : j = (i : Int)) (he : e = (i : Int) + (y.length : Int)) : (Txt.slice x (some j) (some e) == y) = true ↔ subS x i (i + y.length) = y := by
  subst hj he
  rw [slice_val (by omega) (by omega), beq_iff_eq, show ((i : Int)).toNat = i by omega, show ((i : Int) + (y.length : Int)).toNat = i + y.length by omega]
theorem occ_no {x y : Str} {i : Nat} {j e : Int} (h : (Txt.slice x (some j) (some e) == y) = false) (hj : j = (i : Int)) (he : e = (i : Int) + (y.length : Int)) : ¬ Occ x y i := fun q => by
  rw [(occ_iff hj he).mpr q.1] at h; cases h
theorem occ_yes {x y : Str} {i : Nat} {j e : Int} (h : (Txt.slice x (some j) (some e) == y) = true) (hj : j = (i : Int)) (he : e = (i : Int) + (y.length : Int)) (hb : i + y.length ≤ x.length) : Occ x y i := ⟨(occ_iff hj he).mp h, hb⟩
set_option linter.unusedSimpArgs false in
set_option maxHeartbeats 4000000 in
theorem places_ok (x y : Str) (t1 t2 : Tok) (news : Led) (hn : x.length ≤ 1000) (hy : y.length ≤ 1000) :
    Tel 541 2 16 [.str x t1, .str y t2] news (fun r news' => ∃ (d : Addr) (vs : List Value) (n : Nat), r = .ref d ∧ news' = (d, lst vs n) :: news ∧ IntsAre vs (placesN x y (x.length + 1)) ∧ (∀ q ∈ news, q.1 ≠ d)) := by
  w_top off
  unfold Tel
  intro prog w pp loose mean mg mb dp un gd cn cs a ccd cl outer A₀ base h₀ L m s Q E B F X N T hk9 hd hu hret
  refine wpAny_call ?_
  k_dflt (walk_at "enter_cells")
  walk_at "to_comp"
  walk_at "comp_range"
  refine comp_restT_same (fun i ys => IntsAre ys (placesN x y i)) .nil ?_ ?_
  · intro i v I oI C oC D m₂ ys h tk E' hi hP hJ hC hx F N off ne
    obtain ⟨tv, rfl⟩ := hP
    k_steps
    · (with_reducible rename (_ == _) = true => hq9)
      refine LCg.CompEnd.intro (by k_asm) (by k_asm) _ (fun p hp => hp) off trivial ⟨rfl, ?_⟩
      rw [placesN, if_pos (occ_yes hq9 (by omega) (by omega) (by omega)), show (0 + (i : Int)) = (i : Int) by omega]
      exact IntsAre.append hJ (.cons _ _ .nil)
    · refine LCg.CompEnd.intro (by k_asm) (by k_asm) _ (fun p hp => hp) off trivial ⟨rfl, ?_⟩
      rw [placesN, if_neg (fun q => by have := q.2; omega)]
      exact hJ
    · (with_reducible rename (_ == _) = false => hq9)
      refine LCg.CompEnd.intro (by k_asm) (by k_asm) _ (fun p hp => hp) off trivial ⟨rfl, ?_⟩
      rw [placesN, if_neg (occ_no hq9 (by omega) (by omega))]
      exact hJ
  · intro ys hJ D h9 tk9 F9 N9 off9
    have e9 : ((x.length : Int) + 1 - 0).toNat = x.length + 1 := by omega
    rw [e9] at hJ
    k_steps
    exact hret _ _ _ _ (by k_asm) (news_keep (by k_asm) (by walk_at "mem_tail")) ⟨_, _, _, rfl, rfl, hJ, fun q hq => off1_mem off9 q (List.mem_cons_of_mem _ (List.mem_cons_of_mem _ hq))⟩
theorem places_use {prog : Program} {w : World} {p : Program} {loose : List Str} {mean : ExcName → Option Value} {mg mb : Str → Option Value} {dp un : Nat} {gd : Option (List Code)} {cn : Str} {cs : Scope} {a : Addr} {ccd : Value} {cl : List (Str × Addr)} {outer : List Env} {A₀ : Around} {base h₀ : Heap} {L : Addr} {m : Str → Option Value} {s : Shared} {Q E : Value → Shared → Prop} {x y : Str} {t1 t2 : Tok} {news : Led} (B : Below A₀ base outer h₀) (F : Fr h₀ L s.heap m) (X : (K w.params).In h₀) (N : News h₀ L s.heap news) (T : Top p loose mean mg mb h₀) (hk : cs.kind = .function) (hd : dp + 2 < recursionLimit) (hu : un + 16 < cLine) (hn : x.length ≤ 1000) (hy : y.length ≤ 1000)
    (hq : ∀ (d : Addr) (vs : List Value) (n : Nat) h' tk', IntsAre vs (placesN x y (x.length + 1)) → Fr h₀ L h' m → News h₀ L h' ((d, lst vs n) :: news) → (∀ q ∈ news, q.1 ≠ d) → Q (.ref d) { s with heap := h', toks := tk' }) :
    wpAny (model prog w) (ktrTop dp un gd cn cs L a ccd cl outer) (call (.ref 541) [.str x t1, .str y t2]) Q E s :=
  tel_use (places_ok x y t1 t2 news hn hy) B F X N T hk hd hu fun r news' h' tk' F' N' O => by
    obtain ⟨d, vs, n, h2, h3, h4, h5⟩ := O
    rw [h2]; rw [h3] at N'
    exact hq d vs n h' tk' h4 F' N' h5

end
example : True := by
  k_with "call ref" => (k_here; (with_reducible show wpAny _ _ (call (Value.ref 541) _) _ _ _); k_dflt (refine' places_use (by k_asm) (by k_asm) (by k_asm) (by k_asm) (by k_asm) (by first | exact rfl | assumption) (by ktr_room) (by ktr_units) (by omega) (by omega) ?_); intro d9 vs9 n9 h9 tk9 hp9 F9 N9 hl9; (try simp only [List.forall_mem_cons] at hl9); (try dsimp only); (try k_fold); (try k_sweep))
  trivial
section
noncomputable def cntLen (c : Option Int) (m : Nat) : Option Int := c.map fun n => if 0 ≤ n then (m : Int) else n
theorem cntV_none {m : Nat} : CntV .none (cntLen none m) := .none
theorem cntV_pos {k : Int} {m : Nat} {t : Tok} (h : 0 ≤ k) : CntV (.int (m : Int) t) (cntLen (some k) m) := by
  show CntV _ (some (if 0 ≤ k then (m : Int) else k))
  rw [if_pos h]; exact .int _ _
theorem cntV_neg {k : Int} {m : Nat} {t : Tok} (h : ¬ 0 ≤ k) : CntV (.int k t) (cntLen (some k) m) := by
  show CntV _ (some (if 0 ≤ k then (m : Int) else k))
  rw [if_neg h]; exact .int _ _
theorem ite_t {b : Bool} {x y : Int} (h : b = true) : x = if b = true then x else y := (if_pos h).symm
theorem ite_f {b : Bool} {x y : Int} (h : b = false) : y = if b = true then x else y := by rw [h]; rfl
/-- what _law_put gives: the part, the whole text, the new offset, the new count -/
noncomputable def lputOf (x : Str) (off : Int) (b : Bool) (c : Option Int) (y : Str) : Option (Str × Str × Int × Option Int) :=
  (lpartOf x off b c).map fun q => (q.1, subS x 0 q.2.toNat ++ y ++ subS x (q.2.toNat + q.1.length) x.length, (if b = true then off + y.length - q.1.length else off), cntLen c y.length)
set_option linter.unusedSimpArgs false in
set_option maxHeartbeats 4000000 in
theorem lput_ok (x : Str) (tk : Addr) (off : Int) (b : Bool) (c : Option Int) (cv : Value) (y : Str) (t1 t2 t3 : Tok) (news : Led) (ht : (tk, tup [.int off t2, .bool b, cv]) ∈ news) (hc : CntV cv c) (hn : x.length ≤ 1000) (hy : y.length ≤ 1000) :
    Tel 548 4 40 [.str x t1, .ref tk, .str y t3] news (fun r news' => (lputOf x off b c y = none ∧ r = .none ∧ news' = news) ∨ ∃ (d e : Addr) (z v : Str) (o : Int) (c' : Option Int) (cv' : Value) (t t' t'' : Tok), lputOf x off b c y = some (z, v, o, c') ∧ CntV cv' c' ∧ r = .ref d ∧ news' = (d, tup [.str z t, .str v t', .ref e]) :: (e, tup [.int o t'', .bool b, cv']) :: news ∧ (∀ q ∈ news, q.1 < e) ∧ e < d) := by
  w_top off
  unfold Tel
  intro prog w pp loose mean mg mb dp un gd cn cs a ccd cl outer A₀ base h₀ L m s Q E B F X N T hk9 hd hu hret
  refine wpAny_call ?_
  k_dflt (walk_at "enter_n")
  intro g1 L1 h1 FG1 F1 N1 B1 X1 T1
  (try dsimp only)
  (try k_lift B1)
  refine cutN 4 (Mid9 s g1 L1 news fun m' => ∃ (z : Str) (k : Int) (tz tk2 : Tok), Has m' [(Str.ofString "text", .str x t1), (Str.ofString "new", .str y t3), (Str.ofString "old", .str z tz), (Str.ofString "place", .int k tk2), (Str.ofString "offset", .int off t2), (Str.ofString "is_behind", .bool b), (Str.ofString "count", cv)] ∧ lpartOf x off b c = some (z, k)) ?_ ?_
  · simp only [List.take]
    k_steps
    all_goals first
      | ((show Mid9 _ _ _ _ _ _); refine mid_mk (by k_asm) (news_sub (by k_asm) (by walk_at "mem_tail")) ⟨_, _, _, _, by unfold Has; kst_all, by assumption⟩)
      | ((with_reducible rename lpartOf _ _ _ _ = none => hs); refine hret _ _ _ _ (by k_asm) (by walk_at "news_sub") (Or.inl ⟨?_, rfl, rfl⟩); rw [lputOf, hs]; rfl)
  rintro s' ⟨h2, tk2, m2, rfl, F2, N2, z, k, tz, tk3, H2, hs⟩
  clear F1 N1
  have F3 := fr_has F2 H2
  clear F2 H2
  dsimp only [kstB] at F3
  simp only [List.drop]
  have hf := lpart_facts hs
  have hz : z.length ≤ 1000 := by omega
  refine cutN 2 (Mid9 s g1 L1 news fun m' => ∃ (o : Int) (to : Tok) (cv' : Value), Has m' [(Str.ofString "text", .str x t1), (Str.ofString "new", .str y t3), (Str.ofString "old", .str z tz), (Str.ofString "place", .int k tk3), (Str.ofString "offset", .int o to), (Str.ofString "is_behind", .bool b), (Str.ofString "count", cv')] ∧ o = (if b = true then off + y.length - z.length else off) ∧ CntV cv' (cntLen c y.length)) ?_ ?_
  · simp only [List.take]
    cases hc
    all_goals k_steps
    all_goals (show Mid9 _ _ _ _ _ _)
    all_goals refine mid_mk (by k_asm) (by k_asm) ⟨_, _, _, by unfold Has; kst_all, ?_, ?_⟩
    all_goals first
      | exact cntV_none
      | ((with_reducible rename b = true => hb9); exact ite_t hb9)
      | ((with_reducible rename b = false => hb9); exact ite_f hb9)
      | ((with_reducible rename 0 ≤ _ => hb9); exact cntV_pos hb9)
      | ((with_reducible rename ¬ 0 ≤ _ => hb9); exact cntV_neg hb9)
  rintro s' ⟨h4, tk4, m4, rfl, F4, N4, o4, to4, cv4, H4, ho, hcv⟩
  clear F3 N2
  have F5 := fr_has F4 H4
  clear F4 H4
  dsimp only [kstB] at F5
  simp only [List.drop]
  k_steps
  refine hret _ _ _ _ (by k_asm) (news_keep2 (by k_asm) (by walk_at "mem_tail")) (Or.inr ⟨_, _, _, _, _, _, _, _, _, _, ?_, hcv, rfl, rfl, ?_, ?_⟩)
  · simp only [lputOf, hs, Option.map_some, ← ho]
    rw [slice_val_to (by omega) (by omega), slice_val_from (by omega) (by omega)]
    congr 6; omega
  · walk_at "led_lt"
  · show (_ : Nat) < _; omega
theorem lput_use {prog : Program} {w : World} {p : Program} {loose : List Str} {mean : ExcName → Option Value} {mg mb : Str → Option Value} {dp un : Nat} {gd : Option (List Code)} {cn : Str} {cs : Scope} {a : Addr} {ccd : Value} {cl : List (Str × Addr)} {outer : List Env} {A₀ : Around} {base h₀ : Heap} {L : Addr} {m : Str → Option Value} {s : Shared} {Q E : Value → Shared → Prop} {x : Str} {tk : Addr} {off : Int} {b : Bool} {c : Option Int} {cv : Value} {y : Str} {t1 t2 t3 : Tok} {news : Led} (B : Below A₀ base outer h₀) (F : Fr h₀ L s.heap m) (X : (K w.params).In h₀) (N : News h₀ L s.heap news) (T : Top p loose mean mg mb h₀) (hk : cs.kind = .function) (hd : dp + 4 < recursionLimit) (hu : un + 40 < cLine) (ht : (tk, tup [.int off t2, .bool b, cv]) ∈ news) (hc : CntV cv c) (hn : x.length ≤ 1000) (hy : y.length ≤ 1000)
    (hnone : ∀ h' tk', lputOf x off b c y = none → Fr h₀ L h' m → News h₀ L h' news → Q .none { s with heap := h', toks := tk' })
    (hsome : ∀ (d e : Addr) (z v : Str) (o : Int) (c' : Option Int) (cv' : Value) (t t' t'' : Tok) h' tk', lputOf x off b c y = some (z, v, o, c') → CntV cv' c' → Fr h₀ L h' m → News h₀ L h' ((d, tup [.str z t, .str v t', .ref e]) :: (e, tup [.int o t'', .bool b, cv']) :: news) → (∀ q ∈ news, q.1 < e) → @LT.lt Nat _ e d → Q (.ref d) { s with heap := h', toks := tk' }) :
    wpAny (model prog w) (ktrTop dp un gd cn cs L a ccd cl outer) (call (.ref 548) [.str x t1, .ref tk, .str y t3]) Q E s :=
  tel_use (lput_ok x tk off b c cv y t1 t2 t3 news ht hc hn hy) B F X N T hk hd hu fun r news' h' tk' F' N' O => by
    rcases O with ⟨h1, h2, h3⟩ | ⟨d, e, z, v, o, c', cv', t, t', t'', h1, h2, h3, h4, h5, h6⟩
    · rw [h2]; rw [h3] at N'; exact hnone h' tk' h1 F' N'
    · rw [h3]; rw [h4] at N'; exact hsome d e z v o c' cv' t t' t'' h' tk' h1 h2 F' N' h5 h6

end
example : True := by
  k_with "call ref" => (k_here; (with_reducible show wpAny _ _ (call (Value.ref 548) _) _ _ _); k_dflt (refine' lput_use (by k_asm) (by k_asm) (by k_asm) (by k_asm) (by k_asm) (by first | exact rfl | assumption) (by ktr_room) (by ktr_units) (by k_mem) (by first | assumption | exact CntV.none | exact CntV.int _ _) (by omega) (by omega) ?_ ?_); (first | (intro d9 e9 z9 v9 o9 c9 cv9 t9 u9 w9 h9 tk9 hs9 hc9 F9 N9 hl9 he9; (try k_lt hl9)) | (intro h9 tk9 hs9 F9 N9)) <;> (try dsimp only) <;> (try k_fold) <;> (try k_sweep))
  trivial
section
section
variable {nm q : Str} {C N : Addr} {bs bm bmB : List Value} {hdct : Bool} {sn : List Str} {sub : List Value} {ab : Bool} {col : Option Bool} {dd : Option Addr} {k0 k1 k2 k3 k5 : Option Value} {B newId initId : String}
/-- what a class's further bases must hold for its instances to be made as the built-in base makes them -/
structure Mid (B : String) (bm : List Value) : Prop where
  base : bm.contains (.type B) = true
  attr : bm.contains (.type "AttributeError") = false
  name : bm.contains (.type "NameError") = false
theorem mid_check {M : Model} {A : Around} {E : Value → Shared → Prop} {h : Heap} {g : Array GenState} {d : Drawn} {t : Nat} {os : OsState} (F : ExcBaseFacts B newId initId bmB) (D : Mid B bm) {rest : List Value} {Q : Unit → Shared → Prop}
    (hC : h.get? C = some (excClassObj nm q C N bs bm hdct sn sub ab col dd k0 k1 k2 k3 k5 newId)) (hq : Q () ⟨h, g, d, t, os⟩) : wpAny M A (checkBuiltinCall newId ⟨.ref C :: rest, []⟩) Q E ⟨h, g, d, t, os⟩ := by
  have hin : (Value.ref C :: bm).contains (.type B) = true := by rw [List.contains_cons, D.base, Bool.or_true]
  have hstar := F.noStar
  simp only [checkBuiltinCall, F.newKind, F.newSplit, F.newRow]
  repeat (first | refine wpAny_loadPart_at hC ?_ | (refine wpAny_isSubtype_exc hC ?_; rw [hin]) | refine wpAny_staticBase_exc hC ?_ | refine wpAny_madeBy_exc hC ?_ | simp only [bne_self_eq_false, Bool.false_eq_true, if_false] | wp_step)
  exact hq
theorem mid_new {prog : Program} {w : World} {A : Around} {R : Result → Shared → Prop} {h : Heap} {g : Array GenState} {d : Drawn} {t : Nat} {os : OsState} (F : ExcBaseFacts B newId initId bmB) (D : Mid B bm) {rest : List Value}
    (hC : h.get? C = some (excClassObj nm q C N bs bm hdct sn sub ab col dd k0 k1 k2 k3 k5 newId)) (hrest : rest.length ≤ sizeLine)
    (hq : R (.ok (.ret (.ref (h.objs.size + 1)))) ⟨(h.push (tup rest)).push { cls := .ref C, data := .fields #[.ref h.objs.size, .none, .none, .none, .bool false, .none] }, g, d, t, os⟩) :
    codeAny (model prog w) A (.builtin newId ⟨.ref C :: rest, []⟩) R ⟨h, g, d, t, os⟩ := by
  have hends := F.ends
  have c1 : (Value.ref C :: bm).contains (.type B) = true := by rw [List.contains_cons, D.base, Bool.or_true]
  have c2 : (Value.ref C :: bm).contains (.type "AttributeError") = false := by rw [List.contains_cons, D.attr]; rfl
  have c3 : (Value.ref C :: bm).contains (.type "NameError") = false := by rw [List.contains_cons, D.name]; rfl
  refine codeAny_builtinAt F.entry ?_
  unfold Builtin.«BaseException.__new__»
  refine PySem.wpAt_bind ?_
  show PySem.wpAt _ _ _ (stack >>= _) _ _ _
  refine PySem.wpAt_bind (PySem.wpAt_stack fun p below => PySem.wpAt_of_wpAny ?_)
  wp_walk
  refine PySem.wpAt_of_wpAny ?_
  rw [F.owner]
  repeat (first | with_reducible refine wpAny_madeHere_exc F.canon hC ?_ | with_reducible refine wpAny_loadPart_at hC ?_ | (with_reducible refine wpAny_isSubtype_exc hC ?_; first | rw [c1] | rw [c2] | rw [c3]) | wp_step)
  show R _ _
  rw [Heap.size_push]
  exact hq
/-- an own exception class is called whose __init__ is a def: the object is made, then the def is called upon it -/
theorem mid_call {prog : Program} {w : World} {A : Around} {E : Value → Shared → Prop} {h : Heap} {g : Array GenState} {d : Drawn} {t : Nat} {os : OsState} (F : ExcBaseFacts B newId initId bmB) (D : Mid B bm) {rest : List Value} {fI : Addr} {Q : Value → Shared → Prop}
    (hC : h.get? C = some (excClassObj nm q C N bs bm hdct sn sub ab col dd k0 k1 k2 k3 k5 newId)) (hrest : rest.length ≤ sizeLine)
    (hi : ∀ h', (∀ b o, h.get? b = some o → h'.get? b = some o) → Looks (model prog w) h' (typeLookup (.ref C) "__init__") (some (.ref fI)))
    (hf : ∀ h', (∀ b o, h.get? b = some o → h'.get? b = some o) → Looks (model prog w) h' (typeOf (.ref fI)) (.type "function"))
    (hq : wpAny (model prog w) (A.under (.builtin "type.__call__" ⟨.ref C :: rest, []⟩)) (call (.ref fI) (.ref (h.objs.size + 1) :: rest)) (fun r s' => r = .none ∧ Q (.ref (h.objs.size + 1)) s') E
      ⟨(h.push (tup rest)).push { cls := .ref C, data := .fields #[.ref h.objs.size, .none, .none, .none, .bool false, .none] }, g, d, t, os⟩) :
    wpAny (model prog w) A (call (.ref C) rest) Q E ⟨h, g, d, t, os⟩ := by
  have f1 := tc_lookup
  have f2 := tc_bind (.ref C)
  have hT : (⟨h, g, d, t, os⟩ : Shared).TypeIs (.ref C) "type" := ⟨_, hC, rfl⟩
  have hup : ∀ b o, h.get? b = some o → ((h.push (tup rest)).push { cls := .ref C, data := .fields #[.ref h.objs.size, .none, .none, .none, .bool false, .none] }).get? b = some o := fun b o e => Heap.get?_push_of_some _ (Heap.get?_push_of_some _ e)
  have hC' := hup _ _ hC
  have he : ((h.push (tup rest)).push { cls := .ref C, data := .fields #[.ref h.objs.size, .none, .none, .none, .bool false, .none] }).get? (h.objs.size + 1) = some { cls := .ref C, data := .fields #[.ref h.objs.size, .none, .none, .none, .bool false, .none] } := by heap_get
  have c0 : (Value.ref C :: bm).contains (.ref C) = true := by simp
  refine wpAny_call (codeAny_of_tree ?_)
  show wpAny _ _ (callAny (.ref C) _) _ _ _
  repeat (any_goals (first | assumption | with_reducible refine wpAny_loadPart_at hC ?_ | wp_step))
  refine ⟨rfl, ?_⟩
  refine codeAny_call_builtin_at (Code.quiet_builtin _ (by decide +kernel)) entry_typeCall (wpAny_check_type_call_sub hC ?_)
  repeat (first | with_reducible refine wpAny_loadPart_at hC ?_ | with_reducible refine wpAny_madeBy_exc hC ?_ | wp_step)
  refine codeAny_call_builtin_code (Code.quiet_builtin _ F.quiet) (mid_check F D hC ?_)
  refine mid_new F D hC hrest ?_
  show wpAny _ _ _ _ _ _
  unfold isInstance
  repeat (first | with_reducible refine wpAny_loadPart_at he ?_ | ((with_reducible show wpAny _ _ (isSubtype (Obj.mk _ _ _ _).cls _) _ _ _); dsimp only) | (with_reducible refine wpAny_isSubtype_exc hC' ?_; rw [c0]) | wp_step)
  refine wpAny_isSubtype_exc hC' ?_
  rw [c0]
  repeat wp_step
  show wpAny _ _ (typeLookup (.ref C) _) _ _ _
  refine (hi _ hup).here ?_
  refine wpAny_holding (wpAny_bind ?_)
  unfold bindSpecial
  refine wpAny_bind ((hf _ hup).here ?_)
  rw [if_pos (by decide)]
  refine wpAny_pure (wpAny_bind (wpAny_mono hq (fun r s' hr => ?_) fun _ _ x => x))
  obtain ⟨rfl, hQ⟩ := hr
  wp_walk
  exact hQ
end
abbrev excO (C : Addr) (ta : Value) : Obj := { cls := .ref C, data := .fields #[ta, .none, .none, .none, .bool false, .none] }
theorem die_mid : Mid "Exception" [.ref 38, .type "Exception", .type "BaseException", .type "object"] := ⟨by decide +kernel, by decide +kernel, by decide +kernel⟩
/-- Exception.__init__, read off the class -/
theorem getm_exc {prog : Program} {w : World} {A : Around} {E : Value → Shared → Prop} {s : Shared} {h₀ : Heap} {L : Addr} {m : Str → Option Value} {pl : Sem Bool} {Q : Value × List Value → Shared → Prop} (F : Fr h₀ L s.heap m) (X₀ : (K w.params).In h₀)
    (h : Q (.builtin "Exception.__init__", []) { s with toks := s.toks + 1 }) : wpAny (model prog w) A (getMethod (.type "Exception") (PySem.Str.ofString "__init__") pl) Q E s := by
  have X := X₀.keeps F.keep
  have hstub : opaqueClassAbove (.type "Exception") = pure none := by unfold opaqueClassAbove; dsimp only; rw [show Manifest.isStub "Exception" = false by decide +kernel]; rfl
  have ht : typeOf (.type "Exception") = pure (.type "type") := by first | rfl | kernel_rfl
  have L0 : Looks (model prog w) s.heap (typeOf (.type "Exception")) (.type "type") := Looks.of_pure ht
  have hg : findIn (K w.params) (.type "type") "__getattribute__" = some (some (.builtin "type.__getattribute__")) := type_tga
  have e : findCls (K w.params) (.type "Exception") (.type "type") (PySem.Str.ofString "__init__") = some (.val (.builtin "Exception.__init__")) := by rfl
  unfold getMethod specialOf
  refine wpAny_bind (wpAny_bind (L0.here ((looks_findIn X hg).here ?_)))
  dsimp only
  rw [if_pos canon_tga]
  refine wpAny_bind (wpAny_mono (Q := fun v => Q (v, [])) (E := E) ?_ (fun _ _ z => wpAny_pure z) fun _ _ z => z)
  refine cls_open X (Looks.of_pure hstub) L0 hg (looks_hook X (r := none) (by rfl)) (by show subIn (K w.params) _ _ = _; rfl) e ?_
  exact wpAny_pure (handed_on rfl h)
/-- Exception.__init__ called upon an own exception: its args are a new tuple -/
theorem exc_init {prog : Program} {w : World} {A : Around} {E : Value → Shared → Prop} {s : Shared} {h₀ : Heap} {L C e : Addr} {m : Str → Option Value} {news : Led} {dd : Option Addr} {ta : Addr} {rest : List Value} {Q : Value → Shared → Prop} (F : Fr h₀ L s.heap m)
    (N : News h₀ L s.heap ((e, { cls := .ref C, dict := dd, data := .fields #[.ref ta, .none, .none, .none, .bool false, .none] }) :: news)) (hne : ∀ q ∈ news, q.1 ≠ e)
    {nm q : Str} {Nn : Addr} {bs bm : List Value} {hdct : Bool} {sn : List Str} {sub : List Value} {ab : Bool} {col : Option Bool} {dc : Option Addr} {k0 k1 k2 k3 k5 : Option Value} {newId : String} (D : Mid "Exception" bm) (hC₀ : h₀.get? C = some (excClassObj nm q C Nn bs bm hdct sn sub ab col dc k0 k1 k2 k3 k5 newId)) (hrest : rest.length ≤ sizeLine)
    (h : ∀ (t' : Addr) h', Fr h₀ L h' m → News h₀ L h' ((e, { cls := .ref C, dict := dd, data := .fields #[.ref t', .none, .none, .none, .bool false, .none] }) :: news) → Q .none { s with heap := h' }) :
    wpAny (model prog w) A (call (.builtin "Exception.__init__") (.ref e :: rest)) Q E s := by
  obtain ⟨hh, g, d, t, os⟩ := s
  have FE := PySem.F.excBase_Exception
  have he := (N _ List.mem_cons_self).1
  dsimp only at he F N
  have hC := F.keep _ _ hC₀
  have c1 : (Value.ref C :: bm).contains (.type "Exception") = true := by rw [List.contains_cons, D.base, Bool.or_true]
  refine wpAny_call (codeAny_call_builtin FE.init.plain FE.initEntry ?_)
  have hshort := FE.noStar
  simp only [checkBuiltinCall, FE.initKind, FE.initSplit, FE.initRow]
  repeat (first | (with_reducible refine wpAny_loadPart_at he ?_) | ((with_reducible show wpAny _ _ (isSubtype (Obj.mk _ _ _ _).cls _) _ _ _); dsimp only) | (refine wpAny_isSubtype_exc hC ?_; rw [c1]) | wp_step)
  refine wpAny_onRaise ?_
  rw [show ∀ (a b : String) (n : Nat), Bind.check ⟨.positional, "*", "Exception", .self, [⟨"args", .varPos, false⟩]⟩ a b n (List.map (fun x => x.fst) ({ pos := Value.ref e :: rest } : Args).kw) = pure () from
    fun a b n => check_star_args _ _ _ _ _ _]
  refine wpAny_pure ?_
  wp_walk
  obtain ⟨U1, U2⟩ := news_upd (pre := []) (f := Obj.mapFields (·.setIfInBounds 0 (.ref hh.objs.size))) (F.push (tup rest)) (News.pushKeep N (tup rest)) (fun _ h => nomatch h) hne (o' := { cls := .ref C, dict := dd, data := .fields #[.ref hh.objs.size, .none, .none, .none, .bool false, .none] }) rfl rfl
  exact h _ _ U1 U2
local macro_rules | `(tactic| walk_at "getMethod type:Exception") => `(tactic| (k_here; k_dflt (refine' getm_exc ?k1 ?k2 ?_; (case k1 => k_asm); (case k2 => k_asm))))
theorem die_init {prog : Program} {w : World} {A : Around} {E : Value → Shared → Prop} {s : Shared} {h₀ : Heap} {L e : Addr} {m : Str → Option Value} {news : Led} {dd : Option Addr} {ta : Addr} {rest : List Value} {Q : Value → Shared → Prop} (F : Fr h₀ L s.heap m)
    (N : News h₀ L s.heap ((e, { cls := .ref 58, dict := dd, data := .fields #[.ref ta, .none, .none, .none, .bool false, .none] }) :: news)) (hne : ∀ q ∈ news, q.1 ≠ e) (X : (K w.params).In h₀) (hrest : rest.length ≤ sizeLine)
    (h : ∀ (t' : Addr) h', Fr h₀ L h' m → News h₀ L h' ((e, { cls := .ref 58, dict := dd, data := .fields #[.ref t', .none, .none, .none, .bool false, .none] }) :: news) → Q .none { s with heap := h' }) :
    wpAny (model prog w) A (call (.builtin "Exception.__init__") (.ref e :: rest)) Q E s := exc_init F N hne die_mid (X 58 _ rfl) hrest h
local macro_rules | `(tactic| walk_at "call builtin:Exception.__init__") => `(tactic| (k_here; k_dflt (refine' die_init ?k1 ?k2 ?k3 ?k4 ?k5 ?_; (case k1 => k_asm); (case k2 => k_asm); (case k3 => k_all); (case k4 => k_asm); (case k5 => rw [sizeLine_eq]; exact Nat.le_of_ble_eq_true rfl)); intro t9 h9 F9 N9))
section
open PySem.Builtin PySem.Builtin.ObjectAttr
variable {prog : Program} {w : World} {A : Around} {E : Value → Shared → Prop} {s : Shared} {h₀ : Heap} {L e x : Addr} {m : Str → Option Value} {news : Led} {name : Str} {v : Value} {ox : Obj} {od : Option Obj} {Q : Unit → Shared → Prop}
/-- a field of an own exception is set: down to the store in the object's own dict -/
theorem die_set (X : (K w.params).In s.heap) (I : InstAt s.heap x ox 58 od) (ha : findIn (K w.params) (.ref 58) name = some none)
    (h : ∀ (A' : Around) tk, wpAny (model prog w) A' (storeInOwnDict (.ref x) (.ref 58) (.str name tk) name v false) (fun fin s' => fin = .done (.ret .none) ∧ Q () s') (fun _ _ => False) { s with toks := s.toks + 1 }) :
    wpAny (model prog w) A (setAttr (.ref x) name v) Q E s := by
  refine set_plain X I (by rfl) ?_
  have SF := PySem.F.store_object
  have hm : Looks (model prog w) s.heap (mroOf (.ref 58)) [.ref 58, .ref 38, .type "Exception", .type "BaseException", .type "object"] := ((Looks.ld (part := none) (X 58 _ rfl)).andThen .now).andThen .now
  have sub : Looks (model prog w) s.heap (isInstance (.ref x) (.type "object")) true := I.type.andThen (looks_mroIn X (by rfl))
  refine codeAny_call_builtin SF.slot.plain SF.entry (@check_slot (model prog w) _ _ _ "object.__setattr__" "object" "__setattr__" (.ref x) [.str name s.toks, v] [] _ SF.kind SF.split sub (SF.args (.ref x) (.str name s.toks) v) ?_)
  rw [osa_eq, refuse_eq]
  refine wpAny_bind (wpAny_bind (Looks.here (s := { s with toks := s.toks + 1 }) I.type (wpAny_bind (Looks.here (s := { s with toks := s.toks + 1 }) hm ?_))))
  rw [refuseLoop_ref, refuseLoop_ref, PySem.F.store_Exception.passes]
  refine wpAny_pure (wpAny_bind (Looks.here (s := { s with toks := s.toks + 1 }) I.type (wpAny_bind (Looks.here (s := { s with toks := s.toks + 1 }) (looks_findIn X ha) (wpAny_bind (wpAny_pure ?_))))))
  refine wpAny_mono (h _ _) (fun fin s' q => ?_) fun _ _ q => q.elim
  obtain ⟨rfl, q⟩ := q
  exact q
theorem own_store (e : Addr) (name : Str) (tk : Tok) (v : Value) : storeInOwnDict (.ref e) (.ref 58) (.str name tk) name v false = (instanceDict e true >>= fun r => match r with | some d => storeInDict d (.str name tk) name v | none => noDictFor (.ref e) (.ref 58) name false) := by kernel_rfl
theorem die_set1 {fs : Array Value} (F : Fr h₀ L s.heap m) (N : News h₀ L s.heap ((e, { cls := .ref 58, data := .fields fs }) :: news)) (hne : ∀ q ∈ news, q.1 ≠ e) (X₀ : (K w.params).In h₀) (ha : findIn (K w.params) (.ref 58) name = some none)
    (h : ∀ (dx : Addr) (od : Obj) h' tk', Fr h₀ L h' m → News h₀ L h' ((e, { cls := .ref 58, dict := some dx, data := .fields fs }) :: (dx, od) :: news) → e < dx → (∀ q ∈ news, q.1 < dx) →
      (∀ g : Heap, g.get? dx = some od → g.Ns1 dx (fun y => if y = name then some v else none)) → Q () { s with heap := h', toks := tk' }) :
    wpAny (model prog w) A (setAttr (.ref e) name v) Q E s := by
  obtain ⟨hh, g, d, t, os⟩ := s
  dsimp only at F N
  have X : (K w.params).In hh := X₀.keeps F.keep
  have he := (N _ List.mem_cons_self).1
  have hC := X 58 _ rfl
  dsimp only at he
  refine die_set (od := none) X ⟨he, rfl, rfl, trivial⟩ ha fun A' tk => ?_
  rw [own_store]
  refine wpAny_bind (wpAny_mono (Q := fun r s' => r = some hh.objs.size ∧ s' = ⟨(hh.push { cls := .type "dict", data := .dict #[] }).update e (fun o => { o with dict := some hh.objs.size }), g, d, t + 1, os⟩) (E := fun _ _ => False) ?_ (fun r s' q => ?_) fun _ _ q => q)
  · unfold instanceDict
    repeat (first | (with_reducible refine wpAny_loadPart_at he ?_) | (with_reducible refine wpAny_loadPart_at hC ?_) | wp_step)
    exact ⟨rfl, rfl⟩
  obtain ⟨rfl, rfl⟩ := q
  have hes : e < hh.objs.size := Heap.lt_size he
  obtain ⟨U1, U2⟩ := news_upd (pre := []) (f := fun o => { o with dict := some hh.objs.size }) (F.push { cls := .type "dict", data := .dict #[] }) (News.pushKeep N { cls := .type "dict", data := .dict #[] }) (fun _ h => nomatch h) hne (o' := { cls := .ref 58, dict := some hh.objs.size, data := .fields fs }) rfl rfl
  generalize hG : (hh.push { cls := .type "dict", data := .dict #[] }).update e (fun o => { o with dict := some hh.objs.size }) = G at U1 U2 ⊢
  have hgd : G.get? hh.objs.size = some { cls := .type "dict", data := .dict #[] } := by
    rw [← hG]
    exact (Heap.get?_update_ne _ _ _ _ (Nat.ne_of_gt hes)).trans (Heap.get?_push_at rfl rfl)
  have hnd : G.Ns hh.objs.size (fun _ => none) := ⟨_, #[], _, hgd, rfl, fun e he => absurd he (by simp), fun _ => rfl⟩
  show wpAny _ _ (storeInDict hh.objs.size (.str name tk) name v) _ _ _
  unfold storeInDict newKeyGuard
  refine wpAny_bind (wpAny_pure (wpAny_bind (wpAny_nsSet1 (Heap.Ns1.of_empty hnd) fun h' hn' hs => ?_)))
  obtain ⟨oD, esD, epD, hoD, hdD, hcD⟩ := hn'.count (Within.cons name v Within.nil)
  refine wpAny_bind (wpAny_lookBehind hoD (by rw [hdD]; exact pastItsLine_dict (Nat.le_trans hcD (by rw [List.length_cons, List.length_nil, sizeLine_eq]; omega))) ?_)
  obtain ⟨od, es, ep, e1, e2, e3, eu, e4⟩ := hn'
  have hL : hh.objs.size ≠ L := Nat.ne_of_gt F.ns.lt
  have h0 : h₀.get? hh.objs.size = none := by
    cases q : h₀.get? hh.objs.size with
    | none => rfl
    | some o => exact absurd (Heap.lt_size (F.keep _ _ q)) (Nat.lt_irrefl _)
  have hlt : ∀ q ∈ news, q.1 < hh.objs.size := fun q hq => Heap.lt_size (N q (List.mem_cons_of_mem _ hq)).1
  refine wpAny_pure ⟨rfl, h hh.objs.size od h' _ (U1.change hs hL h0) ?_ hes hlt (fun g hg => ⟨od, es, ep, hg, e2, e3, eu, e4⟩)⟩
  intro p hp
  rcases List.mem_cons.mp hp with rfl | hp
  · exact ⟨(hs.2 _ (Nat.ne_of_lt hes)).trans (U2 _ List.mem_cons_self).1, (U2 _ List.mem_cons_self).2⟩
  rcases List.mem_cons.mp hp with rfl | hp
  · exact ⟨e1, hL, h0⟩
  · exact ⟨(hs.2 _ (Nat.ne_of_lt (hlt p hp))).trans (U2 p (List.mem_cons_of_mem _ hp)).1, (U2 p (List.mem_cons_of_mem _ hp)).2⟩
theorem die_set2 {fs : Array Value} {dx : Addr} {oD : Obj} {mA : Str → Option Value} {ns : List Str} (F : Fr h₀ L s.heap m) (N : News h₀ L s.heap ((e, { cls := .ref 58, dict := some dx, data := .fields fs }) :: (dx, oD) :: news)) (hne : ∀ q ∈ news, q.1 < dx) (hed : e < dx)
    (X₀ : (K w.params).In h₀) (ha : findIn (K w.params) (.ref 58) name = some none) (hod : ∀ g : Heap, g.get? dx = some oD → g.Ns1 dx mA) (hw : Within mA ns) (hn : ns.length ≤ 100)
    (h : ∀ h' tk', Fr h₀ L h' m → News h₀ L h' ((e, { cls := .ref 58, dict := some dx, data := .fields fs }) :: news) → Q () { s with heap := h', toks := tk' }) :
    wpAny (model prog w) A (setAttr (.ref e) name v) Q E s := by
  obtain ⟨hh, g, d, t, os⟩ := s
  dsimp only at F N
  have X : (K w.params).In hh := X₀.keeps F.keep
  have he := (N _ List.mem_cons_self).1
  have hdx := N _ (List.mem_cons_of_mem _ List.mem_cons_self)
  have hC := X 58 _ rfl
  dsimp only at he
  refine die_set (od := some oD) X ⟨he, rfl, rfl, hdx.1⟩ ha fun A' tk => ?_
  rw [own_store]
  refine wpAny_bind (wpAny_mono (Q := fun r s' => r = some dx ∧ s' = ⟨hh, g, d, t + 1, os⟩) (E := fun _ _ => False) ?_ (fun r s' q => ?_) fun _ _ q => q)
  · unfold instanceDict
    repeat (first | (with_reducible refine wpAny_loadPart_at he ?_) | (with_reducible refine wpAny_loadPart_at hC ?_) | wp_step)
    exact ⟨rfl, rfl⟩
  obtain ⟨rfl, rfl⟩ := q
  show wpAny _ _ (storeInDict dx (.str name tk) name v) _ _ _
  unfold storeInDict newKeyGuard
  refine wpAny_bind (wpAny_pure (wpAny_bind (wpAny_nsSet1 (hod _ hdx.1) fun h' hn' hs => ?_)))
  obtain ⟨oD', esD, epD, hoD, hdD, hcD⟩ := hn'.count (Within.cons name v hw)
  refine wpAny_bind (wpAny_lookBehind hoD (by rw [hdD]; exact pastItsLine_dict (Nat.le_trans hcD (by rw [List.length_cons, sizeLine_eq]; omega))) ?_)
  refine wpAny_pure ⟨rfl, h h' _ (F.change hs hdx.2.1 hdx.2.2) ?_⟩
  intro p hp
  rcases List.mem_cons.mp hp with rfl | hp
  · exact ⟨(hs.2 _ (Nat.ne_of_lt hed)).trans (N _ List.mem_cons_self).1, (N _ List.mem_cons_self).2⟩
  · have z := N p (List.mem_cons_of_mem _ (List.mem_cons_of_mem _ hp))
    exact ⟨(hs.2 _ (Nat.ne_of_lt (hne p hp))).trans z.1, z.2⟩
end
local macro_rules | `(tactic| walk_at "setAttr ref") => `(tactic| (k_here; k_dflt (refine' die_set1 ?k1 ?k2 ?k3 ?k4 ?k5 ?_; (case k1 => k_asm); (case k2 => k_asm); (case k3 => k_all); (case k4 => k_asm); (case k5 => rfl)); intro dx9 od9 h9 tk9 F9 N9 le9 ll9 hod9))
local macro_rules | `(tactic| walk_at "setAttr ref") => `(tactic| (k_here; (with_reducible rename (∀ g : Heap, g.get? _ = some _ → g.Ns1 _ _) => hod9); k_dflt (refine' die_set2 ?k1 ?k2 ?k3 ?k4 ?k5 ?k6 hod9 (Within.cons _ _ Within.nil) (Nat.le_of_ble_eq_true rfl) ?_; (case k1 => k_asm); (case k2 => k_asm); (case k3 => assumption); (case k4 => assumption); (case k5 => k_asm); (case k6 => rfl)); intro h9 tk9 F9 N9))
/-- a Die object on the ledger -/
structure DieAt (ob : Obj) : Prop where
  cls : ob.cls = .ref 58
  data : ∃ ta, ob.data = .fields #[ta, .none, .none, .none, .bool false, .none]
set_option maxHeartbeats 4000000 in
theorem die_ok (x : Str) (t : Tok) (news : Led) : Tel 58 4 80 [.str x t] news (fun r news' => ∃ (e : Addr) (ob : Obj), r = .ref e ∧ news' = (e, ob) :: news ∧ DieAt ob ∧ (∀ q ∈ news, q.1 < e)) := by
  w_top off
  unfold Tel
  intro prog w pp loose mean mg mb dp un gd cn cs a ccd cl outer A₀ base h₀ L m s Q E B F X N T hk9 hd hu hret
  obtain ⟨hh, g, d, tk, os⟩ := s
  have Xs := X.keeps F.keep
  have hl9 : ∀ q ∈ news, q.1 < hh.objs.size := fun q hq => Heap.lt_size (N q hq).1
  refine mid_call (fI := 55) PySem.F.excBase_Exception die_mid (Xs 58 _ rfl) (by rw [sizeLine_eq]; exact Nat.le_of_ble_eq_true rfl) (fun h' k => looks_findIn (Xs.keeps k) (by rfl)) (fun h' k => looks_typeIn (Xs.keeps k) (by rfl)) ?_
  have F' := (F.push (tup [.str x t])).push (excO 58 (.ref hh.objs.size))
  have N' := (N.push F (tup [.str x t])).push (F.push _) (excO 58 (.ref hh.objs.size))
  rw [Heap.size_push] at N'
  generalize hE : ((hh.push _).push _) = hE at F' N' ⊢
  refine wpAny_call ?_
  k_dflt cell_enter
  k_steps
  exact hret _ _ _ _ (by k_asm) (news_keep (by k_asm) (by walk_at "mem_tail")) ⟨_, _, rfl, rfl, ⟨rfl, _, rfl⟩, fun q hq => Nat.lt_succ_of_lt (hl9 q hq)⟩
theorem die_use {prog : Program} {w : World} {p : Program} {loose : List Str} {mean : ExcName → Option Value} {mg mb : Str → Option Value} {dp un : Nat} {gd : Option (List Code)} {cn : Str} {cs : Scope} {a : Addr} {ccd : Value} {cl : List (Str × Addr)} {outer : List Env} {A₀ : Around} {base h₀ : Heap} {L : Addr} {m : Str → Option Value} {s : Shared} {Q E : Value → Shared → Prop} {x : Str} {t : Tok} {news : Led} (B : Below A₀ base outer h₀) (F : Fr h₀ L s.heap m) (X : (K w.params).In h₀) (N : News h₀ L s.heap news) (T : Top p loose mean mg mb h₀) (hk : cs.kind = .function) (hd : dp + 4 < recursionLimit) (hu : un + 80 < cLine)
    (hq : ∀ (e : Addr) (ob : Obj) h' tk', Fr h₀ L h' m → News h₀ L h' ((e, ob) :: news) → DieAt ob → (∀ q ∈ news, q.1 < e) → Q (.ref e) { s with heap := h', toks := tk' }) :
    wpAny (model prog w) (ktrTop dp un gd cn cs L a ccd cl outer) (call (.ref 58) [.str x t]) Q E s :=
  tel_use (die_ok x t news) B F X N T hk hd hu fun r news' h' tk' F' N' O => by
    obtain ⟨e, ob, h2, h3, h4, h5⟩ := O
    rw [h2]; rw [h3] at N'
    exact hq e ob h' tk' F' N' h4 h5
/-- what stands behind «raise» when a Die object is made: the raise goes on with it -/
def DieGo (P : Params) (E : Value → Shared → Prop) (v : Value) (s₁ : Shared) : Prop :=
  ∃ e ob, v = .ref e ∧ (K P).In s₁.heap ∧ s₁.heap.get? e = some ob ∧ DieAt ob ∧ E (.ref e) s₁
theorem raise_die {prog : Program} {w : World} {A : Around} {env : Env} {E : Value → Shared → Prop} {s : Shared} {e : PySem.Expr} {pos : Pos} {Q : Flow → Shared → Prop} (hh : A.handled = none)
    (h : wpAny (model prog w) A (eval e env) (DieGo w.params E) E s) : wpAny (model prog w) A (exec (.Raise (some e) none pos) env) Q E s := by
  show wpAny (model prog w) A (do standAt pos; raiseStmt env (some (do let v ← eval e env; standAt pos; pure v)) none) Q E s
  refine wpAny_bind (wpAny_standAt ?_)
  unfold raiseStmt
  dsimp only
  refine wpAny_bind (wpAny_bind (wpAny_mono h (fun v s₁ h₁ => wpAny_bind (wpAny_standAt (wpAny_pure ?_))) fun _ _ x => x))
  obtain ⟨x, ⟨oc, od, odt, osl⟩, rfl, X, he, ⟨hcls, ta, hd⟩, hE⟩ := h₁
  dsimp only at hcls hd
  subst hcls hd
  obtain ⟨hp, g, d, tk, os⟩ := s₁
  have hC := X 58 _ rfl
  dsimp only at he hC
  have c1 : (Value.ref 58 :: [Value.ref 38, .type "Exception", .type "BaseException", .type "object"]).contains (.type "BaseException") = true := by decide +kernel
  repeat (first | with_reducible refine wpAny_loadPart_at he ?_ | with_reducible refine wpAny_loadPart_at hC ?_ | (refine wpAny_isSubtype_exc hC ?_; rw [c1]) | wp_step)
  exact wpAny_raiseNew_none hh hE

end
local macro_rules | `(tactic| walk_at "zz") => `(tactic| skip)
local macro_rules | `(tactic| walk_at "exec Raise some none") => `(tactic| (k_here; k_dflt (refine' raise_die ?k1 ?_; (case k1 => exact rfl))))
local macro_rules | `(tactic| walk_at "call ref") => `(tactic| (k_here; (with_reducible show wpAny _ _ (call (Value.ref 58) _) (DieGo _ _) _ _); k_dflt (refine' die_use ?k1 ?k2 ?k3 ?k4 ?k5 ?kK ?kd ?ku ?_; (case k1 => k_asm); (case k2 => k_asm); (case k3 => k_asm); (case k4 => k_asm); (case k5 => k_asm); (case kK => first | exact rfl | assumption); (case kd => ktr_room); (case ku => ktr_units); skip); intro e9 ob9 h9 tk9 F9 N9 hob9 hl9; refine ⟨_, _, rfl, Frag.In.keeps (by k_asm) (Fr.keep (by k_asm)), News.get (by k_asm) (by k_mem), hob9, ?_⟩; (try k_lt hl9)))
section
/-- a def that catches, called by the law's own frame (whose locals may be cells) -/
theorem enterX {A₀ A : Around} {s : Shared} {base h₀ : Heap} {env : Env} {outer : List Env} {L : Addr} {m : Str → Option Value} {news : Led} (B : Below A₀ base outer h₀) (F : Fr h₀ L s.heap m) (N : News h₀ L s.heap news) (hA : A.frames = some (env :: outer)) (hf : env.frame = some L) (hke : env.scope.kind = .function) :
    ∃ oL es ep, (hideAll s.heap (news.map (·.1))).get? L = some oL ∧ oL.data = .dict es ep ∧ (∀ h', h'.get? L = some oL → Heap.Ns h' L m) ∧ (∀ (sl : Array (Option Value)) h', h'.get? L = some { oL with slots := sl } → Heap.Ns h' L m) ∧
      h₀.StaysIn (hideAll s.heap (news.map (·.1))) ∧ Below A base (env :: outer) (hideAll s.heap (news.map (·.1))) := by
  have nm : ∀ b o, h₀.get? b = some o → b ∉ news.map (·.1) := fun b o e q => by
    obtain ⟨p, hp, rfl⟩ := List.mem_map.mp q
    rw [(N p hp).2.2] at e; cases e
  have st : h₀.StaysIn (hideAll s.heap (news.map (·.1))) := fun b o e => hideAll_get _ (F.keep b o e) (nm b o e)
  have fr : s.heap.FunFrames base (env :: outer) := by
    have hnew : base.get? L = none := by
      cases hq : base.get? L with
      | none => rfl
      | some o => exact absurd (Nat.lt_of_lt_of_le (Heap.lt_size (B.stays L o hq)) F.above) (Nat.lt_irrefl _)
    exact .cons (by rw [hke]; decide) hf F.ns hnew (B.frames.of_keeps fun b o e _ => ⟨o, F.keep b o e, rfl⟩)
  obtain ⟨oL, es, ep, hL, hLd, hLk, hLf⟩ := F.ns
  have nL : L ∉ news.map (·.1) := fun q => by
    obtain ⟨p, hp, e⟩ := List.mem_map.mp q
    exact (N p hp).2.1 e
  refine ⟨oL, es, ep, hideAll_get _ hL nL, hLd, fun h' e => ⟨oL, es, ep, e, hLd, hLk, hLf⟩, fun sl h' e => ⟨_, es, ep, e, hLd, hLk, hLf⟩, st, ⟨hA, fun b o e => st b o (B.stays b o e), funFrames_hideAll fr fun env' he b hb hf' => ?_⟩⟩
  cases he with
  | head => exact nL ((Option.some.inj (hf.symm.trans hf') : L = b) ▸ hb)
  | tail _ he =>
    obtain ⟨L₁, o₁, hf₁, ho₁⟩ := funFrames_in B.frames env' he
    rw [hf₁] at hf'
    exact nm L₁ o₁ ho₁ ((Option.some.inj hf' : L₁ = b) ▸ hb)
theorem code_catch {prog : Program} {w : World} {A₀ A : Around} {s : Shared} {base h₀ : Heap} {env : Env} {L : Addr} {m : Str → Option Value} {news : Led} {KK : Frag} {p : Program} {loose : List Str} {mean : ExcName → Option Value} {mg mb : Str → Option Value}
    {R : Result → Shared → Prop} {name qual : Str} {params : Arguments} {body : List Stmt} {scope : Scope} {dV kV doc pm cdv ct oc : Value} {an od : Option Addr} {osl : Array (Option Value)} {f : Addr} {args : Args} {binds : List (Str × Value)}
    (B : Below A₀ base [] h₀) (F : Fr h₀ L s.heap m) (X₀ : KK.In h₀) (N : News h₀ L s.heap news) (T : Top p loose mean mg mb h₀) (hA : A.frames = some [env]) (hf : env.frame = some L) (hke : env.scope.kind = .function)
    (ho : KK.lookup f = some ⟨oc, od, .func (fnOf name qual params body scope dV kV doc pm an cdv ct), osl⟩) (hcd : codeIn KK cdv qual = true) (hroom : A.depth < recursionLimit)
    (hbind : BindsTo s (fnOf name qual params body scope dV kV doc pm an cdv ct) args binds) (hloc : ∀ y ∈ binds, scope.names.lookup y.1 = some .local)
    (h : ∀ g L' h₁, Fr h₀ L g m → Fr g L' h₁ (fun y => binds.reverse.lookup y) → News g L' h₁ news → Below A base [env] g → KK.In g → Top p loose mean mg mb g → KtsDicts ([env].filterMap (·.frame)) g →
      wpAny (model prog w) (A.deeper (envOf qual scope L' f cdv)) (execs body (envOf qual scope L' f cdv))
        (fun fl s' => LeaveS0 ([env].filterMap (·.frame)) h₀ L m g R (match fl with | .ret v => v | _ => .none) s')
        (fun e s' => wpAny (model prog w) (A.deeper (envOf qual scope L' f cdv)) (leaving (envOf qual scope L' f cdv) e) (fun _ s'' => R (.error e) s'') (fun e' s'' => R (.error e') s'') s')
        { s with heap := h₁, toks := s.toks + binds.length })
    (hco : scope.isCoroutine = false) (hgen : scope.isGenerator = false) (hk : scope.kind = .function)
    (hcell : ∀ x ∈ scope.names, x.2 ≠ .cell) : codeAny (model prog w) A (.call (.ref f) args) R s := by
  have X := X₀.keeps F.keep
  have eL : ∀ b, b ∈ [env].filterMap (·.frame) → b = L := fun b hb => by
    simp only [List.filterMap_cons, hf, List.filterMap_nil, List.mem_singleton] at hb
    exact hb
  refine codeAny_call_def (fd := fnOf name qual params body scope dV kV doc pm an cdv ct) (body := body) (binds := binds) hroom (X _ _ ho) rfl (T.nolimit.keeps F.keep) (codeRec_of X hcd) rfl hbind hcell hloc (fun h₁ hns hk₁ => ?_) hco hgen hk
  obtain ⟨oL, es, ep, hLg, hLd, hN, hNs, st, B₂⟩ := enterX B F N hA hf hke
  refine wpAny_mono (h _ s.heap.objs.size h₁ ⟨hN _ hLg, st, F.above⟩ ⟨hns, fun b o e => hk₁ b o (of_hideAll _ e), Nat.le_of_eq (hideAll_size _ _)⟩
    (fun p hp => ⟨hk₁ _ _ (N p hp).1, Nat.ne_of_lt (Heap.lt_size (N p hp).1), hideAll_none _ (List.mem_map_of_mem hp)⟩) B₂ (X₀.keeps st) (T.keeps st) (fun b hb => by
      rw [eL b hb]; exact ⟨oL, es, ep, hLg, hLd⟩)) (fun fl s' hl => ?_) fun _ _ y => y
  obtain ⟨g', L', m', news', T', F', N', k⟩ := hl
  have nL₀ : h₀.get? L = none := kts_self F
  obtain ⟨sl, hs⟩ := T'.up hLg
  refine k ⟨hNs sl _ (F'.keep _ _ hs), fun b o e => F'.keep b o (T'.other b o (st b o e) (fun q => by
    rw [eL b q, nL₀] at e
    cases e)), F.above⟩ fun p hp => ⟨(N' p hp).1, fun q => ?_, ?_⟩
  · have := (N' p hp).2.2; rw [q, hs] at this; cases this
  · cases q : h₀.get? p.1 with
    | none => rfl
    | some o =>
      obtain ⟨sl', hs'⟩ := T'.up (st _ _ q)
      have := (N' p hp).2.2
      rw [hs'] at this
      cases this
/-- a Die object on the ledger leaves the frame that raised it -/
theorem leave_die {M : Model} {A : Around} {E : Value → Shared → Prop} {s' : Shared} {base g : Heap} {outer : List Env} {L a e : Addr} {m : Str → Option Value} {name : Str} {scope : Scope} {cd : Value} {Q : Unit → Shared → Prop} {news : Led} {ob : Obj} (K₀ : Below A base outer g) (F : Fr g L s'.heap m)
    (N : News g L s'.heap ((e, ob) :: news)) (hob : DieAt ob) (hne : ∀ q ∈ news, q.1 ≠ e)
    (hQ : ∀ h', RaisedSN base g outer e (.ref 58) news h' → g.UpToSlots h' → Q () { s' with heap := h' }) (hk : scope.kind = .function := by rfl) :
    wpAny M (A.deeper (envOf name scope L a cd)) (leaving (envOf name scope L a cd) (.ref e)) Q E s' := by
  have K' := K₀.push (name := name) (a := a) (cd := cd) F hk
  obtain ⟨he, heL, heg⟩ := N _ List.mem_cons_self
  have Nn : News g L s'.heap news := fun q hq => N q (List.mem_cons_of_mem _ hq)
  have ein : e ∉ (envOf name scope L a cd :: outer).filterMap (·.frame) := fun hm => by
    rcases kts_mem hm with z | z
    · exact heL z
    · obtain ⟨o, ho, _⟩ := (K₀.frames.mem z).2
      rw [heg] at ho; cases ho
  have hin : ∀ env ∈ (envOf name scope L a cd :: outer), ∀ b, env.frame = some b → b ∈ (e :: (envOf name scope L a cd :: outer).filterMap (·.frame)) := fun env he b hb => List.mem_cons_of_mem _ (List.mem_filterMap.mpr ⟨env, he, hb⟩)
  have hide : ∀ b o, s'.heap.get? b = some o → b ≠ e → b ∉ (envOf name scope L a cd :: outer).filterMap (·.frame) → (hideAll s'.heap (e :: (envOf name scope L a cd :: outer).filterMap (·.frame))).get? b = some o := fun b o q h1 h2 => hideAll_get _ q fun hm => by
    rcases List.mem_cons.mp hm with z | z
    · exact h1 z
    · exact h2 z
  have st : base.StaysIn (hideAll s'.heap (e :: (envOf name scope L a cd :: outer).filterMap (·.frame))) := fun b o q => hide b o (K'.stays b o q) (fun z => by rw [z, fresh_of_stays K₀.stays heg] at q; cases q) fun hm => by
    rw [(K'.frames.mem hm).1] at q; cases q
  have sg : ∀ b o, g.get? b = some o → b ∉ outer.filterMap (·.frame) → (hideAll s'.heap (e :: (envOf name scope L a cd :: outer).filterMap (·.frame))).get? b = some o := fun b o q nm => hide b o (F.keep b o q) (fun z => by rw [z, heg] at q; cases q) fun hm => by
    rcases kts_mem hm with z | z
    · rw [z, kts_self F] at q
      cases q
    · exact nm z
  have hl : ∀ q ∈ news, (hideAll s'.heap (e :: (envOf name scope L a cd :: outer).filterMap (·.frame))).get? q.1 = some q.2 ∧ g.get? q.1 = none ∧ base.get? q.1 = none := fun q hq => by
    refine ⟨hide _ _ (Nn q hq).1 (hne q hq) fun hm => ?_, (Nn q hq).2.2, fresh_of_stays K₀.stays (Nn q hq).2.2⟩
    rcases kts_mem hm with z | z
    · exact (Nn q hq).2.1 z
    · obtain ⟨o, ho, _⟩ := (K₀.frames.mem z).2
      rw [(Nn q hq).2.2] at ho; cases ho
  obtain ⟨ta, hd⟩ := hob.data
  have hen : (hideAll s'.heap (e :: (envOf name scope L a cd :: outer).filterMap (·.frame))).get? e = none := hideAll_none _ List.mem_cons_self
  refine wpAny_leaving_firstW (a0 := ta) K'.stack (funFrames_hide K'.frames hin) rfl he (fun b o hb => of_hideAll _ hb) hen hd rfl rfl fun h' hL => ?_
  obtain ⟨k1, ⟨_, _, k2⟩, k3, k4⟩ := hL
  have R : RaisedSN base g outer e (.ref 58) news h' := ⟨_, ta, st, sg, hl, k1, hen, k2, by rw [← hob.cls]; exact k3⟩
  exact hQ h' R ((Heap.UpToSlots.of_keeps F.keep).trans k4)
/-- a contract for a def that catches: its caller is the law's own frame -/
noncomputable def TelC (f : Addr) (dd du : Nat) (vs : List Value) (news : Led) (Out : Value → Led → Prop) : Prop :=
  ∀ (prog : Program) (w : World) (p : Program) (loose : List Str) (mean : ExcName → Option Value) (mg mb : Str → Option Value) (dp un : Nat) (gd : Option (List Code)) (cn : Str) (cs : Scope) (a : Addr) (ccd : Value) (cl : List (Str × Addr)) (A₀ : Around) (base h₀ : Heap) (L : Addr) (m : Str → Option Value) (s : Shared) (Q E : Value → Shared → Prop),
    Below A₀ base [] h₀ → Fr h₀ L s.heap m → (K w.params).In h₀ → News h₀ L s.heap news → Top p loose mean mg mb h₀ → (K w.params).In base → Top p loose mean mg mb base → cs.kind = .function →
    dp + dd < recursionLimit → un + du < cLine →
    (∀ (r : Value) (news' : Led) (h' : Heap) (tk' : Nat), Fr h₀ L h' m → News h₀ L h' news' → Out r news' → Q r { s with heap := h', toks := tk' }) →
    wpAny (model prog w) (ktrTop dp un gd cn cs L a ccd cl []) (call (.ref f) vs) Q E s
theorem telc_use {f : Addr} {dd du : Nat} {vs : List Value} {news : Led} {Out : Value → Led → Prop} (C : TelC f dd du vs news Out)
    {prog : Program} {w : World} {p : Program} {loose : List Str} {mean : ExcName → Option Value} {mg mb : Str → Option Value} {dp un : Nat} {gd : Option (List Code)} {cn : Str} {cs : Scope} {a : Addr} {ccd : Value} {cl : List (Str × Addr)} {A₀ : Around} {base h₀ : Heap} {L : Addr} {m : Str → Option Value} {s : Shared} {Q E : Value → Shared → Prop}
    (B : Below A₀ base [] h₀) (F : Fr h₀ L s.heap m) (X : (K w.params).In h₀) (N : News h₀ L s.heap news) (T : Top p loose mean mg mb h₀) (XB : (K w.params).In base) (TB : Top p loose mean mg mb base) (hk : cs.kind = .function) (hd : dp + dd < recursionLimit) (hu : un + du < cLine)
    (ret : ∀ (r : Value) (news' : Led) (h' : Heap) (tk' : Nat), Fr h₀ L h' m → News h₀ L h' news' → Out r news' → Q r { s with heap := h', toks := tk' }) :
    wpAny (model prog w) (ktrTop dp un gd cn cs L a ccd cl []) (call (.ref f) vs) Q E s := C prog w p loose mean mg mb dp un gd cn cs a ccd cl A₀ base h₀ L m s Q E B F X N T XB TB hk hd hu ret

end
local macro_rules | `(tactic| walk_at "leaving ref") => `(tactic| (k_here; (with_reducible rename DieAt _ => hob9); k_dflt (refine' leave_die ?k1 ?k2 ?k3 hob9 ?k4 ?_; (case k1 => k_asm); (case k2 => k_asm); (case k3 => k_asm); (case k4 => k_all)); intro h9 R9 U9; (try dsimp only at R9 U9 ⊢)))
local macro_rules | `(tactic| walk_at "catch_enter") => `(tactic| (refine' code_catch (by k_asm) (by k_asm) (by k_asm) (by k_asm) (by k_asm) (by exact rfl) (by exact rfl) (by assumption) (by k_is) (by k_is) (by ktr_room) (by exact BindsTo.of_eq rfl) (by exact locs rfl) ?_ (by exact rfl) (by exact rfl) (by exact rfl) (by decide); k_whole; intro g' L' h' FG' F' N' B' X' T' D'; (try dsimp only); (try k_lift B'); (try k_fold)))
section
/-- what substr_put gives: the part that stood there, the whole text -/
noncomputable def putOf (x : Str) (b : Int) (c : Option Int) (y : Str) : Option (Str × Str) := (spanB x.length b c).map fun p => (subS x p.1 p.2, subS x 0 p.1 ++ y ++ subS x p.2 x.length)
set_option maxHeartbeats 4000000 in
theorem given_ok (x : Str) (o : Int) (c : Option Int) (cv : Value) (y : Str) (t1 t2 t3 : Tok) (news : Led) (hc : CntV cv c) (hn : x.length ≤ 1000) (hy : y.length ≤ 1000) : TelC 555 8 120 [.str x t1, .int o t2, cv, .str y t3] news (fun r news' => (putOf x (begOf x.length o) c y = none ∧ r = .none ∧ news' = news) ∨ ∃ (d : Addr) (z v : Str) (t t' : Tok), putOf x (begOf x.length o) c y = some (z, v) ∧ r = .ref d ∧ news' = (d, tup [.str z t, .str v t']) :: news ∧ (∀ q ∈ news, q.1 < d)) := by
  w_top off
  unfold TelC
  intro prog w pp loose mean mg mb dp un gd cn cs a ccd cl A₀ base h₀ L m s Q E B F X N T XB TB hk9 hd hu hret
  refine wpAny_call ?_
  k_dflt (walk_at "catch_enter")
  k_steps
  · (with_reducible rename spanB _ _ _ = none => hs)
    refine hret _ _ _ _ (by k_asm) (by walk_at "news_sub") (Or.inl ⟨?_, rfl, rfl⟩)
    rw [putOf, hs]; rfl
  · (with_reducible rename spanB _ _ _ = some _ => hs)
    refine hret _ _ _ _ (by k_asm) (news_keep (by k_asm) (by walk_at "mem_tail")) (Or.inr ⟨_, _, _, _, _, ?_, rfl, rfl, by walk_at "led_lt"⟩)
    rw [putOf, hs, slice_val (by assumption) (by omega), slice_val_to (by assumption) (by omega), slice_val_from (by omega) (by assumption)]; rfl
theorem given_none {prog : Program} {w : World} {p : Program} {loose : List Str} {mean : ExcName → Option Value} {mg mb : Str → Option Value} {dp un : Nat} {gd : Option (List Code)} {cn : Str} {cs : Scope} {a : Addr} {ccd : Value} {cl : List (Str × Addr)} {A₀ : Around} {base h₀ : Heap} {L : Addr} {m : Str → Option Value} {s : Shared} {Q E : Value → Shared → Prop} {x y : Str} {o : Int} {c : Option Int} {cv : Value} {t1 t2 t3 : Tok} {news : Led} (B : Below A₀ base [] h₀) (F : Fr h₀ L s.heap m) (X : (K w.params).In h₀) (N : News h₀ L s.heap news) (T : Top p loose mean mg mb h₀) (XB : (K w.params).In base) (TB : Top p loose mean mg mb base) (hk : cs.kind = .function) (hd : dp + 8 < recursionLimit) (hu : un + 120 < cLine) (hc : CntV cv c) (hn : x.length ≤ 1000) (hy : y.length ≤ 1000) (hg : putOf x (begOf x.length o) c y = none)
    (hq : ∀ h' tk', Fr h₀ L h' m → News h₀ L h' news → Q .none { s with heap := h', toks := tk' }) :
    wpAny (model prog w) (ktrTop dp un gd cn cs L a ccd cl []) (call (.ref 555) [.str x t1, .int o t2, cv, .str y t3]) Q E s :=
  telc_use (given_ok x o c cv y t1 t2 t3 news hc hn hy) B F X N T XB TB hk hd hu fun r news' h' tk' F' N' O => by
    rcases O with ⟨h1, h2, h3⟩ | ⟨d, z, v, t, t', h1, h2, h3, h4⟩
    · rw [h2]; rw [h3] at N'; exact hq h' tk' F' N'
    · rw [hg] at h1; cases h1
theorem given_some {prog : Program} {w : World} {p : Program} {loose : List Str} {mean : ExcName → Option Value} {mg mb : Str → Option Value} {dp un : Nat} {gd : Option (List Code)} {cn : Str} {cs : Scope} {a : Addr} {ccd : Value} {cl : List (Str × Addr)} {A₀ : Around} {base h₀ : Heap} {L : Addr} {m : Str → Option Value} {s : Shared} {Q E : Value → Shared → Prop} {x y z v : Str} {o : Int} {c : Option Int} {cv : Value} {t1 t2 t3 : Tok} {news : Led} (B : Below A₀ base [] h₀) (F : Fr h₀ L s.heap m) (X : (K w.params).In h₀) (N : News h₀ L s.heap news) (T : Top p loose mean mg mb h₀) (XB : (K w.params).In base) (TB : Top p loose mean mg mb base) (hk : cs.kind = .function) (hd : dp + 8 < recursionLimit) (hu : un + 120 < cLine) (hc : CntV cv c) (hn : x.length ≤ 1000) (hy : y.length ≤ 1000) (hg : putOf x (begOf x.length o) c y = some (z, v))
    (hq : ∀ (d : Addr) (t t' : Tok) h' tk', Fr h₀ L h' m → News h₀ L h' ((d, tup [.str z t, .str v t']) :: news) → (∀ q ∈ news, q.1 < d) → Q (.ref d) { s with heap := h', toks := tk' }) :
    wpAny (model prog w) (ktrTop dp un gd cn cs L a ccd cl []) (call (.ref 555) [.str x t1, .int o t2, cv, .str y t3]) Q E s :=
  telc_use (given_ok x o c cv y t1 t2 t3 news hc hn hy) B F X N T XB TB hk hd hu fun r news' h' tk' F' N' O => by
    rcases O with ⟨h1, h2, h3⟩ | ⟨d, z, v, t, t', h1, h2, h3, h4⟩
    · rw [hg] at h1; cases h1
    · rw [hg] at h1; cases h1
      rw [h2]; rw [h3] at N'; exact hq d t t' h' tk' F' N' h4

end
example : True := by
  k_with "call ref" => (k_here; (with_reducible show wpAny _ _ (call (Value.ref 555) _) _ _ _); k_dflt (refine' given_none (by k_asm) (by k_asm) (by k_asm) (by k_asm) (by k_asm) (by k_asm) (by k_asm) (by first | exact rfl | assumption) (by ktr_room) (by ktr_units) (by first | assumption | exact CntV.none | exact CntV.int _ _) (by omega) (by omega) (by assumption) ?_); intro h9 tk9 F9 N9; (try dsimp only); (try k_fold); (try k_sweep))
  k_with "call ref" => (k_here; (with_reducible show wpAny _ _ (call (Value.ref 555) _) _ _ _); k_dflt (refine' given_some (by k_asm) (by k_asm) (by k_asm) (by k_asm) (by k_asm) (by k_asm) (by k_asm) (by first | exact rfl | assumption) (by ktr_room) (by ktr_units) (by first | assumption | exact CntV.none | exact CntV.int _ _) (by omega) (by omega) (by assumption) ?_); intro d9 t9 u9 h9 tk9 F9 N9 hl9; (try k_lt hl9); (try dsimp only); (try k_fold); (try k_sweep))
  trivial
section
/-- the first place from b on where a part stands, or -1 -/
noncomputable def IsIdx (x y : Str) (b v : Int) : Prop := (v = -1 ∧ ∀ j : Nat, b ≤ (j : Int) → ¬ Occ x y j) ∨ ∃ i : Nat, v = (i : Int) ∧ b ≤ (i : Int) ∧ Occ x y i ∧ ∀ j : Nat, b ≤ (j : Int) → j < i → ¬ Occ x y j
theorem occ_noZ {x y : Str} {i j e : Int} (h : (Txt.slice x (some j) (some e) == y) = false) (h0 : 0 ≤ i) (hj : j = i) (he : e = i + (y.length : Int)) : ¬ Occ x y i.toNat := occ_no h (by omega) (by omega)
theorem occ_yesZ {x y : Str} {i j e : Int} (h : (Txt.slice x (some j) (some e) == y) = true) (h0 : 0 ≤ i) (hj : j = i) (he : e = i + (y.length : Int)) (hb : i + (y.length : Int) ≤ (x.length : Int)) : Occ x y i.toNat := occ_yes h (by omega) (by omega) (by omega)
example : True := by
  k_with "to_ksw" => repeat' (first | ((fail_if_success (with_reducible show KswEnd _ _ _ _ _ _ _ _ _ _ _ _)); first | (k_unfold; (try dsimp only)) | (k_end; wrow_close) | walk1 | (dsimp only; walk1) | (leave1; try dsimp only)))
  trivial
set_option linter.unusedSimpArgs false in
set_option maxHeartbeats 4000000 in
theorem index_ok (x y : Str) (b : Int) (t1 t2 t3 : Tok) (news : Led) (hn : x.length ≤ 1000) (hy : y.length ≤ 1000) :
    Tel 95 2 16 [.str x t1, .str y t2, .int b t3] news (fun r news' => ∃ (v : Int) (t : Tok), r = .int v t ∧ news' = news ∧ IsIdx x y (min (max b 0) x.length) v) := by
  w_top off
  unfold Tel
  intro prog w pp loose mean mg mb dp un gd cn cs a ccd cl outer A₀ base h₀ L m s Q E B F X N T hk9 hd hu hret
  refine wpAny_call ?_
  k_dflt cell_enter
  walk_at "to_while"
  (rename Fr _ _ _ _ => lF'); (rename News _ _ _ _ => lN')
  have hcl : ∃ B0 : Int, B0 = min (max b 0) x.length := ⟨_, rfl⟩
  obtain ⟨B0, hB0⟩ := hcl
  with_unfolding_all refine' ksw_while (fun _ : Int × Tok => news) (fun c => [(Str.ofString "at", Value.int c.1 c.2)]) (fun _ => True) [] (fun c => B0 ≤ c.1 ∧ 0 ≤ c.1 ∧ c.1 ≤ (x.length : Int) + 1 ∧ ∀ j : Nat, B0 ≤ (j : Int) → (j : Int) < c.1 → ¬ Occ x y j) (fun c => ((x.length : Int) + 2 - c.1).toNat) ⟨_, _⟩ lF' lN' trivial ?kk ?kp ?_
  (case kk => kst_all)
  (case kp => exact ⟨by (try dsimp only); omega, by (try dsimp only); omega, by (try dsimp only); omega, fun j h1 h2 => by dsimp only at h2; omega⟩)

  intro c u h9 tk9 _ hP9 F9 N9
  obtain ⟨at9, ta9⟩ := c
  dsimp only [kstB] at F9
  dsimp only at N9 hP9
  obtain ⟨p1, p2, p3, p4⟩ := hP9
  clear lF' lN'
  (try k_fold)
  walk_at "to_ksw"
  · refine hret _ _ _ _ (by k_asm) (by walk_at "news_sub") ⟨_, _, rfl, rfl, Or.inr ⟨at9.toNat, by omega, by rw [← hB0]; omega, occ_yesZ (by assumption) p2 rfl rfl (by omega), fun j h1 h2 => p4 j (by rw [hB0]; exact h1) (by omega)⟩⟩
  · refine ksw_end ⟨_, _⟩ (by k_asm) (by k_asm) (fun _ h => h) trivial (by kst_all) (by ksw_same) ⟨by omega, by omega, by omega, fun j h1 h2 => ?_⟩ (by (try dsimp only); omega)
    dsimp only at h2
    by_cases e : (j : Int) < at9
    · exact p4 j h1 e
    · have e2 : j = at9.toNat := by omega
      rw [e2]
      exact occ_noZ (by assumption) p2 rfl rfl
  · refine hret _ _ _ _ (by k_asm) (by walk_at "news_sub") ⟨_, _, rfl, rfl, Or.inl ⟨rfl, fun j h1 h2 => ?_⟩⟩
    by_cases e : (j : Int) < at9
    · exact p4 j (by rw [hB0]; exact h1) e h2
    · have := h2.2
      omega

end
example : True := by
  k_with_none
  k_with "enter_cells" => (refine' code_defC (by k_asm) (by k_asm) (by k_asm) (by k_asm) (by k_asm) (by exact rfl) (by exact rfl) (by assumption) (by k_is) (by k_is) (by ktr_room) (by exact BindsTo.of_eq rfl) (by exact rfl) (by decide +kernel) ?_ (by exact rfl) (by exact rfl) (by exact rfl); k_whole; intro g' L' h' tk' cells' FG' F' N' Y' B' X' T' l1; (try k_lt l1); k_cells Y'; (try simp only [List.cons_append, List.nil_append] at N'); (try dsimp only); (try k_lift B'); (try k_fold))
  k_with "eval ListComp" => (k_here; first | ((with_reducible show wpAny _ _ (eval (PySem.Expr.ListComp _ [PySem.Comprehension.mk _ _ [_] _] _ _) _) _ _ _); k_dflt (refine LCt.ListComp_T (F₀ := by k_asm) (by with_unfolding_all rfl) (by decide) (by rfl) (by decide) (by rfl) ?_)) | ((with_reducible show wpAny _ _ (eval (PySem.Expr.ListComp _ [PySem.Comprehension.mk _ _ [] _] _ _) _) _ _ _); k_dflt (refine LCg.ListComp_U (F₀ := by k_asm) (by with_unfolding_all rfl) (by decide) (by rfl) (by decide) (by rfl) ?_)))
  k_with "is_comp" => first | (with_reducible refine' LCt.CompSrcT.range ?_ ?_ ?_ ?_ ?_ ?_ ?_ ?_) | (with_reducible refine' LCg.CompSrc.range ?_ ?_ ?_ ?_ ?_ ?_ ?_ ?_) | (with_reducible refine' LCt.CompSrcT.ledger ?_ ?_ ?_ ?_ ?_ ?_) | (with_reducible refine' LCg.CompSrc.ledger ?_ ?_ ?_ ?_ ?_ ?_)
  k_with "to_comp" => repeat' (first | ((fail_if_success (walk_at "is_comp")); first | (k_unfold; (try dsimp only)) | (k_end; wrow_close) | walk1 | (dsimp only; walk1) | (leave1; try dsimp only)))
  k_with "comp_range" => first | (refine' LCt.CompSrcT.range (by exact rfl) (by k_asm) (by k_asm) (by assumption) (by exact small_one (by omega) (by omega) (by omega) (by omega)) (by first | exact rangeSize_nat _ _ | rfl) (by rw [PySem.sizeLine_eq]; omega) ?_; intro g') | (refine' LCg.CompSrc.range (by exact rfl) (by k_asm) (by k_asm) (by assumption) (by exact small_one (by omega) (by omega) (by omega) (by omega)) (by first | exact rangeSize_nat _ _ | rfl) (by rw [PySem.sizeLine_eq]; omega) ?_; intro g')
  k_with "mem_tail" => (intro q9 hq9; repeat' (first | with_reducible exact hq9 | refine List.mem_cons_of_mem _ ?_))
  k_with "news_sub" => first | k_asm | (refine news_sub (by k_asm) ?_; walk_at "mem_tail")
  k_with "led_lt" => first | assumption | (refine led_lt (by k_asm) ?_; walk_at "mem_tail") | ((with_reducible rename AllLt _ _ => ql9); exact ktn_ltOf ql9) | ((with_reducible rename _ ∧ AllLt _ _ => ql9); exact ktn_ltOf ql9.2) | ((with_reducible rename _ ∧ _ ∧ AllLt _ _ => ql9); exact ktn_ltOf ql9.2.2)
  k_with "mem_at" => first | exact List.Mem.head _ | (refine List.Mem.tail _ ?_; walk_at "mem_at")
  k_with "mem_any" => first | exact mem_nil_all | exact fun _ h => h | (refine mem_cons_all (by walk_at "mem_at") (by walk_at "mem_any")) | (walk_at "mem_tail")
  k_with "to_while" => repeat' (first | ((fail_if_success (with_reducible show wpAny _ _ (exec (Stmt.While _ _ _ _) _) _ _ _)); first | (k_unfold; (try dsimp only)) | (k_end; wrow_close) | walk1 | (dsimp only; walk1) | (leave1; try dsimp only)))
  k_with "ne9" => first | assumption | exact Nat.ne_of_lt (by omega) | exact Nat.ne_of_gt (by omega) | k_ne
  k_with "enter_n" => (refine' code_def (by k_asm) (by k_asm) (by k_asm) (by k_asm) (by k_asm) (by exact rfl) (by exact rfl) (by first | exact rfl | assumption) (by k_is) (by k_is) (by ktr_room) (by first | exact BindsTo.of_eq rfl | exact binds_K (by k_in) rfl (by k_is) rfl rfl rfl) (by exact locs rfl) ?_ (by exact rfl) (by exact rfl) (by exact rfl) (by decide); k_whole)
  k_with "enter_y" => (walk_at "enter_n"; intro g' L' h' FG' F' N' B' X' T'; (try dsimp only); (try k_lift B'); (try k_fold))
  k_with "call builtin:str.join" => (k_here; (with_reducible show wpAny _ _ (call (Value.builtin "str.join") [Value.str _ _, Value.ref _]) _ _ _); (with_reducible rename CarriedAll _ (List.map (fun _ => PyData.str (chr _)) _) => ktC); (refine join_chrs (by first | is_list | exact News.isList (by k_asm) (by k_mem)) ktC (by first | omega | (refine Nat.le_trans (pickC_len _ _ _ _) ?_; omega)) ?_; intro _ _))
  k_with "call ref" => (k_here; (with_reducible show wpAny _ _ (call (Value.ref 519) _) _ _ _); k_dflt (refine' draw_use (by k_asm) (by k_asm) (by k_asm) (by k_asm) (by k_asm) (by first | exact rfl | assumption) (by ktr_room) (by ktr_units) (by walk_at "upd") (by exact rfl) (by k_mem) (by assumption) (by assumption) (by assumption) (by assumption) (by omega) ?_); intro v9 t9 u9 n9 h9 tk9 F9 N9; (try dsimp only at N9); (try dsimp only); (try k_fold); (try k_sweep))
  k_with "call ref" => (k_here; (with_reducible show wpAny _ _ (call (Value.ref 67) _) _ _ _); k_dflt (refine' span_use (by k_asm) (by k_asm) (by k_asm) (by k_asm) (by k_asm) (by first | exact rfl | assumption) (by ktr_room) (by ktr_units) (by first | assumption | exact CntV.none | exact CntV.int _ _) (by omega) ?_ ?_); (first | (intro h9 tk9 hs9 F9 N9) | (intro b9 e9 d9 t9 u9 h9 tk9 hs9 ha9 hb9 hc9 F9 N9 hl9; k_lt hl9)) <;> (try dsimp only) <;> (try k_fold) <;> (try k_sweep))
  k_with "call ref" => (k_here; (with_reducible show wpAny _ _ (call (Value.ref 74) _) _ _ _); k_dflt (refine' value_use (by k_asm) (by k_asm) (by k_asm) (by k_asm) (by k_asm) (by first | exact rfl | assumption) (by ktr_room) (by ktr_units) (by first | assumption | exact CntV.none | exact CntV.int _ _) (by omega) ?_ ?_); (first | (intro h9 tk9 hs9 F9 N9) | (intro z9 t9 h9 tk9 hs9 F9 N9)) <;> (try dsimp only) <;> (try k_fold) <;> (try k_sweep))
  k_with "call ref" => (k_here; (with_reducible show wpAny _ _ (call (Value.ref 531) _) _ _ _); k_dflt (refine' ends_use (by k_asm) (by k_asm) (by k_asm) (by k_asm) (by k_asm) (by first | exact rfl | assumption) (by ktr_room) (by ktr_units) (by k_mem) (by first | assumption | exact CntV.none | exact CntV.int _ _) ?_); intro B9 e9 d9 t9 u9 h9 tk9 hb9 he9 F9 N9 hl9; k_lt hl9; (try dsimp only); (try k_fold); (try k_sweep))
  k_with "call ref" => (k_here; (with_reducible show wpAny _ _ (call (Value.ref 536) _) _ _ _); k_dflt (refine' part_use (by k_asm) (by k_asm) (by k_asm) (by k_asm) (by k_asm) (by first | exact rfl | assumption) (by ktr_room) (by ktr_units) (by k_mem) (by first | assumption | exact CntV.none | exact CntV.int _ _) (by omega) ?_ ?_); (first | (intro h9 tk9 hs9 F9 N9) | (intro d9 z9 p9 t9 u9 h9 tk9 hs9 hf9 F9 N9 hl9; (try k_lt hl9))) <;> (try dsimp only) <;> (try k_fold) <;> (try k_sweep))
  k_with "call ref" => (k_here; (with_reducible show wpAny _ _ (call (Value.ref 524) _) _ _ _); (try k_fmods); k_dflt (refine' word_use (by k_asm) (by k_asm) (by k_asm) (by k_asm) (by k_asm) (by first | exact rfl | assumption) (by ktr_room) (by ktr_units) (by walk_at "upd") (by exact rfl) (by k_mem) (by assumption) (by assumption) (by assumption) (by assumption) (by omega) (by omega) (by omega) ?_); intro z9 t9 u9 n9 h9 tk9 zl9 zok9 F9 N9; (try dsimp only at N9); (try dsimp only); (try k_fold); (try k_sweep))
  k_with "call ref" => (k_here; (with_reducible show wpAny _ _ (call (Value.ref 541) _) _ _ _); k_dflt (refine' places_use (by k_asm) (by k_asm) (by k_asm) (by k_asm) (by k_asm) (by first | exact rfl | assumption) (by ktr_room) (by ktr_units) (by omega) (by omega) ?_); intro d9 vs9 n9 h9 tk9 hp9 F9 N9 hl9; (try simp only [List.forall_mem_cons] at hl9); (try dsimp only); (try k_fold); (try k_sweep))
  k_with "call ref" => (k_here; (with_reducible show wpAny _ _ (call (Value.ref 548) _) _ _ _); k_dflt (refine' lput_use (by k_asm) (by k_asm) (by k_asm) (by k_asm) (by k_asm) (by first | exact rfl | assumption) (by ktr_room) (by ktr_units) (by k_mem) (by first | assumption | exact CntV.none | exact CntV.int _ _) (by omega) (by omega) ?_ ?_); (first | (intro d9 e9 z9 v9 o9 c9 cv9 t9 u9 w9 h9 tk9 hs9 hc9 F9 N9 hl9 he9; (try k_lt hl9)) | (intro h9 tk9 hs9 F9 N9)) <;> (try dsimp only) <;> (try k_fold) <;> (try k_sweep))
  k_with "call ref" => (k_here; (with_reducible show wpAny _ _ (call (Value.ref 555) _) _ _ _); k_dflt (refine' given_none (by k_asm) (by k_asm) (by k_asm) (by k_asm) (by k_asm) (by k_asm) (by k_asm) (by first | exact rfl | assumption) (by ktr_room) (by ktr_units) (by first | assumption | exact CntV.none | exact CntV.int _ _) (by omega) (by omega) (by assumption) ?_); intro h9 tk9 F9 N9; (try dsimp only); (try k_fold); (try k_sweep))
  k_with "call ref" => (k_here; (with_reducible show wpAny _ _ (call (Value.ref 555) _) _ _ _); k_dflt (refine' given_some (by k_asm) (by k_asm) (by k_asm) (by k_asm) (by k_asm) (by k_asm) (by k_asm) (by first | exact rfl | assumption) (by ktr_room) (by ktr_units) (by first | assumption | exact CntV.none | exact CntV.int _ _) (by omega) (by omega) (by assumption) ?_); intro d9 t9 u9 h9 tk9 F9 N9 hl9; (try k_lt hl9); (try dsimp only); (try k_fold); (try k_sweep))
  trivial
section
/-- the last place up to a where a part stands, or -1 -/
noncomputable def IsRix (x y : Str) (a v : Int) : Prop := (v = -1 ∧ ∀ j : Nat, (j : Int) ≤ a → ¬ Occ x y j) ∨ ∃ i : Nat, v = (i : Int) ∧ (i : Int) ≤ a ∧ Occ x y i ∧ ∀ j : Nat, i < j → (j : Int) ≤ a → ¬ Occ x y j
noncomputable def rEnd (n m : Nat) : Option Int → Int
  | none => (n : Int) - m
  | some b => min (max (b + m) 0) n - m
example : True := by
  k_with "to_ksw" => repeat' (first | ((fail_if_success (with_reducible show KswEnd _ _ _ _ _ _ _ _ _ _ _ _)); first | (k_unfold; (try dsimp only)) | (k_end; wrow_close) | walk1 | (dsimp only; walk1) | (leave1; try dsimp only)))
  trivial
set_option linter.unusedSimpArgs false in
set_option maxHeartbeats 4000000 in
theorem rindex_ok (x y : Str) (c : Option Int) (cv : Value) (t1 t2 : Tok) (news : Led) (hc : CntV cv c) (hn : x.length ≤ 1000) (hy : y.length ≤ 1000) :
    Tel 102 2 16 [.str x t1, .str y t2, cv] news (fun r news' => ∃ (v : Int) (t : Tok), r = .int v t ∧ news' = news ∧ IsRix x y (rEnd x.length y.length c) v) := by
  w_top off
  unfold Tel
  intro prog w pp loose mean mg mb dp un gd cn cs a ccd cl outer A₀ base h₀ L m s Q E B F X N T hk9 hd hu hret
  refine wpAny_call ?_
  obtain ⟨B0, hB0⟩ : ∃ B0 : Int, B0 = rEnd x.length y.length c := ⟨_, rfl⟩
  rw [← hB0] at hret
  have hle : B0 + (y.length : Int) ≤ (x.length : Int) := by
    rw [hB0]
    cases c <;> simp only [rEnd] <;> omega
  k_dflt (walk_at "enter_n")
  intro g1 L1 h1 FG1 F1 N1 B1 X1 T1
  (try dsimp only)
  (try k_lift B1)
  refine cutN 3 (Mid9 s g1 L1 news fun m' => ∃ (v : Int) (t : Tok), Has m' [(Str.ofString "text", .str x t1), (Str.ofString "part", .str y t2), (Str.ofString "at", .int v t)] ∧ v = B0) ?_ ?_
  · simp only [List.take]
    cases hc
    all_goals k_steps
    all_goals (show Mid9 _ _ _ _ _ _)
    all_goals refine mid_mk (by k_asm) (by k_asm) ⟨_, _, by unfold Has; kst_all, ?_⟩
    all_goals ((try simp only [rEnd] at hB0); omega)
  rintro s' ⟨h2, tk2, m2, rfl, F2, N2, a0, ta0, H2, ha0⟩
  clear F1 N1 hB0
  have F3 := fr_has F2 H2
  clear F2 H2
  dsimp only [kstB] at F3
  simp only [List.drop]
  walk_at "to_while"
  (rename Fr _ _ _ _ => lF')
  (rename News _ _ _ _ => lN')
  (with_unfolding_all refine' ksw_while (fun _ : Int × Tok => news) (fun c => [(Str.ofString "at", Value.int c.1 c.2)]) (fun _ => True) [] (fun c => c.1 ≤ B0 ∧ B0 + (y.length : Int) ≤ (x.length : Int) ∧ ∀ j : Nat, c.1 < (j : Int) → (j : Int) ≤ B0 → ¬ Occ x y j) (fun c => (c.1 + 1).toNat) ⟨_, _⟩ lF' lN' trivial ?_ ?_ ?_)
  rotate_left 2
  kst_all
  (exact ⟨Int.le_of_eq ha0, hle, fun j h1 h2 => by dsimp only at h1; omega⟩)
  intro c u h9 tk9 _ hP9 F9 N9
  obtain ⟨at9, ta9⟩ := c
  dsimp only [kstB] at F9
  dsimp only at N9 hP9
  obtain ⟨p1, p2, p3⟩ := hP9
  clear lF' lN'
  (try k_fold)
  walk_at "to_ksw"
  · refine hret _ _ _ _ (by k_asm) (by walk_at "news_sub") ⟨_, _, rfl, rfl, Or.inr ⟨at9.toNat, by omega, by omega, occ_yesZ (by assumption) (by omega) rfl rfl (by omega), fun j h1 h2 => p3 j (by omega) h2⟩⟩
  · refine ksw_end ⟨_, _⟩ (by k_asm) (by k_asm) (fun _ h => h) trivial (by kst_all) (by ksw_same) ⟨by omega, by omega, fun j h1 h2 => ?_⟩ (by (try dsimp only); omega)
    dsimp only at h1
    by_cases e : at9 < (j : Int)
    · exact p3 j e h2
    · have e2 : j = at9.toNat := by omega
      rw [e2]
      exact occ_noZ (by assumption) (by omega) rfl rfl
  · refine hret _ _ _ _ (by k_asm) (by walk_at "news_sub") ⟨_, _, rfl, rfl, Or.inl ⟨rfl, fun j h2 => p3 j (by omega) h2⟩⟩

end
example : True := by
  k_with_none
  k_with "enter_cells" => (refine' code_defC (by k_asm) (by k_asm) (by k_asm) (by k_asm) (by k_asm) (by exact rfl) (by exact rfl) (by assumption) (by k_is) (by k_is) (by ktr_room) (by exact BindsTo.of_eq rfl) (by exact rfl) (by decide +kernel) ?_ (by exact rfl) (by exact rfl) (by exact rfl); k_whole; intro g' L' h' tk' cells' FG' F' N' Y' B' X' T' l1; (try k_lt l1); k_cells Y'; (try simp only [List.cons_append, List.nil_append] at N'); (try dsimp only); (try k_lift B'); (try k_fold))
  k_with "eval ListComp" => (k_here; first | ((with_reducible show wpAny _ _ (eval (PySem.Expr.ListComp _ [PySem.Comprehension.mk _ _ [_] _] _ _) _) _ _ _); k_dflt (refine LCt.ListComp_T (F₀ := by k_asm) (by with_unfolding_all rfl) (by decide) (by rfl) (by decide) (by rfl) ?_)) | ((with_reducible show wpAny _ _ (eval (PySem.Expr.ListComp _ [PySem.Comprehension.mk _ _ [] _] _ _) _) _ _ _); k_dflt (refine LCg.ListComp_U (F₀ := by k_asm) (by with_unfolding_all rfl) (by decide) (by rfl) (by decide) (by rfl) ?_)))
  k_with "is_comp" => first | (with_reducible refine' LCt.CompSrcT.range ?_ ?_ ?_ ?_ ?_ ?_ ?_ ?_) | (with_reducible refine' LCg.CompSrc.range ?_ ?_ ?_ ?_ ?_ ?_ ?_ ?_) | (with_reducible refine' LCt.CompSrcT.ledger ?_ ?_ ?_ ?_ ?_ ?_) | (with_reducible refine' LCg.CompSrc.ledger ?_ ?_ ?_ ?_ ?_ ?_)
  k_with "to_comp" => repeat' (first | ((fail_if_success (walk_at "is_comp")); first | (k_unfold; (try dsimp only)) | (k_end; wrow_close) | walk1 | (dsimp only; walk1) | (leave1; try dsimp only)))
  k_with "comp_range" => first | (refine' LCt.CompSrcT.range (by exact rfl) (by k_asm) (by k_asm) (by assumption) (by exact small_one (by omega) (by omega) (by omega) (by omega)) (by first | exact rangeSize_nat _ _ | rfl) (by rw [PySem.sizeLine_eq]; omega) ?_; intro g') | (refine' LCg.CompSrc.range (by exact rfl) (by k_asm) (by k_asm) (by assumption) (by exact small_one (by omega) (by omega) (by omega) (by omega)) (by first | exact rangeSize_nat _ _ | rfl) (by rw [PySem.sizeLine_eq]; omega) ?_; intro g')
  k_with "mem_tail" => (intro q9 hq9; repeat' (first | with_reducible exact hq9 | refine List.mem_cons_of_mem _ ?_))
  k_with "news_sub" => first | k_asm | (refine news_sub (by k_asm) ?_; walk_at "mem_tail")
  k_with "led_lt" => first | assumption | (refine led_lt (by k_asm) ?_; walk_at "mem_tail") | ((with_reducible rename AllLt _ _ => ql9); exact ktn_ltOf ql9) | ((with_reducible rename _ ∧ AllLt _ _ => ql9); exact ktn_ltOf ql9.2) | ((with_reducible rename _ ∧ _ ∧ AllLt _ _ => ql9); exact ktn_ltOf ql9.2.2)
  k_with "mem_at" => first | exact List.Mem.head _ | (refine List.Mem.tail _ ?_; walk_at "mem_at")
  k_with "mem_any" => first | exact mem_nil_all | exact fun _ h => h | (refine mem_cons_all (by walk_at "mem_at") (by walk_at "mem_any")) | (walk_at "mem_tail")
  k_with "to_while" => repeat' (first | ((fail_if_success (with_reducible show wpAny _ _ (exec (Stmt.While _ _ _ _) _) _ _ _)); first | (k_unfold; (try dsimp only)) | (k_end; wrow_close) | walk1 | (dsimp only; walk1) | (leave1; try dsimp only)))
  k_with "ne9" => first | assumption | exact Nat.ne_of_lt (by omega) | exact Nat.ne_of_gt (by omega) | k_ne
  k_with "enter_n" => (refine' code_def (by k_asm) (by k_asm) (by k_asm) (by k_asm) (by k_asm) (by exact rfl) (by exact rfl) (by first | exact rfl | assumption) (by k_is) (by k_is) (by ktr_room) (by first | exact BindsTo.of_eq rfl | exact binds_K (by k_in) rfl (by k_is) rfl rfl rfl) (by exact locs rfl) ?_ (by exact rfl) (by exact rfl) (by exact rfl) (by decide); k_whole)
  k_with "enter_y" => (walk_at "enter_n"; intro g' L' h' FG' F' N' B' X' T'; (try dsimp only); (try k_lift B'); (try k_fold))
  k_with "call builtin:str.join" => (k_here; (with_reducible show wpAny _ _ (call (Value.builtin "str.join") [Value.str _ _, Value.ref _]) _ _ _); (with_reducible rename CarriedAll _ (List.map (fun _ => PyData.str (chr _)) _) => ktC); (refine join_chrs (by first | is_list | exact News.isList (by k_asm) (by k_mem)) ktC (by first | omega | (refine Nat.le_trans (pickC_len _ _ _ _) ?_; omega)) ?_; intro _ _))
  k_with "call ref" => (k_here; (with_reducible show wpAny _ _ (call (Value.ref 519) _) _ _ _); k_dflt (refine' draw_use (by k_asm) (by k_asm) (by k_asm) (by k_asm) (by k_asm) (by first | exact rfl | assumption) (by ktr_room) (by ktr_units) (by walk_at "upd") (by exact rfl) (by k_mem) (by assumption) (by assumption) (by assumption) (by assumption) (by omega) ?_); intro v9 t9 u9 n9 h9 tk9 F9 N9; (try dsimp only at N9); (try dsimp only); (try k_fold); (try k_sweep))
  k_with "call ref" => (k_here; (with_reducible show wpAny _ _ (call (Value.ref 67) _) _ _ _); k_dflt (refine' span_use (by k_asm) (by k_asm) (by k_asm) (by k_asm) (by k_asm) (by first | exact rfl | assumption) (by ktr_room) (by ktr_units) (by first | assumption | exact CntV.none | exact CntV.int _ _) (by omega) ?_ ?_); (first | (intro h9 tk9 hs9 F9 N9) | (intro b9 e9 d9 t9 u9 h9 tk9 hs9 ha9 hb9 hc9 F9 N9 hl9; k_lt hl9)) <;> (try dsimp only) <;> (try k_fold) <;> (try k_sweep))
  k_with "call ref" => (k_here; (with_reducible show wpAny _ _ (call (Value.ref 74) _) _ _ _); k_dflt (refine' value_use (by k_asm) (by k_asm) (by k_asm) (by k_asm) (by k_asm) (by first | exact rfl | assumption) (by ktr_room) (by ktr_units) (by first | assumption | exact CntV.none | exact CntV.int _ _) (by omega) ?_ ?_); (first | (intro h9 tk9 hs9 F9 N9) | (intro z9 t9 h9 tk9 hs9 F9 N9)) <;> (try dsimp only) <;> (try k_fold) <;> (try k_sweep))
  k_with "call ref" => (k_here; (with_reducible show wpAny _ _ (call (Value.ref 531) _) _ _ _); k_dflt (refine' ends_use (by k_asm) (by k_asm) (by k_asm) (by k_asm) (by k_asm) (by first | exact rfl | assumption) (by ktr_room) (by ktr_units) (by k_mem) (by first | assumption | exact CntV.none | exact CntV.int _ _) ?_); intro B9 e9 d9 t9 u9 h9 tk9 hb9 he9 F9 N9 hl9; k_lt hl9; (try dsimp only); (try k_fold); (try k_sweep))
  k_with "call ref" => (k_here; (with_reducible show wpAny _ _ (call (Value.ref 536) _) _ _ _); k_dflt (refine' part_use (by k_asm) (by k_asm) (by k_asm) (by k_asm) (by k_asm) (by first | exact rfl | assumption) (by ktr_room) (by ktr_units) (by k_mem) (by first | assumption | exact CntV.none | exact CntV.int _ _) (by omega) ?_ ?_); (first | (intro h9 tk9 hs9 F9 N9) | (intro d9 z9 p9 t9 u9 h9 tk9 hs9 hf9 F9 N9 hl9; (try k_lt hl9))) <;> (try dsimp only) <;> (try k_fold) <;> (try k_sweep))
  k_with "call ref" => (k_here; (with_reducible show wpAny _ _ (call (Value.ref 524) _) _ _ _); (try k_fmods); k_dflt (refine' word_use (by k_asm) (by k_asm) (by k_asm) (by k_asm) (by k_asm) (by first | exact rfl | assumption) (by ktr_room) (by ktr_units) (by walk_at "upd") (by exact rfl) (by k_mem) (by assumption) (by assumption) (by assumption) (by assumption) (by omega) (by omega) (by omega) ?_); intro z9 t9 u9 n9 h9 tk9 zl9 zok9 F9 N9; (try dsimp only at N9); (try dsimp only); (try k_fold); (try k_sweep))
  k_with "call ref" => (k_here; (with_reducible show wpAny _ _ (call (Value.ref 541) _) _ _ _); k_dflt (refine' places_use (by k_asm) (by k_asm) (by k_asm) (by k_asm) (by k_asm) (by first | exact rfl | assumption) (by ktr_room) (by ktr_units) (by omega) (by omega) ?_); intro d9 vs9 n9 h9 tk9 hp9 F9 N9 hl9; (try simp only [List.forall_mem_cons] at hl9); (try dsimp only); (try k_fold); (try k_sweep))
  k_with "call ref" => (k_here; (with_reducible show wpAny _ _ (call (Value.ref 548) _) _ _ _); k_dflt (refine' lput_use (by k_asm) (by k_asm) (by k_asm) (by k_asm) (by k_asm) (by first | exact rfl | assumption) (by ktr_room) (by ktr_units) (by k_mem) (by first | assumption | exact CntV.none | exact CntV.int _ _) (by omega) (by omega) ?_ ?_); (first | (intro d9 e9 z9 v9 o9 c9 cv9 t9 u9 w9 h9 tk9 hs9 hc9 F9 N9 hl9 he9; (try k_lt hl9)) | (intro h9 tk9 hs9 F9 N9)) <;> (try dsimp only) <;> (try k_fold) <;> (try k_sweep))
  k_with "call ref" => (k_here; (with_reducible show wpAny _ _ (call (Value.ref 555) _) _ _ _); k_dflt (refine' given_none (by k_asm) (by k_asm) (by k_asm) (by k_asm) (by k_asm) (by k_asm) (by k_asm) (by first | exact rfl | assumption) (by ktr_room) (by ktr_units) (by first | assumption | exact CntV.none | exact CntV.int _ _) (by omega) (by omega) (by assumption) ?_); intro h9 tk9 F9 N9; (try dsimp only); (try k_fold); (try k_sweep))
  k_with "call ref" => (k_here; (with_reducible show wpAny _ _ (call (Value.ref 555) _) _ _ _); k_dflt (refine' given_some (by k_asm) (by k_asm) (by k_asm) (by k_asm) (by k_asm) (by k_asm) (by k_asm) (by first | exact rfl | assumption) (by ktr_room) (by ktr_units) (by first | assumption | exact CntV.none | exact CntV.int _ _) (by omega) (by omega) (by assumption) ?_); intro d9 t9 u9 h9 tk9 F9 N9 hl9; (try k_lt hl9); (try dsimp only); (try k_fold); (try k_sweep))
  trivial
section
noncomputable def fnBody (P : Params) (f : Addr) : List Stmt := match (K P).lookup f with
  | some ⟨_, _, .func fd, _⟩ => (match fd.body with | .stmts b => b | _ => [])
  | _ => []
noncomputable def fnScope (P : Params) (f : Addr) : Scope := match (K P).lookup f with
  | some ⟨_, _, .func fd, _⟩ => fd.scope
  | _ => default
noncomputable abbrev lawEnv (P : Params) (L f : Addr) (cd : Value) : Env := envOfC (Str.ofString "law") (fnScope P 567) L f cd
noncomputable def lawCut (P : Params) (i j : Nat) : List Stmt := ((fnBody P 567).drop i).take j
theorem law_as {prog : Program} {w : World} {oc : Value} {od : Option Addr} {osl : Array (Option Value)} {name qual : Str} {params : Arguments} {body : List Stmt} {scope : Scope} {dV kV doc pm cdv ct : Value} {an : Option Addr} {L f : Addr} {cd : Value} {i j : Nat} {Q : Flow → Shared → Prop} {E : Value → Shared → Prop} {s : Shared}
    (ho : (K w.params).lookup 567 = some ⟨oc, od, .func (fnOf name qual params body scope dV kV doc pm an cdv ct), osl⟩)
    (h : wpAny (model prog w) (callerA.deeper (envOfC (Str.ofString "law") scope L f cd)) (execs ((body.drop i).take j) (envOfC (Str.ofString "law") scope L f cd)) Q E s) :
    wpAny (model prog w) (callerA.deeper (lawEnv w.params L f cd)) (execs (lawCut w.params i j) (lawEnv w.params L f cd)) Q E s := by
  have e1 : fnBody w.params 567 = body := by unfold fnBody; rw [ho]
  have e2 : fnScope w.params 567 = scope := by unfold fnScope; rw [ho]
  unfold lawEnv lawCut
  rw [e1, e2]
  exact h

end
section
theorem begT_eq (n : Nat) (o : Int) : begT n (if o < 0 then -o else o) (decide (o < 0)) = begOf n o := by
  unfold begT begOf
  by_cases h : o < 0
  · rw [if_pos (by simpa using h), if_pos h, if_pos h]; omega
  · rw [if_neg (by simpa using h), if_neg h, if_neg h]
/-- how a part told by its begin agrees: what stands at the place told is what the law reads -/
theorem lpart_part {x : Str} {off o : Int} {b : Bool} {c : Option Int} (h : begT x.length off b = begOf x.length o) : (lpartOf x off b c).map (·.1) = partOf x (begOf x.length o) c := by
  unfold lpartOf
  rw [h, Option.map_map]
  cases partOf x (begOf x.length o) c <;> rfl
theorem lput_put {x y : Str} {off o : Int} {b : Bool} {c : Option Int} (h : begT x.length off b = begOf x.length o) : (lputOf x off b c y).map (fun q => (q.1, q.2.1)) = putOf x (begOf x.length o) c y := by
  unfold lputOf lpartOf putOf partOf
  rw [h, Option.map_map, Option.map_map, Option.map_map]
  cases hs : spanB x.length (begOf x.length o) c with
  | none => rfl
  | some p =>
    simp only [Option.map_some, Option.some.injEq, Prod.mk.injEq, Function.comp, true_and]
    have hp : (p.1 : Int) = max (begOf x.length o) 0 ∧ p.1 ≤ p.2 ∧ p.2 ≤ x.length := by
      unfold spanB at hs
      split at hs
      · cases hs
      · split at hs
        · cases hs
        · cases hs
          dsimp only
          rename_i hn _
          have h0 : 0 ≤ max (begOf x.length o) 0 := Int.le_max_right _ _
          have h1 : max (begOf x.length o) 0 ≤ x.length := Int.max_le.mpr ⟨Int.not_lt.mp hn, Int.natCast_nonneg _⟩
          refine ⟨Int.toNat_of_nonneg h0, Int.toNat_le_toNat (Int.le_min.mpr ⟨Int.le_max_right _ _, h1⟩), ?_⟩
          exact Int.toNat_le.mpr (Int.min_le_right _ _)
    obtain ⟨h1, h2, h3⟩ := hp
    rw [subS_length]
    have e1 : (max (begOf x.length o) 0).toNat = p.1 := by omega
    have e2 : (p.1 + min (p.2 - p.1) (x.length - p.1)) = p.2 := by omega
    rw [e1, e2]
/-- the part told from the end is no longer than the told way to the end -/
theorem lpart_len {x z : Str} {off k : Int} {b : Bool} {c : Option Int} (h : lpartOf x off b c = some (z, k)) (h0 : 0 ≤ off) (hb : b = true) : (z.length : Int) ≤ off := by
  simp only [lpartOf, partOf, spanB, Option.map_map, begT, hb, if_true] at h
  split at h
  · cases h
  · split at h
    · cases h
    · simp only [Option.map_some, Function.comp, Option.some.injEq, Prod.mk.injEq] at h
      obtain ⟨rfl, rfl⟩ := h
      rw [subS_length]
      omega
theorem lput_facts {x y z v : Str} {off o : Int} {b : Bool} {c c' : Option Int} (h : lputOf x off b c y = some (z, v, o, c')) (h0 : 0 ≤ off) : 0 ≤ o ∧ o = (if b = true then off + y.length - z.length else off) ∧ c' = cntLen c y.length ∧ v.length ≤ x.length + y.length := by
  unfold lputOf at h
  cases hp : lpartOf x off b c with
  | none => rw [hp] at h; cases h
  | some q =>
    obtain ⟨z', k⟩ := q
    rw [hp] at h
    simp only [Option.map_some, Option.some.injEq, Prod.mk.injEq] at h
    obtain ⟨rfl, rfl, rfl, rfl⟩ := h
    have hf := lpart_facts hp
    refine ⟨?_, rfl, rfl, ?_⟩
    · split
      · have := lpart_len hp h0 (by assumption); omega
      · exact h0
    · have l1 : ∀ a b : Str, (a ++ b).length = a.length + b.length := fun a b => by
        show (a.cps ++ b.cps).size = _
        rw [Array.size_append]; rfl
      rw [l1, l1, subS_length, subS_length]
      omega
/-- the offset that LvText holds tells the same begin as the law's pair -/
theorem lv_beg (n : Nat) (off : Int) (b : Bool) (h0 : 0 ≤ off) : begOf n (if b = true ∧ off = 0 then (n : Int) else if b = true then -off else off) = begT n off b := by
  have e : ∀ z : Int, (if b = true ∧ off = 0 then (n : Int) else if b = true then -off else off) = z → (if z < 0 then (n : Int) + z else z) = (if b = true then (n : Int) - off else off) →
      begOf n (if b = true ∧ off = 0 then (n : Int) else if b = true then -off else off) = begT n off b := fun z h1 h2 => by
    rw [h1]; exact h2
  by_cases h : b = true
  · by_cases h' : off = 0
    · refine e n (if_pos ⟨h, h'⟩) ?_
      rw [if_pos h, if_neg (by omega), h']; omega
    · refine e (-off) (by rw [if_neg (fun q => h' q.2), if_pos h]) ?_
      rw [if_pos h, if_pos (by omega)]; omega
  · refine e off (by rw [if_neg (fun q => h q.1), if_neg h]) ?_
    rw [if_neg h, if_neg (by omega)]
/-- the last number of a list, or -1 -/
theorem placesN_mem {x y : Str} {n : Nat} {v : Int} : v ∈ placesN x y n ↔ ∃ i : Nat, v = i ∧ i < n ∧ Occ x y i := by
  induction n with
  | zero => simp [placesN]
  | succ n ih =>
    unfold placesN
    split
    · rw [List.mem_append, ih, List.mem_singleton]
      constructor
      · rintro (⟨i, h1, h2, h3⟩ | h)
        · exact ⟨i, h1, by omega, h3⟩
        · exact ⟨n, h, by omega, by assumption⟩
      · rintro ⟨i, h1, h2, h3⟩
        by_cases e : i = n
        · subst e; exact Or.inr h1
        · exact Or.inl ⟨i, h1, by omega, h3⟩
    · rw [ih]
      constructor
      · rintro ⟨i, h1, h2, h3⟩; exact ⟨i, h1, by omega, h3⟩
      · rintro ⟨i, h1, h2, h3⟩
        by_cases e : i = n
        · subst e; exact absurd h3 (by assumption)
        · exact ⟨i, h1, by omega, h3⟩
theorem occ_lt {x y : Str} {i : Nat} (h : Occ x y i) : i < x.length + 1 := by have := h.2; omega
theorem rix_unique {x y : Str} {a v v' : Int} (h : IsRix x y a v) (h' : IsRix x y a v') : v = v' := by
  rcases h with ⟨rfl, h⟩ | ⟨i, rfl, h1, h2, h3⟩ <;> rcases h' with ⟨rfl, h'⟩ | ⟨j, rfl, k1, k2, k3⟩
  · rfl
  · exact absurd k2 (h j k1)
  · exact absurd h2 (h' i h1)
  · by_cases e : i < j
    · exact absurd k2 (h3 j e k1)
    · by_cases e2 : j < i
      · exact absurd h2 (k3 i e2 h1)
      · omega
theorem idx_unique {x y : Str} {a v v' : Int} (h : IsIdx x y a v) (h' : IsIdx x y a v') : v = v' := by
  rcases h with ⟨rfl, h⟩ | ⟨i, rfl, h1, h2, h3⟩ <;> rcases h' with ⟨rfl, h'⟩ | ⟨j, rfl, k1, k2, k3⟩
  · rfl
  · exact absurd k2 (h j k1)
  · exact absurd h2 (h' i h1)
  · by_cases e : i < j
    · exact absurd h2 (k3 i h1 e)
    · by_cases e2 : j < i
      · exact absurd k2 (h3 j k1 e2)
      · omega
theorem subS_ok {x : Str} {a b : Nat} (h : PyData.strOk x = true) : PyData.strOk (subS x a b) = true := by
  rw [strOk_iff] at h ⊢
  intro c hc
  exact h c (List.mem_of_mem_drop (List.mem_of_mem_take (by simpa [subS] using hc)))
theorem app_ok {x y : Str} (h : PyData.strOk x = true) (h' : PyData.strOk y = true) : PyData.strOk (x ++ y) = true := by
  rw [strOk_iff] at h h' ⊢
  intro c hc
  have hc : c ∈ (x.cps ++ y.cps).toList := hc
  rw [Array.toList_append, List.mem_append] at hc
  exact hc.elim (h c) (h' c)
theorem lput_str {x y z v : Str} {off o : Int} {b : Bool} {c c' : Option Int} (h : lputOf x off b c y = some (z, v, o, c')) (hx : PyData.strOk x = true) (hy : PyData.strOk y = true) : PyData.strOk z = true ∧ PyData.strOk v = true := by
  unfold lputOf lpartOf partOf at h
  simp only [Option.map_map] at h
  cases hs : spanB x.length (begT x.length off b) c with
  | none => rw [hs] at h; cases h
  | some p =>
    rw [hs] at h
    simp only [Option.map_some, Function.comp, Option.some.injEq, Prod.mk.injEq] at h
    obtain ⟨rfl, rfl, _, _⟩ := h
    exact ⟨subS_ok hx, app_ok (app_ok (subS_ok hx) hy) (subS_ok hx)⟩
theorem lv_beg2 (n : Nat) (a : Int) (b : Bool) (ha : 0 ≤ a) : begOf n (if b = true ∧ (if b = true then -a else a) = 0 then (n : Int) else (if b = true then -a else a)) = begT n a b := by
  rw [← lv_beg n a b ha]
  congr 1
  cases b
  · simp
  · by_cases h' : a = 0
    · simp [h']
    · have h2 : ¬ (-a = 0) := by omega
      simp [h', h2]

end
section
/-- see span for Has, fr_has -/
theorem has_nil {m : Str → Option Value} : Has m [] := fun _ h => nomatch h

end
section
theorem ints_at {vs : List Value} {ns : List Int} {i : Nat} (hi : IntsAre vs ns) (hn : i < vs.toArray.size) : ∃ k t, vs.toArray[i]? = some (.int k t) ∧ ns.take (i + 1) = ns.take i ++ [k] ∧ k ∈ ns := by
  have hlen : i < ns.length := by rw [← hi.length]; simpa using hn
  have hk : ns[i]? = some ns[i] := List.getElem?_eq_getElem hlen
  obtain ⟨t, ht⟩ := hi.get i ns[i] hk
  exact ⟨ns[i], t, by simpa using ht, by rw [List.take_add_one, hk]; rfl, List.getElem_mem hlen⟩
section
variable {prog : Program} {w : World} {A : Around} {h₀ : Heap} {L : Addr} {m : Str → Option Value} {env : Env} {ct elt : PySem.Expr} {x : Str} {scope : Scope} {cl : List (Str × Addr)} {s : Shared} {S : Led → Prop} {Fin : List Value → Led → Prop} {news : Led}
/-- the ints of a list of the ledger that meet a condition -/
theorem comp_filter {vs : List Value} {ns : List Int} (q : Int → Bool) (hi : IntsAre vs ns)
    (turn : ∀ (k : Int) (t : Tok) I oI C oC D m₂ ys h tk (E' : Value → Shared → Prop), k ∈ ns → LCg.NsObj oC m₂ → m₂ x = some (.int k t) → Fr h₀ L h m → News h₀ L h ((I, oI) :: (C, oC) :: (D, LCg.lst ys) :: news) → LCg.Off3 I C D news → ((@Ne Nat I C) ∧ (@Ne Nat I D) ∧ (@Ne Nat C D)) →
      wpAny (model prog w) A (isTrue ct (compEnvC scope cl C env) (eval ct (compEnvC scope cl C env))) (fun b s' => if b = true then wpAny (model prog w) A (eval elt (compEnvC scope cl C env)) (LCg.CompEnd h₀ L m { s with heap := h, toks := tk } I oI C oC D (LCg.lst ys) S (fun y nw' => nw' = news ∧ q k = true ∧ ∃ t', y = .int k t')) E' s'
        else LCg.CompEnd h₀ L m { s with heap := h, toks := tk } I oI C oC D (LCg.lst ys) S (fun _ nw' => nw' = news ∧ q k = false) Value.none s') E' { s with heap := h, toks := tk })
    (fin : ∀ ys, IntsAre ys (ns.filter q) → Fin ys news) : LCt.CompRestT prog w A h₀ L m env ct elt x scope cl s S (fun i v => vs.toArray[i]? = some v) Fin vs.toArray.size 0 [] news := by
  refine comp_restT_same (fun i ys => IntsAre ys ((ns.take i).filter q)) .nil ?_ (fun ys h => fin ys ?_)
  · intro i v I oI C oC D m₂ ys h tk E' hn hP hJ hC hx F N off ne
    obtain ⟨k, t, h1, hs, hm⟩ := ints_at hi hn
    have hv : v = .int k t := Option.some.inj (hP.symm.trans h1)
    subst hv
    refine wpAny_mono (turn k t I oI C oC D m₂ ys h tk E' hm hC hx F N off ne) (fun b s₂ hq => ?_) fun _ _ e => e
    cases b with
    | true =>
      simp only [if_true] at hq ⊢
      refine wpAny_mono hq (fun y s₃ hr => ?_) fun _ _ e => e
      obtain ⟨h', tk', nw', e, F', N', off', hS, hn, hk, t', rfl⟩ := hr
      refine ⟨h', tk', nw', e, F', N', off', hS, hn, ?_⟩
      rw [hs, List.filter_append, List.filter_cons, if_pos hk, List.filter_nil]
      exact IntsAre.append hJ (.cons _ _ .nil)
    | false =>
      simp only [Bool.false_eq_true, if_false] at hq ⊢
      obtain ⟨h', tk', nw', e, F', N', off', hS, hn, hk⟩ := hq
      refine ⟨h', tk', nw', e, F', N', off', hS, hn, ?_⟩
      rw [hs, List.filter_append, List.filter_cons, if_neg (by rw [hk]; decide), List.filter_nil, List.append_nil]
      exact hJ
  · rw [List.size_toArray, hi.length, List.take_length] at h
    exact h
end
/-- the biggest of a list behind -1, where all are places -/
theorem max_rix {x y : Str} {a M : Int} {ns : List Int} (h1 : ∀ v, v ∈ ns ↔ ∃ i : Nat, v = i ∧ (i : Int) ≤ a ∧ Occ x y i) (hM : M ∈ (-1 : Int) :: ns) (hb : ∀ v ∈ (-1 : Int) :: ns, v ≤ M) : IsRix x y a M := by
  rcases List.mem_cons.mp hM with rfl | hm
  · refine Or.inl ⟨rfl, fun j hj ho => ?_⟩
    have := hb (j : Int) (List.mem_cons_of_mem _ ((h1 _).mpr ⟨j, rfl, hj, ho⟩))
    omega
  · obtain ⟨i, rfl, hi, ho⟩ := (h1 _).mp hm
    refine Or.inr ⟨i, rfl, hi, ho, fun j hj ha ho' => ?_⟩
    have := hb (j : Int) (List.mem_cons_of_mem _ ((h1 _).mpr ⟨j, rfl, ha, ho'⟩))
    omega
theorem ahead_iff {x y : Str} {b v : Int} : v ∈ (placesN x y (x.length + 1)).filter (fun k => decide (k ≤ b) || decide (k + y.length = 0)) ↔ ∃ i : Nat, v = i ∧ (i : Int) ≤ rEnd x.length y.length (some b) ∧ Occ x y i := by
  rw [List.mem_filter, placesN_mem]
  simp only [Bool.or_eq_true, decide_eq_true_eq, rEnd]
  constructor
  · rintro ⟨⟨i, rfl, h1, h2⟩, h3⟩
    refine ⟨i, rfl, ?_, h2⟩
    have := h2.2
    omega
  · rintro ⟨i, rfl, h1, h2⟩
    have := h2.2
    exact ⟨⟨i, rfl, by omega, h2⟩, by omega⟩
theorem all_iff {x y : Str} {v : Int} : v ∈ placesN x y (x.length + 1) ↔ ∃ i : Nat, v = i ∧ (i : Int) ≤ rEnd x.length y.length none ∧ Occ x y i := by
  rw [placesN_mem]
  simp only [rEnd]
  constructor
  · rintro ⟨i, rfl, h1, h2⟩
    have := h2.2
    exact ⟨i, rfl, by omega, h2⟩
  · rintro ⟨i, rfl, h1, h2⟩
    have := h2.2
    exact ⟨i, rfl, by omega, h2⟩
/-- places stand in their order -/
theorem placesN_sorted {x y : Str} : ∀ n : Nat, List.Pairwise (· < ·) (placesN x y n) := by
  intro n
  induction n with
  | zero => exact .nil
  | succ n ih =>
    unfold placesN
    split
    · refine List.pairwise_append.mpr ⟨ih, List.pairwise_singleton _ _, fun a ha b hb => ?_⟩
      rw [List.mem_singleton.mp hb]
      obtain ⟨i, rfl, h, _⟩ := placesN_mem.mp ha
      omega
    · exact ih
theorem later_idx {x y : Str} {b : Int} {ns : List Int} (e : ns = (placesN x y (x.length + 1)).filter (fun k => decide (min b x.length ≤ k))) :
    (ns = [] → IsIdx x y (min (max b 0) x.length) (-1)) ∧ ∀ v r, ns = v :: r → IsIdx x y (min (max b 0) x.length) v := by
  have hmem : ∀ v, v ∈ ns ↔ ∃ i : Nat, v = i ∧ min (max b 0) (x.length : Int) ≤ (i : Int) ∧ Occ x y i := fun v => by
    rw [e, List.mem_filter, placesN_mem]
    simp only [decide_eq_true_eq]
    constructor
    · rintro ⟨⟨i, rfl, h1, h2⟩, h3⟩
      exact ⟨i, rfl, by omega, h2⟩
    · rintro ⟨i, rfl, h1, h2⟩
      have := h2.2
      exact ⟨⟨i, rfl, by omega, h2⟩, by omega⟩
  have hs : List.Pairwise (· < ·) ns := by rw [e]; exact (placesN_sorted _).filter _
  refine ⟨fun h0 => Or.inl ⟨rfl, fun j hj ho => ?_⟩, fun v r h => ?_⟩
  · have := (hmem j).mpr ⟨j, rfl, hj, ho⟩
    rw [h0] at this; cases this
  · obtain ⟨i, rfl, h1, h2⟩ := (hmem v).mp (by rw [h]; exact List.mem_cons_self)
    refine Or.inr ⟨i, rfl, h1, h2, fun j hj hlt ho => ?_⟩
    have hm := (hmem j).mpr ⟨j, rfl, hj, ho⟩
    rw [h] at hm hs
    rcases List.mem_cons.mp hm with e2 | hm
    · omega
    · have := (List.pairwise_cons.mp hs).1 _ hm
      omega

end
section
theorem index_use {prog : Program} {w : World} {p : Program} {loose : List Str} {mean : ExcName → Option Value} {mg mb : Str → Option Value} {dp un : Nat} {gd : Option (List Code)} {cn : Str} {cs : Scope} {a : Addr} {ccd : Value} {cl : List (Str × Addr)} {outer : List Env} {A₀ : Around} {base h₀ : Heap} {L : Addr} {m : Str → Option Value} {s : Shared} {Q E : Value → Shared → Prop} {x y : Str} {b : Int} {t1 t2 t3 : Tok} {news : Led} (B : Below A₀ base outer h₀) (F : Fr h₀ L s.heap m) (X : (K w.params).In h₀) (N : News h₀ L s.heap news) (T : Top p loose mean mg mb h₀) (hk : cs.kind = .function) (hd9 : dp + 2 < recursionLimit) (hu : un + 16 < cLine) (hn : x.length ≤ 1000) (hy : y.length ≤ 1000)
    (hq : ∀ (v : Int) t h' tk', IsIdx x y (min (max b 0) x.length) v → Fr h₀ L h' m → News h₀ L h' news → Q (.int v t) { s with heap := h', toks := tk' }) :
    wpAny (model prog w) (ktrTop dp un gd cn cs L a ccd cl outer) (call (.ref 95) [.str x t1, .str y t2, .int b t3]) Q E s :=
  tel_use (index_ok x y b t1 t2 t3 news hn hy) B F X N T hk hd9 hu fun r news' h' tk' F' N' O => by
    obtain ⟨v, t, rfl, rfl, h⟩ := O
    exact hq v t h' tk' h F' N'
theorem rindex_use {prog : Program} {w : World} {p : Program} {loose : List Str} {mean : ExcName → Option Value} {mg mb : Str → Option Value} {dp un : Nat} {gd : Option (List Code)} {cn : Str} {cs : Scope} {a : Addr} {ccd : Value} {cl : List (Str × Addr)} {outer : List Env} {A₀ : Around} {base h₀ : Heap} {L : Addr} {m : Str → Option Value} {s : Shared} {Q E : Value → Shared → Prop} {x y : Str} {c : Option Int} {cv : Value} {t1 t2 : Tok} {news : Led} (B : Below A₀ base outer h₀) (F : Fr h₀ L s.heap m) (X : (K w.params).In h₀) (N : News h₀ L s.heap news) (T : Top p loose mean mg mb h₀) (hk : cs.kind = .function) (hd9 : dp + 2 < recursionLimit) (hu : un + 16 < cLine) (hc : CntV cv c) (hn : x.length ≤ 1000) (hy : y.length ≤ 1000)
    (hq : ∀ (v : Int) t h' tk', IsRix x y (rEnd x.length y.length c) v → Fr h₀ L h' m → News h₀ L h' news → Q (.int v t) { s with heap := h', toks := tk' }) :
    wpAny (model prog w) (ktrTop dp un gd cn cs L a ccd cl outer) (call (.ref 102) [.str x t1, .str y t2, cv]) Q E s :=
  tel_use (rindex_ok x y c cv t1 t2 news hc hn hy) B F X N T hk hd9 hu fun r news' h' tk' F' N' O => by
    obtain ⟨v, t, rfl, rfl, h⟩ := O
    exact hq v t h' tk' h F' N'

end
example : True := by
  k_with "call ref" => (k_here; (with_reducible show wpAny _ _ (call (Value.ref 95) _) _ _ _); k_dflt (refine' index_use (by k_asm) (by k_asm) (by k_asm) (by k_asm) (by k_asm) (by first | exact rfl | assumption) (by ktr_room) (by ktr_units) (by omega) (by omega) ?_); intro v9 t9 h9 tk9 hx9 F9 N9; (try dsimp only); (try k_fold); (try k_sweep))
  k_with "call ref" => (k_here; (with_reducible show wpAny _ _ (call (Value.ref 102) _) _ _ _); k_dflt (refine' rindex_use (by k_asm) (by k_asm) (by k_asm) (by k_asm) (by k_asm) (by first | exact rfl | assumption) (by ktr_room) (by ktr_units) (by first | assumption | exact CntV.none | exact CntV.int _ _) (by omega) (by omega) ?_); intro v9 t9 h9 tk9 hx9 F9 N9; (try dsimp only); (try k_fold); (try k_sweep))
  trivial
section
section
variable {prog : Program} {w : World} {A : Around} {E : Value → Shared → Prop} {s : Shared} {env : Env} {h₀ : Heap} {x : Str} {body : List Stmt} {Q : Flow → Shared → Prop}
/-- what holds behind a turn of a loop over a range, whose iterator stands at I -/
def TurnEnd (h₀ : Heap) (L I : Addr) (oI : Obj) (J : (Str → Option Value) → Led → Prop) (s₁ s₂ : Shared) : Prop :=
  ∃ h' tk m' nx, s₂ = { s₁ with heap := h', toks := tk } ∧ Fr h₀ L h' m' ∧ News h₀ L h' ((I, oI) :: nx) ∧ (∀ q ∈ nx, q.1 ≠ I) ∧ J m' nx
def TurnPost (h₀ : Heap) (L I : Addr) (oI : Obj) (J : (Str → Option Value) → Led → Prop) (s₁ : Shared) (Q : Flow → Shared → Prop) (f : Flow) (s₂ : Shared) : Prop :=
  match f with
  | .ret v => Q (.ret v) s₂
  | .brk => Q .next s₂
  | _ => TurnEnd h₀ L I oI J s₁ s₂
theorem iter_rng {r : Addr} {a₀ b₀ : Int} {t₀ u₀ v₀ : Tok} {n : Nat} {m₀ : Str → Option Value} {news : Led} (J : Nat → (Str → Option Value) → Led → Prop)
    (hh : A.handled = none) (hr : IsRange s.heap r a₀ b₀ 1 t₀ u₀ v₀) (hsmall : Builtin.Range.small a₀ b₀ 1 = true) (hn : Builtin.Range.rangeSize a₀ b₀ 1 = (n : Int)) (F : Fr h₀ env.locals s.heap m₀) (N : News h₀ env.locals s.heap news) (hj : J 0 m₀ news)
    (turn : ∀ i k t m₁ news₁ h tk oI, i < n → J i m₁ news₁ → (∀ q ∈ news₁, q.1 ≠ s.heap.objs.size) → Fr h₀ env.locals h (fun y => if y = x then some (.int k t) else m₁ y) → News h₀ env.locals h ((s.heap.objs.size, oI) :: news₁) →
      wpAny (model prog w) A (execs body env) (TurnPost h₀ env.locals s.heap.objs.size oI (J (i + 1)) { s with heap := h, toks := tk } Q) E { s with heap := h, toks := tk })
    (done : ∀ m₁ news₁ h tk, J n m₁ news₁ → Fr h₀ env.locals h m₁ → News h₀ env.locals h news₁ → Q .next { s with heap := h, toks := tk }) :
    wpAny (model prog w) A (pyIter (.ref r)) (fun it s₂ => LoopAtV prog w A h₀ env x body Q E it s₂) E s := by
  refine wpAny_pyIter_range hr hsmall ?_
  have W : Walks prog w A s.heap.objs.size [s.heap.objs.size] [s.heap.objs.size] n (fun i v => i < n ∧ ∃ t, v = .int (a₀ + i * 1) t)
      (fun i h => IsRangeIter h s.heap.objs.size (a₀ + (i : Nat) * 1) ((n : Int) - (i : Nat)) 1) := (Walks.range hh _ a₀ 1 n).bound
  refine ⟨_, _, _, n, _, _, m₀, news, J, rfl, W, ?_, ?_, ?_, (by show IsRangeIter _ _ _ _ _; rw [hn]; simpa using Heap.get?_push_size _ rfl), F.push _, (fun p hp => ⟨Heap.get?_push_of_some _ (N p hp).1, (N p hp).2⟩), hj, ?_, ?_⟩
  · intro hm
    exact absurd F.ns.lt ((List.mem_singleton.mp hm) ▸ Nat.lt_irrefl _)
  · intro b hb
    rw [List.mem_singleton.mp hb]
    exact next_is_new F
  · intro p hp hI
    exact absurd (Heap.lt_size (N p hp).1) ((List.mem_singleton.mp hI) ▸ Nat.lt_irrefl _)
  · rintro i v m₁ news₁ s₁ own ⟨hh', tk', rfl⟩ hin ⟨_, t, rfl⟩ hJ hoff hown hget hfp hst F₁ N₁
    have hI0 : h₀.get? s.heap.objs.size = none := next_is_new F
    have hst' := hst
    obtain ⟨oI, hoI⟩ : ∃ oI, hh'.get? s.heap.objs.size = some oI := ⟨_, hst'⟩
    have hIown : (s.heap.objs.size, oI) ∈ own := hfp _ (List.mem_singleton.mpr rfl) hI0 _ hoI
    have hone : ∀ p ∈ own, p = (s.heap.objs.size, oI) := fun p hp => by
      have h1 := List.mem_singleton.mp (hown p hp)
      have h2 := hget p hp
      rw [h1, hoI] at h2
      exact Prod.ext h1 (Option.some.inj h2).symm
    have N₂ : News h₀ env.locals hh' ((s.heap.objs.size, oI) :: news₁) := fun p hp => N₁ p ((List.mem_cons.mp hp).elim (fun h => List.mem_append.mpr (.inl (h ▸ hIown))) fun h => List.mem_append.mpr (.inr h))
    refine wpAny_mono (turn i _ t m₁ news₁ hh' tk' oI hin hJ (fun q hq e => hoff q hq (List.mem_singleton.mpr e)) F₁ N₂) (fun f s₂ p => ?_) fun _ _ e => e
    have fin : TurnEnd h₀ env.locals s.heap.objs.size oI (J (i + 1)) { s with heap := hh', toks := tk' } s₂ → LoopStepU h₀ env.locals [s.heap.objs.size] own (J (i + 1)) { s with heap := hh', toks := tk' } .next s₂ := by
      rintro ⟨h', tk, m', nx, e, F', N', ho, hm⟩
      refine ⟨rfl, h', tk, m', nx, e, F', fun p hp => N' p ((List.mem_append.mp hp).elim (fun h => hone p h ▸ List.mem_cons_self) fun h => List.mem_cons_of_mem _ h), fun p hp hq => ?_, hm⟩
      exact ho p hp (List.mem_singleton.mp hq)
    cases f with
    | ret v => exact .ret p
    | brk => exact .brk p
    | next => exact .next (fin p)
    | cont => exact .cont (fin p)
  · rintro h' tk m' news' F' N' _ hJ
    exact done m' news' h' tk hJ F' N'
end

end
section
/-- a contract that knows its world -/
def TelP (prog : Program) (w : World) (f : Addr) (dd du : Nat) (vs : List Value) (news : Led) (Out : Value → Led → Prop) : Prop :=
  ∀ (p : Program) (loose : List Str) (mean : ExcName → Option Value) (mg mb : Str → Option Value) (dp un : Nat) (gd : Option (List Code)) (cn : Str) (cs : Scope) (a : Addr) (ccd : Value) (cl : List (Str × Addr)) (outer : List Env) (A₀ : Around) (base h₀ : Heap) (L : Addr) (m : Str → Option Value) (s : Shared) (Q E : Value → Shared → Prop),
    Below A₀ base outer h₀ → Fr h₀ L s.heap m → (K w.params).In h₀ → News h₀ L s.heap news → Top p loose mean mg mb h₀ → cs.kind = .function →
    dp + dd < recursionLimit → un + du < cLine →
    (∀ (r : Value) (news' : Led) (h' : Heap) (tk' : Nat), Fr h₀ L h' m → News h₀ L h' news' → Out r news' → Q r { s with heap := h', toks := tk' }) →
    wpAny (model prog w) (ktrTop dp un gd cn cs L a ccd cl outer) (call (.ref f) vs) Q E s
theorem telp_use {prog : Program} {w : World} {f : Addr} {dd du : Nat} {vs : List Value} {news : Led} {Out : Value → Led → Prop} (C : TelP prog w f dd du vs news Out)
    {p : Program} {loose : List Str} {mean : ExcName → Option Value} {mg mb : Str → Option Value} {dp un : Nat} {gd : Option (List Code)} {cn : Str} {cs : Scope} {a : Addr} {ccd : Value} {cl : List (Str × Addr)} {outer : List Env} {A₀ : Around} {base h₀ : Heap} {L : Addr} {m : Str → Option Value} {s : Shared} {Q E : Value → Shared → Prop}
    (B : Below A₀ base outer h₀) (F : Fr h₀ L s.heap m) (X : (K w.params).In h₀) (N : News h₀ L s.heap news) (T : Top p loose mean mg mb h₀) (hk : cs.kind = .function) (hd : dp + dd < recursionLimit) (hu : un + du < cLine)
    (ret : ∀ (r : Value) (news' : Led) (h' : Heap) (tk' : Nat), Fr h₀ L h' m → News h₀ L h' news' → Out r news' → Q r { s with heap := h', toks := tk' }) :
    wpAny (model prog w) (ktrTop dp un gd cn cs L a ccd cl outer) (call (.ref f) vs) Q E s := C p loose mean mg mb dp un gd cn cs a ccd cl outer A₀ base h₀ L m s Q E B F X N T hk hd hu ret
theorem tel_p {prog : Program} {w : World} {f : Addr} {dd du : Nat} {vs : List Value} {news : Led} {Out : Value → Led → Prop} (C : Tel f dd du vs news Out) : TelP prog w f dd du vs news Out :=
  fun p loose mean mg mb dp un gd cn cs a ccd cl outer A₀ base h₀ L m s Q E => C prog w p loose mean mg mb dp un gd cn cs a ccd cl outer A₀ base h₀ L m s Q E
abbrev ent (P : Params) (k : String) (t : Tok) (v : Value) : DictEntry := ⟨PyData.keyHash P (Str.ofString k), .str (Str.ofString k) t, v⟩
abbrev heapD (P : Params) (t1 t2 t3 : Tok) (l : Value) (k : Int) (tk : Tok) (z : Value) : Obj := dictOf [ent P "limits" t1 l, ent P "last" t2 (.int k tk), ent P "zero" t3 z] 3
abbrev cntD (P : Params) (t1 t2 t3 : Tok) (h : Value) (pd : Addr) : Obj := dictOf [ent P "heap" t1 h, ent P "destroy" t2 .none, ent P "places" t3 (.ref pd)] 3
abbrev scaD (P : Params) (t1 t2 t3 t4 t5 t6 t7 t8 : Tok) (k : Int) (tk : Tok) (c : Int) (tc : Tok) (wk v : Value) : Obj := dictOf [ent P "number" t1 (.int k tk), ent P "count" t2 (.int c tc), ent P "blessed" t3 .none, ent P "weak" t4 wk, ent P "is_destroyed" t5 (.bool false), ent P "is_freed" t6 (.bool false), ent P "value" t7 v, ent P "magic" t8 .none] 8
abbrev lvtD (P : Params) (t1 t2 t3 t4 t5 : Tok) (c : Value) (sa : Addr) (o : Int) (to : Tok) (cv : Value) (b : Bool) : Obj := dictOf [ent P "counter" t1 c, ent P "target" t2 (.ref sa), ent P "offset" t3 (.int o to), ent P "count" t4 cv, ent P "is_from_end" t5 (.bool b)] 5

end
section
example : True := by
  k_with "call ref" => (k_here; k_dflt (first | (refine' call_cls (by k_asm) (by assumption) (by k_asm) (by k_is) (by k_is) (by k_is) ?_; k_whole; intro x' d' h' F' N' l1 l2; (try k_lt l1); (try k_lt2 l2); (try k_sweep); walk_at "enter_y") | (refine wpAny_call ?_; walk_at "enter_y")))
  trivial
set_option linter.unusedSimpArgs false in
set_option maxHeartbeats 4000000 in
theorem limits_ok (news : Led) : Tel 459 3 40 [] news (fun r news' => ∃ a, r = .ref a ∧ news' = news) := by
  w_top off
  unfold Tel
  intro prog w pp loose mean mg mb dp un gd cn cs a ccd cl outer A₀ base h₀ L m s Q E B F X N T hk9 hd hu hret
  k_steps
  exact hret _ _ _ _ (by k_asm) (by walk_at "news_sub") ⟨_, rfl, rfl⟩
set_option linter.unusedSimpArgs false in
set_option maxHeartbeats 4000000 in
theorem heap_ok (prog : Program) (w : World) (l : Value) (news : Led) : TelP prog w 306 3 40 [l] news (fun r news' => ∃ (a d : Addr) (t1 t2 t3 tk : Tok) (z : Value), r = .ref a ∧ news' = (a, instObj 306 d) :: (d, heapD w.params t1 t2 t3 l 0 tk z) :: news ∧ (∀ q ∈ news, q.1 < d) ∧ @LT.lt Nat _ d a) := by
  w_top off
  unfold TelP
  intro pp loose mean mg mb dp un gd cn cs a ccd cl outer A₀ base h₀ L m s Q E B F X N T hk9 hd hu hret
  k_steps
  refine hret _ _ _ _ (by k_asm) (news_keep2 (news_sub (by k_asm) (by walk_at "mem_tail")) (fun _ h => h)) ⟨_, _, _, _, _, _, _, rfl, rfl, ?_, ?_⟩
  · assumption
  · show (_ : Nat) < _; omega
set_option linter.unusedSimpArgs false in
set_option maxHeartbeats 4000000 in
theorem counter_ok (prog : Program) (w : World) (h : Value) (news : Led) : TelP prog w 437 3 40 [h, .none] news (fun r news' => ∃ (a d pd : Addr) (t1 t2 t3 : Tok) (ob : Obj), r = .ref a ∧ news' = (pd, ob) :: (a, instObj 437 d) :: (d, cntD w.params t1 t2 t3 h pd) :: news ∧ (∀ q ∈ news, q.1 < d) ∧ @LT.lt Nat _ d a ∧ @LT.lt Nat _ a pd ∧ (pd == sysModules) = false ∧ Obj.IsDictOf (PySem.strKind prog w) ob [] ∧ Obj.IsDictOf (intKind prog w) ob []) := by
  w_top off
  unfold TelP
  intro pp loose mean mg mb dp un gd cn cs a ccd cl outer A₀ base h₀ L m s Q E B F X N T hk9 hd hu hret
  k_steps
  refine hret _ _ _ _ (by k_asm) (news_sub (by k_asm) (by walk_at "mem_tail")) ⟨_, _, _, _, _, _, _, rfl, rfl, ?_, ?_, ?_, ?_, ?_, ?_⟩
  · assumption
  · show (_ : Nat) < _; omega
  · show (_ : Nat) < _; omega
  · assumption
  · assumption
  · assumption
set_option linter.unusedSimpArgs false in
set_option maxHeartbeats 4000000 in
theorem lvt_ok (prog : Program) (w : World) (c : Value) (sa : Addr) (o : Int) (to : Tok) (ct : Option Int) (cv : Value) (hc : CntV cv ct) (news : Led) : TelP prog w 501 3 40 [c, .ref sa, .int o to, cv] news (fun r news' => ∃ (a d : Addr) (t1 t2 t3 t4 t5 : Tok), r = .ref a ∧ news' = (a, instObj 501 d) :: (d, lvtD w.params t1 t2 t3 t4 t5 c sa o to cv (decide (o < 0))) :: news ∧ (∀ q ∈ news, q.1 < d) ∧ @LT.lt Nat _ d a) := by
  w_top off
  unfold TelP
  intro pp loose mean mg mb dp un gd cn cs a ccd cl outer A₀ base h₀ L m s Q E B F X N T hk9 hd hu hret
  cases hc
  all_goals k_steps
  all_goals (refine hret _ _ _ _ (by k_asm) (by k_asm) ⟨_, _, _, _, _, _, _, rfl, rfl, (by assumption), (by show (_ : Nat) < _; omega)⟩)

end
example : True := by
  k_with_none
  k_with "enter_cells" => (refine' code_defC (by k_asm) (by k_asm) (by k_asm) (by k_asm) (by k_asm) (by exact rfl) (by exact rfl) (by assumption) (by k_is) (by k_is) (by ktr_room) (by exact BindsTo.of_eq rfl) (by exact rfl) (by decide +kernel) ?_ (by exact rfl) (by exact rfl) (by exact rfl); k_whole; intro g' L' h' tk' cells' FG' F' N' Y' B' X' T' l1; (try k_lt l1); k_cells Y'; (try simp only [List.cons_append, List.nil_append] at N'); (try dsimp only); (try k_lift B'); (try k_fold))
  k_with "eval ListComp" => (k_here; first | ((with_reducible show wpAny _ _ (eval (PySem.Expr.ListComp _ [PySem.Comprehension.mk _ _ [_] _] _ _) _) _ _ _); k_dflt (refine LCt.ListComp_T (F₀ := by k_asm) (by with_unfolding_all rfl) (by decide) (by rfl) (by decide) (by rfl) ?_)) | ((with_reducible show wpAny _ _ (eval (PySem.Expr.ListComp _ [PySem.Comprehension.mk _ _ [] _] _ _) _) _ _ _); k_dflt (refine LCg.ListComp_U (F₀ := by k_asm) (by with_unfolding_all rfl) (by decide) (by rfl) (by decide) (by rfl) ?_)))
  k_with "is_comp" => first | (with_reducible refine' LCt.CompSrcT.range ?_ ?_ ?_ ?_ ?_ ?_ ?_ ?_) | (with_reducible refine' LCg.CompSrc.range ?_ ?_ ?_ ?_ ?_ ?_ ?_ ?_) | (with_reducible refine' LCt.CompSrcT.ledger ?_ ?_ ?_ ?_ ?_ ?_) | (with_reducible refine' LCg.CompSrc.ledger ?_ ?_ ?_ ?_ ?_ ?_)
  k_with "to_comp" => repeat' (first | ((fail_if_success (walk_at "is_comp")); first | (k_unfold; (try dsimp only)) | (k_end; wrow_close) | walk1 | (dsimp only; walk1) | (leave1; try dsimp only)))
  k_with "comp_range" => first | (refine' LCt.CompSrcT.range (by exact rfl) (by k_asm) (by k_asm) (by assumption) (by exact small_one (by omega) (by omega) (by omega) (by omega)) (by first | exact rangeSize_nat _ _ | rfl) (by rw [PySem.sizeLine_eq]; omega) ?_; intro g') | (refine' LCg.CompSrc.range (by exact rfl) (by k_asm) (by k_asm) (by assumption) (by exact small_one (by omega) (by omega) (by omega) (by omega)) (by first | exact rangeSize_nat _ _ | rfl) (by rw [PySem.sizeLine_eq]; omega) ?_; intro g')
  k_with "mem_tail" => (intro q9 hq9; repeat' (first | with_reducible exact hq9 | refine List.mem_cons_of_mem _ ?_))
  k_with "news_sub" => first | k_asm | (refine news_sub (by k_asm) ?_; walk_at "mem_tail")
  k_with "led_lt" => first | assumption | (refine led_lt (by k_asm) ?_; walk_at "mem_tail") | ((with_reducible rename AllLt _ _ => ql9); exact ktn_ltOf ql9) | ((with_reducible rename _ ∧ AllLt _ _ => ql9); exact ktn_ltOf ql9.2) | ((with_reducible rename _ ∧ _ ∧ AllLt _ _ => ql9); exact ktn_ltOf ql9.2.2)
  k_with "mem_at" => first | exact List.Mem.head _ | (refine List.Mem.tail _ ?_; walk_at "mem_at")
  k_with "mem_any" => first | exact mem_nil_all | exact fun _ h => h | (refine mem_cons_all (by walk_at "mem_at") (by walk_at "mem_any")) | (walk_at "mem_tail")
  k_with "to_while" => repeat' (first | ((fail_if_success (with_reducible show wpAny _ _ (exec (Stmt.While _ _ _ _) _) _ _ _)); first | (k_unfold; (try dsimp only)) | (k_end; wrow_close) | walk1 | (dsimp only; walk1) | (leave1; try dsimp only)))
  k_with "ne9" => first | assumption | exact Nat.ne_of_lt (by omega) | exact Nat.ne_of_gt (by omega) | k_ne
  k_with "enter_n" => (refine' code_def (by k_asm) (by k_asm) (by k_asm) (by k_asm) (by k_asm) (by exact rfl) (by exact rfl) (by first | exact rfl | assumption) (by k_is) (by k_is) (by ktr_room) (by first | exact BindsTo.of_eq rfl | exact binds_K (by k_in) rfl (by k_is) rfl rfl rfl) (by exact locs rfl) ?_ (by exact rfl) (by exact rfl) (by exact rfl) (by decide); k_whole)
  k_with "enter_y" => (walk_at "enter_n"; intro g' L' h' FG' F' N' B' X' T'; (try dsimp only); (try k_lift B'); (try k_fold))
  k_with "call builtin:str.join" => (k_here; (with_reducible show wpAny _ _ (call (Value.builtin "str.join") [Value.str _ _, Value.ref _]) _ _ _); (with_reducible rename CarriedAll _ (List.map (fun _ => PyData.str (chr _)) _) => ktC); (refine join_chrs (by first | is_list | exact News.isList (by k_asm) (by k_mem)) ktC (by first | omega | (refine Nat.le_trans (pickC_len _ _ _ _) ?_; omega)) ?_; intro _ _))
  k_with "call ref" => (k_here; (with_reducible show wpAny _ _ (call (Value.ref 519) _) _ _ _); k_dflt (refine' draw_use (by k_asm) (by k_asm) (by k_asm) (by k_asm) (by k_asm) (by first | exact rfl | assumption) (by ktr_room) (by ktr_units) (by walk_at "upd") (by exact rfl) (by k_mem) (by assumption) (by assumption) (by assumption) (by assumption) (by omega) ?_); intro v9 t9 u9 n9 h9 tk9 F9 N9; (try dsimp only at N9); (try dsimp only); (try k_fold); (try k_sweep))
  k_with "call ref" => (k_here; (with_reducible show wpAny _ _ (call (Value.ref 67) _) _ _ _); k_dflt (refine' span_use (by k_asm) (by k_asm) (by k_asm) (by k_asm) (by k_asm) (by first | exact rfl | assumption) (by ktr_room) (by ktr_units) (by first | assumption | exact CntV.none | exact CntV.int _ _) (by omega) ?_ ?_); (first | (intro h9 tk9 hs9 F9 N9) | (intro b9 e9 d9 t9 u9 h9 tk9 hs9 ha9 hb9 hc9 F9 N9 hl9; k_lt hl9)) <;> (try dsimp only) <;> (try k_fold) <;> (try k_sweep))
  k_with "call ref" => (k_here; (with_reducible show wpAny _ _ (call (Value.ref 74) _) _ _ _); k_dflt (refine' value_use (by k_asm) (by k_asm) (by k_asm) (by k_asm) (by k_asm) (by first | exact rfl | assumption) (by ktr_room) (by ktr_units) (by first | assumption | exact CntV.none | exact CntV.int _ _) (by omega) ?_ ?_); (first | (intro h9 tk9 hs9 F9 N9) | (intro z9 t9 h9 tk9 hs9 F9 N9)) <;> (try dsimp only) <;> (try k_fold) <;> (try k_sweep))
  k_with "call ref" => (k_here; (with_reducible show wpAny _ _ (call (Value.ref 531) _) _ _ _); k_dflt (refine' ends_use (by k_asm) (by k_asm) (by k_asm) (by k_asm) (by k_asm) (by first | exact rfl | assumption) (by ktr_room) (by ktr_units) (by k_mem) (by first | assumption | exact CntV.none | exact CntV.int _ _) ?_); intro B9 e9 d9 t9 u9 h9 tk9 hb9 he9 F9 N9 hl9; k_lt hl9; (try dsimp only); (try k_fold); (try k_sweep))
  k_with "call ref" => (k_here; (with_reducible show wpAny _ _ (call (Value.ref 536) _) _ _ _); k_dflt (refine' part_use (by k_asm) (by k_asm) (by k_asm) (by k_asm) (by k_asm) (by first | exact rfl | assumption) (by ktr_room) (by ktr_units) (by k_mem) (by first | assumption | exact CntV.none | exact CntV.int _ _) (by omega) ?_ ?_); (first | (intro h9 tk9 hs9 F9 N9) | (intro d9 z9 p9 t9 u9 h9 tk9 hs9 hf9 F9 N9 hl9; (try k_lt hl9))) <;> (try dsimp only) <;> (try k_fold) <;> (try k_sweep))
  k_with "call ref" => (k_here; (with_reducible show wpAny _ _ (call (Value.ref 524) _) _ _ _); (try k_fmods); k_dflt (refine' word_use (by k_asm) (by k_asm) (by k_asm) (by k_asm) (by k_asm) (by first | exact rfl | assumption) (by ktr_room) (by ktr_units) (by walk_at "upd") (by exact rfl) (by k_mem) (by assumption) (by assumption) (by assumption) (by assumption) (by omega) (by omega) (by omega) ?_); intro z9 t9 u9 n9 h9 tk9 zl9 zok9 F9 N9; (try dsimp only at N9); (try dsimp only); (try k_fold); (try k_sweep))
  k_with "call ref" => (k_here; (with_reducible show wpAny _ _ (call (Value.ref 541) _) _ _ _); k_dflt (refine' places_use (by k_asm) (by k_asm) (by k_asm) (by k_asm) (by k_asm) (by first | exact rfl | assumption) (by ktr_room) (by ktr_units) (by omega) (by omega) ?_); intro d9 vs9 n9 h9 tk9 hp9 F9 N9 hl9; (try simp only [List.forall_mem_cons] at hl9); (try dsimp only); (try k_fold); (try k_sweep))
  k_with "call ref" => (k_here; (with_reducible show wpAny _ _ (call (Value.ref 548) _) _ _ _); k_dflt (refine' lput_use (by k_asm) (by k_asm) (by k_asm) (by k_asm) (by k_asm) (by first | exact rfl | assumption) (by ktr_room) (by ktr_units) (by k_mem) (by first | assumption | exact CntV.none | exact CntV.int _ _) (by omega) (by omega) ?_ ?_); (first | (intro d9 e9 z9 v9 o9 c9 cv9 t9 u9 w9 h9 tk9 hs9 hc9 F9 N9 hl9 he9; (try k_lt hl9)) | (intro h9 tk9 hs9 F9 N9)) <;> (try dsimp only) <;> (try k_fold) <;> (try k_sweep))
  k_with "call ref" => (k_here; (with_reducible show wpAny _ _ (call (Value.ref 555) _) _ _ _); k_dflt (refine' given_none (by k_asm) (by k_asm) (by k_asm) (by k_asm) (by k_asm) (by k_asm) (by k_asm) (by first | exact rfl | assumption) (by ktr_room) (by ktr_units) (by first | assumption | exact CntV.none | exact CntV.int _ _) (by omega) (by omega) (by assumption) ?_); intro h9 tk9 F9 N9; (try dsimp only); (try k_fold); (try k_sweep))
  k_with "call ref" => (k_here; (with_reducible show wpAny _ _ (call (Value.ref 555) _) _ _ _); k_dflt (refine' given_some (by k_asm) (by k_asm) (by k_asm) (by k_asm) (by k_asm) (by k_asm) (by k_asm) (by first | exact rfl | assumption) (by ktr_room) (by ktr_units) (by first | assumption | exact CntV.none | exact CntV.int _ _) (by omega) (by omega) (by assumption) ?_); intro d9 t9 u9 h9 tk9 F9 N9 hl9; (try k_lt hl9); (try dsimp only); (try k_fold); (try k_sweep))
  k_with "call ref" => (k_here; (with_reducible show wpAny _ _ (call (Value.ref 95) _) _ _ _); k_dflt (refine' index_use (by k_asm) (by k_asm) (by k_asm) (by k_asm) (by k_asm) (by first | exact rfl | assumption) (by ktr_room) (by ktr_units) (by omega) (by omega) ?_); intro v9 t9 h9 tk9 hx9 F9 N9; (try dsimp only); (try k_fold); (try k_sweep))
  k_with "call ref" => (k_here; (with_reducible show wpAny _ _ (call (Value.ref 102) _) _ _ _); k_dflt (refine' rindex_use (by k_asm) (by k_asm) (by k_asm) (by k_asm) (by k_asm) (by first | exact rfl | assumption) (by ktr_room) (by ktr_units) (by first | assumption | exact CntV.none | exact CntV.int _ _) (by omega) (by omega) ?_); intro v9 t9 h9 tk9 hx9 F9 N9; (try dsimp only); (try k_fold); (try k_sweep))
  trivial
section
example : True := by
  k_with "call ref" => (k_here; (fail_if_success (with_reducible show wpAny _ _ (call (Value.ref 74) _) _ _ _)); (fail_if_success (with_reducible show wpAny _ _ (call (Value.ref 67) _) _ _ _)); k_dflt (first | (refine' call_cls (by k_asm) (by assumption) (by k_asm) (by k_is) (by k_is) (by k_is) ?_; k_whole; intro x' d' h' F' N' l1 l2; (try k_lt l1); (try k_lt2 l2); (try k_sweep); walk_at "enter_y") | (refine wpAny_call ?_; walk_at "enter_y")))
  trivial
set_option linter.unusedSimpArgs false in
set_option maxHeartbeats 4000000 in
theorem fresh_ok (prog : Program) (w : World) (ca cd pd ha hd : Addr) (ob : Obj) (x : Str) (tx t1 t2 t3 u1 u2 u3 tk : Tok) (l z : Value) (rest : Led) (hr : ∀ q ∈ rest, q.1 < hd) (h1 : @LT.lt Nat _ hd ha) (h2 : @LT.lt Nat _ ha cd) (h3 : @LT.lt Nat _ cd ca) (h4 : @LT.lt Nat _ ca pd) :
    TelP prog w 406 4 60 [.ref ca, .str x tx] ((pd, ob) :: (ca, instObj 437 cd) :: (cd, cntD w.params t1 t2 t3 (.ref ha) pd) :: (ha, instObj 306 hd) :: (hd, heapD w.params u1 u2 u3 l 0 tk z) :: rest) (fun r news' => ∃ (sa sd : Addr) (v1 v2 v3 v4 v5 v6 v7 v8 tn tc : Tok) (wk : Value), r = .ref sa ∧ news' = (sa, instObj 147 sd) :: (sd, scaD w.params v1 v2 v3 v4 v5 v6 v7 v8 1 tn 1 tc wk (.str x tx)) :: (pd, ob) :: (ca, instObj 437 cd) :: (cd, cntD w.params t1 t2 t3 (.ref ha) pd) :: rest ∧ @LT.lt Nat _ pd sd ∧ @LT.lt Nat _ sd sa) := by
  w_top off
  unfold TelP
  intro pp loose mean mg mb dp un gd cn cs a ccd cl outer A₀ base h₀ L m s Q E B F X N T hk9 hd9 hu hret
  k_dflt (refine wpAny_call ?_; walk_at "enter_y")
  k_steps
  refine hret _ _ _ _ (by k_asm) (news_sub (by k_asm) (by walk_at "mem_any")) ⟨_, _, _, _, _, _, _, _, _, _, _, _, _, rfl, rfl, ?_, ?_⟩
  · show (_ : Nat) < _; omega
  · show (_ : Nat) < _; omega

end
example : True := by
  k_with_none
  k_with "enter_cells" => (refine' code_defC (by k_asm) (by k_asm) (by k_asm) (by k_asm) (by k_asm) (by exact rfl) (by exact rfl) (by assumption) (by k_is) (by k_is) (by ktr_room) (by exact BindsTo.of_eq rfl) (by exact rfl) (by decide +kernel) ?_ (by exact rfl) (by exact rfl) (by exact rfl); k_whole; intro g' L' h' tk' cells' FG' F' N' Y' B' X' T' l1; (try k_lt l1); k_cells Y'; (try simp only [List.cons_append, List.nil_append] at N'); (try dsimp only); (try k_lift B'); (try k_fold))
  k_with "eval ListComp" => (k_here; first | ((with_reducible show wpAny _ _ (eval (PySem.Expr.ListComp _ [PySem.Comprehension.mk _ _ [_] _] _ _) _) _ _ _); k_dflt (refine LCt.ListComp_T (F₀ := by k_asm) (by with_unfolding_all rfl) (by decide) (by rfl) (by decide) (by rfl) ?_)) | ((with_reducible show wpAny _ _ (eval (PySem.Expr.ListComp _ [PySem.Comprehension.mk _ _ [] _] _ _) _) _ _ _); k_dflt (refine LCg.ListComp_U (F₀ := by k_asm) (by with_unfolding_all rfl) (by decide) (by rfl) (by decide) (by rfl) ?_)))
  k_with "is_comp" => first | (with_reducible refine' LCt.CompSrcT.range ?_ ?_ ?_ ?_ ?_ ?_ ?_ ?_) | (with_reducible refine' LCg.CompSrc.range ?_ ?_ ?_ ?_ ?_ ?_ ?_ ?_) | (with_reducible refine' LCt.CompSrcT.ledger ?_ ?_ ?_ ?_ ?_ ?_) | (with_reducible refine' LCg.CompSrc.ledger ?_ ?_ ?_ ?_ ?_ ?_)
  k_with "to_comp" => repeat' (first | ((fail_if_success (walk_at "is_comp")); first | (k_unfold; (try dsimp only)) | (k_end; wrow_close) | walk1 | (dsimp only; walk1) | (leave1; try dsimp only)))
  k_with "comp_range" => first | (refine' LCt.CompSrcT.range (by exact rfl) (by k_asm) (by k_asm) (by assumption) (by exact small_one (by omega) (by omega) (by omega) (by omega)) (by first | exact rangeSize_nat _ _ | rfl) (by rw [PySem.sizeLine_eq]; omega) ?_; intro g') | (refine' LCg.CompSrc.range (by exact rfl) (by k_asm) (by k_asm) (by assumption) (by exact small_one (by omega) (by omega) (by omega) (by omega)) (by first | exact rangeSize_nat _ _ | rfl) (by rw [PySem.sizeLine_eq]; omega) ?_; intro g')
  k_with "mem_tail" => (intro q9 hq9; repeat' (first | with_reducible exact hq9 | refine List.mem_cons_of_mem _ ?_))
  k_with "news_sub" => first | k_asm | (refine news_sub (by k_asm) ?_; walk_at "mem_tail")
  k_with "led_lt" => first | assumption | (refine led_lt (by k_asm) ?_; walk_at "mem_tail") | ((with_reducible rename AllLt _ _ => ql9); exact ktn_ltOf ql9) | ((with_reducible rename _ ∧ AllLt _ _ => ql9); exact ktn_ltOf ql9.2) | ((with_reducible rename _ ∧ _ ∧ AllLt _ _ => ql9); exact ktn_ltOf ql9.2.2)
  k_with "mem_at" => first | exact List.Mem.head _ | (refine List.Mem.tail _ ?_; walk_at "mem_at")
  k_with "mem_any" => first | exact mem_nil_all | exact fun _ h => h | (refine mem_cons_all (by walk_at "mem_at") (by walk_at "mem_any")) | (walk_at "mem_tail")
  k_with "to_while" => repeat' (first | ((fail_if_success (with_reducible show wpAny _ _ (exec (Stmt.While _ _ _ _) _) _ _ _)); first | (k_unfold; (try dsimp only)) | (k_end; wrow_close) | walk1 | (dsimp only; walk1) | (leave1; try dsimp only)))
  k_with "ne9" => first | assumption | exact Nat.ne_of_lt (by omega) | exact Nat.ne_of_gt (by omega) | k_ne
  k_with "enter_n" => (refine' code_def (by k_asm) (by k_asm) (by k_asm) (by k_asm) (by k_asm) (by exact rfl) (by exact rfl) (by first | exact rfl | assumption) (by k_is) (by k_is) (by ktr_room) (by first | exact BindsTo.of_eq rfl | exact binds_K (by k_in) rfl (by k_is) rfl rfl rfl) (by exact locs rfl) ?_ (by exact rfl) (by exact rfl) (by exact rfl) (by decide); k_whole)
  k_with "enter_y" => (walk_at "enter_n"; intro g' L' h' FG' F' N' B' X' T'; (try dsimp only); (try k_lift B'); (try k_fold))
  k_with "call builtin:str.join" => (k_here; (with_reducible show wpAny _ _ (call (Value.builtin "str.join") [Value.str _ _, Value.ref _]) _ _ _); (with_reducible rename CarriedAll _ (List.map (fun _ => PyData.str (chr _)) _) => ktC); (refine join_chrs (by first | is_list | exact News.isList (by k_asm) (by k_mem)) ktC (by first | omega | (refine Nat.le_trans (pickC_len _ _ _ _) ?_; omega)) ?_; intro _ _))
  k_with "call ref" => (k_here; (with_reducible show wpAny _ _ (call (Value.ref 519) _) _ _ _); k_dflt (refine' draw_use (by k_asm) (by k_asm) (by k_asm) (by k_asm) (by k_asm) (by first | exact rfl | assumption) (by ktr_room) (by ktr_units) (by walk_at "upd") (by exact rfl) (by k_mem) (by assumption) (by assumption) (by assumption) (by assumption) (by omega) ?_); intro v9 t9 u9 n9 h9 tk9 F9 N9; (try dsimp only at N9); (try dsimp only); (try k_fold); (try k_sweep))
  k_with "call ref" => (k_here; (with_reducible show wpAny _ _ (call (Value.ref 67) _) _ _ _); k_dflt (refine' span_use (by k_asm) (by k_asm) (by k_asm) (by k_asm) (by k_asm) (by first | exact rfl | assumption) (by ktr_room) (by ktr_units) (by first | assumption | exact CntV.none | exact CntV.int _ _) (by omega) ?_ ?_); (first | (intro h9 tk9 hs9 F9 N9) | (intro b9 e9 d9 t9 u9 h9 tk9 hs9 ha9 hb9 hc9 F9 N9 hl9; k_lt hl9)) <;> (try dsimp only) <;> (try k_fold) <;> (try k_sweep))
  k_with "call ref" => (k_here; (with_reducible show wpAny _ _ (call (Value.ref 74) _) _ _ _); k_dflt (refine' value_use (by k_asm) (by k_asm) (by k_asm) (by k_asm) (by k_asm) (by first | exact rfl | assumption) (by ktr_room) (by ktr_units) (by first | assumption | exact CntV.none | exact CntV.int _ _) (by omega) ?_ ?_); (first | (intro h9 tk9 hs9 F9 N9) | (intro z9 t9 h9 tk9 hs9 F9 N9)) <;> (try dsimp only) <;> (try k_fold) <;> (try k_sweep))
  k_with "call ref" => (k_here; (with_reducible show wpAny _ _ (call (Value.ref 531) _) _ _ _); k_dflt (refine' ends_use (by k_asm) (by k_asm) (by k_asm) (by k_asm) (by k_asm) (by first | exact rfl | assumption) (by ktr_room) (by ktr_units) (by k_mem) (by first | assumption | exact CntV.none | exact CntV.int _ _) ?_); intro B9 e9 d9 t9 u9 h9 tk9 hb9 he9 F9 N9 hl9; k_lt hl9; (try dsimp only); (try k_fold); (try k_sweep))
  k_with "call ref" => (k_here; (with_reducible show wpAny _ _ (call (Value.ref 536) _) _ _ _); k_dflt (refine' part_use (by k_asm) (by k_asm) (by k_asm) (by k_asm) (by k_asm) (by first | exact rfl | assumption) (by ktr_room) (by ktr_units) (by k_mem) (by first | assumption | exact CntV.none | exact CntV.int _ _) (by omega) ?_ ?_); (first | (intro h9 tk9 hs9 F9 N9) | (intro d9 z9 p9 t9 u9 h9 tk9 hs9 hf9 F9 N9 hl9; (try k_lt hl9))) <;> (try dsimp only) <;> (try k_fold) <;> (try k_sweep))
  k_with "call ref" => (k_here; (with_reducible show wpAny _ _ (call (Value.ref 524) _) _ _ _); (try k_fmods); k_dflt (refine' word_use (by k_asm) (by k_asm) (by k_asm) (by k_asm) (by k_asm) (by first | exact rfl | assumption) (by ktr_room) (by ktr_units) (by walk_at "upd") (by exact rfl) (by k_mem) (by assumption) (by assumption) (by assumption) (by assumption) (by omega) (by omega) (by omega) ?_); intro z9 t9 u9 n9 h9 tk9 zl9 zok9 F9 N9; (try dsimp only at N9); (try dsimp only); (try k_fold); (try k_sweep))
  k_with "call ref" => (k_here; (with_reducible show wpAny _ _ (call (Value.ref 541) _) _ _ _); k_dflt (refine' places_use (by k_asm) (by k_asm) (by k_asm) (by k_asm) (by k_asm) (by first | exact rfl | assumption) (by ktr_room) (by ktr_units) (by omega) (by omega) ?_); intro d9 vs9 n9 h9 tk9 hp9 F9 N9 hl9; (try simp only [List.forall_mem_cons] at hl9); (try dsimp only); (try k_fold); (try k_sweep))
  k_with "call ref" => (k_here; (with_reducible show wpAny _ _ (call (Value.ref 548) _) _ _ _); k_dflt (refine' lput_use (by k_asm) (by k_asm) (by k_asm) (by k_asm) (by k_asm) (by first | exact rfl | assumption) (by ktr_room) (by ktr_units) (by k_mem) (by first | assumption | exact CntV.none | exact CntV.int _ _) (by omega) (by omega) ?_ ?_); (first | (intro d9 e9 z9 v9 o9 c9 cv9 t9 u9 w9 h9 tk9 hs9 hc9 F9 N9 hl9 he9; (try k_lt hl9)) | (intro h9 tk9 hs9 F9 N9)) <;> (try dsimp only) <;> (try k_fold) <;> (try k_sweep))
  k_with "call ref" => (k_here; (with_reducible show wpAny _ _ (call (Value.ref 555) _) _ _ _); k_dflt (refine' given_none (by k_asm) (by k_asm) (by k_asm) (by k_asm) (by k_asm) (by k_asm) (by k_asm) (by first | exact rfl | assumption) (by ktr_room) (by ktr_units) (by first | assumption | exact CntV.none | exact CntV.int _ _) (by omega) (by omega) (by assumption) ?_); intro h9 tk9 F9 N9; (try dsimp only); (try k_fold); (try k_sweep))
  k_with "call ref" => (k_here; (with_reducible show wpAny _ _ (call (Value.ref 555) _) _ _ _); k_dflt (refine' given_some (by k_asm) (by k_asm) (by k_asm) (by k_asm) (by k_asm) (by k_asm) (by k_asm) (by first | exact rfl | assumption) (by ktr_room) (by ktr_units) (by first | assumption | exact CntV.none | exact CntV.int _ _) (by omega) (by omega) (by assumption) ?_); intro d9 t9 u9 h9 tk9 F9 N9 hl9; (try k_lt hl9); (try dsimp only); (try k_fold); (try k_sweep))
  k_with "call ref" => (k_here; (with_reducible show wpAny _ _ (call (Value.ref 95) _) _ _ _); k_dflt (refine' index_use (by k_asm) (by k_asm) (by k_asm) (by k_asm) (by k_asm) (by first | exact rfl | assumption) (by ktr_room) (by ktr_units) (by omega) (by omega) ?_); intro v9 t9 h9 tk9 hx9 F9 N9; (try dsimp only); (try k_fold); (try k_sweep))
  k_with "call ref" => (k_here; (with_reducible show wpAny _ _ (call (Value.ref 102) _) _ _ _); k_dflt (refine' rindex_use (by k_asm) (by k_asm) (by k_asm) (by k_asm) (by k_asm) (by first | exact rfl | assumption) (by ktr_room) (by ktr_units) (by first | assumption | exact CntV.none | exact CntV.int _ _) (by omega) (by omega) ?_); intro v9 t9 h9 tk9 hx9 F9 N9; (try dsimp only); (try k_fold); (try k_sweep))
  trivial
section
example : True := by
  k_with "call ref" => (k_here; (fail_if_success (with_reducible show wpAny _ _ (call (Value.ref 74) _) _ _ _)); (fail_if_success (with_reducible show wpAny _ _ (call (Value.ref 67) _) _ _ _)); k_dflt (first | (refine' call_cls (by k_asm) (by assumption) (by k_asm) (by k_is) (by k_is) (by k_is) ?_; k_whole; intro x' d' h' F' N' l1 l2; (try k_lt l1); (try k_lt2 l2); (try k_sweep); walk_at "enter_y") | (refine wpAny_call ?_; walk_at "enter_y")))
  trivial
set_option linter.unusedSimpArgs false in
set_option maxHeartbeats 4000000 in
theorem store_ok (prog : Program) (w : World) (ca cd pd sa sd : Addr) (ob : Obj) (k : Int) (x : Str) (tx ty tn tc t1 t2 t3 v1 v2 v3 v4 v5 v6 v7 v8 : Tok) (c : Int) (hv wk : Value) (y : Str) (rest : Led) (hs : ∀ q ∈ rest, q.1 ≠ sd) (m1 : (pd, ob) ∈ rest) (m2 : (ca, instObj 437 cd) ∈ rest) (m3 : (cd, cntD w.params t1 t2 t3 hv pd) ∈ rest) (m4 : (sa, instObj 147 sd) ∈ rest) (lo : (pd == sysModules) = false) (hs' : Obj.IsDictOf (PySem.strKind prog w) ob []) (fs' : PyProof.V.FlatPairs PyData.str [] []) (hi' : Obj.IsDictOf (intKind prog w) ob []) (fi' : PyProof.V.FlatPairs PyData.int [] []) :
    TelP prog w 399 4 60 [.ref ca, .ref sa, .str x tx] ((sd, scaD w.params v1 v2 v3 v4 v5 v6 v7 v8 k tn c tc wk (.str y ty)) :: rest) (fun r news' => r = .none ∧ news' = (sd, scaD w.params v1 v2 v3 v4 v5 v6 v7 v8 k tn c tc wk (.str x tx)) :: rest) := by
  w_top off
  unfold TelP
  intro pp loose mean mg mb dp un gd cn cs a ccd cl outer A₀ base h₀ L m s Q E B F X N T hk9 hd9 hu hret
  k_dflt (refine wpAny_call ?_; walk_at "enter_y")
  k_steps
  exact hret _ _ _ _ (by k_asm) (by walk_at "news_sub") ⟨rfl, rfl⟩
theorem store_use {prog : Program} {w : World} {p : Program} {loose : List Str} {mean : ExcName → Option Value} {mg mb : Str → Option Value} {dp un : Nat} {gd : Option (List Code)} {cn : Str} {cs : Scope} {a : Addr} {ccd : Value} {cl : List (Str × Addr)} {outer : List Env} {A₀ : Around} {base h₀ : Heap} {L : Addr} {m : Str → Option Value} {s : Shared} {Q E : Value → Shared → Prop}
    {ca cd pd sa sd : Addr} {ob : Obj} {k : Int} {x : Str} {tx ty tn tc t1 t2 t3 v1 v2 v3 v4 v5 v6 v7 v8 : Tok} {c : Int} {hv wk : Value} {y : Str} {news : Led} {g : Obj → Led}
    (B : Below A₀ base outer h₀) (F : Fr h₀ L s.heap m) (X : (K w.params).In h₀) (N : News h₀ L s.heap news) (T : Top p loose mean mg mb h₀) (hk : cs.kind = .function) (hd : dp + 4 < recursionLimit) (hu : un + 60 < cLine)
    (m4 : (sa, instObj 147 sd) ∈ news) (m2 : (ca, instObj 437 cd) ∈ news) (m3 : (cd, cntD w.params t1 t2 t3 hv pd) ∈ news) (m1 : (pd, ob) ∈ news) (U : UpdF sd (scaD w.params v1 v2 v3 v4 v5 v6 v7 v8 k tn c tc wk (.str y ty)) news g)
    (n1 : pd ≠ sd) (n2 : ca ≠ sd) (n3 : cd ≠ sd) (n4 : sa ≠ sd)
    (lo : (pd == sysModules) = false) (hs' : Obj.IsDictOf (PySem.strKind prog w) ob []) (hi' : Obj.IsDictOf (intKind prog w) ob [])
    (hq : ∀ h' tk', Fr h₀ L h' m → News h₀ L h' (g (scaD w.params v1 v2 v3 v4 v5 v6 v7 v8 k tn c tc wk (.str x tx))) → Q .none { s with heap := h', toks := tk' }) :
    wpAny (model prog w) (ktrTop dp un gd cn cs L a ccd cl outer) (call (.ref 399) [.ref ca, .ref sa, .str x tx]) Q E s := by
  obtain ⟨pre, post, rfl, hg, h1, h2⟩ := U.split
  refine telp_use (store_ok prog w ca cd pd sa sd ob k x tx ty tn tc t1 t2 t3 v1 v2 v3 v4 v5 v6 v7 v8 c hv wk y (pre ++ post) (fun q hq => (List.mem_append.mp hq).elim (h1 q) (h2 q)) (upd_mem m1 n1) (upd_mem m2 n2) (upd_mem m3 n3) (upd_mem m4 n4) lo hs' .nil hi' .nil) B F X (upd_front N) T hk hd hu fun r news' h' tk' F' N' O => ?_
  obtain ⟨rfl, rfl⟩ := O
  exact hq h' tk' F' (by rw [hg]; exact upd_news N')

end
example : True := by
  k_with_none
  k_with "enter_cells" => (refine' code_defC (by k_asm) (by k_asm) (by k_asm) (by k_asm) (by k_asm) (by exact rfl) (by exact rfl) (by assumption) (by k_is) (by k_is) (by ktr_room) (by exact BindsTo.of_eq rfl) (by exact rfl) (by decide +kernel) ?_ (by exact rfl) (by exact rfl) (by exact rfl); k_whole; intro g' L' h' tk' cells' FG' F' N' Y' B' X' T' l1; (try k_lt l1); k_cells Y'; (try simp only [List.cons_append, List.nil_append] at N'); (try dsimp only); (try k_lift B'); (try k_fold))
  k_with "eval ListComp" => (k_here; first | ((with_reducible show wpAny _ _ (eval (PySem.Expr.ListComp _ [PySem.Comprehension.mk _ _ [_] _] _ _) _) _ _ _); k_dflt (refine LCt.ListComp_T (F₀ := by k_asm) (by with_unfolding_all rfl) (by decide) (by rfl) (by decide) (by rfl) ?_)) | ((with_reducible show wpAny _ _ (eval (PySem.Expr.ListComp _ [PySem.Comprehension.mk _ _ [] _] _ _) _) _ _ _); k_dflt (refine LCg.ListComp_U (F₀ := by k_asm) (by with_unfolding_all rfl) (by decide) (by rfl) (by decide) (by rfl) ?_)))
  k_with "is_comp" => first | (with_reducible refine' LCt.CompSrcT.range ?_ ?_ ?_ ?_ ?_ ?_ ?_ ?_) | (with_reducible refine' LCg.CompSrc.range ?_ ?_ ?_ ?_ ?_ ?_ ?_ ?_) | (with_reducible refine' LCt.CompSrcT.ledger ?_ ?_ ?_ ?_ ?_ ?_) | (with_reducible refine' LCg.CompSrc.ledger ?_ ?_ ?_ ?_ ?_ ?_)
  k_with "to_comp" => repeat' (first | ((fail_if_success (walk_at "is_comp")); first | (k_unfold; (try dsimp only)) | (k_end; wrow_close) | walk1 | (dsimp only; walk1) | (leave1; try dsimp only)))
  k_with "comp_range" => first | (refine' LCt.CompSrcT.range (by exact rfl) (by k_asm) (by k_asm) (by assumption) (by exact small_one (by omega) (by omega) (by omega) (by omega)) (by first | exact rangeSize_nat _ _ | rfl) (by rw [PySem.sizeLine_eq]; omega) ?_; intro g') | (refine' LCg.CompSrc.range (by exact rfl) (by k_asm) (by k_asm) (by assumption) (by exact small_one (by omega) (by omega) (by omega) (by omega)) (by first | exact rangeSize_nat _ _ | rfl) (by rw [PySem.sizeLine_eq]; omega) ?_; intro g')
  k_with "mem_tail" => (intro q9 hq9; repeat' (first | with_reducible exact hq9 | refine List.mem_cons_of_mem _ ?_))
  k_with "news_sub" => first | k_asm | (refine news_sub (by k_asm) ?_; walk_at "mem_tail")
  k_with "led_lt" => first | assumption | (refine led_lt (by k_asm) ?_; walk_at "mem_tail") | ((with_reducible rename AllLt _ _ => ql9); exact ktn_ltOf ql9) | ((with_reducible rename _ ∧ AllLt _ _ => ql9); exact ktn_ltOf ql9.2) | ((with_reducible rename _ ∧ _ ∧ AllLt _ _ => ql9); exact ktn_ltOf ql9.2.2)
  k_with "mem_at" => first | exact List.Mem.head _ | (refine List.Mem.tail _ ?_; walk_at "mem_at")
  k_with "mem_any" => first | exact mem_nil_all | exact fun _ h => h | (refine mem_cons_all (by walk_at "mem_at") (by walk_at "mem_any")) | (walk_at "mem_tail")
  k_with "to_while" => repeat' (first | ((fail_if_success (with_reducible show wpAny _ _ (exec (Stmt.While _ _ _ _) _) _ _ _)); first | (k_unfold; (try dsimp only)) | (k_end; wrow_close) | walk1 | (dsimp only; walk1) | (leave1; try dsimp only)))
  k_with "ne9" => first | assumption | exact Nat.ne_of_lt (by omega) | exact Nat.ne_of_gt (by omega) | k_ne
  k_with "enter_n" => (refine' code_def (by k_asm) (by k_asm) (by k_asm) (by k_asm) (by k_asm) (by exact rfl) (by exact rfl) (by first | exact rfl | assumption) (by k_is) (by k_is) (by ktr_room) (by first | exact BindsTo.of_eq rfl | exact binds_K (by k_in) rfl (by k_is) rfl rfl rfl) (by exact locs rfl) ?_ (by exact rfl) (by exact rfl) (by exact rfl) (by decide); k_whole)
  k_with "enter_y" => (walk_at "enter_n"; intro g' L' h' FG' F' N' B' X' T'; (try dsimp only); (try k_lift B'); (try k_fold))
  k_with "call builtin:str.join" => (k_here; (with_reducible show wpAny _ _ (call (Value.builtin "str.join") [Value.str _ _, Value.ref _]) _ _ _); (with_reducible rename CarriedAll _ (List.map (fun _ => PyData.str (chr _)) _) => ktC); (refine join_chrs (by first | is_list | exact News.isList (by k_asm) (by k_mem)) ktC (by first | omega | (refine Nat.le_trans (pickC_len _ _ _ _) ?_; omega)) ?_; intro _ _))
  k_with "call ref" => (k_here; (with_reducible show wpAny _ _ (call (Value.ref 519) _) _ _ _); k_dflt (refine' draw_use (by k_asm) (by k_asm) (by k_asm) (by k_asm) (by k_asm) (by first | exact rfl | assumption) (by ktr_room) (by ktr_units) (by walk_at "upd") (by exact rfl) (by k_mem) (by assumption) (by assumption) (by assumption) (by assumption) (by omega) ?_); intro v9 t9 u9 n9 h9 tk9 F9 N9; (try dsimp only at N9); (try dsimp only); (try k_fold); (try k_sweep))
  k_with "call ref" => (k_here; (with_reducible show wpAny _ _ (call (Value.ref 67) _) _ _ _); k_dflt (refine' span_use (by k_asm) (by k_asm) (by k_asm) (by k_asm) (by k_asm) (by first | exact rfl | assumption) (by ktr_room) (by ktr_units) (by first | assumption | exact CntV.none | exact CntV.int _ _) (by omega) ?_ ?_); (first | (intro h9 tk9 hs9 F9 N9) | (intro b9 e9 d9 t9 u9 h9 tk9 hs9 ha9 hb9 hc9 F9 N9 hl9; k_lt hl9)) <;> (try dsimp only) <;> (try k_fold) <;> (try k_sweep))
  k_with "call ref" => (k_here; (with_reducible show wpAny _ _ (call (Value.ref 74) _) _ _ _); k_dflt (refine' value_use (by k_asm) (by k_asm) (by k_asm) (by k_asm) (by k_asm) (by first | exact rfl | assumption) (by ktr_room) (by ktr_units) (by first | assumption | exact CntV.none | exact CntV.int _ _) (by omega) ?_ ?_); (first | (intro h9 tk9 hs9 F9 N9) | (intro z9 t9 h9 tk9 hs9 F9 N9)) <;> (try dsimp only) <;> (try k_fold) <;> (try k_sweep))
  k_with "call ref" => (k_here; (with_reducible show wpAny _ _ (call (Value.ref 531) _) _ _ _); k_dflt (refine' ends_use (by k_asm) (by k_asm) (by k_asm) (by k_asm) (by k_asm) (by first | exact rfl | assumption) (by ktr_room) (by ktr_units) (by k_mem) (by first | assumption | exact CntV.none | exact CntV.int _ _) ?_); intro B9 e9 d9 t9 u9 h9 tk9 hb9 he9 F9 N9 hl9; k_lt hl9; (try dsimp only); (try k_fold); (try k_sweep))
  k_with "call ref" => (k_here; (with_reducible show wpAny _ _ (call (Value.ref 536) _) _ _ _); k_dflt (refine' part_use (by k_asm) (by k_asm) (by k_asm) (by k_asm) (by k_asm) (by first | exact rfl | assumption) (by ktr_room) (by ktr_units) (by k_mem) (by first | assumption | exact CntV.none | exact CntV.int _ _) (by omega) ?_ ?_); (first | (intro h9 tk9 hs9 F9 N9) | (intro d9 z9 p9 t9 u9 h9 tk9 hs9 hf9 F9 N9 hl9; (try k_lt hl9))) <;> (try dsimp only) <;> (try k_fold) <;> (try k_sweep))
  k_with "call ref" => (k_here; (with_reducible show wpAny _ _ (call (Value.ref 524) _) _ _ _); (try k_fmods); k_dflt (refine' word_use (by k_asm) (by k_asm) (by k_asm) (by k_asm) (by k_asm) (by first | exact rfl | assumption) (by ktr_room) (by ktr_units) (by walk_at "upd") (by exact rfl) (by k_mem) (by assumption) (by assumption) (by assumption) (by assumption) (by omega) (by omega) (by omega) ?_); intro z9 t9 u9 n9 h9 tk9 zl9 zok9 F9 N9; (try dsimp only at N9); (try dsimp only); (try k_fold); (try k_sweep))
  k_with "call ref" => (k_here; (with_reducible show wpAny _ _ (call (Value.ref 541) _) _ _ _); k_dflt (refine' places_use (by k_asm) (by k_asm) (by k_asm) (by k_asm) (by k_asm) (by first | exact rfl | assumption) (by ktr_room) (by ktr_units) (by omega) (by omega) ?_); intro d9 vs9 n9 h9 tk9 hp9 F9 N9 hl9; (try simp only [List.forall_mem_cons] at hl9); (try dsimp only); (try k_fold); (try k_sweep))
  k_with "call ref" => (k_here; (with_reducible show wpAny _ _ (call (Value.ref 548) _) _ _ _); k_dflt (refine' lput_use (by k_asm) (by k_asm) (by k_asm) (by k_asm) (by k_asm) (by first | exact rfl | assumption) (by ktr_room) (by ktr_units) (by k_mem) (by first | assumption | exact CntV.none | exact CntV.int _ _) (by omega) (by omega) ?_ ?_); (first | (intro d9 e9 z9 v9 o9 c9 cv9 t9 u9 w9 h9 tk9 hs9 hc9 F9 N9 hl9 he9; (try k_lt hl9)) | (intro h9 tk9 hs9 F9 N9)) <;> (try dsimp only) <;> (try k_fold) <;> (try k_sweep))
  k_with "call ref" => (k_here; (with_reducible show wpAny _ _ (call (Value.ref 555) _) _ _ _); k_dflt (refine' given_none (by k_asm) (by k_asm) (by k_asm) (by k_asm) (by k_asm) (by k_asm) (by k_asm) (by first | exact rfl | assumption) (by ktr_room) (by ktr_units) (by first | assumption | exact CntV.none | exact CntV.int _ _) (by omega) (by omega) (by assumption) ?_); intro h9 tk9 F9 N9; (try dsimp only); (try k_fold); (try k_sweep))
  k_with "call ref" => (k_here; (with_reducible show wpAny _ _ (call (Value.ref 555) _) _ _ _); k_dflt (refine' given_some (by k_asm) (by k_asm) (by k_asm) (by k_asm) (by k_asm) (by k_asm) (by k_asm) (by first | exact rfl | assumption) (by ktr_room) (by ktr_units) (by first | assumption | exact CntV.none | exact CntV.int _ _) (by omega) (by omega) (by assumption) ?_); intro d9 t9 u9 h9 tk9 F9 N9 hl9; (try k_lt hl9); (try dsimp only); (try k_fold); (try k_sweep))
  k_with "call ref" => (k_here; (with_reducible show wpAny _ _ (call (Value.ref 95) _) _ _ _); k_dflt (refine' index_use (by k_asm) (by k_asm) (by k_asm) (by k_asm) (by k_asm) (by first | exact rfl | assumption) (by ktr_room) (by ktr_units) (by omega) (by omega) ?_); intro v9 t9 h9 tk9 hx9 F9 N9; (try dsimp only); (try k_fold); (try k_sweep))
  k_with "call ref" => (k_here; (with_reducible show wpAny _ _ (call (Value.ref 102) _) _ _ _); k_dflt (refine' rindex_use (by k_asm) (by k_asm) (by k_asm) (by k_asm) (by k_asm) (by first | exact rfl | assumption) (by ktr_room) (by ktr_units) (by first | assumption | exact CntV.none | exact CntV.int _ _) (by omega) (by omega) ?_); intro v9 t9 h9 tk9 hx9 F9 N9; (try dsimp only); (try k_fold); (try k_sweep))
  trivial
example : True := by
  k_with "call ref" => (k_here; (with_reducible show wpAny _ _ (call (Value.ref 399) _) _ _ _); k_dflt (refine' store_use (by k_asm) (by k_asm) (by k_asm) (by k_asm) (by k_asm) (by first | exact rfl | assumption) (by ktr_room) (by ktr_units) (by k_mem) (by k_mem) (by k_mem) (by k_mem) (by walk_at "upd") (by walk_at "ne9") (by walk_at "ne9") (by walk_at "ne9") (by walk_at "ne9") (by assumption) (by assumption) (by assumption) ?_); intro h9 tk9 F9 N9; (try dsimp only at N9); (try dsimp only); (try k_fold); (try k_sweep))
  trivial
section
theorem limits_use {prog : Program} {w : World} {p : Program} {loose : List Str} {mean : ExcName → Option Value} {mg mb : Str → Option Value} {dp un : Nat} {gd : Option (List Code)} {cn : Str} {cs : Scope} {a : Addr} {ccd : Value} {cl : List (Str × Addr)} {outer : List Env} {A₀ : Around} {base h₀ : Heap} {L : Addr} {m : Str → Option Value} {s : Shared} {Q E : Value → Shared → Prop} {news : Led}
    (B : Below A₀ base outer h₀) (F : Fr h₀ L s.heap m) (X : (K w.params).In h₀) (N : News h₀ L s.heap news) (T : Top p loose mean mg mb h₀) (hk : cs.kind = .function) (hd9 : dp + 3 < recursionLimit) (hu : un + 40 < cLine) 
    (hq : ∀ (l : Addr) h' tk', Fr h₀ L h' m → News h₀ L h' news → Q (.ref l) { s with heap := h', toks := tk' }) :
    wpAny (model prog w) (ktrTop dp un gd cn cs L a ccd cl outer) (call (.ref 459) []) Q E s :=
  tel_use (limits_ok news) B F X N T hk hd9 hu fun r news' h' tk' F' N' O => by
    obtain ⟨l, rfl, rfl⟩ := O
    exact hq l h' tk' F' N'
theorem heap_use {prog : Program} {w : World} {p : Program} {loose : List Str} {mean : ExcName → Option Value} {mg mb : Str → Option Value} {dp un : Nat} {gd : Option (List Code)} {cn : Str} {cs : Scope} {a : Addr} {ccd : Value} {cl : List (Str × Addr)} {outer : List Env} {A₀ : Around} {base h₀ : Heap} {L : Addr} {m : Str → Option Value} {s : Shared} {Q E : Value → Shared → Prop} {news : Led} {l : Value}
    (B : Below A₀ base outer h₀) (F : Fr h₀ L s.heap m) (X : (K w.params).In h₀) (N : News h₀ L s.heap news) (T : Top p loose mean mg mb h₀) (hk : cs.kind = .function) (hd9 : dp + 3 < recursionLimit) (hu : un + 40 < cLine) 
    (hq : ∀ (ha hd : Addr) (t1 t2 t3 tk : Tok) (z : Value) h' tk', Fr h₀ L h' m → News h₀ L h' ((ha, instObj 306 hd) :: (hd, heapD w.params t1 t2 t3 l 0 tk z) :: news) → (∀ q ∈ news, q.1 < hd) → @LT.lt Nat _ hd ha → Q (.ref ha) { s with heap := h', toks := tk' }) :
    wpAny (model prog w) (ktrTop dp un gd cn cs L a ccd cl outer) (call (.ref 306) [l]) Q E s :=
  telp_use (heap_ok prog w l news) B F X N T hk hd9 hu fun r news' h' tk' F' N' O => by
    obtain ⟨ha, hd, t1, t2, t3, tk, z, rfl, rfl, h1, h2⟩ := O
    exact hq ha hd t1 t2 t3 tk z h' tk' F' N' h1 h2
theorem counter_use {prog : Program} {w : World} {p : Program} {loose : List Str} {mean : ExcName → Option Value} {mg mb : Str → Option Value} {dp un : Nat} {gd : Option (List Code)} {cn : Str} {cs : Scope} {a : Addr} {ccd : Value} {cl : List (Str × Addr)} {outer : List Env} {A₀ : Around} {base h₀ : Heap} {L : Addr} {m : Str → Option Value} {s : Shared} {Q E : Value → Shared → Prop} {news : Led} {l : Value}
    (B : Below A₀ base outer h₀) (F : Fr h₀ L s.heap m) (X : (K w.params).In h₀) (N : News h₀ L s.heap news) (T : Top p loose mean mg mb h₀) (hk : cs.kind = .function) (hd9 : dp + 3 < recursionLimit) (hu : un + 40 < cLine) 
    (hq : ∀ (ca cd pd : Addr) (t1 t2 t3 : Tok) (ob : Obj) h' tk', Fr h₀ L h' m → News h₀ L h' ((pd, ob) :: (ca, instObj 437 cd) :: (cd, cntD w.params t1 t2 t3 l pd) :: news) → (∀ q ∈ news, q.1 < cd) → @LT.lt Nat _ cd ca → @LT.lt Nat _ ca pd → (pd == sysModules) = false → Obj.IsDictOf (PySem.strKind prog w) ob [] → Obj.IsDictOf (intKind prog w) ob [] → Q (.ref ca) { s with heap := h', toks := tk' }) :
    wpAny (model prog w) (ktrTop dp un gd cn cs L a ccd cl outer) (call (.ref 437) [l, .none]) Q E s :=
  telp_use (counter_ok prog w l news) B F X N T hk hd9 hu fun r news' h' tk' F' N' O => by
    obtain ⟨ca, cd, pd, t1, t2, t3, ob, rfl, rfl, h1, h2, h3, h4, h5, h6⟩ := O
    exact hq ca cd pd t1 t2 t3 ob h' tk' F' N' h1 h2 h3 h4 h5 h6
theorem fresh_use {prog : Program} {w : World} {p : Program} {loose : List Str} {mean : ExcName → Option Value} {mg mb : Str → Option Value} {dp un : Nat} {gd : Option (List Code)} {cn : Str} {cs : Scope} {a : Addr} {ccd : Value} {cl : List (Str × Addr)} {outer : List Env} {A₀ : Around} {base h₀ : Heap} {L : Addr} {m : Str → Option Value} {s : Shared} {Q E : Value → Shared → Prop} {rest : Led} {ca cd pd ha hd : Addr} {ob : Obj} {x : Str} {tx t1 t2 t3 u1 u2 u3 tk : Tok} {l z : Value}
    (B : Below A₀ base outer h₀) (F : Fr h₀ L s.heap m) (X : (K w.params).In h₀) (N : News h₀ L s.heap ((pd, ob) :: (ca, instObj 437 cd) :: (cd, cntD w.params t1 t2 t3 (.ref ha) pd) :: (ha, instObj 306 hd) :: (hd, heapD w.params u1 u2 u3 l 0 tk z) :: rest)) (T : Top p loose mean mg mb h₀) (hk : cs.kind = .function) (hd9 : dp + 4 < recursionLimit) (hu : un + 60 < cLine) (hr : ∀ q ∈ rest, q.1 < hd) (h1 : @LT.lt Nat _ hd ha) (h2 : @LT.lt Nat _ ha cd) (h3 : @LT.lt Nat _ cd ca) (h4 : @LT.lt Nat _ ca pd)
    (hq : ∀ (sa sd : Addr) (v1 v2 v3 v4 v5 v6 v7 v8 tn tc : Tok) (wk : Value) h' tk', Fr h₀ L h' m → News h₀ L h' ((sa, instObj 147 sd) :: (sd, scaD w.params v1 v2 v3 v4 v5 v6 v7 v8 1 tn 1 tc wk (.str x tx)) :: (pd, ob) :: (ca, instObj 437 cd) :: (cd, cntD w.params t1 t2 t3 (.ref ha) pd) :: rest) → @LT.lt Nat _ pd sd → @LT.lt Nat _ sd sa → Q (.ref sa) { s with heap := h', toks := tk' }) :
    wpAny (model prog w) (ktrTop dp un gd cn cs L a ccd cl outer) (call (.ref 406) [.ref ca, .str x tx]) Q E s :=
  telp_use (fresh_ok prog w ca cd pd ha hd ob x tx t1 t2 t3 u1 u2 u3 tk l z rest hr h1 h2 h3 h4) B F X N T hk hd9 hu fun r news' h' tk' F' N' O => by
    obtain ⟨sa, sd, v1, v2, v3, v4, v5, v6, v7, v8, tn, tc, wk, rfl, rfl, h1, h2⟩ := O
    exact hq sa sd v1 v2 v3 v4 v5 v6 v7 v8 tn tc wk h' tk' F' N' h1 h2
theorem lvt_use {prog : Program} {w : World} {p : Program} {loose : List Str} {mean : ExcName → Option Value} {mg mb : Str → Option Value} {dp un : Nat} {gd : Option (List Code)} {cn : Str} {cs : Scope} {a : Addr} {ccd : Value} {cl : List (Str × Addr)} {outer : List Env} {A₀ : Around} {base h₀ : Heap} {L : Addr} {m : Str → Option Value} {s : Shared} {Q E : Value → Shared → Prop} {news : Led} {c : Value} {sa : Addr} {o : Int} {to : Tok} {ct : Option Int} {cv : Value}
    (B : Below A₀ base outer h₀) (F : Fr h₀ L s.heap m) (X : (K w.params).In h₀) (N : News h₀ L s.heap news) (T : Top p loose mean mg mb h₀) (hk : cs.kind = .function) (hd9 : dp + 3 < recursionLimit) (hu : un + 40 < cLine) (hc : CntV cv ct)
    (hq : ∀ (la ld : Addr) (t1 t2 t3 t4 t5 : Tok) h' tk', Fr h₀ L h' m → News h₀ L h' ((la, instObj 501 ld) :: (ld, lvtD w.params t1 t2 t3 t4 t5 c sa o to cv (decide (o < 0))) :: news) → (∀ q ∈ news, q.1 < ld) → @LT.lt Nat _ ld la → Q (.ref la) { s with heap := h', toks := tk' }) :
    wpAny (model prog w) (ktrTop dp un gd cn cs L a ccd cl outer) (call (.ref 501) [c, .ref sa, .int o to, cv]) Q E s :=
  telp_use (lvt_ok prog w c sa o to ct cv hc news) B F X N T hk hd9 hu fun r news' h' tk' F' N' O => by
    obtain ⟨la, ld, t1, t2, t3, t4, t5, rfl, rfl, h1, h2⟩ := O
    exact hq la ld t1 t2 t3 t4 t5 h' tk' F' N' h1 h2

end
example : True := by
  k_with "call ref" => (k_here; (with_reducible show wpAny _ _ (call (Value.ref 459) []) _ _ _); k_dflt (refine' limits_use (by k_asm) (by k_asm) (by k_asm) (by k_asm) (by k_asm) (by first | exact rfl | assumption) (by ktr_room) (by ktr_units) ?_); intro l9 h9 tk9 F9 N9; (try dsimp only); (try k_fold); (try k_sweep))
  k_with "call ref" => (k_here; (with_reducible show wpAny _ _ (call (Value.ref 306) _) _ _ _); k_dflt (refine' heap_use (by k_asm) (by k_asm) (by k_asm) (by k_asm) (by k_asm) (by first | exact rfl | assumption) (by ktr_room) (by ktr_units) ?_); intro ha9 hd9 t9 u9 v9 w9 z9 h9 tk9 F9 N9 hl9 ho9; (have hl8 := hl9; (try k_lt hl8)); (try dsimp only); (try k_fold); (try k_sweep))
  k_with "call ref" => (k_here; (with_reducible show wpAny _ _ (call (Value.ref 437) _) _ _ _); k_dflt (refine' counter_use (by k_asm) (by k_asm) (by k_asm) (by k_asm) (by k_asm) (by first | exact rfl | assumption) (by ktr_room) (by ktr_units) ?_); intro ca9 cd9 pd9 t9 u9 v9 ob9 h9 tk9 F9 N9 hl9 ho9 hp9 lo9 hs9 hi9; (have hl8 := hl9; (try k_lt hl8)); (try dsimp only); (try k_fold); (try k_sweep))
  k_with "call ref" => (k_here; (with_reducible show wpAny _ _ (call (Value.ref 406) _) _ _ _); k_dflt (refine' fresh_use (by k_asm) (by k_asm) (by k_asm) (by k_asm) (by k_asm) (by first | exact rfl | assumption) (by ktr_room) (by ktr_units) (by assumption) (by omega) (by omega) (by omega) (by omega) ?_); intro sa9 sd9 a9 b9 c9 d9 e9 f9 g9 i9 tn9 tc9 wk9 h9 tk9 F9 N9 ho9 hp9; (try dsimp only); (try k_fold); (try k_sweep))
  k_with "call ref" => (k_here; (with_reducible show wpAny _ _ (call (Value.ref 501) _) _ _ _); k_dflt (refine' lvt_use (by k_asm) (by k_asm) (by k_asm) (by k_asm) (by k_asm) (by first | exact rfl | assumption) (by ktr_room) (by ktr_units) (by first | assumption | exact CntV.none | exact CntV.int _ _) ?_); intro la9 ld9 t9 u9 v9 w9 x9 h9 tk9 F9 N9 hl9 ho9; (have hl8 := hl9; (try k_lt hl8)); (try dsimp only); (try k_fold); (try k_sweep))
  trivial
section
set_option linter.unusedSimpArgs false in
set_option maxHeartbeats 8000000 in
theorem vo_ok (prog : Program) (w : World) (sa sd : Addr) (k c : Int) (x : Str) (wk : Value) (tx tn tc v1 v2 v3 v4 v5 v6 v7 v8 : Tok) (news : Led) (m3 : (sa, instObj 147 sd) ∈ news) (m4 : (sd, scaD w.params v1 v2 v3 v4 v5 v6 v7 v8 k tn c tc wk (.str x tx)) ∈ news) :
    TelP prog w 338 4 60 [.ref sa] news (fun r news' => r = .str x tx ∧ news' = news) := by
  w_top off
  unfold TelP
  intro pp loose mean mg mb dp un gd cn cs a ccd cl outer A₀ base h₀ L m s Q E B F X N T hk9 hd9 hu hret
  k_dflt (refine wpAny_call ?_; walk_at "enter_y")
  k_steps
  exact hret _ _ _ _ (by k_asm) (by walk_at "news_sub") ⟨rfl, rfl⟩
theorem vo_use {prog : Program} {w : World} {p : Program} {loose : List Str} {mean : ExcName → Option Value} {mg mb : Str → Option Value} {dp un : Nat} {gd : Option (List Code)} {cn : Str} {cs : Scope} {a : Addr} {ccd : Value} {cl : List (Str × Addr)} {outer : List Env} {A₀ : Around} {base h₀ : Heap} {L : Addr} {m : Str → Option Value} {s : Shared} {Q E : Value → Shared → Prop} {sa sd : Addr} {k c : Int} {x : Str} {wk : Value} {tx tn tc v1 v2 v3 v4 v5 v6 v7 v8 : Tok} {news : Led} (B : Below A₀ base outer h₀) (F : Fr h₀ L s.heap m) (X : (K w.params).In h₀) (N : News h₀ L s.heap news) (T : Top p loose mean mg mb h₀) (hk : cs.kind = .function) (hd9 : dp + 4 < recursionLimit) (hu : un + 60 < cLine) (m3 : (sa, instObj 147 sd) ∈ news) (m4 : (sd, scaD w.params v1 v2 v3 v4 v5 v6 v7 v8 k tn c tc wk (.str x tx)) ∈ news)
    (hq : ∀ h' tk', Fr h₀ L h' m → News h₀ L h' news → Q (.str x tx) { s with heap := h', toks := tk' }) :
    wpAny (model prog w) (ktrTop dp un gd cn cs L a ccd cl outer) (call (.ref 338) [.ref sa]) Q E s :=
  telp_use (vo_ok prog w sa sd k c x wk tx tn tc v1 v2 v3 v4 v5 v6 v7 v8 news m3 m4) B F X N T hk hd9 hu fun r news' h' tk' F' N' O => by
    obtain ⟨rfl, rfl⟩ := O
    exact hq h' tk' F' N'

end
example : True := by
  k_with "call ref" => (k_here; (with_reducible show wpAny _ _ (call (Value.ref 338) _) _ _ _); k_dflt (refine' vo_use (by k_asm) (by k_asm) (by k_asm) (by k_asm) (by k_asm) (by first | exact rfl | assumption) (by ktr_room) (by ktr_units) (by k_mem) (by k_mem) ?_); intro h9 tk9 F9 N9; (try dsimp only) <;> (try k_fold) <;> (try k_sweep))
  trivial
section
/-- what the place's begin tells -/
noncomputable def lvB (n : Nat) (b : Bool) (o : Int) : Int := if b = true ∧ o = 0 then (n : Int) else o
set_option linter.unusedSimpArgs false in
set_option maxHeartbeats 4000000 in
theorem beg_ok (prog : Program) (w : World) (la ld sa : Addr) (o : Int) (n : Nat) (b : Bool) (cv hv : Value) (tn t1 t2 t3 t4 t5 to : Tok) (news : Led) (m1 : (la, instObj 501 ld) ∈ news) (m2 : (ld, lvtD w.params t1 t2 t3 t4 t5 hv sa o to cv b) ∈ news) :
    TelP prog w 484 2 30 [.ref la, .int (n : Int) tn] news (fun r news' => ∃ t, r = .int (lvB n b o) t ∧ news' = news) := by
  w_top off
  unfold TelP lvB
  intro pp loose mean mg mb dp un gd cn cs a ccd cl outer A₀ base h₀ L m s Q E B F X N T hk9 hd9 hu hret
  cases b
  all_goals (k_dflt (refine wpAny_call ?_; walk_at "enter_y"))
  all_goals k_steps
  all_goals
    refine hret _ _ _ _ (by k_asm) (by walk_at "news_sub") ?_
    simp only [Bool.false_eq_true, false_and, if_false, true_and]
    (try split) <;> first | exact ⟨_, rfl, trivial⟩ | contradiction
theorem beg_use {prog : Program} {w : World} {p : Program} {loose : List Str} {mean : ExcName → Option Value} {mg mb : Str → Option Value} {dp un : Nat} {gd : Option (List Code)} {cn : Str} {cs : Scope} {a : Addr} {ccd : Value} {cl : List (Str × Addr)} {outer : List Env} {A₀ : Around} {base h₀ : Heap} {L : Addr} {m : Str → Option Value} {s : Shared} {Q E : Value → Shared → Prop} {la ld sa : Addr} {o : Int} {n : Nat} {b : Bool} {cv hv : Value} {tn t1 t2 t3 t4 t5 to : Tok} {news : Led} (B : Below A₀ base outer h₀) (F : Fr h₀ L s.heap m) (X : (K w.params).In h₀) (N : News h₀ L s.heap news) (T : Top p loose mean mg mb h₀) (hk : cs.kind = .function) (hd9 : dp + 2 < recursionLimit) (hu : un + 30 < cLine) (m1 : (la, instObj 501 ld) ∈ news) (m2 : (ld, lvtD w.params t1 t2 t3 t4 t5 hv sa o to cv b) ∈ news)
    (hq : ∀ t h' tk', Fr h₀ L h' m → News h₀ L h' news → Q (.int (lvB n b o) t) { s with heap := h', toks := tk' }) :
    wpAny (model prog w) (ktrTop dp un gd cn cs L a ccd cl outer) (call (.ref 484) [.ref la, .int (n : Int) tn]) Q E s :=
  telp_use (beg_ok prog w la ld sa o n b cv hv tn t1 t2 t3 t4 t5 to news m1 m2) B F X N T hk hd9 hu fun r news' h' tk' F' N' O => by
    obtain ⟨t, rfl, rfl⟩ := O
    exact hq t h' tk' F' N'

end
example : True := by
  k_with "call ref" => (k_here; (with_reducible show wpAny _ _ (call (Value.ref 484) _) _ _ _); k_dflt (refine' beg_use (by k_asm) (by k_asm) (by k_asm) (by k_asm) (by k_asm) (by first | exact rfl | assumption) (by ktr_room) (by ktr_units) (by k_mem) (by k_mem) ?_); intro t9 h9 tk9 F9 N9; (try dsimp only) <;> (try k_fold) <;> (try k_sweep))
  trivial
section
example : True := by
  k_with "call ref" => (k_here; (fail_if_success (with_reducible show wpAny _ _ (call (Value.ref 74) _) _ _ _)); (fail_if_success (with_reducible show wpAny _ _ (call (Value.ref 67) _) _ _ _)); (fail_if_success (with_reducible show wpAny _ _ (call (Value.ref 338) _) _ _ _)); (fail_if_success (with_reducible show wpAny _ _ (call (Value.ref 484) _) _ _ _)); k_dflt (first | (refine' call_cls (by k_asm) (by assumption) (by k_asm) (by k_is) (by k_is) (by k_is) ?_; k_whole; intro x' d' h' F' N' l1 l2; (try k_lt l1); (try k_lt2 l2); (try k_sweep); walk_at "enter_y") | (refine wpAny_call ?_; walk_at "enter_y")))
  trivial
set_option linter.unusedSimpArgs false in
set_option maxHeartbeats 4000000 in
theorem get_ok (prog : Program) (w : World) (la ld sa sd : Addr) (o k c : Int) (b : Bool) (x : Str) (cv wk hv : Value) (ct : Option Int) (hc : CntV cv ct) (hx : x.length ≤ 1000) (tx tn tc t1 t2 t3 t4 t5 to v1 v2 v3 v4 v5 v6 v7 v8 : Tok) (news : Led) (m1 : (la, instObj 501 ld) ∈ news) (m2 : (ld, lvtD w.params t1 t2 t3 t4 t5 hv sa o to cv b) ∈ news) (m3 : (sa, instObj 147 sd) ∈ news) (m4 : (sd, scaD w.params v1 v2 v3 v4 v5 v6 v7 v8 k tn c tc wk (.str x tx)) ∈ news) :
    TelP prog w 491 5 80 [.ref la] news (TextOut (partOf x (begOf x.length (if b = true ∧ o = 0 then (x.length : Int) else o)) ct) news) := by
  w_top off
  unfold TelP
  intro pp loose mean mg mb dp un gd cn cs a ccd cl outer A₀ base h₀ L m s Q E B F X N T hk9 hd9 hu hret
  have hh9 := cntV_handed hc
  k_dflt (refine wpAny_call ?_; walk_at "enter_y")
  k_steps
  all_goals
    (with_reducible rename partOf _ _ _ = _ => q9)
    refine hret _ _ _ _ (by k_asm) (by walk_at "news_sub") ⟨rfl, ?_⟩
    first
    | exact Or.inl ⟨q9, rfl⟩
    | exact Or.inr ⟨_, _, q9, rfl⟩
theorem get_use {prog : Program} {w : World} {p : Program} {loose : List Str} {mean : ExcName → Option Value} {mg mb : Str → Option Value} {dp un : Nat} {gd : Option (List Code)} {cn : Str} {cs : Scope} {a : Addr} {ccd : Value} {cl : List (Str × Addr)} {outer : List Env} {A₀ : Around} {base h₀ : Heap} {L : Addr} {m : Str → Option Value} {s : Shared} {Q E : Value → Shared → Prop} {la ld sa sd : Addr} {o k c : Int} {b : Bool} {x : Str} {cv wk hv : Value} {ct : Option Int} {tx tn tc t1 t2 t3 t4 t5 to v1 v2 v3 v4 v5 v6 v7 v8 : Tok} {news : Led} (B : Below A₀ base outer h₀) (F : Fr h₀ L s.heap m) (X : (K w.params).In h₀) (N : News h₀ L s.heap news) (T : Top p loose mean mg mb h₀) (hk : cs.kind = .function) (hd9 : dp + 5 < recursionLimit) (hu : un + 80 < cLine) (m1 : (la, instObj 501 ld) ∈ news) (m2 : (ld, lvtD w.params t1 t2 t3 t4 t5 hv sa o to cv b) ∈ news) (m3 : (sa, instObj 147 sd) ∈ news) (m4 : (sd, scaD w.params v1 v2 v3 v4 v5 v6 v7 v8 k tn c tc wk (.str x tx)) ∈ news) (hc : CntV cv ct) (hx : x.length ≤ 1000)
    (hnone : ∀ h' tk', partOf x (begOf x.length (if b = true ∧ o = 0 then (x.length : Int) else o)) ct = none → Fr h₀ L h' m → News h₀ L h' news → Q .none { s with heap := h', toks := tk' })
    (hsome : ∀ z t h' tk', partOf x (begOf x.length (if b = true ∧ o = 0 then (x.length : Int) else o)) ct = some z → Fr h₀ L h' m → News h₀ L h' news → Q (.str z t) { s with heap := h', toks := tk' }) :
    wpAny (model prog w) (ktrTop dp un gd cn cs L a ccd cl outer) (call (.ref 491) [.ref la]) Q E s :=
  telp_use (get_ok prog w la ld sa sd o k c b x cv wk hv ct hc hx tx tn tc t1 t2 t3 t4 t5 to v1 v2 v3 v4 v5 v6 v7 v8 news m1 m2 m3 m4) B F X N T hk hd9 hu fun r news' h' tk' F' N' O => by
    obtain ⟨rfl, O⟩ := O
    rcases O with ⟨h1, h2⟩ | ⟨z, t, h1, h2⟩
    · rw [h2]; exact hnone h' tk' h1 F' N'
    · rw [h2]; exact hsome z t h' tk' h1 F' N'

end
example : True := by
  k_with_none
  k_with "enter_cells" => (refine' code_defC (by k_asm) (by k_asm) (by k_asm) (by k_asm) (by k_asm) (by exact rfl) (by exact rfl) (by assumption) (by k_is) (by k_is) (by ktr_room) (by exact BindsTo.of_eq rfl) (by exact rfl) (by decide +kernel) ?_ (by exact rfl) (by exact rfl) (by exact rfl); k_whole; intro g' L' h' tk' cells' FG' F' N' Y' B' X' T' l1; (try k_lt l1); k_cells Y'; (try simp only [List.cons_append, List.nil_append] at N'); (try dsimp only); (try k_lift B'); (try k_fold))
  k_with "eval ListComp" => (k_here; first | ((with_reducible show wpAny _ _ (eval (PySem.Expr.ListComp _ [PySem.Comprehension.mk _ _ [_] _] _ _) _) _ _ _); k_dflt (refine LCt.ListComp_T (F₀ := by k_asm) (by with_unfolding_all rfl) (by decide) (by rfl) (by decide) (by rfl) ?_)) | ((with_reducible show wpAny _ _ (eval (PySem.Expr.ListComp _ [PySem.Comprehension.mk _ _ [] _] _ _) _) _ _ _); k_dflt (refine LCg.ListComp_U (F₀ := by k_asm) (by with_unfolding_all rfl) (by decide) (by rfl) (by decide) (by rfl) ?_)))
  k_with "is_comp" => first | (with_reducible refine' LCt.CompSrcT.range ?_ ?_ ?_ ?_ ?_ ?_ ?_ ?_) | (with_reducible refine' LCg.CompSrc.range ?_ ?_ ?_ ?_ ?_ ?_ ?_ ?_) | (with_reducible refine' LCt.CompSrcT.ledger ?_ ?_ ?_ ?_ ?_ ?_) | (with_reducible refine' LCg.CompSrc.ledger ?_ ?_ ?_ ?_ ?_ ?_)
  k_with "to_comp" => repeat' (first | ((fail_if_success (walk_at "is_comp")); first | (k_unfold; (try dsimp only)) | (k_end; wrow_close) | walk1 | (dsimp only; walk1) | (leave1; try dsimp only)))
  k_with "comp_range" => first | (refine' LCt.CompSrcT.range (by exact rfl) (by k_asm) (by k_asm) (by assumption) (by exact small_one (by omega) (by omega) (by omega) (by omega)) (by first | exact rangeSize_nat _ _ | rfl) (by rw [PySem.sizeLine_eq]; omega) ?_; intro g') | (refine' LCg.CompSrc.range (by exact rfl) (by k_asm) (by k_asm) (by assumption) (by exact small_one (by omega) (by omega) (by omega) (by omega)) (by first | exact rangeSize_nat _ _ | rfl) (by rw [PySem.sizeLine_eq]; omega) ?_; intro g')
  k_with "mem_tail" => (intro q9 hq9; repeat' (first | with_reducible exact hq9 | refine List.mem_cons_of_mem _ ?_))
  k_with "news_sub" => first | k_asm | (refine news_sub (by k_asm) ?_; walk_at "mem_tail")
  k_with "led_lt" => first | assumption | (refine led_lt (by k_asm) ?_; walk_at "mem_tail") | ((with_reducible rename AllLt _ _ => ql9); exact ktn_ltOf ql9) | ((with_reducible rename _ ∧ AllLt _ _ => ql9); exact ktn_ltOf ql9.2) | ((with_reducible rename _ ∧ _ ∧ AllLt _ _ => ql9); exact ktn_ltOf ql9.2.2)
  k_with "mem_at" => first | exact List.Mem.head _ | (refine List.Mem.tail _ ?_; walk_at "mem_at")
  k_with "mem_any" => first | exact mem_nil_all | exact fun _ h => h | (refine mem_cons_all (by walk_at "mem_at") (by walk_at "mem_any")) | (walk_at "mem_tail")
  k_with "to_while" => repeat' (first | ((fail_if_success (with_reducible show wpAny _ _ (exec (Stmt.While _ _ _ _) _) _ _ _)); first | (k_unfold; (try dsimp only)) | (k_end; wrow_close) | walk1 | (dsimp only; walk1) | (leave1; try dsimp only)))
  k_with "ne9" => first | assumption | exact Nat.ne_of_lt (by omega) | exact Nat.ne_of_gt (by omega) | k_ne
  k_with "enter_n" => (refine' code_def (by k_asm) (by k_asm) (by k_asm) (by k_asm) (by k_asm) (by exact rfl) (by exact rfl) (by first | exact rfl | assumption) (by k_is) (by k_is) (by ktr_room) (by first | exact BindsTo.of_eq rfl | exact binds_K (by k_in) rfl (by k_is) rfl rfl rfl) (by exact locs rfl) ?_ (by exact rfl) (by exact rfl) (by exact rfl) (by decide); k_whole)
  k_with "enter_y" => (walk_at "enter_n"; intro g' L' h' FG' F' N' B' X' T'; (try dsimp only); (try k_lift B'); (try k_fold))
  k_with "call builtin:str.join" => (k_here; (with_reducible show wpAny _ _ (call (Value.builtin "str.join") [Value.str _ _, Value.ref _]) _ _ _); (with_reducible rename CarriedAll _ (List.map (fun _ => PyData.str (chr _)) _) => ktC); (refine join_chrs (by first | is_list | exact News.isList (by k_asm) (by k_mem)) ktC (by first | omega | (refine Nat.le_trans (pickC_len _ _ _ _) ?_; omega)) ?_; intro _ _))
  k_with "call ref" => (k_here; (with_reducible show wpAny _ _ (call (Value.ref 519) _) _ _ _); k_dflt (refine' draw_use (by k_asm) (by k_asm) (by k_asm) (by k_asm) (by k_asm) (by first | exact rfl | assumption) (by ktr_room) (by ktr_units) (by walk_at "upd") (by exact rfl) (by k_mem) (by assumption) (by assumption) (by assumption) (by assumption) (by omega) ?_); intro v9 t9 u9 n9 h9 tk9 F9 N9; (try dsimp only at N9); (try dsimp only); (try k_fold); (try k_sweep))
  k_with "call ref" => (k_here; (with_reducible show wpAny _ _ (call (Value.ref 67) _) _ _ _); k_dflt (refine' span_use (by k_asm) (by k_asm) (by k_asm) (by k_asm) (by k_asm) (by first | exact rfl | assumption) (by ktr_room) (by ktr_units) (by first | assumption | exact CntV.none | exact CntV.int _ _) (by omega) ?_ ?_); (first | (intro h9 tk9 hs9 F9 N9) | (intro b9 e9 d9 t9 u9 h9 tk9 hs9 ha9 hb9 hc9 F9 N9 hl9; k_lt hl9)) <;> (try dsimp only) <;> (try k_fold) <;> (try k_sweep))
  k_with "call ref" => (k_here; (with_reducible show wpAny _ _ (call (Value.ref 74) _) _ _ _); k_dflt (refine' value_use (by k_asm) (by k_asm) (by k_asm) (by k_asm) (by k_asm) (by first | exact rfl | assumption) (by ktr_room) (by ktr_units) (by first | assumption | exact CntV.none | exact CntV.int _ _) (by omega) ?_ ?_); (first | (intro h9 tk9 hs9 F9 N9) | (intro z9 t9 h9 tk9 hs9 F9 N9)) <;> (try dsimp only) <;> (try k_fold) <;> (try k_sweep))
  k_with "call ref" => (k_here; (with_reducible show wpAny _ _ (call (Value.ref 531) _) _ _ _); k_dflt (refine' ends_use (by k_asm) (by k_asm) (by k_asm) (by k_asm) (by k_asm) (by first | exact rfl | assumption) (by ktr_room) (by ktr_units) (by k_mem) (by first | assumption | exact CntV.none | exact CntV.int _ _) ?_); intro B9 e9 d9 t9 u9 h9 tk9 hb9 he9 F9 N9 hl9; k_lt hl9; (try dsimp only); (try k_fold); (try k_sweep))
  k_with "call ref" => (k_here; (with_reducible show wpAny _ _ (call (Value.ref 536) _) _ _ _); k_dflt (refine' part_use (by k_asm) (by k_asm) (by k_asm) (by k_asm) (by k_asm) (by first | exact rfl | assumption) (by ktr_room) (by ktr_units) (by k_mem) (by first | assumption | exact CntV.none | exact CntV.int _ _) (by omega) ?_ ?_); (first | (intro h9 tk9 hs9 F9 N9) | (intro d9 z9 p9 t9 u9 h9 tk9 hs9 hf9 F9 N9 hl9; (try k_lt hl9))) <;> (try dsimp only) <;> (try k_fold) <;> (try k_sweep))
  k_with "call ref" => (k_here; (with_reducible show wpAny _ _ (call (Value.ref 524) _) _ _ _); (try k_fmods); k_dflt (refine' word_use (by k_asm) (by k_asm) (by k_asm) (by k_asm) (by k_asm) (by first | exact rfl | assumption) (by ktr_room) (by ktr_units) (by walk_at "upd") (by exact rfl) (by k_mem) (by assumption) (by assumption) (by assumption) (by assumption) (by omega) (by omega) (by omega) ?_); intro z9 t9 u9 n9 h9 tk9 zl9 zok9 F9 N9; (try dsimp only at N9); (try dsimp only); (try k_fold); (try k_sweep))
  k_with "call ref" => (k_here; (with_reducible show wpAny _ _ (call (Value.ref 541) _) _ _ _); k_dflt (refine' places_use (by k_asm) (by k_asm) (by k_asm) (by k_asm) (by k_asm) (by first | exact rfl | assumption) (by ktr_room) (by ktr_units) (by omega) (by omega) ?_); intro d9 vs9 n9 h9 tk9 hp9 F9 N9 hl9; (try simp only [List.forall_mem_cons] at hl9); (try dsimp only); (try k_fold); (try k_sweep))
  k_with "call ref" => (k_here; (with_reducible show wpAny _ _ (call (Value.ref 548) _) _ _ _); k_dflt (refine' lput_use (by k_asm) (by k_asm) (by k_asm) (by k_asm) (by k_asm) (by first | exact rfl | assumption) (by ktr_room) (by ktr_units) (by k_mem) (by first | assumption | exact CntV.none | exact CntV.int _ _) (by omega) (by omega) ?_ ?_); (first | (intro d9 e9 z9 v9 o9 c9 cv9 t9 u9 w9 h9 tk9 hs9 hc9 F9 N9 hl9 he9; (try k_lt hl9)) | (intro h9 tk9 hs9 F9 N9)) <;> (try dsimp only) <;> (try k_fold) <;> (try k_sweep))
  k_with "call ref" => (k_here; (with_reducible show wpAny _ _ (call (Value.ref 555) _) _ _ _); k_dflt (refine' given_none (by k_asm) (by k_asm) (by k_asm) (by k_asm) (by k_asm) (by k_asm) (by k_asm) (by first | exact rfl | assumption) (by ktr_room) (by ktr_units) (by first | assumption | exact CntV.none | exact CntV.int _ _) (by omega) (by omega) (by assumption) ?_); intro h9 tk9 F9 N9; (try dsimp only); (try k_fold); (try k_sweep))
  k_with "call ref" => (k_here; (with_reducible show wpAny _ _ (call (Value.ref 555) _) _ _ _); k_dflt (refine' given_some (by k_asm) (by k_asm) (by k_asm) (by k_asm) (by k_asm) (by k_asm) (by k_asm) (by first | exact rfl | assumption) (by ktr_room) (by ktr_units) (by first | assumption | exact CntV.none | exact CntV.int _ _) (by omega) (by omega) (by assumption) ?_); intro d9 t9 u9 h9 tk9 F9 N9 hl9; (try k_lt hl9); (try dsimp only); (try k_fold); (try k_sweep))
  k_with "call ref" => (k_here; (with_reducible show wpAny _ _ (call (Value.ref 95) _) _ _ _); k_dflt (refine' index_use (by k_asm) (by k_asm) (by k_asm) (by k_asm) (by k_asm) (by first | exact rfl | assumption) (by ktr_room) (by ktr_units) (by omega) (by omega) ?_); intro v9 t9 h9 tk9 hx9 F9 N9; (try dsimp only); (try k_fold); (try k_sweep))
  k_with "call ref" => (k_here; (with_reducible show wpAny _ _ (call (Value.ref 102) _) _ _ _); k_dflt (refine' rindex_use (by k_asm) (by k_asm) (by k_asm) (by k_asm) (by k_asm) (by first | exact rfl | assumption) (by ktr_room) (by ktr_units) (by first | assumption | exact CntV.none | exact CntV.int _ _) (by omega) (by omega) ?_); intro v9 t9 h9 tk9 hx9 F9 N9; (try dsimp only); (try k_fold); (try k_sweep))
  k_with "call ref" => (k_here; (with_reducible show wpAny _ _ (call (Value.ref 399) _) _ _ _); k_dflt (refine' store_use (by k_asm) (by k_asm) (by k_asm) (by k_asm) (by k_asm) (by first | exact rfl | assumption) (by ktr_room) (by ktr_units) (by k_mem) (by k_mem) (by k_mem) (by k_mem) (by walk_at "upd") (by walk_at "ne9") (by walk_at "ne9") (by walk_at "ne9") (by walk_at "ne9") (by assumption) (by assumption) (by assumption) ?_); intro h9 tk9 F9 N9; (try dsimp only at N9); (try dsimp only); (try k_fold); (try k_sweep))
  k_with "call ref" => (k_here; (with_reducible show wpAny _ _ (call (Value.ref 459) []) _ _ _); k_dflt (refine' limits_use (by k_asm) (by k_asm) (by k_asm) (by k_asm) (by k_asm) (by first | exact rfl | assumption) (by ktr_room) (by ktr_units) ?_); intro l9 h9 tk9 F9 N9; (try dsimp only); (try k_fold); (try k_sweep))
  k_with "call ref" => (k_here; (with_reducible show wpAny _ _ (call (Value.ref 306) _) _ _ _); k_dflt (refine' heap_use (by k_asm) (by k_asm) (by k_asm) (by k_asm) (by k_asm) (by first | exact rfl | assumption) (by ktr_room) (by ktr_units) ?_); intro ha9 hd9 t9 u9 v9 w9 z9 h9 tk9 F9 N9 hl9 ho9; (have hl8 := hl9; (try k_lt hl8)); (try dsimp only); (try k_fold); (try k_sweep))
  k_with "call ref" => (k_here; (with_reducible show wpAny _ _ (call (Value.ref 437) _) _ _ _); k_dflt (refine' counter_use (by k_asm) (by k_asm) (by k_asm) (by k_asm) (by k_asm) (by first | exact rfl | assumption) (by ktr_room) (by ktr_units) ?_); intro ca9 cd9 pd9 t9 u9 v9 ob9 h9 tk9 F9 N9 hl9 ho9 hp9 lo9 hs9 hi9; (have hl8 := hl9; (try k_lt hl8)); (try dsimp only); (try k_fold); (try k_sweep))
  k_with "call ref" => (k_here; (with_reducible show wpAny _ _ (call (Value.ref 406) _) _ _ _); k_dflt (refine' fresh_use (by k_asm) (by k_asm) (by k_asm) (by k_asm) (by k_asm) (by first | exact rfl | assumption) (by ktr_room) (by ktr_units) (by assumption) (by omega) (by omega) (by omega) (by omega) ?_); intro sa9 sd9 a9 b9 c9 d9 e9 f9 g9 i9 tn9 tc9 wk9 h9 tk9 F9 N9 ho9 hp9; (try dsimp only); (try k_fold); (try k_sweep))
  k_with "call ref" => (k_here; (with_reducible show wpAny _ _ (call (Value.ref 501) _) _ _ _); k_dflt (refine' lvt_use (by k_asm) (by k_asm) (by k_asm) (by k_asm) (by k_asm) (by first | exact rfl | assumption) (by ktr_room) (by ktr_units) (by first | assumption | exact CntV.none | exact CntV.int _ _) ?_); intro la9 ld9 t9 u9 v9 w9 x9 h9 tk9 F9 N9 hl9 ho9; (have hl8 := hl9; (try k_lt hl8)); (try dsimp only); (try k_fold); (try k_sweep))
  k_with "call ref" => (k_here; (with_reducible show wpAny _ _ (call (Value.ref 338) _) _ _ _); k_dflt (refine' vo_use (by k_asm) (by k_asm) (by k_asm) (by k_asm) (by k_asm) (by first | exact rfl | assumption) (by ktr_room) (by ktr_units) (by k_mem) (by k_mem) ?_); intro h9 tk9 F9 N9; (try dsimp only) <;> (try k_fold) <;> (try k_sweep))
  k_with "call ref" => (k_here; (with_reducible show wpAny _ _ (call (Value.ref 484) _) _ _ _); k_dflt (refine' beg_use (by k_asm) (by k_asm) (by k_asm) (by k_asm) (by k_asm) (by first | exact rfl | assumption) (by ktr_room) (by ktr_units) (by k_mem) (by k_mem) ?_); intro t9 h9 tk9 F9 N9; (try dsimp only) <;> (try k_fold) <;> (try k_sweep))
  trivial
example : True := by
  k_with "call ref" => (k_here; (with_reducible show wpAny _ _ (call (Value.ref 491) _) _ _ _); k_dflt (refine' get_use (by k_asm) (by k_asm) (by k_asm) (by k_asm) (by k_asm) (by first | exact rfl | assumption) (by ktr_room) (by ktr_units) (by k_mem) (by k_mem) (by k_mem) (by k_mem) (by first | assumption | exact CntV.none | exact CntV.int _ _) (by omega) ?_ ?_); (first | (intro h9 tk9 hs9 F9 N9) | (intro z9 t9 h9 tk9 hs9 F9 N9)) <;> (try dsimp only) <;> (try k_fold) <;> (try k_sweep))
  trivial
section
theorem span_some {prog : Program} {w : World} {p : Program} {loose : List Str} {mean : ExcName → Option Value} {mg mb : Str → Option Value} {dp un : Nat} {gd : Option (List Code)} {cn : Str} {cs : Scope} {a : Addr} {ccd : Value} {cl : List (Str × Addr)} {outer : List Env} {A₀ : Around} {base h₀ : Heap} {L : Addr} {m : Str → Option Value} {s : Shared} {Q E : Value → Shared → Prop} {n : Nat} {o : Int} {c : Option Int} {cv : Value} {t1 t2 : Tok} {news : Led} {pq : Nat × Nat} (B : Below A₀ base outer h₀) (F : Fr h₀ L s.heap m) (X : (K w.params).In h₀) (N : News h₀ L s.heap news) (T : Top p loose mean mg mb h₀) (hk : cs.kind = .function) (hd : dp + 1 < recursionLimit) (hu : un + 8 < cLine) (hc : CntV cv c) (hn : n ≤ 1000) (hg : spanB n (begOf n o) c = some pq)
    (hsome : ∀ (b e : Int) (d : Addr) (t t' : Tok) h' tk', spanB n (begOf n o) c = some (b.toNat, e.toNat) → 0 ≤ b → b ≤ e → e ≤ n → Fr h₀ L h' m → News h₀ L h' ((d, tup [.int b t, .int e t']) :: news) → (∀ q ∈ news, q.1 < d) → Q (.ref d) { s with heap := h', toks := tk' }) :
    wpAny (model prog w) (ktrTop dp un gd cn cs L a ccd cl outer) (call (.ref 67) [.int n t1, .int o t2, cv]) Q E s :=
  span_use B F X N T hk hd hu hc hn (fun _ _ e => by rw [hg] at e; cases e) hsome
theorem span_none {prog : Program} {w : World} {p : Program} {loose : List Str} {mean : ExcName → Option Value} {mg mb : Str → Option Value} {dp un : Nat} {gd : Option (List Code)} {cn : Str} {cs : Scope} {a : Addr} {ccd : Value} {cl : List (Str × Addr)} {outer : List Env} {A₀ : Around} {base h₀ : Heap} {L : Addr} {m : Str → Option Value} {s : Shared} {Q E : Value → Shared → Prop} {n : Nat} {o : Int} {c : Option Int} {cv : Value} {t1 t2 : Tok} {news : Led} (B : Below A₀ base outer h₀) (F : Fr h₀ L s.heap m) (X : (K w.params).In h₀) (N : News h₀ L s.heap news) (T : Top p loose mean mg mb h₀) (hk : cs.kind = .function) (hd : dp + 1 < recursionLimit) (hu : un + 8 < cLine) (hc : CntV cv c) (hn : n ≤ 1000) (hg : spanB n (begOf n o) c = none)
    (hnone : ∀ h' tk', spanB n (begOf n o) c = none → Fr h₀ L h' m → News h₀ L h' news → Q .none { s with heap := h', toks := tk' }) :
    wpAny (model prog w) (ktrTop dp un gd cn cs L a ccd cl outer) (call (.ref 67) [.int n t1, .int o t2, cv]) Q E s :=
  span_use B F X N T hk hd hu hc hn hnone (fun _ _ _ _ _ _ _ e => by rw [hg] at e; cases e)
example : True := by
  k_with "call ref" => (k_here; (fail_if_success (with_reducible show wpAny _ _ (call (Value.ref 67) _) _ _ _)); (fail_if_success (with_reducible show wpAny _ _ (call (Value.ref 58) _) _ _ _)); (fail_if_success (with_reducible show wpAny _ _ (call (Value.ref 399) _) _ _ _)); (fail_if_success (with_reducible show wpAny _ _ (call (Value.ref 338) _) _ _ _)); (fail_if_success (with_reducible show wpAny _ _ (call (Value.ref 81) _) _ _ _)); (fail_if_success (with_reducible show wpAny _ _ (call (Value.ref 498) _) _ _ _)); k_dflt (refine wpAny_call ?_; walk_at "enter_y"))
  k_with "call ref" => (k_here; (with_reducible show wpAny _ _ (call (Value.ref 67) _) _ _ _); k_dflt (refine' span_none (by k_asm) (by k_asm) (by k_asm) (by k_asm) (by k_asm) (by first | exact rfl | assumption) (by ktr_room) (by ktr_units) (by first | assumption | exact CntV.none | exact CntV.int _ _) (by omega) (by assumption) ?_); intro h9 tk9 hs9 F9 N9; (try dsimp only); (try k_fold); (try k_sweep))
  k_with "call ref" => (k_here; (with_reducible show wpAny _ _ (call (Value.ref 67) _) _ _ _); k_dflt (refine' span_some (by k_asm) (by k_asm) (by k_asm) (by k_asm) (by k_asm) (by first | exact rfl | assumption) (by ktr_room) (by ktr_units) (by first | assumption | exact CntV.none | exact CntV.int _ _) (by omega) (by assumption) ?_); intro b9 e9 d9 t9 u9 h9 tk9 hs9 ha9 hb9 hc9 F9 N9 hl9; (try k_lt hl9); (try dsimp only); (try k_fold); (try k_sweep))
  trivial
set_option linter.unusedSimpArgs false in
set_option maxHeartbeats 4000000 in
theorem sput_ok0 (x : Str) (o : Int) (c : Option Int) (cv : Value) (y : Str) (pq : Nat × Nat) (t1 t2 t3 : Tok) (news : Led) (hc : CntV cv c) (hn : x.length ≤ 1000) (hy : y.length ≤ 1000) (hg : spanB x.length (begOf x.length o) c = some pq) :
    Tel 81 2 24 [.str x t1, .int o t2, cv, .str y t3] news (fun r news' => ∃ (d : Addr) (z v : Str) (t t' : Tok), putOf x (begOf x.length o) c y = some (z, v) ∧ r = .ref d ∧ news' = (d, tup [.str z t, .str v t']) :: news ∧ (∀ q ∈ news, q.1 < d)) := by
  w_top off
  unfold Tel
  intro prog w pp loose mean mg mb dp un gd cn cs a ccd cl outer A₀ base h₀ L m s Q E B F X N T hk9 hd hu hret
  k_dflt (refine wpAny_call ?_; walk_at "enter_y")
  k_steps
  (with_reducible rename spanB _ _ _ = some _ => hs)
  refine hret _ _ _ _ (by k_asm) (news_keep (by k_asm) (by walk_at "mem_tail")) ⟨_, _, _, _, _, ?_, rfl, rfl, by walk_at "led_lt"⟩
  rw [putOf, hs, slice_val (by assumption) (by omega), slice_val_to (by assumption) (by omega), slice_val_from (by omega) (by assumption)]; rfl
theorem sput_ok (x : Str) (o : Int) (c : Option Int) (cv : Value) (y z v : Str) (t1 t2 t3 : Tok) (news : Led) (hc : CntV cv c) (hn : x.length ≤ 1000) (hy : y.length ≤ 1000) (hg : putOf x (begOf x.length o) c y = some (z, v)) :
    Tel 81 2 24 [.str x t1, .int o t2, cv, .str y t3] news (fun r news' => ∃ (d : Addr) (t t' : Tok), r = .ref d ∧ news' = (d, tup [.str z t, .str v t']) :: news ∧ (∀ q ∈ news, q.1 < d)) := by
  obtain ⟨pq, hs⟩ : ∃ pq, spanB x.length (begOf x.length o) c = some pq := by
    cases h : spanB x.length (begOf x.length o) c with
    | none => rw [putOf, h] at hg; cases hg
    | some pq => exact ⟨pq, rfl⟩
  intro prog w pp loose mean mg mb dp un gd cn cs a ccd cl outer A₀ base h₀ L m s Q E B F X N T hk9 hd hu hret
  refine tel_use (sput_ok0 x o c cv y pq t1 t2 t3 news hc hn hy hs) B F X N T hk9 hd hu fun r news' h' tk' F' N' O => ?_
  obtain ⟨d, z', v', t, t', e, rfl, rfl, hl⟩ := O
  rw [hg] at e
  cases e
  exact hret _ _ h' tk' F' N' ⟨d, t, t', rfl, rfl, hl⟩
theorem sput_use {prog : Program} {w : World} {p : Program} {loose : List Str} {mean : ExcName → Option Value} {mg mb : Str → Option Value} {dp un : Nat} {gd : Option (List Code)} {cn : Str} {cs : Scope} {a : Addr} {ccd : Value} {cl : List (Str × Addr)} {outer : List Env} {A₀ : Around} {base h₀ : Heap} {L : Addr} {m : Str → Option Value} {s : Shared} {Q E : Value → Shared → Prop} {x y z v : Str} {o : Int} {c : Option Int} {cv : Value} {t1 t2 t3 : Tok} {news : Led} (B : Below A₀ base outer h₀) (F : Fr h₀ L s.heap m) (X : (K w.params).In h₀) (N : News h₀ L s.heap news) (T : Top p loose mean mg mb h₀) (hk : cs.kind = .function) (hd : dp + 2 < recursionLimit) (hu : un + 24 < cLine) (hc : CntV cv c) (hn : x.length ≤ 1000) (hy : y.length ≤ 1000) (hg : putOf x (begOf x.length o) c y = some (z, v))
    (hq : ∀ (d : Addr) (t t' : Tok) h' tk', Fr h₀ L h' m → News h₀ L h' ((d, tup [.str z t, .str v t']) :: news) → (∀ q ∈ news, q.1 < d) → Q (.ref d) { s with heap := h', toks := tk' }) :
    wpAny (model prog w) (ktrTop dp un gd cn cs L a ccd cl outer) (call (.ref 81) [.str x t1, .int o t2, cv, .str y t3]) Q E s :=
  tel_use (sput_ok x o c cv y z v t1 t2 t3 news hc hn hy hg) B F X N T hk hd hu fun r news' h' tk' F' N' O => by
    obtain ⟨d, t, t', rfl, rfl, hl⟩ := O
    exact hq d t t' h' tk' F' N' hl

end
example : True := by
  k_with_none
  k_with "enter_cells" => (refine' code_defC (by k_asm) (by k_asm) (by k_asm) (by k_asm) (by k_asm) (by exact rfl) (by exact rfl) (by assumption) (by k_is) (by k_is) (by ktr_room) (by exact BindsTo.of_eq rfl) (by exact rfl) (by decide +kernel) ?_ (by exact rfl) (by exact rfl) (by exact rfl); k_whole; intro g' L' h' tk' cells' FG' F' N' Y' B' X' T' l1; (try k_lt l1); k_cells Y'; (try simp only [List.cons_append, List.nil_append] at N'); (try dsimp only); (try k_lift B'); (try k_fold))
  k_with "eval ListComp" => (k_here; first | ((with_reducible show wpAny _ _ (eval (PySem.Expr.ListComp _ [PySem.Comprehension.mk _ _ [_] _] _ _) _) _ _ _); k_dflt (refine LCt.ListComp_T (F₀ := by k_asm) (by with_unfolding_all rfl) (by decide) (by rfl) (by decide) (by rfl) ?_)) | ((with_reducible show wpAny _ _ (eval (PySem.Expr.ListComp _ [PySem.Comprehension.mk _ _ [] _] _ _) _) _ _ _); k_dflt (refine LCg.ListComp_U (F₀ := by k_asm) (by with_unfolding_all rfl) (by decide) (by rfl) (by decide) (by rfl) ?_)))
  k_with "is_comp" => first | (with_reducible refine' LCt.CompSrcT.range ?_ ?_ ?_ ?_ ?_ ?_ ?_ ?_) | (with_reducible refine' LCg.CompSrc.range ?_ ?_ ?_ ?_ ?_ ?_ ?_ ?_) | (with_reducible refine' LCt.CompSrcT.ledger ?_ ?_ ?_ ?_ ?_ ?_) | (with_reducible refine' LCg.CompSrc.ledger ?_ ?_ ?_ ?_ ?_ ?_)
  k_with "to_comp" => repeat' (first | ((fail_if_success (walk_at "is_comp")); first | (k_unfold; (try dsimp only)) | (k_end; wrow_close) | walk1 | (dsimp only; walk1) | (leave1; try dsimp only)))
  k_with "comp_range" => first | (refine' LCt.CompSrcT.range (by exact rfl) (by k_asm) (by k_asm) (by assumption) (by exact small_one (by omega) (by omega) (by omega) (by omega)) (by first | exact rangeSize_nat _ _ | rfl) (by rw [PySem.sizeLine_eq]; omega) ?_; intro g') | (refine' LCg.CompSrc.range (by exact rfl) (by k_asm) (by k_asm) (by assumption) (by exact small_one (by omega) (by omega) (by omega) (by omega)) (by first | exact rangeSize_nat _ _ | rfl) (by rw [PySem.sizeLine_eq]; omega) ?_; intro g')
  k_with "mem_tail" => (intro q9 hq9; repeat' (first | with_reducible exact hq9 | refine List.mem_cons_of_mem _ ?_))
  k_with "news_sub" => first | k_asm | (refine news_sub (by k_asm) ?_; walk_at "mem_tail")
  k_with "led_lt" => first | assumption | (refine led_lt (by k_asm) ?_; walk_at "mem_tail") | ((with_reducible rename AllLt _ _ => ql9); exact ktn_ltOf ql9) | ((with_reducible rename _ ∧ AllLt _ _ => ql9); exact ktn_ltOf ql9.2) | ((with_reducible rename _ ∧ _ ∧ AllLt _ _ => ql9); exact ktn_ltOf ql9.2.2)
  k_with "mem_at" => first | exact List.Mem.head _ | (refine List.Mem.tail _ ?_; walk_at "mem_at")
  k_with "mem_any" => first | exact mem_nil_all | exact fun _ h => h | (refine mem_cons_all (by walk_at "mem_at") (by walk_at "mem_any")) | (walk_at "mem_tail")
  k_with "to_while" => repeat' (first | ((fail_if_success (with_reducible show wpAny _ _ (exec (Stmt.While _ _ _ _) _) _ _ _)); first | (k_unfold; (try dsimp only)) | (k_end; wrow_close) | walk1 | (dsimp only; walk1) | (leave1; try dsimp only)))
  k_with "ne9" => first | assumption | exact Nat.ne_of_lt (by omega) | exact Nat.ne_of_gt (by omega) | k_ne
  k_with "enter_n" => (refine' code_def (by k_asm) (by k_asm) (by k_asm) (by k_asm) (by k_asm) (by exact rfl) (by exact rfl) (by first | exact rfl | assumption) (by k_is) (by k_is) (by ktr_room) (by first | exact BindsTo.of_eq rfl | exact binds_K (by k_in) rfl (by k_is) rfl rfl rfl) (by exact locs rfl) ?_ (by exact rfl) (by exact rfl) (by exact rfl) (by decide); k_whole)
  k_with "enter_y" => (walk_at "enter_n"; intro g' L' h' FG' F' N' B' X' T'; (try dsimp only); (try k_lift B'); (try k_fold))
  k_with "call builtin:str.join" => (k_here; (with_reducible show wpAny _ _ (call (Value.builtin "str.join") [Value.str _ _, Value.ref _]) _ _ _); (with_reducible rename CarriedAll _ (List.map (fun _ => PyData.str (chr _)) _) => ktC); (refine join_chrs (by first | is_list | exact News.isList (by k_asm) (by k_mem)) ktC (by first | omega | (refine Nat.le_trans (pickC_len _ _ _ _) ?_; omega)) ?_; intro _ _))
  k_with "call ref" => (k_here; (with_reducible show wpAny _ _ (call (Value.ref 519) _) _ _ _); k_dflt (refine' draw_use (by k_asm) (by k_asm) (by k_asm) (by k_asm) (by k_asm) (by first | exact rfl | assumption) (by ktr_room) (by ktr_units) (by walk_at "upd") (by exact rfl) (by k_mem) (by assumption) (by assumption) (by assumption) (by assumption) (by omega) ?_); intro v9 t9 u9 n9 h9 tk9 F9 N9; (try dsimp only at N9); (try dsimp only); (try k_fold); (try k_sweep))
  k_with "call ref" => (k_here; (with_reducible show wpAny _ _ (call (Value.ref 67) _) _ _ _); k_dflt (refine' span_use (by k_asm) (by k_asm) (by k_asm) (by k_asm) (by k_asm) (by first | exact rfl | assumption) (by ktr_room) (by ktr_units) (by first | assumption | exact CntV.none | exact CntV.int _ _) (by omega) ?_ ?_); (first | (intro h9 tk9 hs9 F9 N9) | (intro b9 e9 d9 t9 u9 h9 tk9 hs9 ha9 hb9 hc9 F9 N9 hl9; k_lt hl9)) <;> (try dsimp only) <;> (try k_fold) <;> (try k_sweep))
  k_with "call ref" => (k_here; (with_reducible show wpAny _ _ (call (Value.ref 74) _) _ _ _); k_dflt (refine' value_use (by k_asm) (by k_asm) (by k_asm) (by k_asm) (by k_asm) (by first | exact rfl | assumption) (by ktr_room) (by ktr_units) (by first | assumption | exact CntV.none | exact CntV.int _ _) (by omega) ?_ ?_); (first | (intro h9 tk9 hs9 F9 N9) | (intro z9 t9 h9 tk9 hs9 F9 N9)) <;> (try dsimp only) <;> (try k_fold) <;> (try k_sweep))
  k_with "call ref" => (k_here; (with_reducible show wpAny _ _ (call (Value.ref 531) _) _ _ _); k_dflt (refine' ends_use (by k_asm) (by k_asm) (by k_asm) (by k_asm) (by k_asm) (by first | exact rfl | assumption) (by ktr_room) (by ktr_units) (by k_mem) (by first | assumption | exact CntV.none | exact CntV.int _ _) ?_); intro B9 e9 d9 t9 u9 h9 tk9 hb9 he9 F9 N9 hl9; k_lt hl9; (try dsimp only); (try k_fold); (try k_sweep))
  k_with "call ref" => (k_here; (with_reducible show wpAny _ _ (call (Value.ref 536) _) _ _ _); k_dflt (refine' part_use (by k_asm) (by k_asm) (by k_asm) (by k_asm) (by k_asm) (by first | exact rfl | assumption) (by ktr_room) (by ktr_units) (by k_mem) (by first | assumption | exact CntV.none | exact CntV.int _ _) (by omega) ?_ ?_); (first | (intro h9 tk9 hs9 F9 N9) | (intro d9 z9 p9 t9 u9 h9 tk9 hs9 hf9 F9 N9 hl9; (try k_lt hl9))) <;> (try dsimp only) <;> (try k_fold) <;> (try k_sweep))
  k_with "call ref" => (k_here; (with_reducible show wpAny _ _ (call (Value.ref 524) _) _ _ _); (try k_fmods); k_dflt (refine' word_use (by k_asm) (by k_asm) (by k_asm) (by k_asm) (by k_asm) (by first | exact rfl | assumption) (by ktr_room) (by ktr_units) (by walk_at "upd") (by exact rfl) (by k_mem) (by assumption) (by assumption) (by assumption) (by assumption) (by omega) (by omega) (by omega) ?_); intro z9 t9 u9 n9 h9 tk9 zl9 zok9 F9 N9; (try dsimp only at N9); (try dsimp only); (try k_fold); (try k_sweep))
  k_with "call ref" => (k_here; (with_reducible show wpAny _ _ (call (Value.ref 541) _) _ _ _); k_dflt (refine' places_use (by k_asm) (by k_asm) (by k_asm) (by k_asm) (by k_asm) (by first | exact rfl | assumption) (by ktr_room) (by ktr_units) (by omega) (by omega) ?_); intro d9 vs9 n9 h9 tk9 hp9 F9 N9 hl9; (try simp only [List.forall_mem_cons] at hl9); (try dsimp only); (try k_fold); (try k_sweep))
  k_with "call ref" => (k_here; (with_reducible show wpAny _ _ (call (Value.ref 548) _) _ _ _); k_dflt (refine' lput_use (by k_asm) (by k_asm) (by k_asm) (by k_asm) (by k_asm) (by first | exact rfl | assumption) (by ktr_room) (by ktr_units) (by k_mem) (by first | assumption | exact CntV.none | exact CntV.int _ _) (by omega) (by omega) ?_ ?_); (first | (intro d9 e9 z9 v9 o9 c9 cv9 t9 u9 w9 h9 tk9 hs9 hc9 F9 N9 hl9 he9; (try k_lt hl9)) | (intro h9 tk9 hs9 F9 N9)) <;> (try dsimp only) <;> (try k_fold) <;> (try k_sweep))
  k_with "call ref" => (k_here; (with_reducible show wpAny _ _ (call (Value.ref 555) _) _ _ _); k_dflt (refine' given_none (by k_asm) (by k_asm) (by k_asm) (by k_asm) (by k_asm) (by k_asm) (by k_asm) (by first | exact rfl | assumption) (by ktr_room) (by ktr_units) (by first | assumption | exact CntV.none | exact CntV.int _ _) (by omega) (by omega) (by assumption) ?_); intro h9 tk9 F9 N9; (try dsimp only); (try k_fold); (try k_sweep))
  k_with "call ref" => (k_here; (with_reducible show wpAny _ _ (call (Value.ref 555) _) _ _ _); k_dflt (refine' given_some (by k_asm) (by k_asm) (by k_asm) (by k_asm) (by k_asm) (by k_asm) (by k_asm) (by first | exact rfl | assumption) (by ktr_room) (by ktr_units) (by first | assumption | exact CntV.none | exact CntV.int _ _) (by omega) (by omega) (by assumption) ?_); intro d9 t9 u9 h9 tk9 F9 N9 hl9; (try k_lt hl9); (try dsimp only); (try k_fold); (try k_sweep))
  k_with "call ref" => (k_here; (with_reducible show wpAny _ _ (call (Value.ref 95) _) _ _ _); k_dflt (refine' index_use (by k_asm) (by k_asm) (by k_asm) (by k_asm) (by k_asm) (by first | exact rfl | assumption) (by ktr_room) (by ktr_units) (by omega) (by omega) ?_); intro v9 t9 h9 tk9 hx9 F9 N9; (try dsimp only); (try k_fold); (try k_sweep))
  k_with "call ref" => (k_here; (with_reducible show wpAny _ _ (call (Value.ref 102) _) _ _ _); k_dflt (refine' rindex_use (by k_asm) (by k_asm) (by k_asm) (by k_asm) (by k_asm) (by first | exact rfl | assumption) (by ktr_room) (by ktr_units) (by first | assumption | exact CntV.none | exact CntV.int _ _) (by omega) (by omega) ?_); intro v9 t9 h9 tk9 hx9 F9 N9; (try dsimp only); (try k_fold); (try k_sweep))
  k_with "call ref" => (k_here; (with_reducible show wpAny _ _ (call (Value.ref 399) _) _ _ _); k_dflt (refine' store_use (by k_asm) (by k_asm) (by k_asm) (by k_asm) (by k_asm) (by first | exact rfl | assumption) (by ktr_room) (by ktr_units) (by k_mem) (by k_mem) (by k_mem) (by k_mem) (by walk_at "upd") (by walk_at "ne9") (by walk_at "ne9") (by walk_at "ne9") (by walk_at "ne9") (by assumption) (by assumption) (by assumption) ?_); intro h9 tk9 F9 N9; (try dsimp only at N9); (try dsimp only); (try k_fold); (try k_sweep))
  k_with "call ref" => (k_here; (with_reducible show wpAny _ _ (call (Value.ref 459) []) _ _ _); k_dflt (refine' limits_use (by k_asm) (by k_asm) (by k_asm) (by k_asm) (by k_asm) (by first | exact rfl | assumption) (by ktr_room) (by ktr_units) ?_); intro l9 h9 tk9 F9 N9; (try dsimp only); (try k_fold); (try k_sweep))
  k_with "call ref" => (k_here; (with_reducible show wpAny _ _ (call (Value.ref 306) _) _ _ _); k_dflt (refine' heap_use (by k_asm) (by k_asm) (by k_asm) (by k_asm) (by k_asm) (by first | exact rfl | assumption) (by ktr_room) (by ktr_units) ?_); intro ha9 hd9 t9 u9 v9 w9 z9 h9 tk9 F9 N9 hl9 ho9; (have hl8 := hl9; (try k_lt hl8)); (try dsimp only); (try k_fold); (try k_sweep))
  k_with "call ref" => (k_here; (with_reducible show wpAny _ _ (call (Value.ref 437) _) _ _ _); k_dflt (refine' counter_use (by k_asm) (by k_asm) (by k_asm) (by k_asm) (by k_asm) (by first | exact rfl | assumption) (by ktr_room) (by ktr_units) ?_); intro ca9 cd9 pd9 t9 u9 v9 ob9 h9 tk9 F9 N9 hl9 ho9 hp9 lo9 hs9 hi9; (have hl8 := hl9; (try k_lt hl8)); (try dsimp only); (try k_fold); (try k_sweep))
  k_with "call ref" => (k_here; (with_reducible show wpAny _ _ (call (Value.ref 406) _) _ _ _); k_dflt (refine' fresh_use (by k_asm) (by k_asm) (by k_asm) (by k_asm) (by k_asm) (by first | exact rfl | assumption) (by ktr_room) (by ktr_units) (by assumption) (by omega) (by omega) (by omega) (by omega) ?_); intro sa9 sd9 a9 b9 c9 d9 e9 f9 g9 i9 tn9 tc9 wk9 h9 tk9 F9 N9 ho9 hp9; (try dsimp only); (try k_fold); (try k_sweep))
  k_with "call ref" => (k_here; (with_reducible show wpAny _ _ (call (Value.ref 501) _) _ _ _); k_dflt (refine' lvt_use (by k_asm) (by k_asm) (by k_asm) (by k_asm) (by k_asm) (by first | exact rfl | assumption) (by ktr_room) (by ktr_units) (by first | assumption | exact CntV.none | exact CntV.int _ _) ?_); intro la9 ld9 t9 u9 v9 w9 x9 h9 tk9 F9 N9 hl9 ho9; (have hl8 := hl9; (try k_lt hl8)); (try dsimp only); (try k_fold); (try k_sweep))
  k_with "call ref" => (k_here; (with_reducible show wpAny _ _ (call (Value.ref 338) _) _ _ _); k_dflt (refine' vo_use (by k_asm) (by k_asm) (by k_asm) (by k_asm) (by k_asm) (by first | exact rfl | assumption) (by ktr_room) (by ktr_units) (by k_mem) (by k_mem) ?_); intro h9 tk9 F9 N9; (try dsimp only) <;> (try k_fold) <;> (try k_sweep))
  k_with "call ref" => (k_here; (with_reducible show wpAny _ _ (call (Value.ref 484) _) _ _ _); k_dflt (refine' beg_use (by k_asm) (by k_asm) (by k_asm) (by k_asm) (by k_asm) (by first | exact rfl | assumption) (by ktr_room) (by ktr_units) (by k_mem) (by k_mem) ?_); intro t9 h9 tk9 F9 N9; (try dsimp only) <;> (try k_fold) <;> (try k_sweep))
  k_with "call ref" => (k_here; (with_reducible show wpAny _ _ (call (Value.ref 491) _) _ _ _); k_dflt (refine' get_use (by k_asm) (by k_asm) (by k_asm) (by k_asm) (by k_asm) (by first | exact rfl | assumption) (by ktr_room) (by ktr_units) (by k_mem) (by k_mem) (by k_mem) (by k_mem) (by first | assumption | exact CntV.none | exact CntV.int _ _) (by omega) ?_ ?_); (first | (intro h9 tk9 hs9 F9 N9) | (intro z9 t9 h9 tk9 hs9 F9 N9)) <;> (try dsimp only) <;> (try k_fold) <;> (try k_sweep))
  trivial
section
example : True := by
  k_with "call ref" => (k_here; (fail_if_success (with_reducible show wpAny _ _ (call (Value.ref 67) _) _ _ _)); (fail_if_success (with_reducible show wpAny _ _ (call (Value.ref 58) _) _ _ _)); (fail_if_success (with_reducible show wpAny _ _ (call (Value.ref 399) _) _ _ _)); (fail_if_success (with_reducible show wpAny _ _ (call (Value.ref 338) _) _ _ _)); (fail_if_success (with_reducible show wpAny _ _ (call (Value.ref 81) _) _ _ _)); (fail_if_success (with_reducible show wpAny _ _ (call (Value.ref 498) _) _ _ _)); (fail_if_success (with_reducible show wpAny _ _ (call (Value.ref 484) _) _ _ _)); k_dflt (refine wpAny_call ?_; walk_at "enter_y"))
  k_with "call ref" => (k_here; (with_reducible show wpAny _ _ (call (Value.ref 81) _) _ _ _); k_dflt (refine' sput_use (by k_asm) (by k_asm) (by k_asm) (by k_asm) (by k_asm) (by first | exact rfl | assumption) (by ktr_room) (by ktr_units) (by first | assumption | exact CntV.none | exact CntV.int _ _) (by omega) (by omega) (by assumption) ?_); intro d9 t9 u9 h9 tk9 F9 N9 hl9; (try k_lt hl9); (try dsimp only); (try k_fold); (try k_sweep))
  trivial
theorem put_len {x y z v : Str} {o : Int} {c : Option Int} (h : putOf x o c y = some (z, v)) : z.length ≤ x.length := by
  unfold putOf at h
  cases hs : spanB x.length o c with
  | none => rw [hs] at h; cases h
  | some p =>
    rw [hs] at h
    simp only [Option.map_some, Option.some.injEq, Prod.mk.injEq] at h
    rw [← h.1, subS_length]
    omega
/-- the same, where a token is not told -/
def MidE (s : Shared) (g : Heap) (L : Addr) (nw : Tok → Led) (P : (Str → Option Value) → Prop) (s' : Shared) : Prop := ∃ tv, Mid9 s g L (nw tv) P s'
set_option linter.unusedSimpArgs false in
set_option maxHeartbeats 8000000 in
theorem put_ok (prog : Program) (w : World) (la ld sa sd ca ce pd : Addr) (ob : Obj) (o k cn9 : Int) (b : Bool) (x y z v : Str) (cv wk hv : Value) (ct : Option Int) (tx ty to tn tc q1 q2 q3 r1 r2 r3 r4 r5 v1 v2 v3 v4 v5 v6 v7 v8 : Tok) (rest : Led)
    (hc : CntV cv ct) (hx : x.length ≤ 100) (hy : y.length ≤ 100)
    (m1 : (la, instObj 501 ld) ∈ rest) (m2 : (sa, instObj 147 sd) ∈ rest) (m3 : (ca, instObj 437 ce) ∈ rest) (m4 : (ce, cntD w.params q1 q2 q3 hv pd) ∈ rest) (m5 : (pd, ob) ∈ rest) (hr1 : ∀ q ∈ rest, q.1 ≠ ld) (hr2 : ∀ q ∈ rest, q.1 ≠ sd)
    (n1 : ld ≠ sd) (n2 : pd ≠ sd) (n3 : ca ≠ sd) (n4 : ce ≠ sd) (n5 : sa ≠ sd)
    (lo : (pd == sysModules) = false) (hs' : Obj.IsDictOf (PySem.strKind prog w) ob []) (hi' : Obj.IsDictOf (intKind prog w) ob [])
    (hg : putOf x (begOf x.length (lvB x.length b o)) ct y = some (z, v)) :
    TelP prog w 498 8 120 [.ref la, .str y ty] ((ld, lvtD w.params r1 r2 r3 r4 r5 (.ref ca) sa o to cv b) :: (sd, scaD w.params v1 v2 v3 v4 v5 v6 v7 v8 k tn cn9 tc wk (.str x tx)) :: rest)
      (fun r news' => ∃ (to' tv : Tok) (cv' : Value), r = .none ∧ CntV cv' (cntLen ct y.length) ∧ news' = (ld, lvtD w.params r1 r2 r3 r4 r5 (.ref ca) sa (if b = true then o + ((z.length : Int) - (y.length : Int)) else o) to' cv' b) :: (sd, scaD w.params v1 v2 v3 v4 v5 v6 v7 v8 k tn cn9 tc wk (.str v tv)) :: rest) := by
  w_top off
  unfold TelP
  intro pp loose mean mg mb dp un gd cn cs a ccd cl outer A₀ base h₀ L m s Q E B F X N T hk9 hd9 hu hret
  have hz := put_len hg
  have n1' : sd ≠ ld := fun h => n1 h.symm
  have hh9 := cntV_handed hc
  refine wpAny_call ?_
  k_dflt (walk_at "enter_n")
  intro g1 L1 h1 FG1 F1 N1 B1 X1 T1
  (try dsimp only)
  (try k_lift B1)
  refine cutN 4 (MidE s g1 L1 (fun tv => (ld, lvtD w.params r1 r2 r3 r4 r5 (.ref ca) sa o to cv b) :: (sd, scaD w.params v1 v2 v3 v4 v5 v6 v7 v8 k tn cn9 tc wk (.str v tv)) :: rest) (fun m' => ∃ (t1 t2 : Tok), Has m' [(Str.ofString "self", .ref la), (Str.ofString "new", .str y t1), (Str.ofString "old", .str z t2)])) ?_ ?_
  · simp only [List.take]
    k_steps
    show MidE _ _ _ _ _ _
    exact ⟨_, mid_mk (by k_asm) (news_sub (by k_asm) (by walk_at "mem_tail")) ⟨_, _, by unfold Has; kst_all⟩⟩
  rintro s' ⟨tv, h2, tk2, m2, rfl, F2, N2, u1, u2, H2⟩
  clear F1 N1 hg
  have F3 := fr_has F2 H2
  clear F2 H2
  dsimp only [kstB] at F3
  simp only [List.drop]
  have hretX : ∀ (X : Int) (to' tv : Tok) (cv' : Value) (h' : Heap) (tk' : Nat), (if b = true then o + ((z.length : Int) - (y.length : Int)) else o) = X → CntV cv' (cntLen ct y.length) → Fr h₀ L h' m → News h₀ L h' ((ld, lvtD w.params r1 r2 r3 r4 r5 (.ref ca) sa X to' cv' b) :: (sd, scaD w.params v1 v2 v3 v4 v5 v6 v7 v8 k tn cn9 tc wk (.str v tv)) :: rest) → Q .none { s with heap := h', toks := tk' } := fun X to' tv cv' h' tk' hX hc F N => hret _ _ h' tk' F N ⟨to', tv, cv', rfl, hc, by rw [hX]⟩
  clear hret
  cases hc
  all_goals k_steps
  all_goals refine hretX _ _ _ _ _ _ ?_ ?_ (by k_asm) (news_sub (by k_asm) (by walk_at "mem_any"))
  all_goals first
    | exact cntV_none
    | ((with_reducible rename b = true => hb9); exact (ite_t hb9).symm)
    | ((with_reducible rename b = false => hb9); exact (ite_f hb9).symm)
    | ((with_reducible rename 0 ≤ _ => hb9); exact cntV_pos hb9)
    | ((with_reducible rename ¬ 0 ≤ _ => hb9); exact cntV_neg hb9)

end
example : True := by
  k_with_none
  k_with "enter_cells" => (refine' code_defC (by k_asm) (by k_asm) (by k_asm) (by k_asm) (by k_asm) (by exact rfl) (by exact rfl) (by assumption) (by k_is) (by k_is) (by ktr_room) (by exact BindsTo.of_eq rfl) (by exact rfl) (by decide +kernel) ?_ (by exact rfl) (by exact rfl) (by exact rfl); k_whole; intro g' L' h' tk' cells' FG' F' N' Y' B' X' T' l1; (try k_lt l1); k_cells Y'; (try simp only [List.cons_append, List.nil_append] at N'); (try dsimp only); (try k_lift B'); (try k_fold))
  k_with "eval ListComp" => (k_here; first | ((with_reducible show wpAny _ _ (eval (PySem.Expr.ListComp _ [PySem.Comprehension.mk _ _ [_] _] _ _) _) _ _ _); k_dflt (refine LCt.ListComp_T (F₀ := by k_asm) (by with_unfolding_all rfl) (by decide) (by rfl) (by decide) (by rfl) ?_)) | ((with_reducible show wpAny _ _ (eval (PySem.Expr.ListComp _ [PySem.Comprehension.mk _ _ [] _] _ _) _) _ _ _); k_dflt (refine LCg.ListComp_U (F₀ := by k_asm) (by with_unfolding_all rfl) (by decide) (by rfl) (by decide) (by rfl) ?_)))
  k_with "is_comp" => first | (with_reducible refine' LCt.CompSrcT.range ?_ ?_ ?_ ?_ ?_ ?_ ?_ ?_) | (with_reducible refine' LCg.CompSrc.range ?_ ?_ ?_ ?_ ?_ ?_ ?_ ?_) | (with_reducible refine' LCt.CompSrcT.ledger ?_ ?_ ?_ ?_ ?_ ?_) | (with_reducible refine' LCg.CompSrc.ledger ?_ ?_ ?_ ?_ ?_ ?_)
  k_with "to_comp" => repeat' (first | ((fail_if_success (walk_at "is_comp")); first | (k_unfold; (try dsimp only)) | (k_end; wrow_close) | walk1 | (dsimp only; walk1) | (leave1; try dsimp only)))
  k_with "comp_range" => first | (refine' LCt.CompSrcT.range (by exact rfl) (by k_asm) (by k_asm) (by assumption) (by exact small_one (by omega) (by omega) (by omega) (by omega)) (by first | exact rangeSize_nat _ _ | rfl) (by rw [PySem.sizeLine_eq]; omega) ?_; intro g') | (refine' LCg.CompSrc.range (by exact rfl) (by k_asm) (by k_asm) (by assumption) (by exact small_one (by omega) (by omega) (by omega) (by omega)) (by first | exact rangeSize_nat _ _ | rfl) (by rw [PySem.sizeLine_eq]; omega) ?_; intro g')
  k_with "mem_tail" => (intro q9 hq9; repeat' (first | with_reducible exact hq9 | refine List.mem_cons_of_mem _ ?_))
  k_with "news_sub" => first | k_asm | (refine news_sub (by k_asm) ?_; walk_at "mem_tail")
  k_with "led_lt" => first | assumption | (refine led_lt (by k_asm) ?_; walk_at "mem_tail") | ((with_reducible rename AllLt _ _ => ql9); exact ktn_ltOf ql9) | ((with_reducible rename _ ∧ AllLt _ _ => ql9); exact ktn_ltOf ql9.2) | ((with_reducible rename _ ∧ _ ∧ AllLt _ _ => ql9); exact ktn_ltOf ql9.2.2)
  k_with "mem_at" => first | exact List.Mem.head _ | (refine List.Mem.tail _ ?_; walk_at "mem_at")
  k_with "mem_any" => first | exact mem_nil_all | exact fun _ h => h | (refine mem_cons_all (by walk_at "mem_at") (by walk_at "mem_any")) | (walk_at "mem_tail")
  k_with "to_while" => repeat' (first | ((fail_if_success (with_reducible show wpAny _ _ (exec (Stmt.While _ _ _ _) _) _ _ _)); first | (k_unfold; (try dsimp only)) | (k_end; wrow_close) | walk1 | (dsimp only; walk1) | (leave1; try dsimp only)))
  k_with "ne9" => first | assumption | exact Nat.ne_of_lt (by omega) | exact Nat.ne_of_gt (by omega) | k_ne
  k_with "enter_n" => (refine' code_def (by k_asm) (by k_asm) (by k_asm) (by k_asm) (by k_asm) (by exact rfl) (by exact rfl) (by first | exact rfl | assumption) (by k_is) (by k_is) (by ktr_room) (by first | exact BindsTo.of_eq rfl | exact binds_K (by k_in) rfl (by k_is) rfl rfl rfl) (by exact locs rfl) ?_ (by exact rfl) (by exact rfl) (by exact rfl) (by decide); k_whole)
  k_with "enter_y" => (walk_at "enter_n"; intro g' L' h' FG' F' N' B' X' T'; (try dsimp only); (try k_lift B'); (try k_fold))
  k_with "call builtin:str.join" => (k_here; (with_reducible show wpAny _ _ (call (Value.builtin "str.join") [Value.str _ _, Value.ref _]) _ _ _); (with_reducible rename CarriedAll _ (List.map (fun _ => PyData.str (chr _)) _) => ktC); (refine join_chrs (by first | is_list | exact News.isList (by k_asm) (by k_mem)) ktC (by first | omega | (refine Nat.le_trans (pickC_len _ _ _ _) ?_; omega)) ?_; intro _ _))
  k_with "call ref" => (k_here; (with_reducible show wpAny _ _ (call (Value.ref 519) _) _ _ _); k_dflt (refine' draw_use (by k_asm) (by k_asm) (by k_asm) (by k_asm) (by k_asm) (by first | exact rfl | assumption) (by ktr_room) (by ktr_units) (by walk_at "upd") (by exact rfl) (by k_mem) (by assumption) (by assumption) (by assumption) (by assumption) (by omega) ?_); intro v9 t9 u9 n9 h9 tk9 F9 N9; (try dsimp only at N9); (try dsimp only); (try k_fold); (try k_sweep))
  k_with "call ref" => (k_here; (with_reducible show wpAny _ _ (call (Value.ref 67) _) _ _ _); k_dflt (refine' span_use (by k_asm) (by k_asm) (by k_asm) (by k_asm) (by k_asm) (by first | exact rfl | assumption) (by ktr_room) (by ktr_units) (by first | assumption | exact CntV.none | exact CntV.int _ _) (by omega) ?_ ?_); (first | (intro h9 tk9 hs9 F9 N9) | (intro b9 e9 d9 t9 u9 h9 tk9 hs9 ha9 hb9 hc9 F9 N9 hl9; k_lt hl9)) <;> (try dsimp only) <;> (try k_fold) <;> (try k_sweep))
  k_with "call ref" => (k_here; (with_reducible show wpAny _ _ (call (Value.ref 74) _) _ _ _); k_dflt (refine' value_use (by k_asm) (by k_asm) (by k_asm) (by k_asm) (by k_asm) (by first | exact rfl | assumption) (by ktr_room) (by ktr_units) (by first | assumption | exact CntV.none | exact CntV.int _ _) (by omega) ?_ ?_); (first | (intro h9 tk9 hs9 F9 N9) | (intro z9 t9 h9 tk9 hs9 F9 N9)) <;> (try dsimp only) <;> (try k_fold) <;> (try k_sweep))
  k_with "call ref" => (k_here; (with_reducible show wpAny _ _ (call (Value.ref 531) _) _ _ _); k_dflt (refine' ends_use (by k_asm) (by k_asm) (by k_asm) (by k_asm) (by k_asm) (by first | exact rfl | assumption) (by ktr_room) (by ktr_units) (by k_mem) (by first | assumption | exact CntV.none | exact CntV.int _ _) ?_); intro B9 e9 d9 t9 u9 h9 tk9 hb9 he9 F9 N9 hl9; k_lt hl9; (try dsimp only); (try k_fold); (try k_sweep))
  k_with "call ref" => (k_here; (with_reducible show wpAny _ _ (call (Value.ref 536) _) _ _ _); k_dflt (refine' part_use (by k_asm) (by k_asm) (by k_asm) (by k_asm) (by k_asm) (by first | exact rfl | assumption) (by ktr_room) (by ktr_units) (by k_mem) (by first | assumption | exact CntV.none | exact CntV.int _ _) (by omega) ?_ ?_); (first | (intro h9 tk9 hs9 F9 N9) | (intro d9 z9 p9 t9 u9 h9 tk9 hs9 hf9 F9 N9 hl9; (try k_lt hl9))) <;> (try dsimp only) <;> (try k_fold) <;> (try k_sweep))
  k_with "call ref" => (k_here; (with_reducible show wpAny _ _ (call (Value.ref 524) _) _ _ _); (try k_fmods); k_dflt (refine' word_use (by k_asm) (by k_asm) (by k_asm) (by k_asm) (by k_asm) (by first | exact rfl | assumption) (by ktr_room) (by ktr_units) (by walk_at "upd") (by exact rfl) (by k_mem) (by assumption) (by assumption) (by assumption) (by assumption) (by omega) (by omega) (by omega) ?_); intro z9 t9 u9 n9 h9 tk9 zl9 zok9 F9 N9; (try dsimp only at N9); (try dsimp only); (try k_fold); (try k_sweep))
  k_with "call ref" => (k_here; (with_reducible show wpAny _ _ (call (Value.ref 541) _) _ _ _); k_dflt (refine' places_use (by k_asm) (by k_asm) (by k_asm) (by k_asm) (by k_asm) (by first | exact rfl | assumption) (by ktr_room) (by ktr_units) (by omega) (by omega) ?_); intro d9 vs9 n9 h9 tk9 hp9 F9 N9 hl9; (try simp only [List.forall_mem_cons] at hl9); (try dsimp only); (try k_fold); (try k_sweep))
  k_with "call ref" => (k_here; (with_reducible show wpAny _ _ (call (Value.ref 548) _) _ _ _); k_dflt (refine' lput_use (by k_asm) (by k_asm) (by k_asm) (by k_asm) (by k_asm) (by first | exact rfl | assumption) (by ktr_room) (by ktr_units) (by k_mem) (by first | assumption | exact CntV.none | exact CntV.int _ _) (by omega) (by omega) ?_ ?_); (first | (intro d9 e9 z9 v9 o9 c9 cv9 t9 u9 w9 h9 tk9 hs9 hc9 F9 N9 hl9 he9; (try k_lt hl9)) | (intro h9 tk9 hs9 F9 N9)) <;> (try dsimp only) <;> (try k_fold) <;> (try k_sweep))
  k_with "call ref" => (k_here; (with_reducible show wpAny _ _ (call (Value.ref 555) _) _ _ _); k_dflt (refine' given_none (by k_asm) (by k_asm) (by k_asm) (by k_asm) (by k_asm) (by k_asm) (by k_asm) (by first | exact rfl | assumption) (by ktr_room) (by ktr_units) (by first | assumption | exact CntV.none | exact CntV.int _ _) (by omega) (by omega) (by assumption) ?_); intro h9 tk9 F9 N9; (try dsimp only); (try k_fold); (try k_sweep))
  k_with "call ref" => (k_here; (with_reducible show wpAny _ _ (call (Value.ref 555) _) _ _ _); k_dflt (refine' given_some (by k_asm) (by k_asm) (by k_asm) (by k_asm) (by k_asm) (by k_asm) (by k_asm) (by first | exact rfl | assumption) (by ktr_room) (by ktr_units) (by first | assumption | exact CntV.none | exact CntV.int _ _) (by omega) (by omega) (by assumption) ?_); intro d9 t9 u9 h9 tk9 F9 N9 hl9; (try k_lt hl9); (try dsimp only); (try k_fold); (try k_sweep))
  k_with "call ref" => (k_here; (with_reducible show wpAny _ _ (call (Value.ref 95) _) _ _ _); k_dflt (refine' index_use (by k_asm) (by k_asm) (by k_asm) (by k_asm) (by k_asm) (by first | exact rfl | assumption) (by ktr_room) (by ktr_units) (by omega) (by omega) ?_); intro v9 t9 h9 tk9 hx9 F9 N9; (try dsimp only); (try k_fold); (try k_sweep))
  k_with "call ref" => (k_here; (with_reducible show wpAny _ _ (call (Value.ref 102) _) _ _ _); k_dflt (refine' rindex_use (by k_asm) (by k_asm) (by k_asm) (by k_asm) (by k_asm) (by first | exact rfl | assumption) (by ktr_room) (by ktr_units) (by first | assumption | exact CntV.none | exact CntV.int _ _) (by omega) (by omega) ?_); intro v9 t9 h9 tk9 hx9 F9 N9; (try dsimp only); (try k_fold); (try k_sweep))
  k_with "call ref" => (k_here; (with_reducible show wpAny _ _ (call (Value.ref 399) _) _ _ _); k_dflt (refine' store_use (by k_asm) (by k_asm) (by k_asm) (by k_asm) (by k_asm) (by first | exact rfl | assumption) (by ktr_room) (by ktr_units) (by k_mem) (by k_mem) (by k_mem) (by k_mem) (by walk_at "upd") (by walk_at "ne9") (by walk_at "ne9") (by walk_at "ne9") (by walk_at "ne9") (by assumption) (by assumption) (by assumption) ?_); intro h9 tk9 F9 N9; (try dsimp only at N9); (try dsimp only); (try k_fold); (try k_sweep))
  k_with "call ref" => (k_here; (with_reducible show wpAny _ _ (call (Value.ref 459) []) _ _ _); k_dflt (refine' limits_use (by k_asm) (by k_asm) (by k_asm) (by k_asm) (by k_asm) (by first | exact rfl | assumption) (by ktr_room) (by ktr_units) ?_); intro l9 h9 tk9 F9 N9; (try dsimp only); (try k_fold); (try k_sweep))
  k_with "call ref" => (k_here; (with_reducible show wpAny _ _ (call (Value.ref 306) _) _ _ _); k_dflt (refine' heap_use (by k_asm) (by k_asm) (by k_asm) (by k_asm) (by k_asm) (by first | exact rfl | assumption) (by ktr_room) (by ktr_units) ?_); intro ha9 hd9 t9 u9 v9 w9 z9 h9 tk9 F9 N9 hl9 ho9; (have hl8 := hl9; (try k_lt hl8)); (try dsimp only); (try k_fold); (try k_sweep))
  k_with "call ref" => (k_here; (with_reducible show wpAny _ _ (call (Value.ref 437) _) _ _ _); k_dflt (refine' counter_use (by k_asm) (by k_asm) (by k_asm) (by k_asm) (by k_asm) (by first | exact rfl | assumption) (by ktr_room) (by ktr_units) ?_); intro ca9 cd9 pd9 t9 u9 v9 ob9 h9 tk9 F9 N9 hl9 ho9 hp9 lo9 hs9 hi9; (have hl8 := hl9; (try k_lt hl8)); (try dsimp only); (try k_fold); (try k_sweep))
  k_with "call ref" => (k_here; (with_reducible show wpAny _ _ (call (Value.ref 406) _) _ _ _); k_dflt (refine' fresh_use (by k_asm) (by k_asm) (by k_asm) (by k_asm) (by k_asm) (by first | exact rfl | assumption) (by ktr_room) (by ktr_units) (by assumption) (by omega) (by omega) (by omega) (by omega) ?_); intro sa9 sd9 a9 b9 c9 d9 e9 f9 g9 i9 tn9 tc9 wk9 h9 tk9 F9 N9 ho9 hp9; (try dsimp only); (try k_fold); (try k_sweep))
  k_with "call ref" => (k_here; (with_reducible show wpAny _ _ (call (Value.ref 501) _) _ _ _); k_dflt (refine' lvt_use (by k_asm) (by k_asm) (by k_asm) (by k_asm) (by k_asm) (by first | exact rfl | assumption) (by ktr_room) (by ktr_units) (by first | assumption | exact CntV.none | exact CntV.int _ _) ?_); intro la9 ld9 t9 u9 v9 w9 x9 h9 tk9 F9 N9 hl9 ho9; (have hl8 := hl9; (try k_lt hl8)); (try dsimp only); (try k_fold); (try k_sweep))
  k_with "call ref" => (k_here; (with_reducible show wpAny _ _ (call (Value.ref 338) _) _ _ _); k_dflt (refine' vo_use (by k_asm) (by k_asm) (by k_asm) (by k_asm) (by k_asm) (by first | exact rfl | assumption) (by ktr_room) (by ktr_units) (by k_mem) (by k_mem) ?_); intro h9 tk9 F9 N9; (try dsimp only) <;> (try k_fold) <;> (try k_sweep))
  k_with "call ref" => (k_here; (with_reducible show wpAny _ _ (call (Value.ref 484) _) _ _ _); k_dflt (refine' beg_use (by k_asm) (by k_asm) (by k_asm) (by k_asm) (by k_asm) (by first | exact rfl | assumption) (by ktr_room) (by ktr_units) (by k_mem) (by k_mem) ?_); intro t9 h9 tk9 F9 N9; (try dsimp only) <;> (try k_fold) <;> (try k_sweep))
  k_with "call ref" => (k_here; (with_reducible show wpAny _ _ (call (Value.ref 491) _) _ _ _); k_dflt (refine' get_use (by k_asm) (by k_asm) (by k_asm) (by k_asm) (by k_asm) (by first | exact rfl | assumption) (by ktr_room) (by ktr_units) (by k_mem) (by k_mem) (by k_mem) (by k_mem) (by first | assumption | exact CntV.none | exact CntV.int _ _) (by omega) ?_ ?_); (first | (intro h9 tk9 hs9 F9 N9) | (intro z9 t9 h9 tk9 hs9 F9 N9)) <;> (try dsimp only) <;> (try k_fold) <;> (try k_sweep))
  trivial
section
example : True := by
  k_with "call ref" => (k_here; (fail_if_success (with_reducible show wpAny _ _ (call (Value.ref 67) _) _ _ _)); (fail_if_success (with_reducible show wpAny _ _ (call (Value.ref 58) _) _ _ _)); (fail_if_success (with_reducible show wpAny _ _ (call (Value.ref 399) _) _ _ _)); (fail_if_success (with_reducible show wpAny _ _ (call (Value.ref 338) _) _ _ _)); (fail_if_success (with_reducible show wpAny _ _ (call (Value.ref 5) _) _ _ _)); (fail_if_success (with_reducible show wpAny _ _ (call (Value.ref 484) _) _ _ _)); k_dflt (refine wpAny_call ?_; walk_at "enter_y"))
  k_with "call ref" => (k_here; (with_reducible show wpAny _ _ (call (Value.ref 67) _) _ _ _); k_dflt (refine' span_none (by k_asm) (by k_asm) (by k_asm) (by k_asm) (by k_asm) (by first | exact rfl | assumption) (by ktr_room) (by ktr_units) (by first | assumption | exact CntV.none | exact CntV.int _ _) (by omega) (by assumption) ?_); intro h9 tk9 hs9 F9 N9; (try dsimp only); (try k_fold); (try k_sweep))
  trivial
/-- a contract for a def that catches, of a known world -/
def TelCP (prog : Program) (w : World) (f : Addr) (dd du : Nat) (vs : List Value) (news : Led) (Out : Value → Led → Prop) : Prop :=
  ∀ (p : Program) (loose : List Str) (mean : ExcName → Option Value) (mg mb : Str → Option Value) (dp un : Nat) (gd : Option (List Code)) (cn : Str) (cs : Scope) (a : Addr) (ccd : Value) (cl : List (Str × Addr)) (A₀ : Around) (base h₀ : Heap) (L : Addr) (m : Str → Option Value) (s : Shared) (Q E : Value → Shared → Prop),
    Below A₀ base [] h₀ → Fr h₀ L s.heap m → (K w.params).In h₀ → News h₀ L s.heap news → Top p loose mean mg mb h₀ → (K w.params).In base → Top p loose mean mg mb base → cs.kind = .function →
    dp + dd < recursionLimit → un + du < cLine →
    (∀ (r : Value) (news' : Led) (h' : Heap) (tk' : Nat), Fr h₀ L h' m → News h₀ L h' news' → Out r news' → Q r { s with heap := h', toks := tk' }) →
    wpAny (model prog w) (ktrTop dp un gd cn cs L a ccd cl []) (call (.ref f) vs) Q E s
theorem telcp_use {f : Addr} {dd du : Nat} {vs : List Value} {news : Led} {Out : Value → Led → Prop} {prog : Program} {w : World} {p : Program} {loose : List Str} {mean : ExcName → Option Value} {mg mb : Str → Option Value} {dp un : Nat} {gd : Option (List Code)} {cn : Str} {cs : Scope} {a : Addr} {ccd : Value} {cl : List (Str × Addr)} {A₀ : Around} {base h₀ : Heap} {L : Addr} {m : Str → Option Value} {s : Shared} {Q E : Value → Shared → Prop} (C : TelCP prog w f dd du vs news Out)
    (B : Below A₀ base [] h₀) (F : Fr h₀ L s.heap m) (X : (K w.params).In h₀) (N : News h₀ L s.heap news) (T : Top p loose mean mg mb h₀) (XB : (K w.params).In base) (TB : Top p loose mean mg mb base) (hk : cs.kind = .function) (hd : dp + dd < recursionLimit) (hu : un + du < cLine)
    (ret : ∀ (r : Value) (news' : Led) (h' : Heap) (tk' : Nat), Fr h₀ L h' m → News h₀ L h' news' → Out r news' → Q r { s with heap := h', toks := tk' }) :
    wpAny (model prog w) (ktrTop dp un gd cn cs L a ccd cl []) (call (.ref f) vs) Q E s := C p loose mean mg mb dp un gd cn cs a ccd cl A₀ base h₀ L m s Q E B F X N T XB TB hk hd hu ret
set_option linter.unusedSimpArgs false in
set_option maxHeartbeats 8000000 in
theorem setn_ok (prog : Program) (w : World) (la ld sa sd : Addr) (o k c : Int) (b : Bool) (x y : Str) (cv wk hv : Value) (ct : Option Int) (tx ty tn tc t1 t2 t3 t4 t5 to v1 v2 v3 v4 v5 v6 v7 v8 : Tok) (news : Led) (hc : CntV cv ct) (hx : x.length ≤ 1000) (m1 : (la, instObj 501 ld) ∈ news) (m2 : (ld, lvtD w.params t1 t2 t3 t4 t5 hv sa o to cv b) ∈ news) (m3 : (sa, instObj 147 sd) ∈ news) (m4 : (sd, scaD w.params v1 v2 v3 v4 v5 v6 v7 v8 k tn c tc wk (.str x tx)) ∈ news)
    (hg : putOf x (begOf x.length (lvB x.length b o)) ct y = none) :
    TelCP prog w 562 10 160 [.ref la, .str y ty] news (fun r news' => r = .bool false ∧ news' = news) := by
  w_top off
  have hs : spanB x.length (begOf x.length (lvB x.length b o)) ct = none := by
    cases h : spanB x.length (begOf x.length (lvB x.length b o)) ct with
    | none => rfl
    | some q => rw [putOf, h] at hg; cases hg
  clear hg
  unfold TelCP
  intro pp loose mean mg mb dp un gd cn cs a ccd cl A₀ base h₀ L m s Q E B F X N T XB TB hk9 hd hu hret
  refine wpAny_call ?_
  have hh9 := cntV_handed hc
  k_dflt (walk_at "catch_enter")
  k_steps
  exact hret _ _ _ _ (by k_asm) (by walk_at "news_sub") ⟨rfl, rfl⟩
theorem set_none {prog : Program} {w : World} {p : Program} {loose : List Str} {mean : ExcName → Option Value} {mg mb : Str → Option Value} {dp un : Nat} {gd : Option (List Code)} {cn : Str} {cs : Scope} {a : Addr} {ccd : Value} {cl : List (Str × Addr)} {A₀ : Around} {base h₀ : Heap} {L : Addr} {m : Str → Option Value} {s : Shared} {Q E : Value → Shared → Prop} {la ld sa sd : Addr} {o k c : Int} {b : Bool} {x y : Str} {cv wk hv : Value} {ct : Option Int} {tx ty tn tc t1 t2 t3 t4 t5 to v1 v2 v3 v4 v5 v6 v7 v8 : Tok} {news : Led}
    (B : Below A₀ base [] h₀) (F : Fr h₀ L s.heap m) (X : (K w.params).In h₀) (N : News h₀ L s.heap news) (T : Top p loose mean mg mb h₀) (XB : (K w.params).In base) (TB : Top p loose mean mg mb base) (hk : cs.kind = .function) (hd : dp + 10 < recursionLimit) (hu : un + 160 < cLine) (m1 : (la, instObj 501 ld) ∈ news) (m2 : (ld, lvtD w.params t1 t2 t3 t4 t5 hv sa o to cv b) ∈ news) (m3 : (sa, instObj 147 sd) ∈ news) (m4 : (sd, scaD w.params v1 v2 v3 v4 v5 v6 v7 v8 k tn c tc wk (.str x tx)) ∈ news)
    (hc : CntV cv ct) (hx : x.length ≤ 1000) (hg : putOf x (begOf x.length (lvB x.length b o)) ct y = none)
    (hq : ∀ h' tk', Fr h₀ L h' m → News h₀ L h' news → Q (.bool false) { s with heap := h', toks := tk' }) :
    wpAny (model prog w) (ktrTop dp un gd cn cs L a ccd cl []) (call (.ref 562) [.ref la, .str y ty]) Q E s :=
  telcp_use (setn_ok prog w la ld sa sd o k c b x y cv wk hv ct tx ty tn tc t1 t2 t3 t4 t5 to v1 v2 v3 v4 v5 v6 v7 v8 news hc hx m1 m2 m3 m4 hg) B F X N T XB TB hk hd hu fun r news' h' tk' F' N' O => by
    obtain ⟨rfl, rfl⟩ := O
    exact hq h' tk' F' N'

end
example : True := by
  k_with_none
  k_with "enter_cells" => (refine' code_defC (by k_asm) (by k_asm) (by k_asm) (by k_asm) (by k_asm) (by exact rfl) (by exact rfl) (by assumption) (by k_is) (by k_is) (by ktr_room) (by exact BindsTo.of_eq rfl) (by exact rfl) (by decide +kernel) ?_ (by exact rfl) (by exact rfl) (by exact rfl); k_whole; intro g' L' h' tk' cells' FG' F' N' Y' B' X' T' l1; (try k_lt l1); k_cells Y'; (try simp only [List.cons_append, List.nil_append] at N'); (try dsimp only); (try k_lift B'); (try k_fold))
  k_with "eval ListComp" => (k_here; first | ((with_reducible show wpAny _ _ (eval (PySem.Expr.ListComp _ [PySem.Comprehension.mk _ _ [_] _] _ _) _) _ _ _); k_dflt (refine LCt.ListComp_T (F₀ := by k_asm) (by with_unfolding_all rfl) (by decide) (by rfl) (by decide) (by rfl) ?_)) | ((with_reducible show wpAny _ _ (eval (PySem.Expr.ListComp _ [PySem.Comprehension.mk _ _ [] _] _ _) _) _ _ _); k_dflt (refine LCg.ListComp_U (F₀ := by k_asm) (by with_unfolding_all rfl) (by decide) (by rfl) (by decide) (by rfl) ?_)))
  k_with "is_comp" => first | (with_reducible refine' LCt.CompSrcT.range ?_ ?_ ?_ ?_ ?_ ?_ ?_ ?_) | (with_reducible refine' LCg.CompSrc.range ?_ ?_ ?_ ?_ ?_ ?_ ?_ ?_) | (with_reducible refine' LCt.CompSrcT.ledger ?_ ?_ ?_ ?_ ?_ ?_) | (with_reducible refine' LCg.CompSrc.ledger ?_ ?_ ?_ ?_ ?_ ?_)
  k_with "to_comp" => repeat' (first | ((fail_if_success (walk_at "is_comp")); first | (k_unfold; (try dsimp only)) | (k_end; wrow_close) | walk1 | (dsimp only; walk1) | (leave1; try dsimp only)))
  k_with "comp_range" => first | (refine' LCt.CompSrcT.range (by exact rfl) (by k_asm) (by k_asm) (by assumption) (by exact small_one (by omega) (by omega) (by omega) (by omega)) (by first | exact rangeSize_nat _ _ | rfl) (by rw [PySem.sizeLine_eq]; omega) ?_; intro g') | (refine' LCg.CompSrc.range (by exact rfl) (by k_asm) (by k_asm) (by assumption) (by exact small_one (by omega) (by omega) (by omega) (by omega)) (by first | exact rangeSize_nat _ _ | rfl) (by rw [PySem.sizeLine_eq]; omega) ?_; intro g')
  k_with "mem_tail" => (intro q9 hq9; repeat' (first | with_reducible exact hq9 | refine List.mem_cons_of_mem _ ?_))
  k_with "news_sub" => first | k_asm | (refine news_sub (by k_asm) ?_; walk_at "mem_tail")
  k_with "led_lt" => first | assumption | (refine led_lt (by k_asm) ?_; walk_at "mem_tail") | ((with_reducible rename AllLt _ _ => ql9); exact ktn_ltOf ql9) | ((with_reducible rename _ ∧ AllLt _ _ => ql9); exact ktn_ltOf ql9.2) | ((with_reducible rename _ ∧ _ ∧ AllLt _ _ => ql9); exact ktn_ltOf ql9.2.2)
  k_with "mem_at" => first | exact List.Mem.head _ | (refine List.Mem.tail _ ?_; walk_at "mem_at")
  k_with "mem_any" => first | exact mem_nil_all | exact fun _ h => h | (refine mem_cons_all (by walk_at "mem_at") (by walk_at "mem_any")) | (walk_at "mem_tail")
  k_with "to_while" => repeat' (first | ((fail_if_success (with_reducible show wpAny _ _ (exec (Stmt.While _ _ _ _) _) _ _ _)); first | (k_unfold; (try dsimp only)) | (k_end; wrow_close) | walk1 | (dsimp only; walk1) | (leave1; try dsimp only)))
  k_with "ne9" => first | assumption | exact Nat.ne_of_lt (by omega) | exact Nat.ne_of_gt (by omega) | k_ne
  k_with "enter_n" => (refine' code_def (by k_asm) (by k_asm) (by k_asm) (by k_asm) (by k_asm) (by exact rfl) (by exact rfl) (by first | exact rfl | assumption) (by k_is) (by k_is) (by ktr_room) (by first | exact BindsTo.of_eq rfl | exact binds_K (by k_in) rfl (by k_is) rfl rfl rfl) (by exact locs rfl) ?_ (by exact rfl) (by exact rfl) (by exact rfl) (by decide); k_whole)
  k_with "enter_y" => (walk_at "enter_n"; intro g' L' h' FG' F' N' B' X' T'; (try dsimp only); (try k_lift B'); (try k_fold))
  k_with "call builtin:str.join" => (k_here; (with_reducible show wpAny _ _ (call (Value.builtin "str.join") [Value.str _ _, Value.ref _]) _ _ _); (with_reducible rename CarriedAll _ (List.map (fun _ => PyData.str (chr _)) _) => ktC); (refine join_chrs (by first | is_list | exact News.isList (by k_asm) (by k_mem)) ktC (by first | omega | (refine Nat.le_trans (pickC_len _ _ _ _) ?_; omega)) ?_; intro _ _))
  k_with "call ref" => (k_here; (with_reducible show wpAny _ _ (call (Value.ref 519) _) _ _ _); k_dflt (refine' draw_use (by k_asm) (by k_asm) (by k_asm) (by k_asm) (by k_asm) (by first | exact rfl | assumption) (by ktr_room) (by ktr_units) (by walk_at "upd") (by exact rfl) (by k_mem) (by assumption) (by assumption) (by assumption) (by assumption) (by omega) ?_); intro v9 t9 u9 n9 h9 tk9 F9 N9; (try dsimp only at N9); (try dsimp only); (try k_fold); (try k_sweep))
  k_with "call ref" => (k_here; (with_reducible show wpAny _ _ (call (Value.ref 67) _) _ _ _); k_dflt (refine' span_use (by k_asm) (by k_asm) (by k_asm) (by k_asm) (by k_asm) (by first | exact rfl | assumption) (by ktr_room) (by ktr_units) (by first | assumption | exact CntV.none | exact CntV.int _ _) (by omega) ?_ ?_); (first | (intro h9 tk9 hs9 F9 N9) | (intro b9 e9 d9 t9 u9 h9 tk9 hs9 ha9 hb9 hc9 F9 N9 hl9; k_lt hl9)) <;> (try dsimp only) <;> (try k_fold) <;> (try k_sweep))
  k_with "call ref" => (k_here; (with_reducible show wpAny _ _ (call (Value.ref 74) _) _ _ _); k_dflt (refine' value_use (by k_asm) (by k_asm) (by k_asm) (by k_asm) (by k_asm) (by first | exact rfl | assumption) (by ktr_room) (by ktr_units) (by first | assumption | exact CntV.none | exact CntV.int _ _) (by omega) ?_ ?_); (first | (intro h9 tk9 hs9 F9 N9) | (intro z9 t9 h9 tk9 hs9 F9 N9)) <;> (try dsimp only) <;> (try k_fold) <;> (try k_sweep))
  k_with "call ref" => (k_here; (with_reducible show wpAny _ _ (call (Value.ref 531) _) _ _ _); k_dflt (refine' ends_use (by k_asm) (by k_asm) (by k_asm) (by k_asm) (by k_asm) (by first | exact rfl | assumption) (by ktr_room) (by ktr_units) (by k_mem) (by first | assumption | exact CntV.none | exact CntV.int _ _) ?_); intro B9 e9 d9 t9 u9 h9 tk9 hb9 he9 F9 N9 hl9; k_lt hl9; (try dsimp only); (try k_fold); (try k_sweep))
  k_with "call ref" => (k_here; (with_reducible show wpAny _ _ (call (Value.ref 536) _) _ _ _); k_dflt (refine' part_use (by k_asm) (by k_asm) (by k_asm) (by k_asm) (by k_asm) (by first | exact rfl | assumption) (by ktr_room) (by ktr_units) (by k_mem) (by first | assumption | exact CntV.none | exact CntV.int _ _) (by omega) ?_ ?_); (first | (intro h9 tk9 hs9 F9 N9) | (intro d9 z9 p9 t9 u9 h9 tk9 hs9 hf9 F9 N9 hl9; (try k_lt hl9))) <;> (try dsimp only) <;> (try k_fold) <;> (try k_sweep))
  k_with "call ref" => (k_here; (with_reducible show wpAny _ _ (call (Value.ref 524) _) _ _ _); (try k_fmods); k_dflt (refine' word_use (by k_asm) (by k_asm) (by k_asm) (by k_asm) (by k_asm) (by first | exact rfl | assumption) (by ktr_room) (by ktr_units) (by walk_at "upd") (by exact rfl) (by k_mem) (by assumption) (by assumption) (by assumption) (by assumption) (by omega) (by omega) (by omega) ?_); intro z9 t9 u9 n9 h9 tk9 zl9 zok9 F9 N9; (try dsimp only at N9); (try dsimp only); (try k_fold); (try k_sweep))
  k_with "call ref" => (k_here; (with_reducible show wpAny _ _ (call (Value.ref 541) _) _ _ _); k_dflt (refine' places_use (by k_asm) (by k_asm) (by k_asm) (by k_asm) (by k_asm) (by first | exact rfl | assumption) (by ktr_room) (by ktr_units) (by omega) (by omega) ?_); intro d9 vs9 n9 h9 tk9 hp9 F9 N9 hl9; (try simp only [List.forall_mem_cons] at hl9); (try dsimp only); (try k_fold); (try k_sweep))
  k_with "call ref" => (k_here; (with_reducible show wpAny _ _ (call (Value.ref 548) _) _ _ _); k_dflt (refine' lput_use (by k_asm) (by k_asm) (by k_asm) (by k_asm) (by k_asm) (by first | exact rfl | assumption) (by ktr_room) (by ktr_units) (by k_mem) (by first | assumption | exact CntV.none | exact CntV.int _ _) (by omega) (by omega) ?_ ?_); (first | (intro d9 e9 z9 v9 o9 c9 cv9 t9 u9 w9 h9 tk9 hs9 hc9 F9 N9 hl9 he9; (try k_lt hl9)) | (intro h9 tk9 hs9 F9 N9)) <;> (try dsimp only) <;> (try k_fold) <;> (try k_sweep))
  k_with "call ref" => (k_here; (with_reducible show wpAny _ _ (call (Value.ref 555) _) _ _ _); k_dflt (refine' given_none (by k_asm) (by k_asm) (by k_asm) (by k_asm) (by k_asm) (by k_asm) (by k_asm) (by first | exact rfl | assumption) (by ktr_room) (by ktr_units) (by first | assumption | exact CntV.none | exact CntV.int _ _) (by omega) (by omega) (by assumption) ?_); intro h9 tk9 F9 N9; (try dsimp only); (try k_fold); (try k_sweep))
  k_with "call ref" => (k_here; (with_reducible show wpAny _ _ (call (Value.ref 555) _) _ _ _); k_dflt (refine' given_some (by k_asm) (by k_asm) (by k_asm) (by k_asm) (by k_asm) (by k_asm) (by k_asm) (by first | exact rfl | assumption) (by ktr_room) (by ktr_units) (by first | assumption | exact CntV.none | exact CntV.int _ _) (by omega) (by omega) (by assumption) ?_); intro d9 t9 u9 h9 tk9 F9 N9 hl9; (try k_lt hl9); (try dsimp only); (try k_fold); (try k_sweep))
  k_with "call ref" => (k_here; (with_reducible show wpAny _ _ (call (Value.ref 95) _) _ _ _); k_dflt (refine' index_use (by k_asm) (by k_asm) (by k_asm) (by k_asm) (by k_asm) (by first | exact rfl | assumption) (by ktr_room) (by ktr_units) (by omega) (by omega) ?_); intro v9 t9 h9 tk9 hx9 F9 N9; (try dsimp only); (try k_fold); (try k_sweep))
  k_with "call ref" => (k_here; (with_reducible show wpAny _ _ (call (Value.ref 102) _) _ _ _); k_dflt (refine' rindex_use (by k_asm) (by k_asm) (by k_asm) (by k_asm) (by k_asm) (by first | exact rfl | assumption) (by ktr_room) (by ktr_units) (by first | assumption | exact CntV.none | exact CntV.int _ _) (by omega) (by omega) ?_); intro v9 t9 h9 tk9 hx9 F9 N9; (try dsimp only); (try k_fold); (try k_sweep))
  k_with "call ref" => (k_here; (with_reducible show wpAny _ _ (call (Value.ref 399) _) _ _ _); k_dflt (refine' store_use (by k_asm) (by k_asm) (by k_asm) (by k_asm) (by k_asm) (by first | exact rfl | assumption) (by ktr_room) (by ktr_units) (by k_mem) (by k_mem) (by k_mem) (by k_mem) (by walk_at "upd") (by walk_at "ne9") (by walk_at "ne9") (by walk_at "ne9") (by walk_at "ne9") (by assumption) (by assumption) (by assumption) ?_); intro h9 tk9 F9 N9; (try dsimp only at N9); (try dsimp only); (try k_fold); (try k_sweep))
  k_with "call ref" => (k_here; (with_reducible show wpAny _ _ (call (Value.ref 459) []) _ _ _); k_dflt (refine' limits_use (by k_asm) (by k_asm) (by k_asm) (by k_asm) (by k_asm) (by first | exact rfl | assumption) (by ktr_room) (by ktr_units) ?_); intro l9 h9 tk9 F9 N9; (try dsimp only); (try k_fold); (try k_sweep))
  k_with "call ref" => (k_here; (with_reducible show wpAny _ _ (call (Value.ref 306) _) _ _ _); k_dflt (refine' heap_use (by k_asm) (by k_asm) (by k_asm) (by k_asm) (by k_asm) (by first | exact rfl | assumption) (by ktr_room) (by ktr_units) ?_); intro ha9 hd9 t9 u9 v9 w9 z9 h9 tk9 F9 N9 hl9 ho9; (have hl8 := hl9; (try k_lt hl8)); (try dsimp only); (try k_fold); (try k_sweep))
  k_with "call ref" => (k_here; (with_reducible show wpAny _ _ (call (Value.ref 437) _) _ _ _); k_dflt (refine' counter_use (by k_asm) (by k_asm) (by k_asm) (by k_asm) (by k_asm) (by first | exact rfl | assumption) (by ktr_room) (by ktr_units) ?_); intro ca9 cd9 pd9 t9 u9 v9 ob9 h9 tk9 F9 N9 hl9 ho9 hp9 lo9 hs9 hi9; (have hl8 := hl9; (try k_lt hl8)); (try dsimp only); (try k_fold); (try k_sweep))
  k_with "call ref" => (k_here; (with_reducible show wpAny _ _ (call (Value.ref 406) _) _ _ _); k_dflt (refine' fresh_use (by k_asm) (by k_asm) (by k_asm) (by k_asm) (by k_asm) (by first | exact rfl | assumption) (by ktr_room) (by ktr_units) (by assumption) (by omega) (by omega) (by omega) (by omega) ?_); intro sa9 sd9 a9 b9 c9 d9 e9 f9 g9 i9 tn9 tc9 wk9 h9 tk9 F9 N9 ho9 hp9; (try dsimp only); (try k_fold); (try k_sweep))
  k_with "call ref" => (k_here; (with_reducible show wpAny _ _ (call (Value.ref 501) _) _ _ _); k_dflt (refine' lvt_use (by k_asm) (by k_asm) (by k_asm) (by k_asm) (by k_asm) (by first | exact rfl | assumption) (by ktr_room) (by ktr_units) (by first | assumption | exact CntV.none | exact CntV.int _ _) ?_); intro la9 ld9 t9 u9 v9 w9 x9 h9 tk9 F9 N9 hl9 ho9; (have hl8 := hl9; (try k_lt hl8)); (try dsimp only); (try k_fold); (try k_sweep))
  k_with "call ref" => (k_here; (with_reducible show wpAny _ _ (call (Value.ref 338) _) _ _ _); k_dflt (refine' vo_use (by k_asm) (by k_asm) (by k_asm) (by k_asm) (by k_asm) (by first | exact rfl | assumption) (by ktr_room) (by ktr_units) (by k_mem) (by k_mem) ?_); intro h9 tk9 F9 N9; (try dsimp only) <;> (try k_fold) <;> (try k_sweep))
  k_with "call ref" => (k_here; (with_reducible show wpAny _ _ (call (Value.ref 484) _) _ _ _); k_dflt (refine' beg_use (by k_asm) (by k_asm) (by k_asm) (by k_asm) (by k_asm) (by first | exact rfl | assumption) (by ktr_room) (by ktr_units) (by k_mem) (by k_mem) ?_); intro t9 h9 tk9 F9 N9; (try dsimp only) <;> (try k_fold) <;> (try k_sweep))
  k_with "call ref" => (k_here; (with_reducible show wpAny _ _ (call (Value.ref 491) _) _ _ _); k_dflt (refine' get_use (by k_asm) (by k_asm) (by k_asm) (by k_asm) (by k_asm) (by first | exact rfl | assumption) (by ktr_room) (by ktr_units) (by k_mem) (by k_mem) (by k_mem) (by k_mem) (by first | assumption | exact CntV.none | exact CntV.int _ _) (by omega) ?_ ?_); (first | (intro h9 tk9 hs9 F9 N9) | (intro z9 t9 h9 tk9 hs9 F9 N9)) <;> (try dsimp only) <;> (try k_fold) <;> (try k_sweep))
  trivial
section
example : True := by
  k_with "call ref" => (k_here; (fail_if_success (with_reducible show wpAny _ _ (call (Value.ref 67) _) _ _ _)); (fail_if_success (with_reducible show wpAny _ _ (call (Value.ref 58) _) _ _ _)); (fail_if_success (with_reducible show wpAny _ _ (call (Value.ref 399) _) _ _ _)); (fail_if_success (with_reducible show wpAny _ _ (call (Value.ref 338) _) _ _ _)); (fail_if_success (with_reducible show wpAny _ _ (call (Value.ref 81) _) _ _ _)); (fail_if_success (with_reducible show wpAny _ _ (call (Value.ref 498) _) _ _ _)); (fail_if_success (with_reducible show wpAny _ _ (call (Value.ref 484) _) _ _ _)); k_dflt (refine wpAny_call ?_; walk_at "enter_y"))
  trivial
/-- a ledger without one of its rows -/
inductive Drop (d : Addr) (o : Obj) : Led → Led → Prop
  | head {r} : (∀ p ∈ r, p.1 ≠ d) → Drop d o ((d, o) :: r) r
  | tail {p r r'} : p.1 ≠ d → Drop d o r r' → Drop d o (p :: r) (p :: r')
theorem Drop.mem {d : Addr} {o : Obj} : ∀ {l r : Led}, Drop d o l r → (∀ q, q ∈ l ↔ q = (d, o) ∨ q ∈ r) ∧ ∀ q ∈ r, q.1 ≠ d
  | _, _, .head h => ⟨fun q => List.mem_cons, h⟩
  | _, _, .tail hp hr => by
    obtain ⟨h1, h2⟩ := hr.mem
    refine ⟨fun q => ?_, fun q hq => ?_⟩
    · rw [List.mem_cons, List.mem_cons, h1]
      constructor
      · rintro (h | h | h)
        · exact .inr (.inl h)
        · exact .inl h
        · exact .inr (.inr h)
      · rintro (h | h | h)
        · exact .inr (.inl h)
        · exact .inl h
        · exact .inr (.inr h)
    · rcases List.mem_cons.mp hq with rfl | hq
      · exact hp
      · exact h2 q hq
example : True := by
  k_with "call ref" => (k_here; (with_reducible show wpAny _ _ (call (Value.ref 498) _) _ _ _); k_dflt (refine' telp_use (by assumption) (by k_asm) (by k_asm) (by k_asm) (by k_asm) (by k_asm) (by first | exact rfl | assumption) (by ktr_room) (by ktr_units) ?_); intro r9 nw9 h9 tk9 F9 N9 O9; (obtain ⟨to9, tv9, cv9, h9r, hc9, h9n⟩ := O9; subst h9r; subst h9n); (try dsimp only); (try k_fold); (try k_sweep))
  trivial
set_option linter.unusedSimpArgs false in
set_option maxHeartbeats 8000000 in
theorem sets_ok (prog : Program) (w : World) (la ld sa sd ca ce pd : Addr) (ob : Obj) (o k cn9 : Int) (b : Bool) (x y z v : Str) (cv wk hv : Value) (ct : Option Int) (tx ty to tn tc q1 q2 q3 r1 r2 r3 r4 r5 v1 v2 v3 v4 v5 v6 v7 v8 : Tok) (rest : Led)
    (hc : CntV cv ct) (hx : x.length ≤ 100) (hy : y.length ≤ 100)
    (m1 : (la, instObj 501 ld) ∈ rest) (m2 : (sa, instObj 147 sd) ∈ rest) (m3 : (ca, instObj 437 ce) ∈ rest) (m4 : (ce, cntD w.params q1 q2 q3 hv pd) ∈ rest) (m5 : (pd, ob) ∈ rest) (hr1 : ∀ q ∈ rest, q.1 ≠ ld) (hr2 : ∀ q ∈ rest, q.1 ≠ sd)
    (n1 : ld ≠ sd) (n2 : pd ≠ sd) (n3 : ca ≠ sd) (n4 : ce ≠ sd) (n5 : sa ≠ sd)
    (lo : (pd == sysModules) = false) (hs' : Obj.IsDictOf (PySem.strKind prog w) ob []) (hi' : Obj.IsDictOf (intKind prog w) ob [])
    (hg : putOf x (begOf x.length (lvB x.length b o)) ct y = some (z, v)) :
    TelCP prog w 562 10 160 [.ref la, .str y ty] ((ld, lvtD w.params r1 r2 r3 r4 r5 (.ref ca) sa o to cv b) :: (sd, scaD w.params v1 v2 v3 v4 v5 v6 v7 v8 k tn cn9 tc wk (.str x tx)) :: rest)
      (fun r news' => ∃ (to' tv : Tok) (cv' : Value), r = .bool true ∧ CntV cv' (cntLen ct y.length) ∧ news' = (ld, lvtD w.params r1 r2 r3 r4 r5 (.ref ca) sa (if b = true then o + ((z.length : Int) - (y.length : Int)) else o) to' cv' b) :: (sd, scaD w.params v1 v2 v3 v4 v5 v6 v7 v8 k tn cn9 tc wk (.str v tv)) :: rest) := by
  w_top off
  have C := put_ok prog w la ld sa sd ca ce pd ob o k cn9 b x y z v cv wk hv ct tx ty to tn tc q1 q2 q3 r1 r2 r3 r4 r5 v1 v2 v3 v4 v5 v6 v7 v8 rest hc hx hy m1 m2 m3 m4 m5 hr1 hr2 n1 n2 n3 n4 n5 lo hs' hi' hg
  unfold TelCP
  intro pp loose mean mg mb dp un gd cn cs a ccd cl A₀ base h₀ L m s Q E B F X N T XB TB hk9 hd hu hret
  refine wpAny_call ?_
  k_dflt (walk_at "catch_enter")
  k_steps
  exact hret _ _ _ _ (by k_asm) (by walk_at "news_sub") ⟨_, _, _, rfl, by assumption, rfl⟩
theorem set_some {prog : Program} {w : World} {p : Program} {loose : List Str} {mean : ExcName → Option Value} {mg mb : Str → Option Value} {dp un : Nat} {gd : Option (List Code)} {cn : Str} {cs : Scope} {a : Addr} {ccd : Value} {cl : List (Str × Addr)} {A₀ : Around} {base h₀ : Heap} {L : Addr} {m : Str → Option Value} {s : Shared} {Q E : Value → Shared → Prop} {la ld sa sd ca ce pd : Addr} {ob : Obj} {o k cn9 : Int} {b : Bool} {x y z v : Str} {cv wk hv : Value} {ct : Option Int} {tx ty to tn tc q1 q2 q3 r1 r2 r3 r4 r5 v1 v2 v3 v4 v5 v6 v7 v8 : Tok} {news rest1 rest : Led}
    (B : Below A₀ base [] h₀) (F : Fr h₀ L s.heap m) (X : (K w.params).In h₀) (N : News h₀ L s.heap news) (T : Top p loose mean mg mb h₀) (XB : (K w.params).In base) (TB : Top p loose mean mg mb base) (hk : cs.kind = .function) (hd : dp + 10 < recursionLimit) (hu : un + 160 < cLine)
    (w1 : (la, instObj 501 ld) ∈ news) (w2 : (ld, lvtD w.params r1 r2 r3 r4 r5 (.ref ca) sa o to cv b) ∈ news) (w3 : (sa, instObj 147 sd) ∈ news) (w4 : (sd, scaD w.params v1 v2 v3 v4 v5 v6 v7 v8 k tn cn9 tc wk (.str x tx)) ∈ news)
    (D1 : Drop ld (lvtD w.params r1 r2 r3 r4 r5 (.ref ca) sa o to cv b) news rest1) (D2 : Drop sd (scaD w.params v1 v2 v3 v4 v5 v6 v7 v8 k tn cn9 tc wk (.str x tx)) rest1 rest)
    (hc : CntV cv ct) (hx : x.length ≤ 100) (hy : y.length ≤ 100)
    (m1 : (la, instObj 501 ld) ∈ rest) (m2 : (sa, instObj 147 sd) ∈ rest) (m3 : (ca, instObj 437 ce) ∈ rest) (m4 : (ce, cntD w.params q1 q2 q3 hv pd) ∈ rest) (m5 : (pd, ob) ∈ rest)
    (n1 : ld ≠ sd) (n2 : pd ≠ sd) (n3 : ca ≠ sd) (n4 : ce ≠ sd) (n5 : sa ≠ sd)
    (lo : (pd == sysModules) = false) (hs' : Obj.IsDictOf (PySem.strKind prog w) ob []) (hi' : Obj.IsDictOf (intKind prog w) ob [])
    (hg : putOf x (begOf x.length (lvB x.length b o)) ct y = some (z, v))
    (hq : ∀ (to' tv : Tok) (cv' : Value) h' tk', CntV cv' (cntLen ct y.length) → Fr h₀ L h' m → News h₀ L h' ((ld, lvtD w.params r1 r2 r3 r4 r5 (.ref ca) sa (if b = true then o + ((z.length : Int) - (y.length : Int)) else o) to' cv' b) :: (sd, scaD w.params v1 v2 v3 v4 v5 v6 v7 v8 k tn cn9 tc wk (.str v tv)) :: rest) → Q (.bool true) { s with heap := h', toks := tk' }) :
    wpAny (model prog w) (ktrTop dp un gd cn cs L a ccd cl []) (call (.ref 562) [.ref la, .str y ty]) Q E s := by
  clear w1 w2 w3 w4
  obtain ⟨a1, a2⟩ := D1.mem
  obtain ⟨b1, b2⟩ := D2.mem
  have hr1 : ∀ q ∈ rest, q.1 ≠ ld := fun q hq => a2 q ((b1 q).mpr (.inr hq))
  have N1 : News h₀ L s.heap ((ld, lvtD w.params r1 r2 r3 r4 r5 (.ref ca) sa o to cv b) :: (sd, scaD w.params v1 v2 v3 v4 v5 v6 v7 v8 k tn cn9 tc wk (.str x tx)) :: rest) := news_sub N fun q hq => by
    rcases List.mem_cons.mp hq with rfl | hq
    · exact (a1 _).mpr (.inl rfl)
    · rcases List.mem_cons.mp hq with rfl | hq
      · exact (a1 _).mpr (.inr ((b1 _).mpr (.inl rfl)))
      · exact (a1 _).mpr (.inr ((b1 _).mpr (.inr hq)))
  refine telcp_use (sets_ok prog w la ld sa sd ca ce pd ob o k cn9 b x y z v cv wk hv ct tx ty to tn tc q1 q2 q3 r1 r2 r3 r4 r5 v1 v2 v3 v4 v5 v6 v7 v8 rest hc hx hy m1 m2 m3 m4 m5 hr1 b2 n1 n2 n3 n4 n5 lo hs' hi' hg) B F X N1 T XB TB hk hd hu fun r news' h' tk' F' N' O => ?_
  obtain ⟨to', tv, cv', rfl, hc', rfl⟩ := O
  exact hq to' tv cv' h' tk' hc' F' N'

end
example : True := by
  k_with_none
  k_with "enter_cells" => (refine' code_defC (by k_asm) (by k_asm) (by k_asm) (by k_asm) (by k_asm) (by exact rfl) (by exact rfl) (by assumption) (by k_is) (by k_is) (by ktr_room) (by exact BindsTo.of_eq rfl) (by exact rfl) (by decide +kernel) ?_ (by exact rfl) (by exact rfl) (by exact rfl); k_whole; intro g' L' h' tk' cells' FG' F' N' Y' B' X' T' l1; (try k_lt l1); k_cells Y'; (try simp only [List.cons_append, List.nil_append] at N'); (try dsimp only); (try k_lift B'); (try k_fold))
  k_with "eval ListComp" => (k_here; first | ((with_reducible show wpAny _ _ (eval (PySem.Expr.ListComp _ [PySem.Comprehension.mk _ _ [_] _] _ _) _) _ _ _); k_dflt (refine LCt.ListComp_T (F₀ := by k_asm) (by with_unfolding_all rfl) (by decide) (by rfl) (by decide) (by rfl) ?_)) | ((with_reducible show wpAny _ _ (eval (PySem.Expr.ListComp _ [PySem.Comprehension.mk _ _ [] _] _ _) _) _ _ _); k_dflt (refine LCg.ListComp_U (F₀ := by k_asm) (by with_unfolding_all rfl) (by decide) (by rfl) (by decide) (by rfl) ?_)))
  k_with "is_comp" => first | (with_reducible refine' LCt.CompSrcT.range ?_ ?_ ?_ ?_ ?_ ?_ ?_ ?_) | (with_reducible refine' LCg.CompSrc.range ?_ ?_ ?_ ?_ ?_ ?_ ?_ ?_) | (with_reducible refine' LCt.CompSrcT.ledger ?_ ?_ ?_ ?_ ?_ ?_) | (with_reducible refine' LCg.CompSrc.ledger ?_ ?_ ?_ ?_ ?_ ?_)
  k_with "to_comp" => repeat' (first | ((fail_if_success (walk_at "is_comp")); first | (k_unfold; (try dsimp only)) | (k_end; wrow_close) | walk1 | (dsimp only; walk1) | (leave1; try dsimp only)))
  k_with "comp_range" => first | (refine' LCt.CompSrcT.range (by exact rfl) (by k_asm) (by k_asm) (by assumption) (by exact small_one (by omega) (by omega) (by omega) (by omega)) (by first | exact rangeSize_nat _ _ | rfl) (by rw [PySem.sizeLine_eq]; omega) ?_; intro g') | (refine' LCg.CompSrc.range (by exact rfl) (by k_asm) (by k_asm) (by assumption) (by exact small_one (by omega) (by omega) (by omega) (by omega)) (by first | exact rangeSize_nat _ _ | rfl) (by rw [PySem.sizeLine_eq]; omega) ?_; intro g')
  k_with "mem_tail" => (intro q9 hq9; repeat' (first | with_reducible exact hq9 | refine List.mem_cons_of_mem _ ?_))
  k_with "news_sub" => first | k_asm | (refine news_sub (by k_asm) ?_; walk_at "mem_tail")
  k_with "led_lt" => first | assumption | (refine led_lt (by k_asm) ?_; walk_at "mem_tail") | ((with_reducible rename AllLt _ _ => ql9); exact ktn_ltOf ql9) | ((with_reducible rename _ ∧ AllLt _ _ => ql9); exact ktn_ltOf ql9.2) | ((with_reducible rename _ ∧ _ ∧ AllLt _ _ => ql9); exact ktn_ltOf ql9.2.2)
  k_with "mem_at" => first | exact List.Mem.head _ | (refine List.Mem.tail _ ?_; walk_at "mem_at")
  k_with "mem_any" => first | exact mem_nil_all | exact fun _ h => h | (refine mem_cons_all (by walk_at "mem_at") (by walk_at "mem_any")) | (walk_at "mem_tail")
  k_with "to_while" => repeat' (first | ((fail_if_success (with_reducible show wpAny _ _ (exec (Stmt.While _ _ _ _) _) _ _ _)); first | (k_unfold; (try dsimp only)) | (k_end; wrow_close) | walk1 | (dsimp only; walk1) | (leave1; try dsimp only)))
  k_with "ne9" => first | assumption | exact Nat.ne_of_lt (by omega) | exact Nat.ne_of_gt (by omega) | k_ne
  k_with "enter_n" => (refine' code_def (by k_asm) (by k_asm) (by k_asm) (by k_asm) (by k_asm) (by exact rfl) (by exact rfl) (by first | exact rfl | assumption) (by k_is) (by k_is) (by ktr_room) (by first | exact BindsTo.of_eq rfl | exact binds_K (by k_in) rfl (by k_is) rfl rfl rfl) (by exact locs rfl) ?_ (by exact rfl) (by exact rfl) (by exact rfl) (by decide); k_whole)
  k_with "enter_y" => (walk_at "enter_n"; intro g' L' h' FG' F' N' B' X' T'; (try dsimp only); (try k_lift B'); (try k_fold))
  k_with "call builtin:str.join" => (k_here; (with_reducible show wpAny _ _ (call (Value.builtin "str.join") [Value.str _ _, Value.ref _]) _ _ _); (with_reducible rename CarriedAll _ (List.map (fun _ => PyData.str (chr _)) _) => ktC); (refine join_chrs (by first | is_list | exact News.isList (by k_asm) (by k_mem)) ktC (by first | omega | (refine Nat.le_trans (pickC_len _ _ _ _) ?_; omega)) ?_; intro _ _))
  k_with "call ref" => (k_here; (with_reducible show wpAny _ _ (call (Value.ref 519) _) _ _ _); k_dflt (refine' draw_use (by k_asm) (by k_asm) (by k_asm) (by k_asm) (by k_asm) (by first | exact rfl | assumption) (by ktr_room) (by ktr_units) (by walk_at "upd") (by exact rfl) (by k_mem) (by assumption) (by assumption) (by assumption) (by assumption) (by omega) ?_); intro v9 t9 u9 n9 h9 tk9 F9 N9; (try dsimp only at N9); (try dsimp only); (try k_fold); (try k_sweep))
  k_with "call ref" => (k_here; (with_reducible show wpAny _ _ (call (Value.ref 67) _) _ _ _); k_dflt (refine' span_use (by k_asm) (by k_asm) (by k_asm) (by k_asm) (by k_asm) (by first | exact rfl | assumption) (by ktr_room) (by ktr_units) (by first | assumption | exact CntV.none | exact CntV.int _ _) (by omega) ?_ ?_); (first | (intro h9 tk9 hs9 F9 N9) | (intro b9 e9 d9 t9 u9 h9 tk9 hs9 ha9 hb9 hc9 F9 N9 hl9; k_lt hl9)) <;> (try dsimp only) <;> (try k_fold) <;> (try k_sweep))
  k_with "call ref" => (k_here; (with_reducible show wpAny _ _ (call (Value.ref 74) _) _ _ _); k_dflt (refine' value_use (by k_asm) (by k_asm) (by k_asm) (by k_asm) (by k_asm) (by first | exact rfl | assumption) (by ktr_room) (by ktr_units) (by first | assumption | exact CntV.none | exact CntV.int _ _) (by omega) ?_ ?_); (first | (intro h9 tk9 hs9 F9 N9) | (intro z9 t9 h9 tk9 hs9 F9 N9)) <;> (try dsimp only) <;> (try k_fold) <;> (try k_sweep))
  k_with "call ref" => (k_here; (with_reducible show wpAny _ _ (call (Value.ref 531) _) _ _ _); k_dflt (refine' ends_use (by k_asm) (by k_asm) (by k_asm) (by k_asm) (by k_asm) (by first | exact rfl | assumption) (by ktr_room) (by ktr_units) (by k_mem) (by first | assumption | exact CntV.none | exact CntV.int _ _) ?_); intro B9 e9 d9 t9 u9 h9 tk9 hb9 he9 F9 N9 hl9; k_lt hl9; (try dsimp only); (try k_fold); (try k_sweep))
  k_with "call ref" => (k_here; (with_reducible show wpAny _ _ (call (Value.ref 536) _) _ _ _); k_dflt (refine' part_use (by k_asm) (by k_asm) (by k_asm) (by k_asm) (by k_asm) (by first | exact rfl | assumption) (by ktr_room) (by ktr_units) (by k_mem) (by first | assumption | exact CntV.none | exact CntV.int _ _) (by omega) ?_ ?_); (first | (intro h9 tk9 hs9 F9 N9) | (intro d9 z9 p9 t9 u9 h9 tk9 hs9 hf9 F9 N9 hl9; (try k_lt hl9))) <;> (try dsimp only) <;> (try k_fold) <;> (try k_sweep))
  k_with "call ref" => (k_here; (with_reducible show wpAny _ _ (call (Value.ref 524) _) _ _ _); (try k_fmods); k_dflt (refine' word_use (by k_asm) (by k_asm) (by k_asm) (by k_asm) (by k_asm) (by first | exact rfl | assumption) (by ktr_room) (by ktr_units) (by walk_at "upd") (by exact rfl) (by k_mem) (by assumption) (by assumption) (by assumption) (by assumption) (by omega) (by omega) (by omega) ?_); intro z9 t9 u9 n9 h9 tk9 zl9 zok9 F9 N9; (try dsimp only at N9); (try dsimp only); (try k_fold); (try k_sweep))
  k_with "call ref" => (k_here; (with_reducible show wpAny _ _ (call (Value.ref 541) _) _ _ _); k_dflt (refine' places_use (by k_asm) (by k_asm) (by k_asm) (by k_asm) (by k_asm) (by first | exact rfl | assumption) (by ktr_room) (by ktr_units) (by omega) (by omega) ?_); intro d9 vs9 n9 h9 tk9 hp9 F9 N9 hl9; (try simp only [List.forall_mem_cons] at hl9); (try dsimp only); (try k_fold); (try k_sweep))
  k_with "call ref" => (k_here; (with_reducible show wpAny _ _ (call (Value.ref 548) _) _ _ _); k_dflt (refine' lput_use (by k_asm) (by k_asm) (by k_asm) (by k_asm) (by k_asm) (by first | exact rfl | assumption) (by ktr_room) (by ktr_units) (by k_mem) (by first | assumption | exact CntV.none | exact CntV.int _ _) (by omega) (by omega) ?_ ?_); (first | (intro d9 e9 z9 v9 o9 c9 cv9 t9 u9 w9 h9 tk9 hs9 hc9 F9 N9 hl9 he9; (try k_lt hl9)) | (intro h9 tk9 hs9 F9 N9)) <;> (try dsimp only) <;> (try k_fold) <;> (try k_sweep))
  k_with "call ref" => (k_here; (with_reducible show wpAny _ _ (call (Value.ref 555) _) _ _ _); k_dflt (refine' given_none (by k_asm) (by k_asm) (by k_asm) (by k_asm) (by k_asm) (by k_asm) (by k_asm) (by first | exact rfl | assumption) (by ktr_room) (by ktr_units) (by first | assumption | exact CntV.none | exact CntV.int _ _) (by omega) (by omega) (by assumption) ?_); intro h9 tk9 F9 N9; (try dsimp only); (try k_fold); (try k_sweep))
  k_with "call ref" => (k_here; (with_reducible show wpAny _ _ (call (Value.ref 555) _) _ _ _); k_dflt (refine' given_some (by k_asm) (by k_asm) (by k_asm) (by k_asm) (by k_asm) (by k_asm) (by k_asm) (by first | exact rfl | assumption) (by ktr_room) (by ktr_units) (by first | assumption | exact CntV.none | exact CntV.int _ _) (by omega) (by omega) (by assumption) ?_); intro d9 t9 u9 h9 tk9 F9 N9 hl9; (try k_lt hl9); (try dsimp only); (try k_fold); (try k_sweep))
  k_with "call ref" => (k_here; (with_reducible show wpAny _ _ (call (Value.ref 95) _) _ _ _); k_dflt (refine' index_use (by k_asm) (by k_asm) (by k_asm) (by k_asm) (by k_asm) (by first | exact rfl | assumption) (by ktr_room) (by ktr_units) (by omega) (by omega) ?_); intro v9 t9 h9 tk9 hx9 F9 N9; (try dsimp only); (try k_fold); (try k_sweep))
  k_with "call ref" => (k_here; (with_reducible show wpAny _ _ (call (Value.ref 102) _) _ _ _); k_dflt (refine' rindex_use (by k_asm) (by k_asm) (by k_asm) (by k_asm) (by k_asm) (by first | exact rfl | assumption) (by ktr_room) (by ktr_units) (by first | assumption | exact CntV.none | exact CntV.int _ _) (by omega) (by omega) ?_); intro v9 t9 h9 tk9 hx9 F9 N9; (try dsimp only); (try k_fold); (try k_sweep))
  k_with "call ref" => (k_here; (with_reducible show wpAny _ _ (call (Value.ref 399) _) _ _ _); k_dflt (refine' store_use (by k_asm) (by k_asm) (by k_asm) (by k_asm) (by k_asm) (by first | exact rfl | assumption) (by ktr_room) (by ktr_units) (by k_mem) (by k_mem) (by k_mem) (by k_mem) (by walk_at "upd") (by walk_at "ne9") (by walk_at "ne9") (by walk_at "ne9") (by walk_at "ne9") (by assumption) (by assumption) (by assumption) ?_); intro h9 tk9 F9 N9; (try dsimp only at N9); (try dsimp only); (try k_fold); (try k_sweep))
  k_with "call ref" => (k_here; (with_reducible show wpAny _ _ (call (Value.ref 459) []) _ _ _); k_dflt (refine' limits_use (by k_asm) (by k_asm) (by k_asm) (by k_asm) (by k_asm) (by first | exact rfl | assumption) (by ktr_room) (by ktr_units) ?_); intro l9 h9 tk9 F9 N9; (try dsimp only); (try k_fold); (try k_sweep))
  k_with "call ref" => (k_here; (with_reducible show wpAny _ _ (call (Value.ref 306) _) _ _ _); k_dflt (refine' heap_use (by k_asm) (by k_asm) (by k_asm) (by k_asm) (by k_asm) (by first | exact rfl | assumption) (by ktr_room) (by ktr_units) ?_); intro ha9 hd9 t9 u9 v9 w9 z9 h9 tk9 F9 N9 hl9 ho9; (have hl8 := hl9; (try k_lt hl8)); (try dsimp only); (try k_fold); (try k_sweep))
  k_with "call ref" => (k_here; (with_reducible show wpAny _ _ (call (Value.ref 437) _) _ _ _); k_dflt (refine' counter_use (by k_asm) (by k_asm) (by k_asm) (by k_asm) (by k_asm) (by first | exact rfl | assumption) (by ktr_room) (by ktr_units) ?_); intro ca9 cd9 pd9 t9 u9 v9 ob9 h9 tk9 F9 N9 hl9 ho9 hp9 lo9 hs9 hi9; (have hl8 := hl9; (try k_lt hl8)); (try dsimp only); (try k_fold); (try k_sweep))
  k_with "call ref" => (k_here; (with_reducible show wpAny _ _ (call (Value.ref 406) _) _ _ _); k_dflt (refine' fresh_use (by k_asm) (by k_asm) (by k_asm) (by k_asm) (by k_asm) (by first | exact rfl | assumption) (by ktr_room) (by ktr_units) (by assumption) (by omega) (by omega) (by omega) (by omega) ?_); intro sa9 sd9 a9 b9 c9 d9 e9 f9 g9 i9 tn9 tc9 wk9 h9 tk9 F9 N9 ho9 hp9; (try dsimp only); (try k_fold); (try k_sweep))
  k_with "call ref" => (k_here; (with_reducible show wpAny _ _ (call (Value.ref 501) _) _ _ _); k_dflt (refine' lvt_use (by k_asm) (by k_asm) (by k_asm) (by k_asm) (by k_asm) (by first | exact rfl | assumption) (by ktr_room) (by ktr_units) (by first | assumption | exact CntV.none | exact CntV.int _ _) ?_); intro la9 ld9 t9 u9 v9 w9 x9 h9 tk9 F9 N9 hl9 ho9; (have hl8 := hl9; (try k_lt hl8)); (try dsimp only); (try k_fold); (try k_sweep))
  k_with "call ref" => (k_here; (with_reducible show wpAny _ _ (call (Value.ref 338) _) _ _ _); k_dflt (refine' vo_use (by k_asm) (by k_asm) (by k_asm) (by k_asm) (by k_asm) (by first | exact rfl | assumption) (by ktr_room) (by ktr_units) (by k_mem) (by k_mem) ?_); intro h9 tk9 F9 N9; (try dsimp only) <;> (try k_fold) <;> (try k_sweep))
  k_with "call ref" => (k_here; (with_reducible show wpAny _ _ (call (Value.ref 484) _) _ _ _); k_dflt (refine' beg_use (by k_asm) (by k_asm) (by k_asm) (by k_asm) (by k_asm) (by first | exact rfl | assumption) (by ktr_room) (by ktr_units) (by k_mem) (by k_mem) ?_); intro t9 h9 tk9 F9 N9; (try dsimp only) <;> (try k_fold) <;> (try k_sweep))
  k_with "call ref" => (k_here; (with_reducible show wpAny _ _ (call (Value.ref 491) _) _ _ _); k_dflt (refine' get_use (by k_asm) (by k_asm) (by k_asm) (by k_asm) (by k_asm) (by first | exact rfl | assumption) (by ktr_room) (by ktr_units) (by k_mem) (by k_mem) (by k_mem) (by k_mem) (by first | assumption | exact CntV.none | exact CntV.int _ _) (by omega) ?_ ?_); (first | (intro h9 tk9 hs9 F9 N9) | (intro z9 t9 h9 tk9 hs9 F9 N9)) <;> (try dsimp only) <;> (try k_fold) <;> (try k_sweep))
  trivial
local macro_rules | `(tactic| walk_at "drop") => `(tactic| first | (refine' Drop.head ?a; (case a => k_all)) | (refine' Drop.tail ?a ?b; (case a => first | assumption | k_ne); (case b => walk_at "drop")))
example : True := by
  k_with "call ref" => (k_here; (with_reducible show wpAny _ _ (call (Value.ref 562) _) _ _ _); k_dflt (refine' set_none (by k_asm) (by k_asm) (by k_asm) (by k_asm) (by k_asm) (by k_asm) (by k_asm) (by first | exact rfl | assumption) (by ktr_room) (by ktr_units) (by k_mem) (by k_mem) (by k_mem) (by k_mem) (by first | assumption | exact CntV.none | exact CntV.int _ _) (by omega) (by assumption) ?_); intro h9 tk9 F9 N9; (try dsimp only); (try k_fold); (try k_sweep))
  k_with "call ref" => (k_here; (with_reducible show wpAny _ _ (call (Value.ref 562) _) _ _ _); k_dflt (refine' set_some (by k_asm) (by k_asm) (by k_asm) (by k_asm) (by k_asm) (by k_asm) (by k_asm) (by first | exact rfl | assumption) (by ktr_room) (by ktr_units) (by k_mem) (by k_mem) (by k_mem) (by k_mem) (by walk_at "drop") (by walk_at "drop") (by first | assumption | exact CntV.none | exact CntV.int _ _) (by omega) (by omega) (by k_mem) (by k_mem) (by k_mem) (by k_mem) (by k_mem) (by walk_at "ne9") (by walk_at "ne9") (by walk_at "ne9") (by walk_at "ne9") (by walk_at "ne9") (by assumption) (by assumption) (by assumption) (by assumption) ?_); intro to9 tv9 cv9 h9 tk9 hc9 F9 N9; (try dsimp only); (try k_fold); (try k_sweep))
  trivial
section
section
open PyProof PySem.Builtin
variable {prog : Program} {w : World} {A : Around} {E : Value → Shared → Prop} {s : Shared} {h₀ : Heap} {L : Addr} {m : Str → Option Value} {news : List (Addr × Obj)}
theorem applied_two {sl : Addr} {u : Tok} {Q : Int × Int × Nat → Shared → Prop} (hs : s.heap.IsSliceOf sl .none (.int 2 u) .none) (h : Q (0, 1, 2) s) :
    wpAny (model prog w) A (Builtin.Slice.sliceApplied (.ref sl) (pure (3 : Int))) Q E s := by
  obtain ⟨os, hos, hcs, hds⟩ := id hs
  unfold Builtin.Slice.sliceApplied Builtin.Slice.sliceFields
  refine wpAny_bind (wpAny_bind (wpAny_field hos hds (x := .none) rfl (wpAny_bind (wpAny_field hos hds (x := .int 2 u) rfl (wpAny_bind (wpAny_field hos hds (x := .none) rfl (wpAny_pure ?_)))))))
  refine wpAny_bind (slicePart_none ?_)
  show wpAny _ _ (if ((1 : Int) == 0) = true then _ else _) _ _ s
  rw [if_neg (by decide)]
  refine wpAny_bind (slicePart_none (wpAny_bind (slicePart_int (wpAny_bind (wpAny_pure ?_)))))
  exact wpAny_pure h
theorem item_two {t sl : Addr} {a b c : Value} {u : Tok} {Q : Value → Shared → Prop} (ht : IsTup s.heap t #[a, b, c]) (hs : s.heap.IsSliceOf sl .none (.int 2 u) .none)
    (h : Q (.ref s.heap.objs.size) { s with heap := s.heap.push { cls := .type "tuple", data := .seq #[a, b] } }) : wpAny (model prog w) A (getItem (.ref t) (.ref sl)) Q E s := by
  have hdrop : sizeOk (.seq #[a, b]) := by
    show (2 : Nat) ≤ sizeLine
    exact Nat.le_of_ble_eq_true rfl
  obtain ⟨os, hos, hcs, hds⟩ := id hs
  have hTs : s.TypeIs (.ref sl) "slice" := ⟨os, hos, hcs⟩
  unfold getItem
  try with_reducible refine wpAny_holding ?_
  first | refine wpAny_bind (wpAny_pure ?_) | skip
  refine wpAny_bind (wpAny_sequenceKey ht.typeIs (by decide) ?_)
  refine wpAny_bind (wpAny_callSpecial?_slot (name := Str.ofString "__getitem__") ht.typeIs slot_tuple_getitem
    (wpAny_call_entry slot_tuple_getitem ht.typeIs entry_tuple_getitem ?_ (args_tuple_getitem _ _)))
  show wpAny _ _ (Builtin.Tuple.tupleItemsOf (.ref t) >>= _) _ _ s
  refine wpAny_bind (tupleItemsOf_ ht ?_)
  refine wpAny_bind (wpAny_typeOf hTs ?_)
  rw [if_pos (by decide)]
  refine wpAny_bind (applied_two hs ?_)
  show wpAny _ _ (if ((0 : Int) == 0 && (1 : Int) == 1 && (2 : Nat) == 3) = true then _ else _) _ _ s
  rw [if_neg (by decide)]
  first
    | exact wpAny_bind (m := Builtin.Tuple.tupleExact _) (wpAny_newObj_type (wpAny_pure ⟨_, rfl, wpAny_pure h⟩) hdrop)
    | exact wpAny_bind (m := Builtin.Tuple.tupleExact _) (wpAny_newObj_type (wpAny_bind (wpAny_pure (wpAny_pure ⟨_, rfl, wpAny_pure h⟩))) hdrop)
    | exact wpAny_bind (wpAny_bind (m := Builtin.Tuple.tupleExact _) (wpAny_newObj_type (wpAny_pure (wpAny_pure ⟨_, rfl, wpAny_pure h⟩)) hdrop))
    | exact wpAny_bind (wpAny_bind (m := Builtin.Tuple.tupleExact _) (wpAny_newObj_type (wpAny_pure ⟨_, rfl, wpAny_pure h⟩) hdrop))
theorem tail_two {value slice : Expr} {t : Addr} {a b c : Value} {u : Tok} {Q : Value → Shared → Prop}
    (F : Fr h₀ L s.heap m) (N : News h₀ L s.heap news) (ht : (t, tup [a, b, c]) ∈ news)
    (h : ∀ D h', Fr h₀ L h' m → News h₀ L h' ((D, tup [a, b]) :: news) → (∀ p ∈ news, p.1 < D) → Q (.ref D) { s with heap := h' })
    (hs : subscripted slice false (.ref t) (.ref s.heap.objs.size) = operate [.ref s.heap.objs.size, .ref t] (getItem (.ref t) (.ref s.heap.objs.size)))
    (hg : ∀ r, letTemporaryGo value (.ref t) r = pure ()) :
    wpAny (model prog w) A (subscriptTail value slice (.ref t) (.ref s.heap.objs.size)) Q E { s with heap := s.heap.push { cls := .type "slice", data := .fields #[.none, .int 2 u, .none] } } := by
  have ht0 : IsTup s.heap t #[a, b, c] := ⟨_, (N _ ht).1, rfl, _, rfl⟩
  have ht' : IsTup (s.heap.push { cls := .type "slice", data := .fields #[.none, .int 2 u, .none] }) t #[a, b, c] := ht0.keeps fun _ _ e => Heap.get?_push_of_some _ e
  refine subscriptTail_ops (s := { s with heap := s.heap.push { cls := .type "slice", data := .fields #[.none, .int 2 u, .none] } }) ht'.typeIs slot_tuple_getitem.lookup
    (item_two ht' (Heap.IsSliceOf.new ..) ?_) hs hg
  have N1 := News.push (F.push { cls := .type "slice", data := .fields #[.none, .int 2 u, .none] }) (N.grown fun _ _ e => Heap.get?_push_of_some _ e) (tup [a, b])
  exact h _ _ ((F.push _).push _) N1 fun p hp => by
    rw [Heap.size_push]
    exact Nat.lt_succ_of_lt (Heap.lt_size (N p hp).1)
end
theorem ne_two {prog : Program} {w : World} {A : Around} {E : Value → Shared → Prop} {s : Shared} {h₀ : Heap} {L : Addr} {news : List (Addr × Obj)} {a b : Addr} {z v : Str} {t1 t2 t3 t4 : Tok} {Q : Value → Shared → Prop}
    (N : News h₀ L s.heap news) (ha : (a, tup [.str z t1, .str v t2]) ∈ news) (hb : (b, tup [.str z t3, .str v t4]) ∈ news) (okz : PyData.strOk z = true) (okv : PyData.strOk v = true) (hu : A.units + 64 < cLine) (h : Q (.bool false) s) :
    wpAny (model prog w) A (compareOp .NotEq (.ref a) (.ref b)) Q E s := by
  have sh : SeqAt.shaped (PyData.tuple [PyData.str z, PyData.str v]) = true := by simp [SeqAt.shaped, PyData.canLay0, PyData.canLayAll0, PyData.depth, PyData.depthAll, okz, okv]
  refine ne_dataH (reads_tuple_at (News.get N ha) rfl rfl (.cons (.str _ _) (.cons (.str _ _) .nil))) (reads_tuple_at (News.get N hb) rfl rfl (.cons (.str _ _) (.cons (.str _ _) .nil))) sh sh hu ?_
  simp only [PyData.eqv, PyData.eqvAll, beq_self_eq_true, Bool.and_true, Bool.not_true]
  exact h

end
example : True := by
  k_with "subscriptTail Name Slice ref ref" => (k_here; (with_reducible show wpAny _ _ (subscriptTail _ (PySem.Expr.Slice none _ none _) (Value.ref _) (Value.ref _)) _ _ _); k_dflt (refine' tail_two (by k_asm) (by k_asm) (by k_mem) ?_ (by with_unfolding_all rfl) (by intro _; with_unfolding_all rfl)); intro D9 h9 F9 N9 hl9; (try k_lt hl9); (try dsimp only))
  k_with "compareOp NotEq ref ref" => (k_here; (with_reducible show wpAny _ _ (compareOp CmpOp.NotEq (Value.ref _) (Value.ref _)) _ _ _); k_dflt (refine' ne_two (by k_asm) (by k_mem) (by k_mem) (by assumption) (by assumption) (by first | ktr_units | exact Nat.le_of_ble_eq_true rfl | (show _ < _; decide)) ?_))
  k_with "subscriptTail" => (k_here; (with_reducible show wpAny _ _ (subscriptTail _ _ (Value.ref _) (Value.int _ _)) _ _ _); k_dflt (refine' item_tupleT (by exact News.isTup (by k_asm) (by k_mem)) (by decide) (by decide) (by rfl) (by rfl) ?_; k_whole))
  k_with "subscriptTail Name Constant ref int" => (k_here; (with_reducible show wpAny _ _ (subscriptTail _ _ (Value.ref _) (Value.int _ _)) _ _ _); k_dflt (refine' item_tupleT (by exact News.isTup (by k_asm) (by k_mem)) (by decide) (by decide) (by rfl) (by rfl) ?_; k_whole))
  trivial
section
/-- the loop's body, cut in pieces -/
noncomputable def loopBody (P : Params) : List Stmt := match (fnBody P 567).drop 14 with
  | .For _ _ b _ _ :: _ => b
  | _ => []
noncomputable def loopCut (P : Params) (i j : Nat) : List Stmt := ((loopBody P).drop i).take j
theorem loop_as {prog : Program} {w : World} {oc : Value} {od : Option Addr} {osl : Array (Option Value)} {name qual : Str} {params : Arguments} {body : List Stmt} {scope : Scope} {dV kV doc pm cdv ct : Value} {an : Option Addr} {L f : Addr} {cd : Value} {i j : Nat} {Q : Flow → Shared → Prop} {E : Value → Shared → Prop} {s : Shared} {tg it : Expr} {lb oe r : List Stmt} {ps : Pos}
    (ho : (K w.params).lookup 567 = some ⟨oc, od, .func (fnOf name qual params body scope dV kV doc pm an cdv ct), osl⟩) (hb : body.drop 14 = .For tg it lb oe ps :: r)
    (h : wpAny (model prog w) (callerA.deeper (envOfC (Str.ofString "law") scope L f cd)) (execs ((lb.drop i).take j) (envOfC (Str.ofString "law") scope L f cd)) Q E s) :
    wpAny (model prog w) (callerA.deeper (lawEnv w.params L f cd)) (execs (loopCut w.params i j) (lawEnv w.params L f cd)) Q E s := by
  have e1 : fnBody w.params 567 = body := by unfold fnBody; rw [ho]
  have e2 : fnScope w.params 567 = scope := by unfold fnScope; rw [ho]
  have e3 : loopBody w.params = lb := by unfold loopBody; rw [e1, hb]
  unfold lawEnv loopCut
  rw [e2, e3]
  exact h

end
section
example : True := by
  k_with "subscriptTail Name Slice ref ref" => (k_here; (with_reducible show wpAny _ _ (subscriptTail _ (PySem.Expr.Slice _ _ none _) (Value.ref _) (Value.ref _)) _ _ _); k_dflt (refine' kmk_slice_ints (by k_asm) (by k_asm) (by kmk_list) (by kmk_part) (by kmk_part) (by l_ints) (by first | exact kmk_from (by l_ints) (Int.natCast_nonneg _) | kmk_nums) (by kmk_len) ?_ (by with_unfolding_all rfl) (by kmk_pure) (by kmk_size)); intro D' ws' h' F' N' l1 hI' hC' hL'; (try simp only [Int.reduceNeg, Int.neg_neg, Int.reduceToNat] at hI' hC' hL'); (try k_lt l1); (try k_sweep))
  trivial
set_option linter.unusedSimpArgs false in
set_option maxHeartbeats 4000000 in
theorem law_0 {prog : Program} {w : World} {p : Program} {loose : List Str} {mean : ExcName → Option Value} {mg mb : Str → Option Value} {h₀ : Heap} {L f l : Addr} {cd : Value} {s : Shared} {u : Str → Option Value} {o1 o2 o3 : Obj} {vs : List Value} {ns : List Int} {Q : Flow → Shared → Prop} {E : Value → Shared → Prop}
    (B : Below callerA h₀ [] h₀) (T : Top p loose mean mg mb h₀) (X : (K w.params).In h₀)
    (F : Fr h₀ L s.heap (fun z => if z = Str.ofString "script" then some (.ref l) else u z))
    (N : News h₀ L s.heap [(L + 1 + 1 + 1, o3), (L + 1 + 1, o2), (L + 1, o1)]) (d1 : o1.data = .cell none) (d2 : o2.data = .cell none) (d3 : o3.data = .cell none)
    (hl : h₀.IsList l vs.toArray) (hi : IntsAre vs ns) (hn : ns.length ≤ 63)
    (next : ∀ (pn i : Addr) (vs' : List Value) (ns' : List Int) (n n' : Nat) (t : Tok) (u' : Str → Option Value) h' tk', Fr h₀ L h' (fun z => if z = Str.ofString "pen" then some (.ref pn) else u' z) →
      News h₀ L h' [(pn, lst [.ref i, .int 0 t] n), (i, lst vs' n'), (L + 1 + 1 + 1, o3), (L + 1 + 1, o2), (L + 1, o1)] → IntsAre vs' ns' → 0 < ns'.length → ns'.length < 2 ^ 20 → L + 1 + 1 + 1 < i → i < pn → Q .next { s with heap := h', toks := tk' }) :
    wpAny (model prog w) (callerA.deeper (lawEnv w.params L f cd)) (execs (lawCut w.params 0 2) (lawEnv w.params L f cd)) Q E s := by
  w_top off
  refine' law_as ?k6 ?_
  (case k6 => k_is)
  simp only [List.drop, List.take]
  k_steps
  (with_reducible rename IntsAre _ (_ ++ _) => hI9)
  refine next _ _ _ _ _ _ _ _ _ _ (by k_asm) (news_sub (by k_asm) (by walk_at "mem_any")) hI9 ?_ ?_ ?_ ?_
  · simp only [List.length_append, List.length_take, List.length_drop, List.length_cons, List.length_nil]

    omega
  · simp only [List.length_append, List.length_take, List.length_drop, List.length_cons, List.length_nil]
    omega
  · show (_ : Nat) < _; omega
  · show (_ : Nat) < _; omega

end
example : True := by
  k_with_none
  k_with "enter_cells" => (refine' code_defC (by k_asm) (by k_asm) (by k_asm) (by k_asm) (by k_asm) (by exact rfl) (by exact rfl) (by assumption) (by k_is) (by k_is) (by ktr_room) (by exact BindsTo.of_eq rfl) (by exact rfl) (by decide +kernel) ?_ (by exact rfl) (by exact rfl) (by exact rfl); k_whole; intro g' L' h' tk' cells' FG' F' N' Y' B' X' T' l1; (try k_lt l1); k_cells Y'; (try simp only [List.cons_append, List.nil_append] at N'); (try dsimp only); (try k_lift B'); (try k_fold))
  k_with "eval ListComp" => (k_here; first | ((with_reducible show wpAny _ _ (eval (PySem.Expr.ListComp _ [PySem.Comprehension.mk _ _ [_] _] _ _) _) _ _ _); k_dflt (refine LCt.ListComp_T (F₀ := by k_asm) (by with_unfolding_all rfl) (by decide) (by rfl) (by decide) (by rfl) ?_)) | ((with_reducible show wpAny _ _ (eval (PySem.Expr.ListComp _ [PySem.Comprehension.mk _ _ [] _] _ _) _) _ _ _); k_dflt (refine LCg.ListComp_U (F₀ := by k_asm) (by with_unfolding_all rfl) (by decide) (by rfl) (by decide) (by rfl) ?_)))
  k_with "is_comp" => first | (with_reducible refine' LCt.CompSrcT.range ?_ ?_ ?_ ?_ ?_ ?_ ?_ ?_) | (with_reducible refine' LCg.CompSrc.range ?_ ?_ ?_ ?_ ?_ ?_ ?_ ?_) | (with_reducible refine' LCt.CompSrcT.ledger ?_ ?_ ?_ ?_ ?_ ?_) | (with_reducible refine' LCg.CompSrc.ledger ?_ ?_ ?_ ?_ ?_ ?_)
  k_with "to_comp" => repeat' (first | ((fail_if_success (walk_at "is_comp")); first | (k_unfold; (try dsimp only)) | (k_end; wrow_close) | walk1 | (dsimp only; walk1) | (leave1; try dsimp only)))
  k_with "comp_range" => first | (refine' LCt.CompSrcT.range (by exact rfl) (by k_asm) (by k_asm) (by assumption) (by exact small_one (by omega) (by omega) (by omega) (by omega)) (by first | exact rangeSize_nat _ _ | rfl) (by rw [PySem.sizeLine_eq]; omega) ?_; intro g') | (refine' LCg.CompSrc.range (by exact rfl) (by k_asm) (by k_asm) (by assumption) (by exact small_one (by omega) (by omega) (by omega) (by omega)) (by first | exact rangeSize_nat _ _ | rfl) (by rw [PySem.sizeLine_eq]; omega) ?_; intro g')
  k_with "mem_tail" => (intro q9 hq9; repeat' (first | with_reducible exact hq9 | refine List.mem_cons_of_mem _ ?_))
  k_with "news_sub" => first | k_asm | (refine news_sub (by k_asm) ?_; walk_at "mem_tail")
  k_with "led_lt" => first | assumption | (refine led_lt (by k_asm) ?_; walk_at "mem_tail") | ((with_reducible rename AllLt _ _ => ql9); exact ktn_ltOf ql9) | ((with_reducible rename _ ∧ AllLt _ _ => ql9); exact ktn_ltOf ql9.2) | ((with_reducible rename _ ∧ _ ∧ AllLt _ _ => ql9); exact ktn_ltOf ql9.2.2)
  k_with "mem_at" => first | exact List.Mem.head _ | (refine List.Mem.tail _ ?_; walk_at "mem_at")
  k_with "mem_any" => first | exact mem_nil_all | exact fun _ h => h | (refine mem_cons_all (by walk_at "mem_at") (by walk_at "mem_any")) | (walk_at "mem_tail")
  k_with "to_while" => repeat' (first | ((fail_if_success (with_reducible show wpAny _ _ (exec (Stmt.While _ _ _ _) _) _ _ _)); first | (k_unfold; (try dsimp only)) | (k_end; wrow_close) | walk1 | (dsimp only; walk1) | (leave1; try dsimp only)))
  k_with "ne9" => first | assumption | exact Nat.ne_of_lt (by omega) | exact Nat.ne_of_gt (by omega) | k_ne
  k_with "enter_n" => (refine' code_def (by k_asm) (by k_asm) (by k_asm) (by k_asm) (by k_asm) (by exact rfl) (by exact rfl) (by first | exact rfl | assumption) (by k_is) (by k_is) (by ktr_room) (by first | exact BindsTo.of_eq rfl | exact binds_K (by k_in) rfl (by k_is) rfl rfl rfl) (by exact locs rfl) ?_ (by exact rfl) (by exact rfl) (by exact rfl) (by decide); k_whole)
  k_with "enter_y" => (walk_at "enter_n"; intro g' L' h' FG' F' N' B' X' T'; (try dsimp only); (try k_lift B'); (try k_fold))
  k_with "call builtin:str.join" => (k_here; (with_reducible show wpAny _ _ (call (Value.builtin "str.join") [Value.str _ _, Value.ref _]) _ _ _); (with_reducible rename CarriedAll _ (List.map (fun _ => PyData.str (chr _)) _) => ktC); (refine join_chrs (by first | is_list | exact News.isList (by k_asm) (by k_mem)) ktC (by first | omega | (refine Nat.le_trans (pickC_len _ _ _ _) ?_; omega)) ?_; intro _ _))
  k_with "call ref" => (k_here; (with_reducible show wpAny _ _ (call (Value.ref 519) _) _ _ _); k_dflt (refine' draw_use (by k_asm) (by k_asm) (by k_asm) (by k_asm) (by k_asm) (by first | exact rfl | assumption) (by ktr_room) (by ktr_units) (by walk_at "upd") (by exact rfl) (by k_mem) (by assumption) (by assumption) (by assumption) (by assumption) (by omega) ?_); intro v9 t9 u9 n9 h9 tk9 F9 N9; (try dsimp only at N9); (try dsimp only); (try k_fold); (try k_sweep))
  k_with "call ref" => (k_here; (with_reducible show wpAny _ _ (call (Value.ref 67) _) _ _ _); k_dflt (refine' span_use (by k_asm) (by k_asm) (by k_asm) (by k_asm) (by k_asm) (by first | exact rfl | assumption) (by ktr_room) (by ktr_units) (by first | assumption | exact CntV.none | exact CntV.int _ _) (by omega) ?_ ?_); (first | (intro h9 tk9 hs9 F9 N9) | (intro b9 e9 d9 t9 u9 h9 tk9 hs9 ha9 hb9 hc9 F9 N9 hl9; k_lt hl9)) <;> (try dsimp only) <;> (try k_fold) <;> (try k_sweep))
  k_with "call ref" => (k_here; (with_reducible show wpAny _ _ (call (Value.ref 74) _) _ _ _); k_dflt (refine' value_use (by k_asm) (by k_asm) (by k_asm) (by k_asm) (by k_asm) (by first | exact rfl | assumption) (by ktr_room) (by ktr_units) (by first | assumption | exact CntV.none | exact CntV.int _ _) (by omega) ?_ ?_); (first | (intro h9 tk9 hs9 F9 N9) | (intro z9 t9 h9 tk9 hs9 F9 N9)) <;> (try dsimp only) <;> (try k_fold) <;> (try k_sweep))
  k_with "call ref" => (k_here; (with_reducible show wpAny _ _ (call (Value.ref 531) _) _ _ _); k_dflt (refine' ends_use (by k_asm) (by k_asm) (by k_asm) (by k_asm) (by k_asm) (by first | exact rfl | assumption) (by ktr_room) (by ktr_units) (by k_mem) (by first | assumption | exact CntV.none | exact CntV.int _ _) ?_); intro B9 e9 d9 t9 u9 h9 tk9 hb9 he9 F9 N9 hl9; k_lt hl9; (try dsimp only); (try k_fold); (try k_sweep))
  k_with "call ref" => (k_here; (with_reducible show wpAny _ _ (call (Value.ref 536) _) _ _ _); k_dflt (refine' part_use (by k_asm) (by k_asm) (by k_asm) (by k_asm) (by k_asm) (by first | exact rfl | assumption) (by ktr_room) (by ktr_units) (by k_mem) (by first | assumption | exact CntV.none | exact CntV.int _ _) (by omega) ?_ ?_); (first | (intro h9 tk9 hs9 F9 N9) | (intro d9 z9 p9 t9 u9 h9 tk9 hs9 hf9 F9 N9 hl9; (try k_lt hl9))) <;> (try dsimp only) <;> (try k_fold) <;> (try k_sweep))
  k_with "call ref" => (k_here; (with_reducible show wpAny _ _ (call (Value.ref 524) _) _ _ _); (try k_fmods); k_dflt (refine' word_use (by k_asm) (by k_asm) (by k_asm) (by k_asm) (by k_asm) (by first | exact rfl | assumption) (by ktr_room) (by ktr_units) (by walk_at "upd") (by exact rfl) (by k_mem) (by assumption) (by assumption) (by assumption) (by assumption) (by omega) (by omega) (by omega) ?_); intro z9 t9 u9 n9 h9 tk9 zl9 zok9 F9 N9; (try dsimp only at N9); (try dsimp only); (try k_fold); (try k_sweep))
  k_with "call ref" => (k_here; (with_reducible show wpAny _ _ (call (Value.ref 541) _) _ _ _); k_dflt (refine' places_use (by k_asm) (by k_asm) (by k_asm) (by k_asm) (by k_asm) (by first | exact rfl | assumption) (by ktr_room) (by ktr_units) (by omega) (by omega) ?_); intro d9 vs9 n9 h9 tk9 hp9 F9 N9 hl9; (try simp only [List.forall_mem_cons] at hl9); (try dsimp only); (try k_fold); (try k_sweep))
  k_with "call ref" => (k_here; (with_reducible show wpAny _ _ (call (Value.ref 548) _) _ _ _); k_dflt (refine' lput_use (by k_asm) (by k_asm) (by k_asm) (by k_asm) (by k_asm) (by first | exact rfl | assumption) (by ktr_room) (by ktr_units) (by k_mem) (by first | assumption | exact CntV.none | exact CntV.int _ _) (by omega) (by omega) ?_ ?_); (first | (intro d9 e9 z9 v9 o9 c9 cv9 t9 u9 w9 h9 tk9 hs9 hc9 F9 N9 hl9 he9; (try k_lt hl9)) | (intro h9 tk9 hs9 F9 N9)) <;> (try dsimp only) <;> (try k_fold) <;> (try k_sweep))
  k_with "call ref" => (k_here; (with_reducible show wpAny _ _ (call (Value.ref 555) _) _ _ _); k_dflt (refine' given_none (by k_asm) (by k_asm) (by k_asm) (by k_asm) (by k_asm) (by k_asm) (by k_asm) (by first | exact rfl | assumption) (by ktr_room) (by ktr_units) (by first | assumption | exact CntV.none | exact CntV.int _ _) (by omega) (by omega) (by assumption) ?_); intro h9 tk9 F9 N9; (try dsimp only); (try k_fold); (try k_sweep))
  k_with "call ref" => (k_here; (with_reducible show wpAny _ _ (call (Value.ref 555) _) _ _ _); k_dflt (refine' given_some (by k_asm) (by k_asm) (by k_asm) (by k_asm) (by k_asm) (by k_asm) (by k_asm) (by first | exact rfl | assumption) (by ktr_room) (by ktr_units) (by first | assumption | exact CntV.none | exact CntV.int _ _) (by omega) (by omega) (by assumption) ?_); intro d9 t9 u9 h9 tk9 F9 N9 hl9; (try k_lt hl9); (try dsimp only); (try k_fold); (try k_sweep))
  k_with "call ref" => (k_here; (with_reducible show wpAny _ _ (call (Value.ref 95) _) _ _ _); k_dflt (refine' index_use (by k_asm) (by k_asm) (by k_asm) (by k_asm) (by k_asm) (by first | exact rfl | assumption) (by ktr_room) (by ktr_units) (by omega) (by omega) ?_); intro v9 t9 h9 tk9 hx9 F9 N9; (try dsimp only); (try k_fold); (try k_sweep))
  k_with "call ref" => (k_here; (with_reducible show wpAny _ _ (call (Value.ref 102) _) _ _ _); k_dflt (refine' rindex_use (by k_asm) (by k_asm) (by k_asm) (by k_asm) (by k_asm) (by first | exact rfl | assumption) (by ktr_room) (by ktr_units) (by first | assumption | exact CntV.none | exact CntV.int _ _) (by omega) (by omega) ?_); intro v9 t9 h9 tk9 hx9 F9 N9; (try dsimp only); (try k_fold); (try k_sweep))
  k_with "call ref" => (k_here; (with_reducible show wpAny _ _ (call (Value.ref 399) _) _ _ _); k_dflt (refine' store_use (by k_asm) (by k_asm) (by k_asm) (by k_asm) (by k_asm) (by first | exact rfl | assumption) (by ktr_room) (by ktr_units) (by k_mem) (by k_mem) (by k_mem) (by k_mem) (by walk_at "upd") (by walk_at "ne9") (by walk_at "ne9") (by walk_at "ne9") (by walk_at "ne9") (by assumption) (by assumption) (by assumption) ?_); intro h9 tk9 F9 N9; (try dsimp only at N9); (try dsimp only); (try k_fold); (try k_sweep))
  k_with "call ref" => (k_here; (with_reducible show wpAny _ _ (call (Value.ref 459) []) _ _ _); k_dflt (refine' limits_use (by k_asm) (by k_asm) (by k_asm) (by k_asm) (by k_asm) (by first | exact rfl | assumption) (by ktr_room) (by ktr_units) ?_); intro l9 h9 tk9 F9 N9; (try dsimp only); (try k_fold); (try k_sweep))
  k_with "call ref" => (k_here; (with_reducible show wpAny _ _ (call (Value.ref 306) _) _ _ _); k_dflt (refine' heap_use (by k_asm) (by k_asm) (by k_asm) (by k_asm) (by k_asm) (by first | exact rfl | assumption) (by ktr_room) (by ktr_units) ?_); intro ha9 hd9 t9 u9 v9 w9 z9 h9 tk9 F9 N9 hl9 ho9; (have hl8 := hl9; (try k_lt hl8)); (try dsimp only); (try k_fold); (try k_sweep))
  k_with "call ref" => (k_here; (with_reducible show wpAny _ _ (call (Value.ref 437) _) _ _ _); k_dflt (refine' counter_use (by k_asm) (by k_asm) (by k_asm) (by k_asm) (by k_asm) (by first | exact rfl | assumption) (by ktr_room) (by ktr_units) ?_); intro ca9 cd9 pd9 t9 u9 v9 ob9 h9 tk9 F9 N9 hl9 ho9 hp9 lo9 hs9 hi9; (have hl8 := hl9; (try k_lt hl8)); (try dsimp only); (try k_fold); (try k_sweep))
  k_with "call ref" => (k_here; (with_reducible show wpAny _ _ (call (Value.ref 406) _) _ _ _); k_dflt (refine' fresh_use (by k_asm) (by k_asm) (by k_asm) (by k_asm) (by k_asm) (by first | exact rfl | assumption) (by ktr_room) (by ktr_units) (by assumption) (by omega) (by omega) (by omega) (by omega) ?_); intro sa9 sd9 a9 b9 c9 d9 e9 f9 g9 i9 tn9 tc9 wk9 h9 tk9 F9 N9 ho9 hp9; (try dsimp only); (try k_fold); (try k_sweep))
  k_with "call ref" => (k_here; (with_reducible show wpAny _ _ (call (Value.ref 501) _) _ _ _); k_dflt (refine' lvt_use (by k_asm) (by k_asm) (by k_asm) (by k_asm) (by k_asm) (by first | exact rfl | assumption) (by ktr_room) (by ktr_units) (by first | assumption | exact CntV.none | exact CntV.int _ _) ?_); intro la9 ld9 t9 u9 v9 w9 x9 h9 tk9 F9 N9 hl9 ho9; (have hl8 := hl9; (try k_lt hl8)); (try dsimp only); (try k_fold); (try k_sweep))
  k_with "call ref" => (k_here; (with_reducible show wpAny _ _ (call (Value.ref 338) _) _ _ _); k_dflt (refine' vo_use (by k_asm) (by k_asm) (by k_asm) (by k_asm) (by k_asm) (by first | exact rfl | assumption) (by ktr_room) (by ktr_units) (by k_mem) (by k_mem) ?_); intro h9 tk9 F9 N9; (try dsimp only) <;> (try k_fold) <;> (try k_sweep))
  k_with "call ref" => (k_here; (with_reducible show wpAny _ _ (call (Value.ref 484) _) _ _ _); k_dflt (refine' beg_use (by k_asm) (by k_asm) (by k_asm) (by k_asm) (by k_asm) (by first | exact rfl | assumption) (by ktr_room) (by ktr_units) (by k_mem) (by k_mem) ?_); intro t9 h9 tk9 F9 N9; (try dsimp only) <;> (try k_fold) <;> (try k_sweep))
  k_with "call ref" => (k_here; (with_reducible show wpAny _ _ (call (Value.ref 491) _) _ _ _); k_dflt (refine' get_use (by k_asm) (by k_asm) (by k_asm) (by k_asm) (by k_asm) (by first | exact rfl | assumption) (by ktr_room) (by ktr_units) (by k_mem) (by k_mem) (by k_mem) (by k_mem) (by first | assumption | exact CntV.none | exact CntV.int _ _) (by omega) ?_ ?_); (first | (intro h9 tk9 hs9 F9 N9) | (intro z9 t9 h9 tk9 hs9 F9 N9)) <;> (try dsimp only) <;> (try k_fold) <;> (try k_sweep))
  k_with "call ref" => (k_here; (with_reducible show wpAny _ _ (call (Value.ref 562) _) _ _ _); k_dflt (refine' set_none (by k_asm) (by k_asm) (by k_asm) (by k_asm) (by k_asm) (by k_asm) (by k_asm) (by first | exact rfl | assumption) (by ktr_room) (by ktr_units) (by k_mem) (by k_mem) (by k_mem) (by k_mem) (by first | assumption | exact CntV.none | exact CntV.int _ _) (by omega) (by assumption) ?_); intro h9 tk9 F9 N9; (try dsimp only); (try k_fold); (try k_sweep))
  k_with "call ref" => (k_here; (with_reducible show wpAny _ _ (call (Value.ref 562) _) _ _ _); k_dflt (refine' set_some (by k_asm) (by k_asm) (by k_asm) (by k_asm) (by k_asm) (by k_asm) (by k_asm) (by first | exact rfl | assumption) (by ktr_room) (by ktr_units) (by k_mem) (by k_mem) (by k_mem) (by k_mem) (by walk_at "drop") (by walk_at "drop") (by first | assumption | exact CntV.none | exact CntV.int _ _) (by omega) (by omega) (by k_mem) (by k_mem) (by k_mem) (by k_mem) (by k_mem) (by walk_at "ne9") (by walk_at "ne9") (by walk_at "ne9") (by walk_at "ne9") (by walk_at "ne9") (by assumption) (by assumption) (by assumption) (by assumption) ?_); intro to9 tv9 cv9 h9 tk9 hc9 F9 N9; (try dsimp only); (try k_fold); (try k_sweep))
  k_with "subscriptTail Name Slice ref ref" => (k_here; (with_reducible show wpAny _ _ (subscriptTail _ (PySem.Expr.Slice none _ none _) (Value.ref _) (Value.ref _)) _ _ _); k_dflt (refine' tail_two (by k_asm) (by k_asm) (by k_mem) ?_ (by with_unfolding_all rfl) (by intro _; with_unfolding_all rfl)); intro D9 h9 F9 N9 hl9; (try k_lt hl9); (try dsimp only))
  k_with "compareOp NotEq ref ref" => (k_here; (with_reducible show wpAny _ _ (compareOp CmpOp.NotEq (Value.ref _) (Value.ref _)) _ _ _); k_dflt (refine' ne_two (by k_asm) (by k_mem) (by k_mem) (by assumption) (by assumption) (by first | ktr_units | exact Nat.le_of_ble_eq_true rfl | (show _ < _; decide)) ?_))
  k_with "subscriptTail" => (k_here; (with_reducible show wpAny _ _ (subscriptTail _ _ (Value.ref _) (Value.int _ _)) _ _ _); k_dflt (refine' item_tupleT (by exact News.isTup (by k_asm) (by k_mem)) (by decide) (by decide) (by rfl) (by rfl) ?_; k_whole))
  k_with "subscriptTail Name Constant ref int" => (k_here; (with_reducible show wpAny _ _ (subscriptTail _ _ (Value.ref _) (Value.int _ _)) _ _ _); k_dflt (refine' item_tupleT (by exact News.isTup (by k_asm) (by k_mem)) (by decide) (by decide) (by rfl) (by rfl) ?_; k_whole))
  trivial
section
set_option linter.unusedSimpArgs false in
set_option maxHeartbeats 4000000 in
theorem law_1 {prog : Program} {w : World} {p : Program} {loose : List Str} {mean : ExcName → Option Value} {mg mb : Str → Option Value} {h₀ : Heap} {L f pn i : Addr} {cd : Value} {s : Shared} {m : Str → Option Value} {o1 o2 o3 : Obj} {vs : List Value} {ns : List Int} {k0 n n' : Nat} {t : Tok} {Q : Flow → Shared → Prop} {E : Value → Shared → Prop}
    (B : Below callerA h₀ [] h₀) (T : Top p loose mean mg mb h₀) (X : (K w.params).In h₀)
    (F : Fr h₀ L s.heap m) (hm : Has m [(Str.ofString "pen", .ref pn)])
    (N : News h₀ L s.heap [(pn, lst [.ref i, .int (k0 : Int) t] n), (i, lst vs n'), (L + 1 + 1 + 1, o3), (L + 1 + 1, o2), (L + 1, o1)]) (d1 : o1.data = .cell none) (hk0 : k0 = 0) (hip : i ≠ pn)
    (hv : IntsAre vs ns) (h0 : 0 < ns.length) (hn : ns.length < 2 ^ 20) (l1 : @LT.lt Nat _ (L + 1 + 1 + 1) i) (l2 : @LT.lt Nat _ i pn)
    (next : ∀ (x : Str) (tx : Tok) (o : Int) (t1 : Tok) (c : Option Int) (cv : Value) (k : Nat) (t : Tok) (n : Nat) (o1' : Obj) m' h' tk', Fr h₀ L h' m' →
      Has m' [(Str.ofString "pen", .ref pn), (Str.ofString "offset", .int o t1), (Str.ofString "count", cv)] →
      News h₀ L h' [(pn, lst [.ref i, .int (k : Int) t] n), (i, lst vs n'), (L + 1 + 1 + 1, o3), (L + 1 + 1, o2), (L + 1, o1')] → CntV cv c → o1'.data = .cell (some (.str x tx)) → x.length ≤ 12 → PyData.strOk x = true → k ≤ 16 → Q .next { s with heap := h', toks := tk' }) :
    wpAny (model prog w) (callerA.deeper (lawEnv w.params L f cd)) (execs (lawCut w.params 2 3) (lawEnv w.params L f cd)) Q E s := by
  w_top off
  have F := fr_has F hm
  dsimp only [kstB] at F
  refine' law_as ?k6 ?_
  (case k6 => k_is)
  simp only [List.drop, List.take]
  k_steps
  all_goals
    exact next _ _ _ _ _ _ _ _ _ _ _ _ _ (by k_asm) (by unfold Has; kst_all) (news_sub (by k_asm) (by walk_at "mem_any")) (by first | exact CntV.none | exact CntV.int _ _) (by first | assumption | exact rfl) (by omega) (by assumption) (by omega)

end
section
set_option linter.unusedSimpArgs false in
set_option maxHeartbeats 4000000 in
theorem law_2 {prog : Program} {w : World} {p : Program} {loose : List Str} {mean : ExcName → Option Value} {mg mb : Str → Option Value} {h₀ : Heap} {L f pn i : Addr} {cd : Value} {s : Shared} {m : Str → Option Value} {o1 o2 o3 : Obj} {vs : List Value} {ns : List Int} {k n n' : Nat} {x : Str} {o : Int} {c : Option Int} {cv : Value} {t tx t1 : Tok} {Q : Flow → Shared → Prop} {E : Value → Shared → Prop}
    (B : Below callerA h₀ [] h₀) (T : Top p loose mean mg mb h₀) (X : (K w.params).In h₀)
    (F : Fr h₀ L s.heap m) (hm : Has m [(Str.ofString "pen", .ref pn), (Str.ofString "offset", .int o t1), (Str.ofString "count", cv)])
    (N : News h₀ L s.heap [(pn, lst [.ref i, .int (k : Int) t] n), (i, lst vs n'), (L + 1 + 1 + 1, o3), (L + 1 + 1, o2), (L + 1, o1)]) (hc : CntV cv c) (d1 : o1.data = .cell (some (.str x tx)))
    (hx : x.length ≤ 12) (l1 : @LT.lt Nat _ (L + 1 + 1 + 1) i) (l2 : @LT.lt Nat _ i pn)
    (next : ∀ (td : Addr) (t2 : Tok) m' h' tk', Fr h₀ L h' m' →
      Has m' [(Str.ofString "pen", .ref pn), (Str.ofString "offset", .int o t1), (Str.ofString "count", cv), (Str.ofString "told", .ref td)] →
      News h₀ L h' [(td, tup [.int (if o < 0 then -o else o) t2, .bool (decide (o < 0)), cv]), (pn, lst [.ref i, .int (k : Int) t] n), (i, lst vs n'), (L + 1 + 1 + 1, o3), (L + 1 + 1, o2), (L + 1, o1)] → @LT.lt Nat _ pn td → Q .next { s with heap := h', toks := tk' }) :
    wpAny (model prog w) (callerA.deeper (lawEnv w.params L f cd)) (execs (lawCut w.params 5 3) (lawEnv w.params L f cd)) Q E s := by
  w_top off
  have F := fr_has F hm
  dsimp only [kstB] at F
  refine' law_as ?k6 ?_
  (case k6 => k_is)
  simp only [List.drop, List.take]
  k_steps
  all_goals
    (with_reducible rename lpartOf _ _ _ _ = _ => q1)
    (with_reducible rename partOf _ _ _ = _ => q2)
    have e := lpart_part (x := x) (c := c) (begT_eq x.length o)
    rw [q1, q2] at e
    first
    | exact next _ _ _ _ _ (by k_asm) (by unfold Has; kst_all) (news_sub (by k_asm) (by walk_at "mem_any")) (by show (_ : Nat) < _; omega)
    | (exfalso; simp at e; done)
    | (exfalso; (with_reducible rename (_ != _) = true => q3); simp only [Option.map_some, Option.some.injEq] at e; rw [e] at q3; simp at q3)

end
section
set_option linter.unusedSimpArgs false in
set_option maxHeartbeats 8000000 in
theorem law_3a {prog : Program} {w : World} {p : Program} {loose : List Str} {mean : ExcName → Option Value} {mg mb : Str → Option Value} {h₀ : Heap} {L f pn i td : Addr} {cd : Value} {s : Shared} {m : Str → Option Value} {o1 o2 o3 : Obj} {vs : List Value} {ns : List Int} {k n n' : Nat} {x : Str} {o : Int} {c : Option Int} {cv : Value} {t tx t1 t2 : Tok} {Q : Flow → Shared → Prop} {E : Value → Shared → Prop}
    (B : Below callerA h₀ [] h₀) (T : Top p loose mean mg mb h₀) (X : (K w.params).In h₀)
    (F : Fr h₀ L s.heap m) (hm : Has m [(Str.ofString "pen", .ref pn), (Str.ofString "offset", .int o t1), (Str.ofString "count", cv), (Str.ofString "told", .ref td)])
    (N : News h₀ L s.heap [(td, tup [.int (if o < 0 then -o else o) t2, .bool (decide (o < 0)), cv]), (pn, lst [.ref i, .int (k : Int) t] n), (i, lst vs n'), (L + 1 + 1 + 1, o3), (L + 1 + 1, o2), (L + 1, o1)]) (hc : CntV cv c) (d1 : o1.data = .cell (some (.str x tx)))
    (hx : x.length ≤ 12) (hk : k ≤ 16) (hv : IntsAre vs ns) (h0 : 0 < ns.length) (hn : ns.length < 2 ^ 20) (hip : i ≠ pn) (l1 : @LT.lt Nat _ (L + 1 + 1 + 1) i) (l2 : @LT.lt Nat _ i pn) (l3 : @LT.lt Nat _ pn td)
    (nextN : ∀ (k : Nat) (t : Tok) (n : Nat) (y : Str) (ty : Tok) m' h' tk', Fr h₀ L h' m' → Has m' [(Str.ofString "pen", .ref pn), (Str.ofString "offset", .int o t1), (Str.ofString "count", cv), (Str.ofString "told", .ref td), (Str.ofString "new", .str y ty), (Str.ofString "due", .none)] → News h₀ L h' [(td, tup [.int (if o < 0 then -o else o) t2, .bool (decide (o < 0)), cv]), (pn, lst [.ref i, .int (k : Int) t] n), (i, lst vs n'), (L + 1 + 1 + 1, o3), (L + 1 + 1, o2), (L + 1, o1)] → lputOf x (if o < 0 then -o else o) (decide (o < 0)) c y = none → k ≤ 21 → y.length ≤ 4 → PyData.strOk y = true → Q .next { s with heap := h', toks := tk' })
    (nextS : ∀ (k : Nat) (t : Tok) (n : Nat) (y : Str) (ty : Tok) (d e : Addr) (z v : Str) (oo : Int) (c' : Option Int) (t3 t4 : Tok) m' h' tk', Fr h₀ L h' m' → Has m' [(Str.ofString "pen", .ref pn), (Str.ofString "offset", .int o t1), (Str.ofString "count", cv), (Str.ofString "told", .ref td), (Str.ofString "new", .str y ty), (Str.ofString "due", .ref d)] → News h₀ L h' [(d, tup [.str z t3, .str v t4, .ref e]), (td, tup [.int (if o < 0 then -o else o) t2, .bool (decide (o < 0)), cv]), (pn, lst [.ref i, .int (k : Int) t] n), (i, lst vs n'), (L + 1 + 1 + 1, o3), (L + 1 + 1, o2), (L + 1, o1)] → lputOf x (if o < 0 then -o else o) (decide (o < 0)) c y = some (z, v, oo, c') → k ≤ 21 → y.length ≤ 4 → PyData.strOk y = true → @LT.lt Nat _ td d → Q .next { s with heap := h', toks := tk' }) :
    wpAny (model prog w) (callerA.deeper (lawEnv w.params L f cd)) (execs (lawCut w.params 8 2) (lawEnv w.params L f cd)) Q E s := by
  w_top off
  have F := fr_has F hm
  dsimp only [kstB] at F
  refine' law_as ?k6 ?_
  (case k6 => k_is)
  simp only [List.drop, List.take]
  k_steps
  all_goals
    (with_reducible rename lputOf _ _ _ _ _ = _ => q1)
    (try ((rename (∀ p : Addr × Obj, p ∈ _ → p.1 < _) => hl8); (k_lt hl8)))
    first
    | exact nextN _ _ _ _ _ _ _ _ (by k_asm) (by unfold Has; kst_all) (news_sub (by k_asm) (by walk_at "mem_any")) (by exact q1) (by omega) (by omega) (by assumption)
    | exact nextS _ _ _ _ _ _ _ _ _ _ _ _ _ _ _ _ (by k_asm) (by unfold Has; kst_all) (news_sub (by k_asm) (by walk_at "mem_any")) (by exact q1) (by omega) (by omega) (by assumption) (by show (_ : Nat) < _; omega)

end
section
set_option linter.unusedSimpArgs false in
set_option maxHeartbeats 8000000 in
theorem law_3n {prog : Program} {w : World} {p : Program} {loose : List Str} {mean : ExcName → Option Value} {mg mb : Str → Option Value} {h₀ : Heap} {L f pn i td : Addr} {cd : Value} {s : Shared} {m : Str → Option Value} {o1 o2 o3 : Obj} {vs : List Value} {ns : List Int} {k n n' : Nat} {x : Str} {o : Int} {c : Option Int} {cv : Value} {t tx t1 t2 ty : Tok} {y : Str} {Q : Flow → Shared → Prop} {E : Value → Shared → Prop}
    (B : Below callerA h₀ [] h₀) (T : Top p loose mean mg mb h₀) (X : (K w.params).In h₀)
    (F : Fr h₀ L s.heap m) (hm : Has m [(Str.ofString "pen", .ref pn), (Str.ofString "offset", .int o t1), (Str.ofString "count", cv), (Str.ofString "told", .ref td), (Str.ofString "new", .str y ty), (Str.ofString "due", .none)])
    (N : News h₀ L s.heap [(td, tup [.int (if o < 0 then -o else o) t2, .bool (decide (o < 0)), cv]), (pn, lst [.ref i, .int (k : Int) t] n), (i, lst vs n'), (L + 1 + 1 + 1, o3), (L + 1 + 1, o2), (L + 1, o1)]) (hc : CntV cv c) (d1 : o1.data = .cell (some (.str x tx)))
    (hx : x.length ≤ 12) (hk : k ≤ 21) (hv : IntsAre vs ns) (h0 : 0 < ns.length) (hn : ns.length < 2 ^ 20) (hip : i ≠ pn) (l1 : @LT.lt Nat _ (L + 1 + 1 + 1) i) (l2 : @LT.lt Nat _ i pn) (l3 : @LT.lt Nat _ pn td)
    (hy : y.length ≤ 4) (hl : lputOf x (if o < 0 then -o else o) (decide (o < 0)) c y = none)
    (next : ∀ m' h' tk', Fr h₀ L h' m' → Has m' [(Str.ofString "pen", .ref pn), (Str.ofString "offset", .int o t1), (Str.ofString "count", cv), (Str.ofString "told", .ref td)] → News h₀ L h' [(td, tup [.int (if o < 0 then -o else o) t2, .bool (decide (o < 0)), cv]), (pn, lst [.ref i, .int (k : Int) t] n), (i, lst vs n'), (L + 1 + 1 + 1, o3), (L + 1 + 1, o2), (L + 1, o1)] → Q .next { s with heap := h', toks := tk' }) :
    wpAny (model prog w) (callerA.deeper (lawEnv w.params L f cd)) (execs (lawCut w.params 10 1) (lawEnv w.params L f cd)) Q E s := by
  w_top off
  have hg : putOf x (begOf x.length o) c y = none := by
    have e := lput_put (x := x) (y := y) (c := c) (begT_eq x.length o)
    rw [hl] at e; exact e.symm
  have F := fr_has F hm
  dsimp only [kstB] at F
  refine' law_as ?k6 ?_
  (case k6 => k_is)
  simp only [List.drop, List.take]
  k_steps
  exact next _ _ _ (by k_asm) (by unfold Has; kst_all) (news_sub (by k_asm) (by walk_at "mem_any"))

end
section
set_option linter.unusedSimpArgs false in
set_option maxHeartbeats 8000000 in
theorem law_3s {prog : Program} {w : World} {p : Program} {loose : List Str} {mean : ExcName → Option Value} {mg mb : Str → Option Value} {h₀ : Heap} {L f pn i td : Addr} {cd : Value} {s : Shared} {m : Str → Option Value} {o1 o2 o3 : Obj} {vs : List Value} {ns : List Int} {k n n' : Nat} {x : Str} {o : Int} {c : Option Int} {cv : Value} {t tx t1 t2 ty t3 t4 : Tok} {y : Str} {d e : Addr} {z v : Str} {oo : Int} {c' : Option Int} {Q : Flow → Shared → Prop} {E : Value → Shared → Prop}
    (B : Below callerA h₀ [] h₀) (T : Top p loose mean mg mb h₀) (X : (K w.params).In h₀)
    (F : Fr h₀ L s.heap m) (hm : Has m [(Str.ofString "pen", .ref pn), (Str.ofString "offset", .int o t1), (Str.ofString "count", cv), (Str.ofString "told", .ref td), (Str.ofString "new", .str y ty), (Str.ofString "due", .ref d)])
    (N : News h₀ L s.heap [(d, tup [.str z t3, .str v t4, .ref e]), (td, tup [.int (if o < 0 then -o else o) t2, .bool (decide (o < 0)), cv]), (pn, lst [.ref i, .int (k : Int) t] n), (i, lst vs n'), (L + 1 + 1 + 1, o3), (L + 1 + 1, o2), (L + 1, o1)]) (hc : CntV cv c) (d1 : o1.data = .cell (some (.str x tx)))
    (hx : x.length ≤ 12) (hk : k ≤ 21) (hv : IntsAre vs ns) (h0 : 0 < ns.length) (hn : ns.length < 2 ^ 20) (hip : i ≠ pn) (l1 : @LT.lt Nat _ (L + 1 + 1 + 1) i) (l2 : @LT.lt Nat _ i pn) (l3 : @LT.lt Nat _ pn td)
    (hy : y.length ≤ 4) (okx : PyData.strOk x = true) (oky : PyData.strOk y = true) (hl : lputOf x (if o < 0 then -o else o) (decide (o < 0)) c y = some (z, v, oo, c')) (l4 : @LT.lt Nat _ td d)
    (next : ∀ m' h' tk', Fr h₀ L h' m' → Has m' [(Str.ofString "pen", .ref pn), (Str.ofString "offset", .int o t1), (Str.ofString "count", cv), (Str.ofString "told", .ref td)] → News h₀ L h' [(td, tup [.int (if o < 0 then -o else o) t2, .bool (decide (o < 0)), cv]), (pn, lst [.ref i, .int (k : Int) t] n), (i, lst vs n'), (L + 1 + 1 + 1, o3), (L + 1 + 1, o2), (L + 1, o1)] → Q .next { s with heap := h', toks := tk' }) :
    wpAny (model prog w) (callerA.deeper (lawEnv w.params L f cd)) (execs (lawCut w.params 10 1) (lawEnv w.params L f cd)) Q E s := by
  w_top off
  obtain ⟨okz, okv⟩ := lput_str hl okx oky
  have hg : putOf x (begOf x.length o) c y = some (z, v) := by
    have e := lput_put (x := x) (y := y) (c := c) (begT_eq x.length o)
    rw [hl] at e; exact e.symm
  have F := fr_has F hm
  dsimp only [kstB] at F
  refine' law_as ?k6 ?_
  (case k6 => k_is)
  simp only [List.drop, List.take]
  k_steps
  exact next _ _ _ (by k_asm) (by unfold Has; kst_all) (news_sub (by k_asm) (by walk_at "mem_any"))

end
section
set_option linter.unusedSimpArgs false in
set_option maxHeartbeats 8000000 in
theorem law_4 {prog : Program} {w : World} {p : Program} {loose : List Str} {mean : ExcName → Option Value} {mg mb : Str → Option Value} {h₀ : Heap} {L f pn i td : Addr} {cd : Value} {s : Shared} {m : Str → Option Value} {o1 o2 o3 : Obj} {vs : List Value} {ns : List Int} {k n n' : Nat} {x : Str} {o : Int} {c : Option Int} {cv : Value} {t tx t1 t2 : Tok} {Q : Flow → Shared → Prop} {E : Value → Shared → Prop}
    (B : Below callerA h₀ [] h₀) (T : Top p loose mean mg mb h₀) (X : (K w.params).In h₀)
    (F : Fr h₀ L s.heap m) (hm : Has m [(Str.ofString "pen", .ref pn), (Str.ofString "offset", .int o t1), (Str.ofString "count", cv), (Str.ofString "told", .ref td)])
    (N : News h₀ L s.heap [(td, tup [.int (if o < 0 then -o else o) t2, .bool (decide (o < 0)), cv]), (pn, lst [.ref i, .int (k : Int) t] n), (i, lst vs n'), (L + 1 + 1 + 1, o3), (L + 1 + 1, o2), (L + 1, o1)]) (hc : CntV cv c) (d1 : o1.data = .cell (some (.str x tx)))
    (l1 : @LT.lt Nat _ (L + 1 + 1 + 1) i) (l2 : @LT.lt Nat _ i pn) (l3 : @LT.lt Nat _ pn td)
    (next : ∀ (la ld sa sd ca ce pd : Addr) (r1 r2 r3 r4 r5 v1 v2 v3 v4 v5 v6 v7 v8 q1 q2 q3 tn tc : Tok) (wk hv : Value) (ob : Obj) m' h' tk', Fr h₀ L h' m' → Has m' [(Str.ofString "pen", .ref pn), (Str.ofString "told", .ref td), (Str.ofString "counter", .ref ca), (Str.ofString "scalar", .ref sa), (Str.ofString "lv", .ref la)] →
      News h₀ L h' [(la, instObj 501 ld), (ld, lvtD w.params r1 r2 r3 r4 r5 (.ref ca) sa o t1 cv (decide (o < 0))), (sa, instObj 147 sd), (sd, scaD w.params v1 v2 v3 v4 v5 v6 v7 v8 1 tn 1 tc wk (.str x tx)), (ca, instObj 437 ce), (ce, cntD w.params q1 q2 q3 hv pd), (pd, ob), (td, tup [.int (if o < 0 then -o else o) t2, .bool (decide (o < 0)), cv]), (pn, lst [.ref i, .int (k : Int) t] n), (i, lst vs n'), (L + 1 + 1 + 1, o3), (L + 1 + 1, o2), (L + 1, o1)] → @LT.lt Nat _ td ce → @LT.lt Nat _ ce ca → @LT.lt Nat _ ca pd → @LT.lt Nat _ pd sd → @LT.lt Nat _ sd sa → @LT.lt Nat _ sa ld → @LT.lt Nat _ ld la →
      (pd == sysModules) = false → Obj.IsDictOf (PySem.strKind prog w) ob [] → Obj.IsDictOf (intKind prog w) ob [] → Q .next { s with heap := h', toks := tk' }) :
    wpAny (model prog w) (callerA.deeper (lawEnv w.params L f cd)) (execs (lawCut w.params 11 3) (lawEnv w.params L f cd)) Q E s := by
  w_top off
  have F := fr_has F hm
  dsimp only [kstB] at F
  refine' law_as ?k6 ?_
  (case k6 => k_is)
  simp only [List.drop, List.take]
  k_steps
  exact next _ _ _ _ _ _ _ _ _ _ _ _ _ _ _ _ _ _ _ _ _ _ _ _ _ _ _ _ _ _ _ (by k_asm) (by unfold Has; kst_all) (news_sub (by k_asm) (by walk_at "mem_any")) (by show (_ : Nat) < _; omega) (by assumption) (by assumption) (by assumption) (by assumption) (by show (_ : Nat) < _; omega) (by assumption) (by assumption) (by assumption) (by assumption)

end
section
set_option linter.unusedSimpArgs false in
set_option maxHeartbeats 8000000 in
theorem law_5a {prog : Program} {w : World} {p : Program} {loose : List Str} {mean : ExcName → Option Value} {mg mb : Str → Option Value} {h₀ : Heap} {L f pn i td I la ld sa sd ca ce pd : Addr} {cd : Value} {s : Shared} {m : Str → Option Value} {oI ob o1 o2 o3 : Obj} {vs : List Value} {ns : List Int} {k n n' : Nat} {x : Str} {a oo : Int} {b : Bool} {c : Option Int} {cv cw wk hv : Value} {t tx ty t2 to tn tc r1 r2 r3 r4 r5 v1 v2 v3 v4 v5 v6 v7 v8 q1 q2 q3 : Tok} {Q : Flow → Shared → Prop} {E : Value → Shared → Prop}
    (B : Below callerA h₀ [] h₀) (T : Top p loose mean mg mb h₀) (X : (K w.params).In h₀)
    (F : Fr h₀ L s.heap m) (hm : Has m [(Str.ofString "pen", .ref pn), (Str.ofString "told", .ref td), (Str.ofString "counter", .ref ca), (Str.ofString "scalar", .ref sa), (Str.ofString "lv", .ref la)])
    (N : News h₀ L s.heap [(I, oI), (la, instObj 501 ld), (ld, lvtD w.params r1 r2 r3 r4 r5 (.ref ca) sa oo to cw b), (sa, instObj 147 sd), (sd, scaD w.params v1 v2 v3 v4 v5 v6 v7 v8 1 tn 1 tc wk (.str x ty)), (ca, instObj 437 ce), (ce, cntD w.params q1 q2 q3 hv pd), (pd, ob), (td, tup [.int a t2, .bool b, cv]), (pn, lst [.ref i, .int (k : Int) t] n), (i, lst vs n'), (L + 1 + 1 + 1, o3), (L + 1 + 1, o2), (L + 1, o1)])
    (hv9 : IntsAre vs ns) (h0 : 0 < ns.length) (hn : ns.length < 2 ^ 20) (hk : k ≤ 60)
    (l1 : @LT.lt Nat _ (L + 1 + 1 + 1) i) (l2 : @LT.lt Nat _ i pn) (hip : i ≠ pn) (g1 : @LT.lt Nat _ pn ce) (g2 : @LT.lt Nat _ ce ca) (g3 : @LT.lt Nat _ ca pd) (g4 : @LT.lt Nat _ pd sd) (g5 : @LT.lt Nat _ sd sa) (g6 : @LT.lt Nat _ sa ld) (g7 : @LT.lt Nat _ ld la) (l3 : @LT.lt Nat _ pn td) (g8 : @LT.lt Nat _ la I) (l4 : @LT.lt Nat _ td ce ∨ @LT.lt Nat _ I td)
    (next : ∀ (k' : Nat) (t : Tok) (n : Nat) (wv : Int) (tw : Tok) (y : Str) (ty2 : Tok) m' h' tk', Fr h₀ L h' m' → Has m' [(Str.ofString "pen", .ref pn), (Str.ofString "told", .ref td), (Str.ofString "counter", .ref ca), (Str.ofString "scalar", .ref sa), (Str.ofString "lv", .ref la), (Str.ofString "way", .int wv tw), (Str.ofString "new", .str y ty2)] → News h₀ L h' [(I, oI), (la, instObj 501 ld), (ld, lvtD w.params r1 r2 r3 r4 r5 (.ref ca) sa oo to cw b), (sa, instObj 147 sd), (sd, scaD w.params v1 v2 v3 v4 v5 v6 v7 v8 1 tn 1 tc wk (.str x ty)), (ca, instObj 437 ce), (ce, cntD w.params q1 q2 q3 hv pd), (pd, ob), (td, tup [.int a t2, .bool b, cv]), (pn, lst [.ref i, .int (k' : Int) t] n), (i, lst vs n'), (L + 1 + 1 + 1, o3), (L + 1 + 1, o2), (L + 1, o1)] → k' ≤ k + 6 → y.length ≤ 4 → Q .next { s with heap := h', toks := tk' }) :
    wpAny (model prog w) (callerA.deeper (lawEnv w.params L f cd)) (execs (loopCut w.params 0 2) (lawEnv w.params L f cd)) Q E s := by
  w_top off
  have ap1 : Apart (L + 1) pn := .lt (Nat.lt_trans (Nat.lt_succ_self _) (Nat.lt_trans (Nat.lt_succ_self _) (Nat.lt_trans l1 l2)))
  have ap2 : Apart (L + 1 + 1) pn := .lt (Nat.lt_trans (Nat.lt_succ_self _) (Nat.lt_trans l1 l2))
  have ap3 : Apart (L + 1 + 1 + 1) pn := .lt (Nat.lt_trans l1 l2)
  have ap4 : Apart i pn := .lt l2
  have ap5 : Apart ce pn := .gt g1
  have ap6 : Apart ca pn := .gt (Nat.lt_trans g1 g2)
  have ap7 : Apart pd pn := .gt (Nat.lt_trans g1 (Nat.lt_trans g2 g3))
  have ap8 : Apart sd pn := .gt (Nat.lt_trans g1 (Nat.lt_trans g2 (Nat.lt_trans g3 g4)))
  have ap9 : Apart sa pn := .gt (Nat.lt_trans g1 (Nat.lt_trans g2 (Nat.lt_trans g3 (Nat.lt_trans g4 g5))))
  have ap10 : Apart ld pn := .gt (Nat.lt_trans g1 (Nat.lt_trans g2 (Nat.lt_trans g3 (Nat.lt_trans g4 (Nat.lt_trans g5 g6)))))
  have ap11 : Apart la pn := .gt (Nat.lt_trans g1 (Nat.lt_trans g2 (Nat.lt_trans g3 (Nat.lt_trans g4 (Nat.lt_trans g5 (Nat.lt_trans g6 g7))))))
  have ap12 : Apart I pn := .gt (Nat.lt_trans g1 (Nat.lt_trans g2 (Nat.lt_trans g3 (Nat.lt_trans g4 (Nat.lt_trans g5 (Nat.lt_trans g6 (Nat.lt_trans g7 g8)))))))
  have ap13 : Apart td pn := .gt l3
  have F := fr_has F hm
  dsimp only [kstB] at F
  refine' loop_as ?k6 ?k7 ?_
  (case k6 => k_is)
  (case k7 => rfl)
  simp only [List.drop, List.take]
  k_steps
  exact next _ _ _ _ _ _ _ _ _ _ (by k_asm) (by unfold Has; kst_all) (news_sub (by k_asm) (by walk_at "mem_any")) (by omega) (by omega)

end
section
theorem lput_none {prog : Program} {w : World} {p : Program} {loose : List Str} {mean : ExcName → Option Value} {mg mb : Str → Option Value} {dp un : Nat} {gd : Option (List Code)} {cn : Str} {cs : Scope} {a : Addr} {ccd : Value} {cl : List (Str × Addr)} {outer : List Env} {A₀ : Around} {base h₀ : Heap} {L : Addr} {m : Str → Option Value} {s : Shared} {Q E : Value → Shared → Prop} {x : Str} {tk : Addr} {off : Int} {b : Bool} {c : Option Int} {cv : Value} {y : Str} {t1 t2 t3 : Tok} {news : Led} (B : Below A₀ base outer h₀) (F : Fr h₀ L s.heap m) (X : (K w.params).In h₀) (N : News h₀ L s.heap news) (T : Top p loose mean mg mb h₀) (hk : cs.kind = .function) (hd : dp + 4 < recursionLimit) (hu : un + 40 < cLine) (ht : (tk, tup [.int off t2, .bool b, cv]) ∈ news) (hc : CntV cv c) (hn : x.length ≤ 1000) (hy : y.length ≤ 1000) (hl : lputOf x off b c y = none)
    (hq : ∀ h' tk', Fr h₀ L h' m → News h₀ L h' news → Q .none { s with heap := h', toks := tk' }) :
    wpAny (model prog w) (ktrTop dp un gd cn cs L a ccd cl outer) (call (.ref 548) [.str x t1, .ref tk, .str y t3]) Q E s :=
  lput_use B F X N T hk hd hu ht hc hn hy (fun h' tk' _ F N => hq h' tk' F N) fun d e z v o c' cv' t t' t'' h' tk' e' => by rw [hl] at e'; cases e'
theorem lput_some {prog : Program} {w : World} {p : Program} {loose : List Str} {mean : ExcName → Option Value} {mg mb : Str → Option Value} {dp un : Nat} {gd : Option (List Code)} {cn : Str} {cs : Scope} {a : Addr} {ccd : Value} {cl : List (Str × Addr)} {outer : List Env} {A₀ : Around} {base h₀ : Heap} {L : Addr} {m : Str → Option Value} {s : Shared} {Q E : Value → Shared → Prop} {x : Str} {tk : Addr} {off : Int} {b : Bool} {c : Option Int} {cv : Value} {y : Str} {t1 t2 t3 : Tok} {news : Led} {z v : Str} {o : Int} {c' : Option Int} (B : Below A₀ base outer h₀) (F : Fr h₀ L s.heap m) (X : (K w.params).In h₀) (N : News h₀ L s.heap news) (T : Top p loose mean mg mb h₀) (hk : cs.kind = .function) (hd : dp + 4 < recursionLimit) (hu : un + 40 < cLine) (ht : (tk, tup [.int off t2, .bool b, cv]) ∈ news) (hc : CntV cv c) (hn : x.length ≤ 1000) (hy : y.length ≤ 1000) (hl : lputOf x off b c y = some (z, v, o, c'))
    (hq : ∀ (d e : Addr) (cv' : Value) (t t' t'' : Tok) h' tk', CntV cv' c' → Fr h₀ L h' m → News h₀ L h' ((d, tup [.str z t, .str v t', .ref e]) :: (e, tup [.int o t'', .bool b, cv']) :: news) → (∀ q ∈ news, q.1 < e) → @LT.lt Nat _ e d → Q (.ref d) { s with heap := h', toks := tk' }) :
    wpAny (model prog w) (ktrTop dp un gd cn cs L a ccd cl outer) (call (.ref 548) [.str x t1, .ref tk, .str y t3]) Q E s :=
  lput_use B F X N T hk hd hu ht hc hn hy (fun h' tk' e' => by rw [hl] at e'; cases e') fun d e z v o c' cv' t t' t'' h' tk' e' => by
    rw [hl] at e'
    cases e'
    exact hq d e cv' t t' t'' h' tk'
example : True := by
  k_with "call ref" => (k_here; (with_reducible show wpAny _ _ (call (Value.ref 548) _) _ _ _); k_dflt (refine' lput_none (by k_asm) (by k_asm) (by k_asm) (by k_asm) (by k_asm) (by first | exact rfl | assumption) (by ktr_room) (by ktr_units) (by k_mem) (by first | assumption | exact CntV.none | exact CntV.int _ _) (by omega) (by omega) (by assumption) ?_); intro h9 tk9 F9 N9; (try dsimp only) <;> (try k_fold) <;> (try k_sweep))
  k_with "call ref" => (k_here; (with_reducible show wpAny _ _ (call (Value.ref 548) _) _ _ _); k_dflt (refine' lput_some (by k_asm) (by k_asm) (by k_asm) (by k_asm) (by k_asm) (by first | exact rfl | assumption) (by ktr_room) (by ktr_units) (by k_mem) (by first | assumption | exact CntV.none | exact CntV.int _ _) (by omega) (by omega) (by assumption) ?_); intro d9 e9 cv9 t9 u9 w9 h9 tk9 hc9 F9 N9 hl9 he9; (have hl8 := hl9; (try k_lt hl8)); (try dsimp only) <;> (try k_fold) <;> (try k_sweep))
  k_with "to_put" => repeat' (first | ((fail_if_success (with_reducible show wpAny _ _ (call (Value.ref 548) _) _ _ _)); first | (k_unfold; (try dsimp only)) | (k_end; wrow_close) | walk1 | (dsimp only; walk1) | (leave1; try dsimp only)))
  trivial
set_option linter.unusedSimpArgs false in
set_option maxHeartbeats 8000000 in
theorem law_5b {prog : Program} {w : World} {p : Program} {loose : List Str} {mean : ExcName → Option Value} {mg mb : Str → Option Value} {h₀ : Heap} {L f pn i td I la ld sa sd ca ce pd : Addr} {cd : Value} {s : Shared} {m : Str → Option Value} {oI ob o1 o2 o3 : Obj} {vs : List Value} {ns : List Int} {k n n' : Nat} {x : Str} {a oo : Int} {b : Bool} {c : Option Int} {cv cw wk hv : Value} {t tx ty t2 to tn tc r1 r2 r3 r4 r5 v1 v2 v3 v4 v5 v6 v7 v8 q1 q2 q3 : Tok} {Q : Flow → Shared → Prop} {E : Value → Shared → Prop} {y : Str} {ty2 tw : Tok} {wv : Int} {Bd : Nat}
    (B : Below callerA h₀ [] h₀) (T : Top p loose mean mg mb h₀) (X : (K w.params).In h₀)
    (F : Fr h₀ L s.heap m) (hm : Has m [(Str.ofString "pen", .ref pn), (Str.ofString "told", .ref td), (Str.ofString "counter", .ref ca), (Str.ofString "scalar", .ref sa), (Str.ofString "lv", .ref la), (Str.ofString "way", .int wv tw), (Str.ofString "new", .str y ty2)])
    (N : News h₀ L s.heap [(I, oI), (la, instObj 501 ld), (ld, lvtD w.params r1 r2 r3 r4 r5 (.ref ca) sa oo to cw b), (sa, instObj 147 sd), (sd, scaD w.params v1 v2 v3 v4 v5 v6 v7 v8 1 tn 1 tc wk (.str x ty)), (ca, instObj 437 ce), (ce, cntD w.params q1 q2 q3 hv pd), (pd, ob), (td, tup [.int a t2, .bool b, cv]), (pn, lst [.ref i, .int (k : Int) t] n), (i, lst vs n'), (L + 1 + 1 + 1, o3), (L + 1 + 1, o2), (L + 1, o1)])
    (hc : CntV cv c) (hc2 : CntV cw c) (ha : 0 ≤ a) (hoo : oo = if b = true then -a else a) (lo : (pd == sysModules) = false) (hs' : Obj.IsDictOf (PySem.strKind prog w) ob []) (hi' : Obj.IsDictOf (intKind prog w) ob []) (d1 : o1.data = .cell (some (.str x tx))) (hx : x.length ≤ Bd) (hB : 4 ≤ Bd) (hB2 : Bd ≤ 80) (hy : y.length ≤ 4)
    (l1 : @LT.lt Nat _ (L + 1 + 1 + 1) i) (l2 : @LT.lt Nat _ i pn) (hip : i ≠ pn) (g1 : @LT.lt Nat _ pn ce) (g2 : @LT.lt Nat _ ce ca) (g3 : @LT.lt Nat _ ca pd) (g4 : @LT.lt Nat _ pd sd) (g5 : @LT.lt Nat _ sd sa) (g6 : @LT.lt Nat _ sa ld) (g7 : @LT.lt Nat _ ld la) (l3 : @LT.lt Nat _ pn td) (g8 : @LT.lt Nat _ la I) (l4 : @LT.lt Nat _ td ce ∨ @LT.lt Nat _ I td)
    (next : ∀ (td' : Addr) (x' : Str) (a' oo' : Int) (c' : Option Int) (cv' cw' : Value) (to' ty' tx' t2' : Tok) (o1' : Obj) m' h' tk', Fr h₀ L h' m' → Has m' [(Str.ofString "pen", .ref pn), (Str.ofString "told", .ref td'), (Str.ofString "counter", .ref ca), (Str.ofString "scalar", .ref sa), (Str.ofString "lv", .ref la)] → News h₀ L h' [(I, oI), (la, instObj 501 ld), (ld, lvtD w.params r1 r2 r3 r4 r5 (.ref ca) sa oo' to' cw' b), (sa, instObj 147 sd), (sd, scaD w.params v1 v2 v3 v4 v5 v6 v7 v8 1 tn 1 tc wk (.str x' ty')), (ca, instObj 437 ce), (ce, cntD w.params q1 q2 q3 hv pd), (pd, ob), (td', tup [.int a' t2', .bool b, cv']), (pn, lst [.ref i, .int (k : Int) t] n), (i, lst vs n'), (L + 1 + 1 + 1, o3), (L + 1 + 1, o2), (L + 1, o1')] → o1'.data = .cell (some (.str x' tx')) → CntV cv' c' → CntV cw' c' → 0 ≤ a' → (oo' = if b = true then -a' else a') → x'.length ≤ Bd + 4 → @LT.lt Nat _ pn td' → (@LT.lt Nat _ td' ce ∨ @LT.lt Nat _ I td') → Q .next { s with heap := h', toks := tk' }) :
    wpAny (model prog w) (callerA.deeper (lawEnv w.params L f cd)) (execs (loopCut w.params 2 1) (lawEnv w.params L f cd)) Q E s := by
  w_top off
  have hb : begT x.length a b = begOf x.length (lvB x.length b oo) := by unfold lvB; rw [hoo]; exact (lv_beg2 x.length a b ha).symm
  have hp := lput_put (y := y) (c := c) hb
  have ap1 : Apart (L + 1 + 1) (L + 1) := .gt (Nat.lt_succ_self _)
  have ap2 : Apart (L + 1 + 1 + 1) (L + 1) := .gt (Nat.lt_trans (Nat.lt_succ_self _) (Nat.lt_succ_self _))
  have ap3 : Apart i (L + 1) := .gt (Nat.lt_trans (Nat.lt_succ_self _) (Nat.lt_trans (Nat.lt_succ_self _) l1))
  have ap4 : Apart pn (L + 1) := .gt (Nat.lt_trans (Nat.lt_succ_self _) (Nat.lt_trans (Nat.lt_succ_self _) (Nat.lt_trans l1 l2)))
  have ap5 : Apart ce (L + 1) := .gt (Nat.lt_trans (Nat.lt_succ_self _) (Nat.lt_trans (Nat.lt_succ_self _) (Nat.lt_trans l1 (Nat.lt_trans l2 g1))))
  have ap6 : Apart ca (L + 1) := .gt (Nat.lt_trans (Nat.lt_succ_self _) (Nat.lt_trans (Nat.lt_succ_self _) (Nat.lt_trans l1 (Nat.lt_trans l2 (Nat.lt_trans g1 g2)))))
  have ap7 : Apart pd (L + 1) := .gt (Nat.lt_trans (Nat.lt_succ_self _) (Nat.lt_trans (Nat.lt_succ_self _) (Nat.lt_trans l1 (Nat.lt_trans l2 (Nat.lt_trans g1 (Nat.lt_trans g2 g3))))))
  have ap8 : Apart sd (L + 1) := .gt (Nat.lt_trans (Nat.lt_succ_self _) (Nat.lt_trans (Nat.lt_succ_self _) (Nat.lt_trans l1 (Nat.lt_trans l2 (Nat.lt_trans g1 (Nat.lt_trans g2 (Nat.lt_trans g3 g4)))))))
  have ap9 : Apart sa (L + 1) := .gt (Nat.lt_trans (Nat.lt_succ_self _) (Nat.lt_trans (Nat.lt_succ_self _) (Nat.lt_trans l1 (Nat.lt_trans l2 (Nat.lt_trans g1 (Nat.lt_trans g2 (Nat.lt_trans g3 (Nat.lt_trans g4 g5))))))))
  have ap10 : Apart ld (L + 1) := .gt (Nat.lt_trans (Nat.lt_succ_self _) (Nat.lt_trans (Nat.lt_succ_self _) (Nat.lt_trans l1 (Nat.lt_trans l2 (Nat.lt_trans g1 (Nat.lt_trans g2 (Nat.lt_trans g3 (Nat.lt_trans g4 (Nat.lt_trans g5 g6)))))))))
  have ap11 : Apart la (L + 1) := .gt (Nat.lt_trans (Nat.lt_succ_self _) (Nat.lt_trans (Nat.lt_succ_self _) (Nat.lt_trans l1 (Nat.lt_trans l2 (Nat.lt_trans g1 (Nat.lt_trans g2 (Nat.lt_trans g3 (Nat.lt_trans g4 (Nat.lt_trans g5 (Nat.lt_trans g6 g7))))))))))
  have ap12 : Apart I (L + 1) := .gt (Nat.lt_trans (Nat.lt_succ_self _) (Nat.lt_trans (Nat.lt_succ_self _) (Nat.lt_trans l1 (Nat.lt_trans l2 (Nat.lt_trans g1 (Nat.lt_trans g2 (Nat.lt_trans g3 (Nat.lt_trans g4 (Nat.lt_trans g5 (Nat.lt_trans g6 (Nat.lt_trans g7 g8)))))))))))
  have ap13 : Apart td (L + 1) := .gt (Nat.lt_trans (Nat.lt_trans (Nat.lt_succ_self _) (Nat.lt_trans (Nat.lt_succ_self _) (Nat.lt_trans l1 l2))) l3)
  have ap14 : Apart (L + 1) sd := .lt (Nat.lt_trans (Nat.lt_succ_self _) (Nat.lt_trans (Nat.lt_succ_self _) (Nat.lt_trans l1 (Nat.lt_trans l2 (Nat.lt_trans g1 (Nat.lt_trans g2 (Nat.lt_trans g3 g4)))))))
  have ap15 : Apart (L + 1 + 1) sd := .lt (Nat.lt_trans (Nat.lt_succ_self _) (Nat.lt_trans l1 (Nat.lt_trans l2 (Nat.lt_trans g1 (Nat.lt_trans g2 (Nat.lt_trans g3 g4))))))
  have ap16 : Apart (L + 1 + 1 + 1) sd := .lt (Nat.lt_trans l1 (Nat.lt_trans l2 (Nat.lt_trans g1 (Nat.lt_trans g2 (Nat.lt_trans g3 g4)))))
  have ap17 : Apart i sd := .lt (Nat.lt_trans l2 (Nat.lt_trans g1 (Nat.lt_trans g2 (Nat.lt_trans g3 g4))))
  have ap18 : Apart pn sd := .lt (Nat.lt_trans g1 (Nat.lt_trans g2 (Nat.lt_trans g3 g4)))
  have ap19 : Apart ce sd := .lt (Nat.lt_trans g2 (Nat.lt_trans g3 g4))
  have ap20 : Apart ca sd := .lt (Nat.lt_trans g3 g4)
  have ap21 : Apart pd sd := .lt g4
  have ap22 : Apart sa sd := .gt g5
  have ap23 : Apart ld sd := .gt (Nat.lt_trans g5 g6)
  have ap24 : Apart la sd := .gt (Nat.lt_trans g5 (Nat.lt_trans g6 g7))
  have ap25 : Apart I sd := .gt (Nat.lt_trans g5 (Nat.lt_trans g6 (Nat.lt_trans g7 g8)))
  have ap26 : Apart td sd := .td l4 (Nat.lt_trans g2 (Nat.lt_trans g3 g4)) (Nat.lt_trans g5 (Nat.lt_trans g6 (Nat.lt_trans g7 g8)))
  have ap27 : Apart (L + 1) ld := .lt (Nat.lt_trans (Nat.lt_succ_self _) (Nat.lt_trans (Nat.lt_succ_self _) (Nat.lt_trans l1 (Nat.lt_trans l2 (Nat.lt_trans g1 (Nat.lt_trans g2 (Nat.lt_trans g3 (Nat.lt_trans g4 (Nat.lt_trans g5 g6)))))))))
  have ap28 : Apart (L + 1 + 1) ld := .lt (Nat.lt_trans (Nat.lt_succ_self _) (Nat.lt_trans l1 (Nat.lt_trans l2 (Nat.lt_trans g1 (Nat.lt_trans g2 (Nat.lt_trans g3 (Nat.lt_trans g4 (Nat.lt_trans g5 g6))))))))
  have ap29 : Apart (L + 1 + 1 + 1) ld := .lt (Nat.lt_trans l1 (Nat.lt_trans l2 (Nat.lt_trans g1 (Nat.lt_trans g2 (Nat.lt_trans g3 (Nat.lt_trans g4 (Nat.lt_trans g5 g6)))))))
  have ap30 : Apart i ld := .lt (Nat.lt_trans l2 (Nat.lt_trans g1 (Nat.lt_trans g2 (Nat.lt_trans g3 (Nat.lt_trans g4 (Nat.lt_trans g5 g6))))))
  have ap31 : Apart pn ld := .lt (Nat.lt_trans g1 (Nat.lt_trans g2 (Nat.lt_trans g3 (Nat.lt_trans g4 (Nat.lt_trans g5 g6)))))
  have ap32 : Apart ce ld := .lt (Nat.lt_trans g2 (Nat.lt_trans g3 (Nat.lt_trans g4 (Nat.lt_trans g5 g6))))
  have ap33 : Apart ca ld := .lt (Nat.lt_trans g3 (Nat.lt_trans g4 (Nat.lt_trans g5 g6)))
  have ap34 : Apart pd ld := .lt (Nat.lt_trans g4 (Nat.lt_trans g5 g6))
  have ap35 : Apart sd ld := .lt (Nat.lt_trans g5 g6)
  have ap36 : Apart sa ld := .lt g6
  have ap37 : Apart la ld := .gt g7
  have ap38 : Apart I ld := .gt (Nat.lt_trans g7 g8)
  have ap39 : Apart td ld := .td l4 (Nat.lt_trans g2 (Nat.lt_trans g3 (Nat.lt_trans g4 (Nat.lt_trans g5 g6)))) (Nat.lt_trans g7 g8)
  have F := fr_has F hm
  dsimp only [kstB] at F
  refine' loop_as ?k6 ?k7 ?_
  (case k6 => k_is)
  (case k7 => rfl)
  simp only [List.drop, List.take]
  walk_at "to_put"
  · exact next _ _ _ _ _ _ _ _ _ _ _ _ _ _ _ (by k_asm) (by unfold Has; kst_all) (news_sub (by k_asm) (by walk_at "mem_any")) (by assumption) hc hc2 ha hoo (by omega) l3 l4
  · cases hl : lputOf x a b c y with
    | none =>
      have hg : putOf x (begOf x.length (lvB x.length b oo)) c y = none := by rw [← hp, hl]; rfl
      clear hp
      k_steps
      exact next _ _ _ _ _ _ _ _ _ _ _ _ _ _ _ (by k_asm) (by unfold Has; kst_all) (news_sub (by k_asm) (by walk_at "mem_any")) d1 hc hc2 ha hoo (by omega) l3 l4
    | some q =>
      obtain ⟨z, v, o, c'⟩ := q
      have hg : putOf x (begOf x.length (lvB x.length b oo)) c y = some (z, v) := by rw [← hp, hl]; rfl
      obtain ⟨e1, e2, e3, e4⟩ := lput_facts hl ha
      clear hp
      k_steps
      exact next _ _ _ _ c' _ _ _ _ _ _ _ _ _ _ (by k_asm) (by unfold Has; kst_all) (news_sub (by k_asm) (by walk_at "mem_any")) (by assumption) (by assumption) (by rw [e3]; assumption) e1 (by rw [hoo, e2]; split <;> omega) (by omega) (by show (_ : Nat) < _; omega) (Or.inr (by show (_ : Nat) < _; omega))

end
example : True := by
  k_with_none
  k_with "enter_cells" => (refine' code_defC (by k_asm) (by k_asm) (by k_asm) (by k_asm) (by k_asm) (by exact rfl) (by exact rfl) (by assumption) (by k_is) (by k_is) (by ktr_room) (by exact BindsTo.of_eq rfl) (by exact rfl) (by decide +kernel) ?_ (by exact rfl) (by exact rfl) (by exact rfl); k_whole; intro g' L' h' tk' cells' FG' F' N' Y' B' X' T' l1; (try k_lt l1); k_cells Y'; (try simp only [List.cons_append, List.nil_append] at N'); (try dsimp only); (try k_lift B'); (try k_fold))
  k_with "eval ListComp" => (k_here; first | ((with_reducible show wpAny _ _ (eval (PySem.Expr.ListComp _ [PySem.Comprehension.mk _ _ [_] _] _ _) _) _ _ _); k_dflt (refine LCt.ListComp_T (F₀ := by k_asm) (by with_unfolding_all rfl) (by decide) (by rfl) (by decide) (by rfl) ?_)) | ((with_reducible show wpAny _ _ (eval (PySem.Expr.ListComp _ [PySem.Comprehension.mk _ _ [] _] _ _) _) _ _ _); k_dflt (refine LCg.ListComp_U (F₀ := by k_asm) (by with_unfolding_all rfl) (by decide) (by rfl) (by decide) (by rfl) ?_)))
  k_with "is_comp" => first | (with_reducible refine' LCt.CompSrcT.range ?_ ?_ ?_ ?_ ?_ ?_ ?_ ?_) | (with_reducible refine' LCg.CompSrc.range ?_ ?_ ?_ ?_ ?_ ?_ ?_ ?_) | (with_reducible refine' LCt.CompSrcT.ledger ?_ ?_ ?_ ?_ ?_ ?_) | (with_reducible refine' LCg.CompSrc.ledger ?_ ?_ ?_ ?_ ?_ ?_)
  k_with "to_comp" => repeat' (first | ((fail_if_success (walk_at "is_comp")); first | (k_unfold; (try dsimp only)) | (k_end; wrow_close) | walk1 | (dsimp only; walk1) | (leave1; try dsimp only)))
  k_with "comp_range" => first | (refine' LCt.CompSrcT.range (by exact rfl) (by k_asm) (by k_asm) (by assumption) (by exact small_one (by omega) (by omega) (by omega) (by omega)) (by first | exact rangeSize_nat _ _ | rfl) (by rw [PySem.sizeLine_eq]; omega) ?_; intro g') | (refine' LCg.CompSrc.range (by exact rfl) (by k_asm) (by k_asm) (by assumption) (by exact small_one (by omega) (by omega) (by omega) (by omega)) (by first | exact rangeSize_nat _ _ | rfl) (by rw [PySem.sizeLine_eq]; omega) ?_; intro g')
  k_with "mem_tail" => (intro q9 hq9; repeat' (first | with_reducible exact hq9 | refine List.mem_cons_of_mem _ ?_))
  k_with "news_sub" => first | k_asm | (refine news_sub (by k_asm) ?_; walk_at "mem_tail")
  k_with "led_lt" => first | assumption | (refine led_lt (by k_asm) ?_; walk_at "mem_tail") | ((with_reducible rename AllLt _ _ => ql9); exact ktn_ltOf ql9) | ((with_reducible rename _ ∧ AllLt _ _ => ql9); exact ktn_ltOf ql9.2) | ((with_reducible rename _ ∧ _ ∧ AllLt _ _ => ql9); exact ktn_ltOf ql9.2.2)
  k_with "mem_at" => first | exact List.Mem.head _ | (refine List.Mem.tail _ ?_; walk_at "mem_at")
  k_with "mem_any" => first | exact mem_nil_all | exact fun _ h => h | (refine mem_cons_all (by walk_at "mem_at") (by walk_at "mem_any")) | (walk_at "mem_tail")
  k_with "to_while" => repeat' (first | ((fail_if_success (with_reducible show wpAny _ _ (exec (Stmt.While _ _ _ _) _) _ _ _)); first | (k_unfold; (try dsimp only)) | (k_end; wrow_close) | walk1 | (dsimp only; walk1) | (leave1; try dsimp only)))
  k_with "ne9" => first | assumption | exact Nat.ne_of_lt (by omega) | exact Nat.ne_of_gt (by omega) | k_ne
  k_with "enter_n" => (refine' code_def (by k_asm) (by k_asm) (by k_asm) (by k_asm) (by k_asm) (by exact rfl) (by exact rfl) (by first | exact rfl | assumption) (by k_is) (by k_is) (by ktr_room) (by first | exact BindsTo.of_eq rfl | exact binds_K (by k_in) rfl (by k_is) rfl rfl rfl) (by exact locs rfl) ?_ (by exact rfl) (by exact rfl) (by exact rfl) (by decide); k_whole)
  k_with "enter_y" => (walk_at "enter_n"; intro g' L' h' FG' F' N' B' X' T'; (try dsimp only); (try k_lift B'); (try k_fold))
  k_with "call builtin:str.join" => (k_here; (with_reducible show wpAny _ _ (call (Value.builtin "str.join") [Value.str _ _, Value.ref _]) _ _ _); (with_reducible rename CarriedAll _ (List.map (fun _ => PyData.str (chr _)) _) => ktC); (refine join_chrs (by first | is_list | exact News.isList (by k_asm) (by k_mem)) ktC (by first | omega | (refine Nat.le_trans (pickC_len _ _ _ _) ?_; omega)) ?_; intro _ _))
  k_with "call ref" => (k_here; (with_reducible show wpAny _ _ (call (Value.ref 519) _) _ _ _); k_dflt (refine' draw_use (by k_asm) (by k_asm) (by k_asm) (by k_asm) (by k_asm) (by first | exact rfl | assumption) (by ktr_room) (by ktr_units) (by walk_at "upd") (by exact rfl) (by k_mem) (by assumption) (by assumption) (by assumption) (by assumption) (by omega) ?_); intro v9 t9 u9 n9 h9 tk9 F9 N9; (try dsimp only at N9); (try dsimp only); (try k_fold); (try k_sweep))
  k_with "call ref" => (k_here; (with_reducible show wpAny _ _ (call (Value.ref 67) _) _ _ _); k_dflt (refine' span_use (by k_asm) (by k_asm) (by k_asm) (by k_asm) (by k_asm) (by first | exact rfl | assumption) (by ktr_room) (by ktr_units) (by first | assumption | exact CntV.none | exact CntV.int _ _) (by omega) ?_ ?_); (first | (intro h9 tk9 hs9 F9 N9) | (intro b9 e9 d9 t9 u9 h9 tk9 hs9 ha9 hb9 hc9 F9 N9 hl9; k_lt hl9)) <;> (try dsimp only) <;> (try k_fold) <;> (try k_sweep))
  k_with "call ref" => (k_here; (with_reducible show wpAny _ _ (call (Value.ref 74) _) _ _ _); k_dflt (refine' value_use (by k_asm) (by k_asm) (by k_asm) (by k_asm) (by k_asm) (by first | exact rfl | assumption) (by ktr_room) (by ktr_units) (by first | assumption | exact CntV.none | exact CntV.int _ _) (by omega) ?_ ?_); (first | (intro h9 tk9 hs9 F9 N9) | (intro z9 t9 h9 tk9 hs9 F9 N9)) <;> (try dsimp only) <;> (try k_fold) <;> (try k_sweep))
  k_with "call ref" => (k_here; (with_reducible show wpAny _ _ (call (Value.ref 531) _) _ _ _); k_dflt (refine' ends_use (by k_asm) (by k_asm) (by k_asm) (by k_asm) (by k_asm) (by first | exact rfl | assumption) (by ktr_room) (by ktr_units) (by k_mem) (by first | assumption | exact CntV.none | exact CntV.int _ _) ?_); intro B9 e9 d9 t9 u9 h9 tk9 hb9 he9 F9 N9 hl9; k_lt hl9; (try dsimp only); (try k_fold); (try k_sweep))
  k_with "call ref" => (k_here; (with_reducible show wpAny _ _ (call (Value.ref 536) _) _ _ _); k_dflt (refine' part_use (by k_asm) (by k_asm) (by k_asm) (by k_asm) (by k_asm) (by first | exact rfl | assumption) (by ktr_room) (by ktr_units) (by k_mem) (by first | assumption | exact CntV.none | exact CntV.int _ _) (by omega) ?_ ?_); (first | (intro h9 tk9 hs9 F9 N9) | (intro d9 z9 p9 t9 u9 h9 tk9 hs9 hf9 F9 N9 hl9; (try k_lt hl9))) <;> (try dsimp only) <;> (try k_fold) <;> (try k_sweep))
  k_with "call ref" => (k_here; (with_reducible show wpAny _ _ (call (Value.ref 524) _) _ _ _); (try k_fmods); k_dflt (refine' word_use (by k_asm) (by k_asm) (by k_asm) (by k_asm) (by k_asm) (by first | exact rfl | assumption) (by ktr_room) (by ktr_units) (by walk_at "upd") (by exact rfl) (by k_mem) (by assumption) (by assumption) (by assumption) (by assumption) (by omega) (by omega) (by omega) ?_); intro z9 t9 u9 n9 h9 tk9 zl9 zok9 F9 N9; (try dsimp only at N9); (try dsimp only); (try k_fold); (try k_sweep))
  k_with "call ref" => (k_here; (with_reducible show wpAny _ _ (call (Value.ref 541) _) _ _ _); k_dflt (refine' places_use (by k_asm) (by k_asm) (by k_asm) (by k_asm) (by k_asm) (by first | exact rfl | assumption) (by ktr_room) (by ktr_units) (by omega) (by omega) ?_); intro d9 vs9 n9 h9 tk9 hp9 F9 N9 hl9; (try simp only [List.forall_mem_cons] at hl9); (try dsimp only); (try k_fold); (try k_sweep))
  k_with "call ref" => (k_here; (with_reducible show wpAny _ _ (call (Value.ref 548) _) _ _ _); k_dflt (refine' lput_use (by k_asm) (by k_asm) (by k_asm) (by k_asm) (by k_asm) (by first | exact rfl | assumption) (by ktr_room) (by ktr_units) (by k_mem) (by first | assumption | exact CntV.none | exact CntV.int _ _) (by omega) (by omega) ?_ ?_); (first | (intro d9 e9 z9 v9 o9 c9 cv9 t9 u9 w9 h9 tk9 hs9 hc9 F9 N9 hl9 he9; (try k_lt hl9)) | (intro h9 tk9 hs9 F9 N9)) <;> (try dsimp only) <;> (try k_fold) <;> (try k_sweep))
  k_with "call ref" => (k_here; (with_reducible show wpAny _ _ (call (Value.ref 555) _) _ _ _); k_dflt (refine' given_none (by k_asm) (by k_asm) (by k_asm) (by k_asm) (by k_asm) (by k_asm) (by k_asm) (by first | exact rfl | assumption) (by ktr_room) (by ktr_units) (by first | assumption | exact CntV.none | exact CntV.int _ _) (by omega) (by omega) (by assumption) ?_); intro h9 tk9 F9 N9; (try dsimp only); (try k_fold); (try k_sweep))
  k_with "call ref" => (k_here; (with_reducible show wpAny _ _ (call (Value.ref 555) _) _ _ _); k_dflt (refine' given_some (by k_asm) (by k_asm) (by k_asm) (by k_asm) (by k_asm) (by k_asm) (by k_asm) (by first | exact rfl | assumption) (by ktr_room) (by ktr_units) (by first | assumption | exact CntV.none | exact CntV.int _ _) (by omega) (by omega) (by assumption) ?_); intro d9 t9 u9 h9 tk9 F9 N9 hl9; (try k_lt hl9); (try dsimp only); (try k_fold); (try k_sweep))
  k_with "call ref" => (k_here; (with_reducible show wpAny _ _ (call (Value.ref 95) _) _ _ _); k_dflt (refine' index_use (by k_asm) (by k_asm) (by k_asm) (by k_asm) (by k_asm) (by first | exact rfl | assumption) (by ktr_room) (by ktr_units) (by omega) (by omega) ?_); intro v9 t9 h9 tk9 hx9 F9 N9; (try dsimp only); (try k_fold); (try k_sweep))
  k_with "call ref" => (k_here; (with_reducible show wpAny _ _ (call (Value.ref 102) _) _ _ _); k_dflt (refine' rindex_use (by k_asm) (by k_asm) (by k_asm) (by k_asm) (by k_asm) (by first | exact rfl | assumption) (by ktr_room) (by ktr_units) (by first | assumption | exact CntV.none | exact CntV.int _ _) (by omega) (by omega) ?_); intro v9 t9 h9 tk9 hx9 F9 N9; (try dsimp only); (try k_fold); (try k_sweep))
  k_with "call ref" => (k_here; (with_reducible show wpAny _ _ (call (Value.ref 399) _) _ _ _); k_dflt (refine' store_use (by k_asm) (by k_asm) (by k_asm) (by k_asm) (by k_asm) (by first | exact rfl | assumption) (by ktr_room) (by ktr_units) (by k_mem) (by k_mem) (by k_mem) (by k_mem) (by walk_at "upd") (by walk_at "ne9") (by walk_at "ne9") (by walk_at "ne9") (by walk_at "ne9") (by assumption) (by assumption) (by assumption) ?_); intro h9 tk9 F9 N9; (try dsimp only at N9); (try dsimp only); (try k_fold); (try k_sweep))
  k_with "call ref" => (k_here; (with_reducible show wpAny _ _ (call (Value.ref 459) []) _ _ _); k_dflt (refine' limits_use (by k_asm) (by k_asm) (by k_asm) (by k_asm) (by k_asm) (by first | exact rfl | assumption) (by ktr_room) (by ktr_units) ?_); intro l9 h9 tk9 F9 N9; (try dsimp only); (try k_fold); (try k_sweep))
  k_with "call ref" => (k_here; (with_reducible show wpAny _ _ (call (Value.ref 306) _) _ _ _); k_dflt (refine' heap_use (by k_asm) (by k_asm) (by k_asm) (by k_asm) (by k_asm) (by first | exact rfl | assumption) (by ktr_room) (by ktr_units) ?_); intro ha9 hd9 t9 u9 v9 w9 z9 h9 tk9 F9 N9 hl9 ho9; (have hl8 := hl9; (try k_lt hl8)); (try dsimp only); (try k_fold); (try k_sweep))
  k_with "call ref" => (k_here; (with_reducible show wpAny _ _ (call (Value.ref 437) _) _ _ _); k_dflt (refine' counter_use (by k_asm) (by k_asm) (by k_asm) (by k_asm) (by k_asm) (by first | exact rfl | assumption) (by ktr_room) (by ktr_units) ?_); intro ca9 cd9 pd9 t9 u9 v9 ob9 h9 tk9 F9 N9 hl9 ho9 hp9 lo9 hs9 hi9; (have hl8 := hl9; (try k_lt hl8)); (try dsimp only); (try k_fold); (try k_sweep))
  k_with "call ref" => (k_here; (with_reducible show wpAny _ _ (call (Value.ref 406) _) _ _ _); k_dflt (refine' fresh_use (by k_asm) (by k_asm) (by k_asm) (by k_asm) (by k_asm) (by first | exact rfl | assumption) (by ktr_room) (by ktr_units) (by assumption) (by omega) (by omega) (by omega) (by omega) ?_); intro sa9 sd9 a9 b9 c9 d9 e9 f9 g9 i9 tn9 tc9 wk9 h9 tk9 F9 N9 ho9 hp9; (try dsimp only); (try k_fold); (try k_sweep))
  k_with "call ref" => (k_here; (with_reducible show wpAny _ _ (call (Value.ref 501) _) _ _ _); k_dflt (refine' lvt_use (by k_asm) (by k_asm) (by k_asm) (by k_asm) (by k_asm) (by first | exact rfl | assumption) (by ktr_room) (by ktr_units) (by first | assumption | exact CntV.none | exact CntV.int _ _) ?_); intro la9 ld9 t9 u9 v9 w9 x9 h9 tk9 F9 N9 hl9 ho9; (have hl8 := hl9; (try k_lt hl8)); (try dsimp only); (try k_fold); (try k_sweep))
  k_with "call ref" => (k_here; (with_reducible show wpAny _ _ (call (Value.ref 338) _) _ _ _); k_dflt (refine' vo_use (by k_asm) (by k_asm) (by k_asm) (by k_asm) (by k_asm) (by first | exact rfl | assumption) (by ktr_room) (by ktr_units) (by k_mem) (by k_mem) ?_); intro h9 tk9 F9 N9; (try dsimp only) <;> (try k_fold) <;> (try k_sweep))
  k_with "call ref" => (k_here; (with_reducible show wpAny _ _ (call (Value.ref 484) _) _ _ _); k_dflt (refine' beg_use (by k_asm) (by k_asm) (by k_asm) (by k_asm) (by k_asm) (by first | exact rfl | assumption) (by ktr_room) (by ktr_units) (by k_mem) (by k_mem) ?_); intro t9 h9 tk9 F9 N9; (try dsimp only) <;> (try k_fold) <;> (try k_sweep))
  k_with "call ref" => (k_here; (with_reducible show wpAny _ _ (call (Value.ref 491) _) _ _ _); k_dflt (refine' get_use (by k_asm) (by k_asm) (by k_asm) (by k_asm) (by k_asm) (by first | exact rfl | assumption) (by ktr_room) (by ktr_units) (by k_mem) (by k_mem) (by k_mem) (by k_mem) (by first | assumption | exact CntV.none | exact CntV.int _ _) (by omega) ?_ ?_); (first | (intro h9 tk9 hs9 F9 N9) | (intro z9 t9 h9 tk9 hs9 F9 N9)) <;> (try dsimp only) <;> (try k_fold) <;> (try k_sweep))
  k_with "call ref" => (k_here; (with_reducible show wpAny _ _ (call (Value.ref 562) _) _ _ _); k_dflt (refine' set_none (by k_asm) (by k_asm) (by k_asm) (by k_asm) (by k_asm) (by k_asm) (by k_asm) (by first | exact rfl | assumption) (by ktr_room) (by ktr_units) (by k_mem) (by k_mem) (by k_mem) (by k_mem) (by first | assumption | exact CntV.none | exact CntV.int _ _) (by omega) (by assumption) ?_); intro h9 tk9 F9 N9; (try dsimp only); (try k_fold); (try k_sweep))
  k_with "call ref" => (k_here; (with_reducible show wpAny _ _ (call (Value.ref 562) _) _ _ _); k_dflt (refine' set_some (by k_asm) (by k_asm) (by k_asm) (by k_asm) (by k_asm) (by k_asm) (by k_asm) (by first | exact rfl | assumption) (by ktr_room) (by ktr_units) (by k_mem) (by k_mem) (by k_mem) (by k_mem) (by walk_at "drop") (by walk_at "drop") (by first | assumption | exact CntV.none | exact CntV.int _ _) (by omega) (by omega) (by k_mem) (by k_mem) (by k_mem) (by k_mem) (by k_mem) (by walk_at "ne9") (by walk_at "ne9") (by walk_at "ne9") (by walk_at "ne9") (by walk_at "ne9") (by assumption) (by assumption) (by assumption) (by assumption) ?_); intro to9 tv9 cv9 h9 tk9 hc9 F9 N9; (try dsimp only); (try k_fold); (try k_sweep))
  k_with "subscriptTail Name Slice ref ref" => (k_here; (with_reducible show wpAny _ _ (subscriptTail _ (PySem.Expr.Slice none _ none _) (Value.ref _) (Value.ref _)) _ _ _); k_dflt (refine' tail_two (by k_asm) (by k_asm) (by k_mem) ?_ (by with_unfolding_all rfl) (by intro _; with_unfolding_all rfl)); intro D9 h9 F9 N9 hl9; (try k_lt hl9); (try dsimp only))
  k_with "compareOp NotEq ref ref" => (k_here; (with_reducible show wpAny _ _ (compareOp CmpOp.NotEq (Value.ref _) (Value.ref _)) _ _ _); k_dflt (refine' ne_two (by k_asm) (by k_mem) (by k_mem) (by assumption) (by assumption) (by first | ktr_units | exact Nat.le_of_ble_eq_true rfl | (show _ < _; decide)) ?_))
  k_with "subscriptTail" => (k_here; (with_reducible show wpAny _ _ (subscriptTail _ _ (Value.ref _) (Value.int _ _)) _ _ _); k_dflt (refine' item_tupleT (by exact News.isTup (by k_asm) (by k_mem)) (by decide) (by decide) (by rfl) (by rfl) ?_; k_whole))
  k_with "subscriptTail Name Constant ref int" => (k_here; (with_reducible show wpAny _ _ (subscriptTail _ _ (Value.ref _) (Value.int _ _)) _ _ _); k_dflt (refine' item_tupleT (by exact News.isTup (by k_asm) (by k_mem)) (by decide) (by decide) (by rfl) (by rfl) ?_; k_whole))
  trivial
section
set_option linter.unusedSimpArgs false in
set_option maxHeartbeats 8000000 in
theorem law_5c {prog : Program} {w : World} {p : Program} {loose : List Str} {mean : ExcName → Option Value} {mg mb : Str → Option Value} {h₀ : Heap} {L f pn i td I la ld sa sd ca ce pd : Addr} {cd : Value} {s : Shared} {m : Str → Option Value} {oI ob o1 o2 o3 : Obj} {vs : List Value} {ns : List Int} {k n n' : Nat} {x : Str} {a oo : Int} {b : Bool} {c : Option Int} {cv cw wk hv : Value} {t tx ty t2 to tn tc r1 r2 r3 r4 r5 v1 v2 v3 v4 v5 v6 v7 v8 q1 q2 q3 : Tok} {Q : Flow → Shared → Prop} {E : Value → Shared → Prop}
    (B : Below callerA h₀ [] h₀) (T : Top p loose mean mg mb h₀) (X : (K w.params).In h₀)
    (F : Fr h₀ L s.heap m) (hm : Has m [(Str.ofString "pen", .ref pn), (Str.ofString "told", .ref td), (Str.ofString "counter", .ref ca), (Str.ofString "scalar", .ref sa), (Str.ofString "lv", .ref la)])
    (N : News h₀ L s.heap [(I, oI), (la, instObj 501 ld), (ld, lvtD w.params r1 r2 r3 r4 r5 (.ref ca) sa oo to cw b), (sa, instObj 147 sd), (sd, scaD w.params v1 v2 v3 v4 v5 v6 v7 v8 1 tn 1 tc wk (.str x ty)), (ca, instObj 437 ce), (ce, cntD w.params q1 q2 q3 hv pd), (pd, ob), (td, tup [.int a t2, .bool b, cv]), (pn, lst [.ref i, .int (k : Int) t] n), (i, lst vs n'), (L + 1 + 1 + 1, o3), (L + 1 + 1, o2), (L + 1, o1)])
    (hc : CntV cv c) (hc2 : CntV cw c) (ha : 0 ≤ a) (hoo : oo = if b = true then -a else a) (d1 : o1.data = .cell (some (.str x tx))) (hx : x.length ≤ 100)
    (l1 : @LT.lt Nat _ (L + 1 + 1 + 1) i) (l2 : @LT.lt Nat _ i pn) (hip : i ≠ pn) (g1 : @LT.lt Nat _ pn ce) (g2 : @LT.lt Nat _ ce ca) (g3 : @LT.lt Nat _ ca pd) (g4 : @LT.lt Nat _ pd sd) (g5 : @LT.lt Nat _ sd sa) (g6 : @LT.lt Nat _ sa ld) (g7 : @LT.lt Nat _ ld la) (l3 : @LT.lt Nat _ pn td) (g8 : @LT.lt Nat _ la I) (l4 : @LT.lt Nat _ td ce ∨ @LT.lt Nat _ I td)
    (next : ∀ m' h' tk', Fr h₀ L h' m' → Has m' [(Str.ofString "pen", .ref pn), (Str.ofString "told", .ref td), (Str.ofString "counter", .ref ca), (Str.ofString "scalar", .ref sa), (Str.ofString "lv", .ref la)] → News h₀ L h' [(I, oI), (la, instObj 501 ld), (ld, lvtD w.params r1 r2 r3 r4 r5 (.ref ca) sa oo to cw b), (sa, instObj 147 sd), (sd, scaD w.params v1 v2 v3 v4 v5 v6 v7 v8 1 tn 1 tc wk (.str x ty)), (ca, instObj 437 ce), (ce, cntD w.params q1 q2 q3 hv pd), (pd, ob), (td, tup [.int a t2, .bool b, cv]), (pn, lst [.ref i, .int (k : Int) t] n), (i, lst vs n'), (L + 1 + 1 + 1, o3), (L + 1 + 1, o2), (L + 1, o1)] → Q .next { s with heap := h', toks := tk' }) :
    wpAny (model prog w) (callerA.deeper (lawEnv w.params L f cd)) (execs (loopCut w.params 3 2) (lawEnv w.params L f cd)) Q E s := by
  w_top off
  have hb : begOf x.length (if b = true ∧ oo = 0 then (x.length : Int) else oo) = begT x.length a b := by rw [hoo]; exact lv_beg2 x.length a b ha
  have F := fr_has F hm
  dsimp only [kstB] at F
  refine' loop_as ?k6 ?k7 ?_
  (case k6 => k_is)
  (case k7 => rfl)
  simp only [List.drop, List.take]
  k_steps
  all_goals
    (with_reducible rename lpartOf _ _ _ _ = _ => z1)
    (with_reducible rename partOf _ _ _ = _ => z2)
    have e := lpart_part (x := x) (c := c) hb.symm
    rw [z1, z2] at e
    first
    | exact next _ _ _ (by k_asm) (by unfold Has; kst_all) (news_sub (by k_asm) (by walk_at "mem_any"))
    | (exfalso; simp at e; done)
    | (exfalso; (with_reducible rename (_ != _) = true => z3); simp only [Option.map_some, Option.some.injEq] at e; first | (rw [e] at z3; simp at z3; done) | (simp at z3; done))
    | (exfalso; (with_reducible rename (_ != _) = true => z3); simp at z3; done)

end
section
theorem cut5 {α : Type} : ∀ l : List α, l.length = 5 → l = (l.drop 0).take 2 ++ ((l.drop 2).take 1 ++ (l.drop 3).take 2)
  | [_, _, _, _, _], _ => rfl
theorem iter_rngI {prog : Program} {w : World} {A : Around} {E : Value → Shared → Prop} {s : Shared} {env : Env} {h₀ : Heap} {x : Str} {body : List Stmt} {Q : Flow → Shared → Prop} {r : Addr} {a₀ b₀ : Int} {t₀ u₀ v₀ : Tok} {n : Nat} {m₀ : Str → Option Value} {news : Led} (J : Addr → Nat → (Str → Option Value) → Led → Prop)
    (hh : A.handled = none) (hr : IsRange s.heap r a₀ b₀ 1 t₀ u₀ v₀) (hsmall : Builtin.Range.small a₀ b₀ 1 = true) (hn : Builtin.Range.rangeSize a₀ b₀ 1 = (n : Int)) (F : Fr h₀ env.locals s.heap m₀) (N : News h₀ env.locals s.heap news) (hj : J s.heap.objs.size 0 m₀ news)
    (turn : ∀ I i k t m₁ news₁ h tk oI, I = s.heap.objs.size → i < n → J I i m₁ news₁ → (∀ q ∈ news₁, q.1 ≠ I) → Fr h₀ env.locals h (fun y => if y = x then some (.int k t) else m₁ y) → News h₀ env.locals h ((I, oI) :: news₁) →
      wpAny (model prog w) A (execs body env) (TurnPost h₀ env.locals I oI (J I (i + 1)) { s with heap := h, toks := tk } Q) E { s with heap := h, toks := tk })
    (done : ∀ I m₁ news₁ h tk, J I n m₁ news₁ → Fr h₀ env.locals h m₁ → News h₀ env.locals h news₁ → Q .next { s with heap := h, toks := tk }) :
    wpAny (model prog w) A (pyIter (.ref r)) (fun it s₂ => LoopAtV prog w A h₀ env x body Q E it s₂) E s :=
  iter_rng (J s.heap.objs.size) hh hr hsmall hn F N hj (fun i k t m₁ news₁ h tk oI => turn _ i k t m₁ news₁ h tk oI rfl) (fun m₁ news₁ h tk => done _ m₁ news₁ h tk)
theorem range_six {h : Heap} {r : Addr} {v : Int} {t u w : Tok} (hR : IsRange h r 0 (v.fmod 6) 1 t u w) : ∃ n : Nat, n < 6 ∧ IsRange h r 0 (n : Int) 1 t u w := by
  have h1 : 0 ≤ v.fmod 6 := Int.fmod_nonneg_of_pos v (by omega)
  have h2 : v.fmod 6 < 6 := Int.fmod_lt_of_pos v (by omega)
  generalize v.fmod 6 = b at hR h1 h2
  obtain ⟨n, rfl⟩ := Int.eq_ofNat_of_zero_le h1
  exact ⟨n, by omega, hR⟩
theorem range_n (n : Nat) : Builtin.Range.rangeSize 0 (n : Int) 1 = (n : Int) := by
  have := rangeSize_nat 0 (n : Int)
  rw [this]; omega
theorem loop_join {prog : Program} {w : World} {oc : Value} {od : Option Addr} {osl : Array (Option Value)} {name qual : Str} {params : Arguments} {body : List Stmt} {scope : Scope} {dV kV doc pm cdv ct : Value} {an : Option Addr} {L f : Addr} {cd : Value} {Q : Flow → Shared → Prop} {E : Value → Shared → Prop} {s : Shared} {tg it : Expr} {lb oe r : List Stmt} {ps : Pos}
    (ho : (K w.params).lookup 567 = some ⟨oc, od, .func (fnOf name qual params body scope dV kV doc pm an cdv ct), osl⟩) (hb : body.drop 14 = .For tg it lb oe ps :: r) (h5 : lb.length = 5)
    (h : wpAny (model prog w) (callerA.deeper (lawEnv w.params L f cd)) (execs (loopCut w.params 0 2 ++ (loopCut w.params 2 1 ++ loopCut w.params 3 2)) (lawEnv w.params L f cd)) Q E s) :
    wpAny (model prog w) (callerA.deeper (envOfC (Str.ofString "law") scope L f cd)) (execs lb (envOfC (Str.ofString "law") scope L f cd)) Q E s := by
  have e1 : fnBody w.params 567 = body := by unfold fnBody; rw [ho]
  have e2 : fnScope w.params 567 = scope := by unfold fnScope; rw [ho]
  have e3 : loopBody w.params = lb := by unfold loopBody; rw [e1, hb]
  unfold lawEnv loopCut at h
  rw [e2, e3, ← cut5 lb h5] at h
  exact h
/-- what holds ahead of a turn of the law's loop -/
inductive LJ (P : Params) (L pn i I la ld sa sd ca ce pd : Addr) (b : Bool) (hv wk : Value) (vs : List Value) (n' : Nat) (ob o2 o3 : Obj) (tn tc r1 r2 r3 r4 r5 v1 v2 v3 v4 v5 v6 v7 v8 q1 q2 q3 : Tok) (j : Nat) (m : Str → Option Value) (nx : Led) : Prop
  | mk (td : Addr) (x : Str) (a oo : Int) (c : Option Int) (cv cw : Value) (k n : Nat) (t to ty tx t2 : Tok) (o1 : Obj) (e : nx = [(la, instObj 501 ld), (ld, lvtD P r1 r2 r3 r4 r5 (.ref ca) sa oo to cw b), (sa, instObj 147 sd), (sd, scaD P v1 v2 v3 v4 v5 v6 v7 v8 1 tn 1 tc wk (.str x ty)), (ca, instObj 437 ce), (ce, cntD P q1 q2 q3 hv pd), (pd, ob), (td, tup [.int a t2, .bool b, cv]), (pn, lst [.ref i, .int (k : Int) t] n), (i, lst vs n'), (L + 1 + 1 + 1, o3), (L + 1 + 1, o2), (L + 1, o1)]) (hm : Has m [(Str.ofString "pen", .ref pn), (Str.ofString "told", .ref td), (Str.ofString "counter", .ref ca), (Str.ofString "scalar", .ref sa), (Str.ofString "lv", .ref la)]) (hc : CntV cv c) (hc2 : CntV cw c) (ha : 0 ≤ a) (hoo : oo = if b = true then -a else a) (d1 : o1.data = .cell (some (.str x tx))) (hx : x.length ≤ 12 + 4 * j) (hk : k ≤ 22 + 6 * j) (l3 : @LT.lt Nat _ pn td) (l4 : @LT.lt Nat _ td ce ∨ @LT.lt Nat _ I td) : LJ P L pn i I la ld sa sd ca ce pd b hv wk vs n' ob o2 o3 tn tc r1 r2 r3 r4 r5 v1 v2 v3 v4 v5 v6 v7 v8 q1 q2 q3 j m nx
theorem ne_all {l : Led} {q : Addr × Obj} {I : Addr} (h : q.1 ≠ I) (hl : ∀ q ∈ l, q.1 ≠ I) : ∀ p ∈ q :: l, p.1 ≠ I := List.forall_mem_cons.mpr ⟨h, hl⟩
theorem has_turn {m : Str → Option Value} {ps : List (Str × Value)} {x : Str} {v : Option Value} (h : Has m ps) (hx : ∀ p ∈ ps, p.1 ≠ x) : Has (fun y => if y = x then v else m y) ps := fun p hp => by
  show (if p.1 = x then v else m p.1) = _
  rw [if_neg (hx p hp)]
  exact h p hp
example : True := by
  k_with "to_iter" => repeat' (first | ((fail_if_success (with_reducible show wpAny _ _ (pyIter _) _ _ _)); first | (k_unfold; (try dsimp only)) | (k_end; wrow_close) | walk1 | (dsimp only; walk1) | (leave1; try dsimp only)))
  trivial
set_option linter.unusedSimpArgs false in
set_option maxHeartbeats 8000000 in
theorem law_5 {prog : Program} {w : World} {p : Program} {loose : List Str} {mean : ExcName → Option Value} {mg mb : Str → Option Value} {h₀ : Heap} {L f pn i td I la ld sa sd ca ce pd : Addr} {cd : Value} {s : Shared} {m : Str → Option Value} {oI ob o1 o2 o3 : Obj} {vs : List Value} {ns : List Int} {k n n' : Nat} {x : Str} {a oo : Int} {b : Bool} {c : Option Int} {cv cw wk hv : Value} {t tx ty t2 to tn tc r1 r2 r3 r4 r5 v1 v2 v3 v4 v5 v6 v7 v8 q1 q2 q3 : Tok} {Q : Flow → Shared → Prop} {E : Value → Shared → Prop}
    (B : Below callerA h₀ [] h₀) (T : Top p loose mean mg mb h₀) (X : (K w.params).In h₀)
    (F : Fr h₀ L s.heap m) (hm : Has m [(Str.ofString "pen", .ref pn), (Str.ofString "told", .ref td), (Str.ofString "counter", .ref ca), (Str.ofString "scalar", .ref sa), (Str.ofString "lv", .ref la)])
    (N : News h₀ L s.heap [(la, instObj 501 ld), (ld, lvtD w.params r1 r2 r3 r4 r5 (.ref ca) sa oo to cw b), (sa, instObj 147 sd), (sd, scaD w.params v1 v2 v3 v4 v5 v6 v7 v8 1 tn 1 tc wk (.str x ty)), (ca, instObj 437 ce), (ce, cntD w.params q1 q2 q3 hv pd), (pd, ob), (td, tup [.int a t2, .bool b, cv]), (pn, lst [.ref i, .int (k : Int) t] n), (i, lst vs n'), (L + 1 + 1 + 1, o3), (L + 1 + 1, o2), (L + 1, o1)])
    (hv9 : IntsAre vs ns) (h0 : 0 < ns.length) (hn : ns.length < 2 ^ 20) (hk : k ≤ 21) (hc : CntV cv c) (hc2 : CntV cw c) (ha : 0 ≤ a) (hoo : oo = if b = true then -a else a) (lo : (pd == sysModules) = false) (hs' : Obj.IsDictOf (PySem.strKind prog w) ob []) (hi' : Obj.IsDictOf (intKind prog w) ob []) (d1 : o1.data = .cell (some (.str x tx))) (hx : x.length ≤ 12)
    (l1 : @LT.lt Nat _ (L + 1 + 1 + 1) i) (l2 : @LT.lt Nat _ i pn) (hip : i ≠ pn) (g1 : @LT.lt Nat _ pn ce) (g2 : @LT.lt Nat _ ce ca) (g3 : @LT.lt Nat _ ca pd) (g4 : @LT.lt Nat _ pd sd) (g5 : @LT.lt Nat _ sd sa) (g6 : @LT.lt Nat _ sa ld) (g7 : @LT.lt Nat _ ld la) (l3 : @LT.lt Nat _ pn td) (l4 : @LT.lt Nat _ td ce)
    (next : ∀ (k' : Nat) (t : Tok) (n : Nat) (x' : Str) (tx' : Tok) (o1' : Obj) m' h' tk', Fr h₀ L h' m' → Has m' [(Str.ofString "pen", .ref pn)] → News h₀ L h' [(pn, lst [.ref i, .int (k' : Int) t] n), (i, lst vs n'), (L + 1 + 1 + 1, o3), (L + 1 + 1, o2), (L + 1, o1')] → o1'.data = .cell (some (.str x' tx')) → k' ≤ 60 → x'.length ≤ 60 → Q .next { s with heap := h', toks := tk' }) :
    wpAny (model prog w) (callerA.deeper (lawEnv w.params L f cd)) (execs (lawCut w.params 14 1) (lawEnv w.params L f cd)) Q E s := by
  w_top off
  have F := fr_has F hm
  dsimp only [kstB] at F
  refine' law_as ?k6 ?_
  (case k6 => k_is)
  simp only [List.drop, List.take]
  refine wpAny_mono (?_ : wpAny _ _ _ Q (fun _ _ => False) s) (fun _ _ q => q) fun _ _ e => e.elim
  refine wpAny_execs_cons ?_
  k_dflt (refine' For_invV h₀ ?ka ?kb ?_ ?kc PassesOwn.never; (case ka => rfl); (case kb => rfl); (case kc => (intro _; rfl)))
  walk_at "to_iter"
  (with_reducible rename IsRange _ _ _ _ _ _ _ _ => hR)
  obtain ⟨n9, hn9, hR⟩ := range_six hR
  (with_reducible rename Fr _ _ _ _ => F9)
  (with_reducible rename News _ _ _ _ => N9)
  have g8 := Heap.lt_size (N9 _ List.mem_cons_self).1
  dsimp only at g8
  refine iter_rngI (fun I => LJ w.params L pn i I la ld sa sd ca ce pd b hv wk vs n' ob o2 o3 tn tc r1 r2 r3 r4 r5 v1 v2 v3 v4 v5 v6 v7 v8 q1 q2 q3) rfl hR (small_one (by omega) (by omega) (by omega) (by omega)) (range_n n9) F9 N9 ?_ ?_ ?_
  · exact ⟨td, x, a, oo, c, cv, cw, _, _, _, _, _, _, _, _, rfl, (by unfold Has; kst_all), hc, hc2, ha, hoo, d1, (by omega), (by omega), l3, .inl l4⟩
  · intro I j kk tt m₁ news₁ h tk oI hI hj hJ hne F₁ N₁
    have g8 : @LT.lt Nat _ la I := by rw [hI]; exact g8
    obtain ⟨td, x, a, oo, c, cv, cw, k, n, t, to, ty, tx, t2, o1, rfl, hm, hc, hc2, ha, hoo, d1, hx, hk, l3, l4⟩ := hJ
    have hm' := has_turn (x := Str.ofString "turn") (v := some (.int kk tt)) hm (by repeat (first | exact List.forall_mem_nil _ | refine List.forall_mem_cons.mpr ⟨(by show Str.ofString _ ≠ Str.ofString _; decide), ?_⟩))
    refine' loop_join ?k6 ?k7 ?k8 ?_
    (case k6 => k_is)
    (case k7 => rfl)
    (case k8 => rfl)
    refine wpAny_app (law_5a (tx := tx) (c := c) B T X F₁ hm' N₁ hv9 h0 hn (by omega) l1 l2 hip g1 g2 g3 g4 g5 g6 g7 l3 g8 l4 ?_)
    intro k' t n wv tw y ty2 m' h' tk' F' hm N' hk' hy
    refine wpAny_app (law_5b (ns := ns) (Bd := 12 + 4 * j) B T X F' hm N' hc hc2 ha hoo lo hs' hi' d1 hx (by omega) (by omega) hy l1 l2 hip g1 g2 g3 g4 g5 g6 g7 l3 g8 l4 ?_)
    intro td' x' a' oo' c' cv' cw' to' ty' tx' t2' o1' m'' h'' tk'' F'' hm'' N'' d1' hc' hc2' ha' hoo' hx' l3' l4'
    refine law_5c (ns := ns) (tx := tx') (ty := ty') B T X F'' hm'' N'' hc' hc2' ha' hoo' d1' (by omega) l1 l2 hip g1 g2 g3 g4 g5 g6 g7 l3' g8 l4' ?_
    intro m3 h3 tk3 F3 hm3 N3
    show TurnEnd _ _ _ _ _ _ _
    refine ⟨h3, tk3, m3, _, rfl, F3, N3, ?_, ⟨td', x', a', oo', c', cv', cw', _, _, _, _, _, _, _, _, rfl, hm3, hc', hc2', ha', hoo', d1', (by omega), (by omega), l3', l4'⟩⟩
    have b2 := Nat.lt_trans g7 g8
    have b3 := Nat.lt_trans g6 b2
    have b4 := Nat.lt_trans g5 b3
    have b5 := Nat.lt_trans g4 b4
    have b6 := Nat.lt_trans g3 b5
    have b7 := Nat.lt_trans g2 b6
    have b8 := Nat.lt_trans g1 b7
    have b9 := Nat.lt_trans l2 b8
    have c3 := Nat.lt_trans l1 b9
    have c2 := Nat.lt_trans (Nat.lt_succ_self _) c3
    have c1 := Nat.lt_trans (Nat.lt_succ_self _) c2
    have ct : td' ≠ I := l4'.elim (fun h => Nat.ne_of_lt (Nat.lt_trans h b7)) (fun h => Nat.ne_of_gt h)
    exact ne_all (Nat.ne_of_lt g8) (ne_all (Nat.ne_of_lt b2) (ne_all (Nat.ne_of_lt b3) (ne_all (Nat.ne_of_lt b4) (ne_all (Nat.ne_of_lt b6) (ne_all (Nat.ne_of_lt b7) (ne_all (Nat.ne_of_lt b5) (ne_all ct (ne_all (Nat.ne_of_lt b8) (ne_all (Nat.ne_of_lt b9) (ne_all (Nat.ne_of_lt c3) (ne_all (Nat.ne_of_lt c2) (ne_all (Nat.ne_of_lt c1) (List.forall_mem_nil _)))))))))))))
  · intro I m₁ news₁ h tk hJ F N
    obtain ⟨td, x, a, oo, c, cv, cw, k, n, t, to, ty, tx, t2, o1, rfl, hm, hc, hc2, ha, hoo, d1, hx, hk, l3, l4⟩ := hJ
    refine wpAny_execs_nil ?_
    exact next _ _ _ _ _ _ _ _ _ F (fun p hp => hm p (List.mem_cons.mpr (.inl (List.mem_singleton.mp hp)))) (news_sub N (by walk_at "mem_any")) d1 (by omega) (by omega)

end
example : True := by
  k_with_none
  k_with "enter_cells" => (refine' code_defC (by k_asm) (by k_asm) (by k_asm) (by k_asm) (by k_asm) (by exact rfl) (by exact rfl) (by assumption) (by k_is) (by k_is) (by ktr_room) (by exact BindsTo.of_eq rfl) (by exact rfl) (by decide +kernel) ?_ (by exact rfl) (by exact rfl) (by exact rfl); k_whole; intro g' L' h' tk' cells' FG' F' N' Y' B' X' T' l1; (try k_lt l1); k_cells Y'; (try simp only [List.cons_append, List.nil_append] at N'); (try dsimp only); (try k_lift B'); (try k_fold))
  k_with "eval ListComp" => (k_here; first | ((with_reducible show wpAny _ _ (eval (PySem.Expr.ListComp _ [PySem.Comprehension.mk _ _ [_] _] _ _) _) _ _ _); k_dflt (refine LCt.ListComp_T (F₀ := by k_asm) (by with_unfolding_all rfl) (by decide) (by rfl) (by decide) (by rfl) ?_)) | ((with_reducible show wpAny _ _ (eval (PySem.Expr.ListComp _ [PySem.Comprehension.mk _ _ [] _] _ _) _) _ _ _); k_dflt (refine LCg.ListComp_U (F₀ := by k_asm) (by with_unfolding_all rfl) (by decide) (by rfl) (by decide) (by rfl) ?_)))
  k_with "is_comp" => first | (with_reducible refine' LCt.CompSrcT.range ?_ ?_ ?_ ?_ ?_ ?_ ?_ ?_) | (with_reducible refine' LCg.CompSrc.range ?_ ?_ ?_ ?_ ?_ ?_ ?_ ?_) | (with_reducible refine' LCt.CompSrcT.ledger ?_ ?_ ?_ ?_ ?_ ?_) | (with_reducible refine' LCg.CompSrc.ledger ?_ ?_ ?_ ?_ ?_ ?_)
  k_with "to_comp" => repeat' (first | ((fail_if_success (walk_at "is_comp")); first | (k_unfold; (try dsimp only)) | (k_end; wrow_close) | walk1 | (dsimp only; walk1) | (leave1; try dsimp only)))
  k_with "comp_range" => first | (refine' LCt.CompSrcT.range (by exact rfl) (by k_asm) (by k_asm) (by assumption) (by exact small_one (by omega) (by omega) (by omega) (by omega)) (by first | exact rangeSize_nat _ _ | rfl) (by rw [PySem.sizeLine_eq]; omega) ?_; intro g') | (refine' LCg.CompSrc.range (by exact rfl) (by k_asm) (by k_asm) (by assumption) (by exact small_one (by omega) (by omega) (by omega) (by omega)) (by first | exact rangeSize_nat _ _ | rfl) (by rw [PySem.sizeLine_eq]; omega) ?_; intro g')
  k_with "mem_tail" => (intro q9 hq9; repeat' (first | with_reducible exact hq9 | refine List.mem_cons_of_mem _ ?_))
  k_with "news_sub" => first | k_asm | (refine news_sub (by k_asm) ?_; walk_at "mem_tail")
  k_with "led_lt" => first | assumption | (refine led_lt (by k_asm) ?_; walk_at "mem_tail") | ((with_reducible rename AllLt _ _ => ql9); exact ktn_ltOf ql9) | ((with_reducible rename _ ∧ AllLt _ _ => ql9); exact ktn_ltOf ql9.2) | ((with_reducible rename _ ∧ _ ∧ AllLt _ _ => ql9); exact ktn_ltOf ql9.2.2)
  k_with "mem_at" => first | exact List.Mem.head _ | (refine List.Mem.tail _ ?_; walk_at "mem_at")
  k_with "mem_any" => first | exact mem_nil_all | exact fun _ h => h | (refine mem_cons_all (by walk_at "mem_at") (by walk_at "mem_any")) | (walk_at "mem_tail")
  k_with "to_while" => repeat' (first | ((fail_if_success (with_reducible show wpAny _ _ (exec (Stmt.While _ _ _ _) _) _ _ _)); first | (k_unfold; (try dsimp only)) | (k_end; wrow_close) | walk1 | (dsimp only; walk1) | (leave1; try dsimp only)))
  k_with "ne9" => first | assumption | exact Nat.ne_of_lt (by omega) | exact Nat.ne_of_gt (by omega) | k_ne
  k_with "enter_n" => (refine' code_def (by k_asm) (by k_asm) (by k_asm) (by k_asm) (by k_asm) (by exact rfl) (by exact rfl) (by first | exact rfl | assumption) (by k_is) (by k_is) (by ktr_room) (by first | exact BindsTo.of_eq rfl | exact binds_K (by k_in) rfl (by k_is) rfl rfl rfl) (by exact locs rfl) ?_ (by exact rfl) (by exact rfl) (by exact rfl) (by decide); k_whole)
  k_with "enter_y" => (walk_at "enter_n"; intro g' L' h' FG' F' N' B' X' T'; (try dsimp only); (try k_lift B'); (try k_fold))
  k_with "call builtin:str.join" => (k_here; (with_reducible show wpAny _ _ (call (Value.builtin "str.join") [Value.str _ _, Value.ref _]) _ _ _); (with_reducible rename CarriedAll _ (List.map (fun _ => PyData.str (chr _)) _) => ktC); (refine join_chrs (by first | is_list | exact News.isList (by k_asm) (by k_mem)) ktC (by first | omega | (refine Nat.le_trans (pickC_len _ _ _ _) ?_; omega)) ?_; intro _ _))
  k_with "call ref" => (k_here; (with_reducible show wpAny _ _ (call (Value.ref 519) _) _ _ _); k_dflt (refine' draw_use (by k_asm) (by k_asm) (by k_asm) (by k_asm) (by k_asm) (by first | exact rfl | assumption) (by ktr_room) (by ktr_units) (by walk_at "upd") (by exact rfl) (by k_mem) (by assumption) (by assumption) (by assumption) (by assumption) (by omega) ?_); intro v9 t9 u9 n9 h9 tk9 F9 N9; (try dsimp only at N9); (try dsimp only); (try k_fold); (try k_sweep))
  k_with "call ref" => (k_here; (with_reducible show wpAny _ _ (call (Value.ref 67) _) _ _ _); k_dflt (refine' span_use (by k_asm) (by k_asm) (by k_asm) (by k_asm) (by k_asm) (by first | exact rfl | assumption) (by ktr_room) (by ktr_units) (by first | assumption | exact CntV.none | exact CntV.int _ _) (by omega) ?_ ?_); (first | (intro h9 tk9 hs9 F9 N9) | (intro b9 e9 d9 t9 u9 h9 tk9 hs9 ha9 hb9 hc9 F9 N9 hl9; k_lt hl9)) <;> (try dsimp only) <;> (try k_fold) <;> (try k_sweep))
  k_with "call ref" => (k_here; (with_reducible show wpAny _ _ (call (Value.ref 74) _) _ _ _); k_dflt (refine' value_use (by k_asm) (by k_asm) (by k_asm) (by k_asm) (by k_asm) (by first | exact rfl | assumption) (by ktr_room) (by ktr_units) (by first | assumption | exact CntV.none | exact CntV.int _ _) (by omega) ?_ ?_); (first | (intro h9 tk9 hs9 F9 N9) | (intro z9 t9 h9 tk9 hs9 F9 N9)) <;> (try dsimp only) <;> (try k_fold) <;> (try k_sweep))
  k_with "call ref" => (k_here; (with_reducible show wpAny _ _ (call (Value.ref 531) _) _ _ _); k_dflt (refine' ends_use (by k_asm) (by k_asm) (by k_asm) (by k_asm) (by k_asm) (by first | exact rfl | assumption) (by ktr_room) (by ktr_units) (by k_mem) (by first | assumption | exact CntV.none | exact CntV.int _ _) ?_); intro B9 e9 d9 t9 u9 h9 tk9 hb9 he9 F9 N9 hl9; k_lt hl9; (try dsimp only); (try k_fold); (try k_sweep))
  k_with "call ref" => (k_here; (with_reducible show wpAny _ _ (call (Value.ref 536) _) _ _ _); k_dflt (refine' part_use (by k_asm) (by k_asm) (by k_asm) (by k_asm) (by k_asm) (by first | exact rfl | assumption) (by ktr_room) (by ktr_units) (by k_mem) (by first | assumption | exact CntV.none | exact CntV.int _ _) (by omega) ?_ ?_); (first | (intro h9 tk9 hs9 F9 N9) | (intro d9 z9 p9 t9 u9 h9 tk9 hs9 hf9 F9 N9 hl9; (try k_lt hl9))) <;> (try dsimp only) <;> (try k_fold) <;> (try k_sweep))
  k_with "call ref" => (k_here; (with_reducible show wpAny _ _ (call (Value.ref 524) _) _ _ _); (try k_fmods); k_dflt (refine' word_use (by k_asm) (by k_asm) (by k_asm) (by k_asm) (by k_asm) (by first | exact rfl | assumption) (by ktr_room) (by ktr_units) (by walk_at "upd") (by exact rfl) (by k_mem) (by assumption) (by assumption) (by assumption) (by assumption) (by omega) (by omega) (by omega) ?_); intro z9 t9 u9 n9 h9 tk9 zl9 zok9 F9 N9; (try dsimp only at N9); (try dsimp only); (try k_fold); (try k_sweep))
  k_with "call ref" => (k_here; (with_reducible show wpAny _ _ (call (Value.ref 541) _) _ _ _); k_dflt (refine' places_use (by k_asm) (by k_asm) (by k_asm) (by k_asm) (by k_asm) (by first | exact rfl | assumption) (by ktr_room) (by ktr_units) (by omega) (by omega) ?_); intro d9 vs9 n9 h9 tk9 hp9 F9 N9 hl9; (try simp only [List.forall_mem_cons] at hl9); (try dsimp only); (try k_fold); (try k_sweep))
  k_with "call ref" => (k_here; (with_reducible show wpAny _ _ (call (Value.ref 548) _) _ _ _); k_dflt (refine' lput_use (by k_asm) (by k_asm) (by k_asm) (by k_asm) (by k_asm) (by first | exact rfl | assumption) (by ktr_room) (by ktr_units) (by k_mem) (by first | assumption | exact CntV.none | exact CntV.int _ _) (by omega) (by omega) ?_ ?_); (first | (intro d9 e9 z9 v9 o9 c9 cv9 t9 u9 w9 h9 tk9 hs9 hc9 F9 N9 hl9 he9; (try k_lt hl9)) | (intro h9 tk9 hs9 F9 N9)) <;> (try dsimp only) <;> (try k_fold) <;> (try k_sweep))
  k_with "call ref" => (k_here; (with_reducible show wpAny _ _ (call (Value.ref 555) _) _ _ _); k_dflt (refine' given_none (by k_asm) (by k_asm) (by k_asm) (by k_asm) (by k_asm) (by k_asm) (by k_asm) (by first | exact rfl | assumption) (by ktr_room) (by ktr_units) (by first | assumption | exact CntV.none | exact CntV.int _ _) (by omega) (by omega) (by assumption) ?_); intro h9 tk9 F9 N9; (try dsimp only); (try k_fold); (try k_sweep))
  k_with "call ref" => (k_here; (with_reducible show wpAny _ _ (call (Value.ref 555) _) _ _ _); k_dflt (refine' given_some (by k_asm) (by k_asm) (by k_asm) (by k_asm) (by k_asm) (by k_asm) (by k_asm) (by first | exact rfl | assumption) (by ktr_room) (by ktr_units) (by first | assumption | exact CntV.none | exact CntV.int _ _) (by omega) (by omega) (by assumption) ?_); intro d9 t9 u9 h9 tk9 F9 N9 hl9; (try k_lt hl9); (try dsimp only); (try k_fold); (try k_sweep))
  k_with "call ref" => (k_here; (with_reducible show wpAny _ _ (call (Value.ref 95) _) _ _ _); k_dflt (refine' index_use (by k_asm) (by k_asm) (by k_asm) (by k_asm) (by k_asm) (by first | exact rfl | assumption) (by ktr_room) (by ktr_units) (by omega) (by omega) ?_); intro v9 t9 h9 tk9 hx9 F9 N9; (try dsimp only); (try k_fold); (try k_sweep))
  k_with "call ref" => (k_here; (with_reducible show wpAny _ _ (call (Value.ref 102) _) _ _ _); k_dflt (refine' rindex_use (by k_asm) (by k_asm) (by k_asm) (by k_asm) (by k_asm) (by first | exact rfl | assumption) (by ktr_room) (by ktr_units) (by first | assumption | exact CntV.none | exact CntV.int _ _) (by omega) (by omega) ?_); intro v9 t9 h9 tk9 hx9 F9 N9; (try dsimp only); (try k_fold); (try k_sweep))
  k_with "call ref" => (k_here; (with_reducible show wpAny _ _ (call (Value.ref 399) _) _ _ _); k_dflt (refine' store_use (by k_asm) (by k_asm) (by k_asm) (by k_asm) (by k_asm) (by first | exact rfl | assumption) (by ktr_room) (by ktr_units) (by k_mem) (by k_mem) (by k_mem) (by k_mem) (by walk_at "upd") (by walk_at "ne9") (by walk_at "ne9") (by walk_at "ne9") (by walk_at "ne9") (by assumption) (by assumption) (by assumption) ?_); intro h9 tk9 F9 N9; (try dsimp only at N9); (try dsimp only); (try k_fold); (try k_sweep))
  k_with "call ref" => (k_here; (with_reducible show wpAny _ _ (call (Value.ref 459) []) _ _ _); k_dflt (refine' limits_use (by k_asm) (by k_asm) (by k_asm) (by k_asm) (by k_asm) (by first | exact rfl | assumption) (by ktr_room) (by ktr_units) ?_); intro l9 h9 tk9 F9 N9; (try dsimp only); (try k_fold); (try k_sweep))
  k_with "call ref" => (k_here; (with_reducible show wpAny _ _ (call (Value.ref 306) _) _ _ _); k_dflt (refine' heap_use (by k_asm) (by k_asm) (by k_asm) (by k_asm) (by k_asm) (by first | exact rfl | assumption) (by ktr_room) (by ktr_units) ?_); intro ha9 hd9 t9 u9 v9 w9 z9 h9 tk9 F9 N9 hl9 ho9; (have hl8 := hl9; (try k_lt hl8)); (try dsimp only); (try k_fold); (try k_sweep))
  k_with "call ref" => (k_here; (with_reducible show wpAny _ _ (call (Value.ref 437) _) _ _ _); k_dflt (refine' counter_use (by k_asm) (by k_asm) (by k_asm) (by k_asm) (by k_asm) (by first | exact rfl | assumption) (by ktr_room) (by ktr_units) ?_); intro ca9 cd9 pd9 t9 u9 v9 ob9 h9 tk9 F9 N9 hl9 ho9 hp9 lo9 hs9 hi9; (have hl8 := hl9; (try k_lt hl8)); (try dsimp only); (try k_fold); (try k_sweep))
  k_with "call ref" => (k_here; (with_reducible show wpAny _ _ (call (Value.ref 406) _) _ _ _); k_dflt (refine' fresh_use (by k_asm) (by k_asm) (by k_asm) (by k_asm) (by k_asm) (by first | exact rfl | assumption) (by ktr_room) (by ktr_units) (by assumption) (by omega) (by omega) (by omega) (by omega) ?_); intro sa9 sd9 a9 b9 c9 d9 e9 f9 g9 i9 tn9 tc9 wk9 h9 tk9 F9 N9 ho9 hp9; (try dsimp only); (try k_fold); (try k_sweep))
  k_with "call ref" => (k_here; (with_reducible show wpAny _ _ (call (Value.ref 501) _) _ _ _); k_dflt (refine' lvt_use (by k_asm) (by k_asm) (by k_asm) (by k_asm) (by k_asm) (by first | exact rfl | assumption) (by ktr_room) (by ktr_units) (by first | assumption | exact CntV.none | exact CntV.int _ _) ?_); intro la9 ld9 t9 u9 v9 w9 x9 h9 tk9 F9 N9 hl9 ho9; (have hl8 := hl9; (try k_lt hl8)); (try dsimp only); (try k_fold); (try k_sweep))
  k_with "call ref" => (k_here; (with_reducible show wpAny _ _ (call (Value.ref 338) _) _ _ _); k_dflt (refine' vo_use (by k_asm) (by k_asm) (by k_asm) (by k_asm) (by k_asm) (by first | exact rfl | assumption) (by ktr_room) (by ktr_units) (by k_mem) (by k_mem) ?_); intro h9 tk9 F9 N9; (try dsimp only) <;> (try k_fold) <;> (try k_sweep))
  k_with "call ref" => (k_here; (with_reducible show wpAny _ _ (call (Value.ref 484) _) _ _ _); k_dflt (refine' beg_use (by k_asm) (by k_asm) (by k_asm) (by k_asm) (by k_asm) (by first | exact rfl | assumption) (by ktr_room) (by ktr_units) (by k_mem) (by k_mem) ?_); intro t9 h9 tk9 F9 N9; (try dsimp only) <;> (try k_fold) <;> (try k_sweep))
  k_with "call ref" => (k_here; (with_reducible show wpAny _ _ (call (Value.ref 491) _) _ _ _); k_dflt (refine' get_use (by k_asm) (by k_asm) (by k_asm) (by k_asm) (by k_asm) (by first | exact rfl | assumption) (by ktr_room) (by ktr_units) (by k_mem) (by k_mem) (by k_mem) (by k_mem) (by first | assumption | exact CntV.none | exact CntV.int _ _) (by omega) ?_ ?_); (first | (intro h9 tk9 hs9 F9 N9) | (intro z9 t9 h9 tk9 hs9 F9 N9)) <;> (try dsimp only) <;> (try k_fold) <;> (try k_sweep))
  k_with "call ref" => (k_here; (with_reducible show wpAny _ _ (call (Value.ref 562) _) _ _ _); k_dflt (refine' set_none (by k_asm) (by k_asm) (by k_asm) (by k_asm) (by k_asm) (by k_asm) (by k_asm) (by first | exact rfl | assumption) (by ktr_room) (by ktr_units) (by k_mem) (by k_mem) (by k_mem) (by k_mem) (by first | assumption | exact CntV.none | exact CntV.int _ _) (by omega) (by assumption) ?_); intro h9 tk9 F9 N9; (try dsimp only); (try k_fold); (try k_sweep))
  k_with "call ref" => (k_here; (with_reducible show wpAny _ _ (call (Value.ref 562) _) _ _ _); k_dflt (refine' set_some (by k_asm) (by k_asm) (by k_asm) (by k_asm) (by k_asm) (by k_asm) (by k_asm) (by first | exact rfl | assumption) (by ktr_room) (by ktr_units) (by k_mem) (by k_mem) (by k_mem) (by k_mem) (by walk_at "drop") (by walk_at "drop") (by first | assumption | exact CntV.none | exact CntV.int _ _) (by omega) (by omega) (by k_mem) (by k_mem) (by k_mem) (by k_mem) (by k_mem) (by walk_at "ne9") (by walk_at "ne9") (by walk_at "ne9") (by walk_at "ne9") (by walk_at "ne9") (by assumption) (by assumption) (by assumption) (by assumption) ?_); intro to9 tv9 cv9 h9 tk9 hc9 F9 N9; (try dsimp only); (try k_fold); (try k_sweep))
  k_with "subscriptTail Name Slice ref ref" => (k_here; (with_reducible show wpAny _ _ (subscriptTail _ (PySem.Expr.Slice none _ none _) (Value.ref _) (Value.ref _)) _ _ _); k_dflt (refine' tail_two (by k_asm) (by k_asm) (by k_mem) ?_ (by with_unfolding_all rfl) (by intro _; with_unfolding_all rfl)); intro D9 h9 F9 N9 hl9; (try k_lt hl9); (try dsimp only))
  k_with "compareOp NotEq ref ref" => (k_here; (with_reducible show wpAny _ _ (compareOp CmpOp.NotEq (Value.ref _) (Value.ref _)) _ _ _); k_dflt (refine' ne_two (by k_asm) (by k_mem) (by k_mem) (by assumption) (by assumption) (by first | ktr_units | exact Nat.le_of_ble_eq_true rfl | (show _ < _; decide)) ?_))
  k_with "subscriptTail" => (k_here; (with_reducible show wpAny _ _ (subscriptTail _ _ (Value.ref _) (Value.int _ _)) _ _ _); k_dflt (refine' item_tupleT (by exact News.isTup (by k_asm) (by k_mem)) (by decide) (by decide) (by rfl) (by rfl) ?_; k_whole))
  k_with "subscriptTail Name Constant ref int" => (k_here; (with_reducible show wpAny _ _ (subscriptTail _ _ (Value.ref _) (Value.int _ _)) _ _ _); k_dflt (refine' item_tupleT (by exact News.isTup (by k_asm) (by k_mem)) (by decide) (by decide) (by rfl) (by rfl) ?_; k_whole))
  trivial
section
local macro_rules | `(tactic| walk_at "upd") => `(tactic| first | (refine' UpdF.tail ?a ?b; (case a => ((with_reducible rename _ ∧ _ ∧ _ => hl8); exact fun h => hl8.1 h.symm)); (case b => walk_at "upd")) | fail "no")
set_option linter.unusedSimpArgs false in
set_option maxHeartbeats 8000000 in
theorem law_6a {prog : Program} {w : World} {p : Program} {loose : List Str} {mean : ExcName → Option Value} {mg mb : Str → Option Value} {h₀ : Heap} {L f pn i pl lt ah : Addr} {cd : Value} {s : Shared} {m : Str → Option Value} {o1 o2 o3 : Obj} {vs ps ls as : List Value} {ns ks : List Int} {k n n' np nl na : Nat} {x y : Str} {bg : Int} {t tx ty tb : Tok} {Q : Flow → Shared → Prop} {E : Value → Shared → Prop}
    (B : Below callerA h₀ [] h₀) (T : Top p loose mean mg mb h₀) (X : (K w.params).In h₀)
    (F : Fr h₀ L s.heap m) (hm : Has m [(Str.ofString "pen", .ref pn)])
    (N : News h₀ L s.heap [(pn, lst [.ref i, .int (k : Int) t] n), (i, lst vs n'), (L + 1 + 1 + 1, o3), (L + 1 + 1, o2), (L + 1, o1)]) (d1 : o1.data = .cell (some (.str x tx))) (d2 : o2.data = .cell none) (d3 : o3.data = .cell none)
    (hv9 : IntsAre vs ns) (h0 : 0 < ns.length) (hn : ns.length < 2 ^ 20) (hk : k ≤ 100) (hx : x.length ≤ 100) (l1 : @LT.lt Nat _ (L + 1 + 1 + 1) i) (l2 : @LT.lt Nat _ i pn) (hip : i ≠ pn)
    (next : ∀ (y : Str) (ty : Tok) (pl : Addr) (ps : List Value) (np : Nat) (bg : Int) (tb : Tok) (o2' o3' : Obj) m' h' tk', Fr h₀ L h' m' → Has m' [(Str.ofString "places", .ref pl)] →
      News h₀ L h' [(pl, lst ps np), (L + 1 + 1 + 1, o3'), (L + 1 + 1, o2'), (L + 1, o1)] → IntsAre ps (placesN x y (x.length + 1)) → o2'.data = .cell (some (.str y ty)) → o3'.data = .cell (some (.int bg tb)) → y.length ≤ 100 → Q .next { s with heap := h', toks := tk' }) :
    wpAny (model prog w) (callerA.deeper (lawEnv w.params L f cd)) (execs (lawCut w.params 15 3) (lawEnv w.params L f cd)) Q E s := by
  w_top off
  have F := fr_has F hm
  dsimp only [kstB] at F
  refine' law_as ?k6 ?_
  (case k6 => k_is)
  simp only [List.drop, List.take]
  k_steps
  exact next _ _ _ _ _ _ _ _ _ _ _ _ (by k_asm) (by unfold Has; kst_all) (news_sub (by k_asm) (by walk_at "mem_any")) (by assumption) (by assumption) (by assumption) (by omega)

end
section
example : True := by
  k_with "exec Assign cons ListComp" => (k_here; refine wpAny_Assign_Name ?_ (by with_unfolding_all rfl))
  trivial
set_option linter.unusedSimpArgs false in
set_option maxHeartbeats 8000000 in
theorem law_6b {prog : Program} {w : World} {p : Program} {loose : List Str} {mean : ExcName → Option Value} {mg mb : Str → Option Value} {h₀ : Heap} {L f pl lt ah : Addr} {cd : Value} {s : Shared} {m : Str → Option Value} {o1 o2 o3 : Obj} {ps ls as : List Value} {ks : List Int} {np nl na : Nat} {x y : Str} {bg : Int} {tx ty tb : Tok} {Q : Flow → Shared → Prop} {E : Value → Shared → Prop}
    (B : Below callerA h₀ [] h₀) (T : Top p loose mean mg mb h₀) (X : (K w.params).In h₀)
    (F : Fr h₀ L s.heap m) (hm : Has m [(Str.ofString "places", .ref pl)])
    (N : News h₀ L s.heap [(pl, lst ps np), (L + 1 + 1 + 1, o3), (L + 1 + 1, o2), (L + 1, o1)]) (d1 : o1.data = .cell (some (.str x tx))) (d2 : o2.data = .cell (some (.str y ty))) (d3 : o3.data = .cell (some (.int bg tb))) (hx : x.length ≤ 100) (hy : y.length ≤ 100)
    (hp : IntsAre ps ks) (hkl : ks.length ≤ 200) (h0 : ∀ z ∈ ks, 0 ≤ z) 
    (next : ∀ (lt : Addr) (ls : List Value) (nl : Nat) m' h' tk', Fr h₀ L h' m' → Has m' [(Str.ofString "places", .ref pl), (Str.ofString "later", .ref lt)] → News h₀ L h' [(lt, lst ls nl), (pl, lst ps np), (L + 1 + 1 + 1, o3), (L + 1 + 1, o2), (L + 1, o1)] → IntsAre ls (ks.filter (fun z => decide (min bg x.length ≤ z))) → pl ≠ lt → Q .next { s with heap := h', toks := tk' }) :
    wpAny (model prog w) (callerA.deeper (lawEnv w.params L f cd)) (execs (lawCut w.params 18 1) (lawEnv w.params L f cd)) Q E s := by
  w_top off
  have F := fr_has F hm
  dsimp only [kstB] at F
  refine' law_as ?k6 ?_
  (case k6 => k_is)
  simp only [List.drop, List.take]
  refine wpAny_execs_cons ?_
  k_dflt (refine LCt.Assign_ListComp_T (F₀ := by k_asm) (by rfl) (by with_unfolding_all rfl) (by with_unfolding_all rfl) (by decide) (by rfl) (by decide) (by rfl) (by rfl) (by rfl) ?_)
  walk_at "to_comp"
  (refine' LCt.CompSrcT.ledger ?hh ?F ?N ?R ?sz ?_; (case hh => exact rfl); (case F => k_asm); (case N => k_asm); (case R => k_mem); (case sz => (rw [List.size_toArray, hp.length, PySem.sizeLine_eq]; omega)); intro g')
  refine comp_filter (fun z => decide (min bg x.length ≤ z)) hp ?_ ?_
  · intro z t I oI C oC D m₂ ys h tk E' hz hC hx F N off ne
    have hz0 := h0 z hz
    k_steps
    all_goals first
      | exact LCg.CompEnd.intro (by k_asm) (by k_asm) _ (fun p hp => hp) off (.inr ⟨_, List.Mem.head _, rfl, _, rfl⟩) ⟨rfl, by (simp only [decide_eq_true_eq, decide_eq_false_iff_not, Bool.or_eq_true, Bool.or_eq_false_iff]; omega), _, rfl⟩
      | exact LCg.CompEnd.intro (by k_asm) (by k_asm) _ (fun p hp => hp) off (.inr ⟨_, List.Mem.head _, rfl, _, rfl⟩) ⟨rfl, by (simp only [decide_eq_true_eq, decide_eq_false_iff_not, Bool.or_eq_true, Bool.or_eq_false_iff]; omega)⟩
  · intro ys hJ D h9 tk9 F9 N9 off9
    have e9 := off1_mem off9
    simp only [List.forall_mem_cons] at e9
    k_steps
    exact next _ _ _ _ _ _ (by k_asm) (by unfold Has; kst_all) (news_sub (by k_asm) (by walk_at "mem_any")) hJ e9.1

end
example : True := by
  k_with_none
  k_with "enter_cells" => (refine' code_defC (by k_asm) (by k_asm) (by k_asm) (by k_asm) (by k_asm) (by exact rfl) (by exact rfl) (by assumption) (by k_is) (by k_is) (by ktr_room) (by exact BindsTo.of_eq rfl) (by exact rfl) (by decide +kernel) ?_ (by exact rfl) (by exact rfl) (by exact rfl); k_whole; intro g' L' h' tk' cells' FG' F' N' Y' B' X' T' l1; (try k_lt l1); k_cells Y'; (try simp only [List.cons_append, List.nil_append] at N'); (try dsimp only); (try k_lift B'); (try k_fold))
  k_with "eval ListComp" => (k_here; first | ((with_reducible show wpAny _ _ (eval (PySem.Expr.ListComp _ [PySem.Comprehension.mk _ _ [_] _] _ _) _) _ _ _); k_dflt (refine LCt.ListComp_T (F₀ := by k_asm) (by with_unfolding_all rfl) (by decide) (by rfl) (by decide) (by rfl) ?_)) | ((with_reducible show wpAny _ _ (eval (PySem.Expr.ListComp _ [PySem.Comprehension.mk _ _ [] _] _ _) _) _ _ _); k_dflt (refine LCg.ListComp_U (F₀ := by k_asm) (by with_unfolding_all rfl) (by decide) (by rfl) (by decide) (by rfl) ?_)))
  k_with "is_comp" => first | (with_reducible refine' LCt.CompSrcT.range ?_ ?_ ?_ ?_ ?_ ?_ ?_ ?_) | (with_reducible refine' LCg.CompSrc.range ?_ ?_ ?_ ?_ ?_ ?_ ?_ ?_) | (with_reducible refine' LCt.CompSrcT.ledger ?_ ?_ ?_ ?_ ?_ ?_) | (with_reducible refine' LCg.CompSrc.ledger ?_ ?_ ?_ ?_ ?_ ?_)
  k_with "to_comp" => repeat' (first | ((fail_if_success (walk_at "is_comp")); first | (k_unfold; (try dsimp only)) | (k_end; wrow_close) | walk1 | (dsimp only; walk1) | (leave1; try dsimp only)))
  k_with "comp_range" => first | (refine' LCt.CompSrcT.range (by exact rfl) (by k_asm) (by k_asm) (by assumption) (by exact small_one (by omega) (by omega) (by omega) (by omega)) (by first | exact rangeSize_nat _ _ | rfl) (by rw [PySem.sizeLine_eq]; omega) ?_; intro g') | (refine' LCg.CompSrc.range (by exact rfl) (by k_asm) (by k_asm) (by assumption) (by exact small_one (by omega) (by omega) (by omega) (by omega)) (by first | exact rangeSize_nat _ _ | rfl) (by rw [PySem.sizeLine_eq]; omega) ?_; intro g')
  k_with "mem_tail" => (intro q9 hq9; repeat' (first | with_reducible exact hq9 | refine List.mem_cons_of_mem _ ?_))
  k_with "news_sub" => first | k_asm | (refine news_sub (by k_asm) ?_; walk_at "mem_tail")
  k_with "led_lt" => first | assumption | (refine led_lt (by k_asm) ?_; walk_at "mem_tail") | ((with_reducible rename AllLt _ _ => ql9); exact ktn_ltOf ql9) | ((with_reducible rename _ ∧ AllLt _ _ => ql9); exact ktn_ltOf ql9.2) | ((with_reducible rename _ ∧ _ ∧ AllLt _ _ => ql9); exact ktn_ltOf ql9.2.2)
  k_with "mem_at" => first | exact List.Mem.head _ | (refine List.Mem.tail _ ?_; walk_at "mem_at")
  k_with "mem_any" => first | exact mem_nil_all | exact fun _ h => h | (refine mem_cons_all (by walk_at "mem_at") (by walk_at "mem_any")) | (walk_at "mem_tail")
  k_with "to_while" => repeat' (first | ((fail_if_success (with_reducible show wpAny _ _ (exec (Stmt.While _ _ _ _) _) _ _ _)); first | (k_unfold; (try dsimp only)) | (k_end; wrow_close) | walk1 | (dsimp only; walk1) | (leave1; try dsimp only)))
  k_with "ne9" => first | assumption | exact Nat.ne_of_lt (by omega) | exact Nat.ne_of_gt (by omega) | k_ne
  k_with "enter_n" => (refine' code_def (by k_asm) (by k_asm) (by k_asm) (by k_asm) (by k_asm) (by exact rfl) (by exact rfl) (by first | exact rfl | assumption) (by k_is) (by k_is) (by ktr_room) (by first | exact BindsTo.of_eq rfl | exact binds_K (by k_in) rfl (by k_is) rfl rfl rfl) (by exact locs rfl) ?_ (by exact rfl) (by exact rfl) (by exact rfl) (by decide); k_whole)
  k_with "enter_y" => (walk_at "enter_n"; intro g' L' h' FG' F' N' B' X' T'; (try dsimp only); (try k_lift B'); (try k_fold))
  k_with "call builtin:str.join" => (k_here; (with_reducible show wpAny _ _ (call (Value.builtin "str.join") [Value.str _ _, Value.ref _]) _ _ _); (with_reducible rename CarriedAll _ (List.map (fun _ => PyData.str (chr _)) _) => ktC); (refine join_chrs (by first | is_list | exact News.isList (by k_asm) (by k_mem)) ktC (by first | omega | (refine Nat.le_trans (pickC_len _ _ _ _) ?_; omega)) ?_; intro _ _))
  k_with "call ref" => (k_here; (with_reducible show wpAny _ _ (call (Value.ref 519) _) _ _ _); k_dflt (refine' draw_use (by k_asm) (by k_asm) (by k_asm) (by k_asm) (by k_asm) (by first | exact rfl | assumption) (by ktr_room) (by ktr_units) (by walk_at "upd") (by exact rfl) (by k_mem) (by assumption) (by assumption) (by assumption) (by assumption) (by omega) ?_); intro v9 t9 u9 n9 h9 tk9 F9 N9; (try dsimp only at N9); (try dsimp only); (try k_fold); (try k_sweep))
  k_with "call ref" => (k_here; (with_reducible show wpAny _ _ (call (Value.ref 67) _) _ _ _); k_dflt (refine' span_use (by k_asm) (by k_asm) (by k_asm) (by k_asm) (by k_asm) (by first | exact rfl | assumption) (by ktr_room) (by ktr_units) (by first | assumption | exact CntV.none | exact CntV.int _ _) (by omega) ?_ ?_); (first | (intro h9 tk9 hs9 F9 N9) | (intro b9 e9 d9 t9 u9 h9 tk9 hs9 ha9 hb9 hc9 F9 N9 hl9; k_lt hl9)) <;> (try dsimp only) <;> (try k_fold) <;> (try k_sweep))
  k_with "call ref" => (k_here; (with_reducible show wpAny _ _ (call (Value.ref 74) _) _ _ _); k_dflt (refine' value_use (by k_asm) (by k_asm) (by k_asm) (by k_asm) (by k_asm) (by first | exact rfl | assumption) (by ktr_room) (by ktr_units) (by first | assumption | exact CntV.none | exact CntV.int _ _) (by omega) ?_ ?_); (first | (intro h9 tk9 hs9 F9 N9) | (intro z9 t9 h9 tk9 hs9 F9 N9)) <;> (try dsimp only) <;> (try k_fold) <;> (try k_sweep))
  k_with "call ref" => (k_here; (with_reducible show wpAny _ _ (call (Value.ref 531) _) _ _ _); k_dflt (refine' ends_use (by k_asm) (by k_asm) (by k_asm) (by k_asm) (by k_asm) (by first | exact rfl | assumption) (by ktr_room) (by ktr_units) (by k_mem) (by first | assumption | exact CntV.none | exact CntV.int _ _) ?_); intro B9 e9 d9 t9 u9 h9 tk9 hb9 he9 F9 N9 hl9; k_lt hl9; (try dsimp only); (try k_fold); (try k_sweep))
  k_with "call ref" => (k_here; (with_reducible show wpAny _ _ (call (Value.ref 536) _) _ _ _); k_dflt (refine' part_use (by k_asm) (by k_asm) (by k_asm) (by k_asm) (by k_asm) (by first | exact rfl | assumption) (by ktr_room) (by ktr_units) (by k_mem) (by first | assumption | exact CntV.none | exact CntV.int _ _) (by omega) ?_ ?_); (first | (intro h9 tk9 hs9 F9 N9) | (intro d9 z9 p9 t9 u9 h9 tk9 hs9 hf9 F9 N9 hl9; (try k_lt hl9))) <;> (try dsimp only) <;> (try k_fold) <;> (try k_sweep))
  k_with "call ref" => (k_here; (with_reducible show wpAny _ _ (call (Value.ref 524) _) _ _ _); (try k_fmods); k_dflt (refine' word_use (by k_asm) (by k_asm) (by k_asm) (by k_asm) (by k_asm) (by first | exact rfl | assumption) (by ktr_room) (by ktr_units) (by walk_at "upd") (by exact rfl) (by k_mem) (by assumption) (by assumption) (by assumption) (by assumption) (by omega) (by omega) (by omega) ?_); intro z9 t9 u9 n9 h9 tk9 zl9 zok9 F9 N9; (try dsimp only at N9); (try dsimp only); (try k_fold); (try k_sweep))
  k_with "call ref" => (k_here; (with_reducible show wpAny _ _ (call (Value.ref 541) _) _ _ _); k_dflt (refine' places_use (by k_asm) (by k_asm) (by k_asm) (by k_asm) (by k_asm) (by first | exact rfl | assumption) (by ktr_room) (by ktr_units) (by omega) (by omega) ?_); intro d9 vs9 n9 h9 tk9 hp9 F9 N9 hl9; (try simp only [List.forall_mem_cons] at hl9); (try dsimp only); (try k_fold); (try k_sweep))
  k_with "call ref" => (k_here; (with_reducible show wpAny _ _ (call (Value.ref 548) _) _ _ _); k_dflt (refine' lput_use (by k_asm) (by k_asm) (by k_asm) (by k_asm) (by k_asm) (by first | exact rfl | assumption) (by ktr_room) (by ktr_units) (by k_mem) (by first | assumption | exact CntV.none | exact CntV.int _ _) (by omega) (by omega) ?_ ?_); (first | (intro d9 e9 z9 v9 o9 c9 cv9 t9 u9 w9 h9 tk9 hs9 hc9 F9 N9 hl9 he9; (try k_lt hl9)) | (intro h9 tk9 hs9 F9 N9)) <;> (try dsimp only) <;> (try k_fold) <;> (try k_sweep))
  k_with "call ref" => (k_here; (with_reducible show wpAny _ _ (call (Value.ref 555) _) _ _ _); k_dflt (refine' given_none (by k_asm) (by k_asm) (by k_asm) (by k_asm) (by k_asm) (by k_asm) (by k_asm) (by first | exact rfl | assumption) (by ktr_room) (by ktr_units) (by first | assumption | exact CntV.none | exact CntV.int _ _) (by omega) (by omega) (by assumption) ?_); intro h9 tk9 F9 N9; (try dsimp only); (try k_fold); (try k_sweep))
  k_with "call ref" => (k_here; (with_reducible show wpAny _ _ (call (Value.ref 555) _) _ _ _); k_dflt (refine' given_some (by k_asm) (by k_asm) (by k_asm) (by k_asm) (by k_asm) (by k_asm) (by k_asm) (by first | exact rfl | assumption) (by ktr_room) (by ktr_units) (by first | assumption | exact CntV.none | exact CntV.int _ _) (by omega) (by omega) (by assumption) ?_); intro d9 t9 u9 h9 tk9 F9 N9 hl9; (try k_lt hl9); (try dsimp only); (try k_fold); (try k_sweep))
  k_with "call ref" => (k_here; (with_reducible show wpAny _ _ (call (Value.ref 95) _) _ _ _); k_dflt (refine' index_use (by k_asm) (by k_asm) (by k_asm) (by k_asm) (by k_asm) (by first | exact rfl | assumption) (by ktr_room) (by ktr_units) (by omega) (by omega) ?_); intro v9 t9 h9 tk9 hx9 F9 N9; (try dsimp only); (try k_fold); (try k_sweep))
  k_with "call ref" => (k_here; (with_reducible show wpAny _ _ (call (Value.ref 102) _) _ _ _); k_dflt (refine' rindex_use (by k_asm) (by k_asm) (by k_asm) (by k_asm) (by k_asm) (by first | exact rfl | assumption) (by ktr_room) (by ktr_units) (by first | assumption | exact CntV.none | exact CntV.int _ _) (by omega) (by omega) ?_); intro v9 t9 h9 tk9 hx9 F9 N9; (try dsimp only); (try k_fold); (try k_sweep))
  k_with "call ref" => (k_here; (with_reducible show wpAny _ _ (call (Value.ref 399) _) _ _ _); k_dflt (refine' store_use (by k_asm) (by k_asm) (by k_asm) (by k_asm) (by k_asm) (by first | exact rfl | assumption) (by ktr_room) (by ktr_units) (by k_mem) (by k_mem) (by k_mem) (by k_mem) (by walk_at "upd") (by walk_at "ne9") (by walk_at "ne9") (by walk_at "ne9") (by walk_at "ne9") (by assumption) (by assumption) (by assumption) ?_); intro h9 tk9 F9 N9; (try dsimp only at N9); (try dsimp only); (try k_fold); (try k_sweep))
  k_with "call ref" => (k_here; (with_reducible show wpAny _ _ (call (Value.ref 459) []) _ _ _); k_dflt (refine' limits_use (by k_asm) (by k_asm) (by k_asm) (by k_asm) (by k_asm) (by first | exact rfl | assumption) (by ktr_room) (by ktr_units) ?_); intro l9 h9 tk9 F9 N9; (try dsimp only); (try k_fold); (try k_sweep))
  k_with "call ref" => (k_here; (with_reducible show wpAny _ _ (call (Value.ref 306) _) _ _ _); k_dflt (refine' heap_use (by k_asm) (by k_asm) (by k_asm) (by k_asm) (by k_asm) (by first | exact rfl | assumption) (by ktr_room) (by ktr_units) ?_); intro ha9 hd9 t9 u9 v9 w9 z9 h9 tk9 F9 N9 hl9 ho9; (have hl8 := hl9; (try k_lt hl8)); (try dsimp only); (try k_fold); (try k_sweep))
  k_with "call ref" => (k_here; (with_reducible show wpAny _ _ (call (Value.ref 437) _) _ _ _); k_dflt (refine' counter_use (by k_asm) (by k_asm) (by k_asm) (by k_asm) (by k_asm) (by first | exact rfl | assumption) (by ktr_room) (by ktr_units) ?_); intro ca9 cd9 pd9 t9 u9 v9 ob9 h9 tk9 F9 N9 hl9 ho9 hp9 lo9 hs9 hi9; (have hl8 := hl9; (try k_lt hl8)); (try dsimp only); (try k_fold); (try k_sweep))
  k_with "call ref" => (k_here; (with_reducible show wpAny _ _ (call (Value.ref 406) _) _ _ _); k_dflt (refine' fresh_use (by k_asm) (by k_asm) (by k_asm) (by k_asm) (by k_asm) (by first | exact rfl | assumption) (by ktr_room) (by ktr_units) (by assumption) (by omega) (by omega) (by omega) (by omega) ?_); intro sa9 sd9 a9 b9 c9 d9 e9 f9 g9 i9 tn9 tc9 wk9 h9 tk9 F9 N9 ho9 hp9; (try dsimp only); (try k_fold); (try k_sweep))
  k_with "call ref" => (k_here; (with_reducible show wpAny _ _ (call (Value.ref 501) _) _ _ _); k_dflt (refine' lvt_use (by k_asm) (by k_asm) (by k_asm) (by k_asm) (by k_asm) (by first | exact rfl | assumption) (by ktr_room) (by ktr_units) (by first | assumption | exact CntV.none | exact CntV.int _ _) ?_); intro la9 ld9 t9 u9 v9 w9 x9 h9 tk9 F9 N9 hl9 ho9; (have hl8 := hl9; (try k_lt hl8)); (try dsimp only); (try k_fold); (try k_sweep))
  k_with "call ref" => (k_here; (with_reducible show wpAny _ _ (call (Value.ref 338) _) _ _ _); k_dflt (refine' vo_use (by k_asm) (by k_asm) (by k_asm) (by k_asm) (by k_asm) (by first | exact rfl | assumption) (by ktr_room) (by ktr_units) (by k_mem) (by k_mem) ?_); intro h9 tk9 F9 N9; (try dsimp only) <;> (try k_fold) <;> (try k_sweep))
  k_with "call ref" => (k_here; (with_reducible show wpAny _ _ (call (Value.ref 484) _) _ _ _); k_dflt (refine' beg_use (by k_asm) (by k_asm) (by k_asm) (by k_asm) (by k_asm) (by first | exact rfl | assumption) (by ktr_room) (by ktr_units) (by k_mem) (by k_mem) ?_); intro t9 h9 tk9 F9 N9; (try dsimp only) <;> (try k_fold) <;> (try k_sweep))
  k_with "call ref" => (k_here; (with_reducible show wpAny _ _ (call (Value.ref 491) _) _ _ _); k_dflt (refine' get_use (by k_asm) (by k_asm) (by k_asm) (by k_asm) (by k_asm) (by first | exact rfl | assumption) (by ktr_room) (by ktr_units) (by k_mem) (by k_mem) (by k_mem) (by k_mem) (by first | assumption | exact CntV.none | exact CntV.int _ _) (by omega) ?_ ?_); (first | (intro h9 tk9 hs9 F9 N9) | (intro z9 t9 h9 tk9 hs9 F9 N9)) <;> (try dsimp only) <;> (try k_fold) <;> (try k_sweep))
  k_with "call ref" => (k_here; (with_reducible show wpAny _ _ (call (Value.ref 562) _) _ _ _); k_dflt (refine' set_none (by k_asm) (by k_asm) (by k_asm) (by k_asm) (by k_asm) (by k_asm) (by k_asm) (by first | exact rfl | assumption) (by ktr_room) (by ktr_units) (by k_mem) (by k_mem) (by k_mem) (by k_mem) (by first | assumption | exact CntV.none | exact CntV.int _ _) (by omega) (by assumption) ?_); intro h9 tk9 F9 N9; (try dsimp only); (try k_fold); (try k_sweep))
  k_with "call ref" => (k_here; (with_reducible show wpAny _ _ (call (Value.ref 562) _) _ _ _); k_dflt (refine' set_some (by k_asm) (by k_asm) (by k_asm) (by k_asm) (by k_asm) (by k_asm) (by k_asm) (by first | exact rfl | assumption) (by ktr_room) (by ktr_units) (by k_mem) (by k_mem) (by k_mem) (by k_mem) (by walk_at "drop") (by walk_at "drop") (by first | assumption | exact CntV.none | exact CntV.int _ _) (by omega) (by omega) (by k_mem) (by k_mem) (by k_mem) (by k_mem) (by k_mem) (by walk_at "ne9") (by walk_at "ne9") (by walk_at "ne9") (by walk_at "ne9") (by walk_at "ne9") (by assumption) (by assumption) (by assumption) (by assumption) ?_); intro to9 tv9 cv9 h9 tk9 hc9 F9 N9; (try dsimp only); (try k_fold); (try k_sweep))
  k_with "subscriptTail Name Slice ref ref" => (k_here; (with_reducible show wpAny _ _ (subscriptTail _ (PySem.Expr.Slice none _ none _) (Value.ref _) (Value.ref _)) _ _ _); k_dflt (refine' tail_two (by k_asm) (by k_asm) (by k_mem) ?_ (by with_unfolding_all rfl) (by intro _; with_unfolding_all rfl)); intro D9 h9 F9 N9 hl9; (try k_lt hl9); (try dsimp only))
  k_with "compareOp NotEq ref ref" => (k_here; (with_reducible show wpAny _ _ (compareOp CmpOp.NotEq (Value.ref _) (Value.ref _)) _ _ _); k_dflt (refine' ne_two (by k_asm) (by k_mem) (by k_mem) (by assumption) (by assumption) (by first | ktr_units | exact Nat.le_of_ble_eq_true rfl | (show _ < _; decide)) ?_))
  k_with "subscriptTail" => (k_here; (with_reducible show wpAny _ _ (subscriptTail _ _ (Value.ref _) (Value.int _ _)) _ _ _); k_dflt (refine' item_tupleT (by exact News.isTup (by k_asm) (by k_mem)) (by decide) (by decide) (by rfl) (by rfl) ?_; k_whole))
  k_with "subscriptTail Name Constant ref int" => (k_here; (with_reducible show wpAny _ _ (subscriptTail _ _ (Value.ref _) (Value.int _ _)) _ _ _); k_dflt (refine' item_tupleT (by exact News.isTup (by k_asm) (by k_mem)) (by decide) (by decide) (by rfl) (by rfl) ?_; k_whole))
  trivial
section
example : True := by
  k_with "exec Assign cons ListComp" => (k_here; refine wpAny_Assign_Name ?_ (by with_unfolding_all rfl))
  trivial
set_option linter.unusedSimpArgs false in
set_option maxHeartbeats 8000000 in
theorem law_6c {prog : Program} {w : World} {p : Program} {loose : List Str} {mean : ExcName → Option Value} {mg mb : Str → Option Value} {h₀ : Heap} {L f pl lt ah : Addr} {cd : Value} {s : Shared} {m : Str → Option Value} {o1 o2 o3 : Obj} {ps ls as : List Value} {ks : List Int} {np nl na : Nat} {x y : Str} {bg : Int} {tx ty tb : Tok} {Q : Flow → Shared → Prop} {E : Value → Shared → Prop}
    (B : Below callerA h₀ [] h₀) (T : Top p loose mean mg mb h₀) (X : (K w.params).In h₀)
    (F : Fr h₀ L s.heap m) (hm : Has m [(Str.ofString "places", .ref pl), (Str.ofString "later", .ref lt)])
    (N : News h₀ L s.heap [(lt, lst ls nl), (pl, lst ps np), (L + 1 + 1 + 1, o3), (L + 1 + 1, o2), (L + 1, o1)]) (d1 : o1.data = .cell (some (.str x tx))) (d2 : o2.data = .cell (some (.str y ty))) (d3 : o3.data = .cell (some (.int bg tb))) (hx : x.length ≤ 100) (hy : y.length ≤ 100)
    (hp : IntsAre ps ks) (hkl : ks.length ≤ 200) (h0 : ∀ z ∈ ks, 0 ≤ z) (hl : IntsAre ls (ks.filter (fun z => decide (min bg x.length ≤ z))))  (n1 : pl ≠ lt)
    (next : ∀ (ah : Addr) (as : List Value) (na : Nat) m' h' tk', Fr h₀ L h' m' → Has m' [(Str.ofString "places", .ref pl), (Str.ofString "later", .ref lt), (Str.ofString "ahead", .ref ah)] → News h₀ L h' [(ah, lst as na), (lt, lst ls nl), (pl, lst ps np), (L + 1 + 1 + 1, o3), (L + 1 + 1, o2), (L + 1, o1)] → IntsAre as (ks.filter (fun z => decide (z ≤ bg) || decide (z + y.length = 0))) → pl ≠ ah → lt ≠ ah → Q .next { s with heap := h', toks := tk' }) :
    wpAny (model prog w) (callerA.deeper (lawEnv w.params L f cd)) (execs (lawCut w.params 19 1) (lawEnv w.params L f cd)) Q E s := by
  w_top off
  have F := fr_has F hm
  dsimp only [kstB] at F
  refine' law_as ?k6 ?_
  (case k6 => k_is)
  simp only [List.drop, List.take]
  refine wpAny_execs_cons ?_
  k_dflt (refine LCt.Assign_ListComp_T (F₀ := by k_asm) (by rfl) (by with_unfolding_all rfl) (by with_unfolding_all rfl) (by decide) (by rfl) (by decide) (by rfl) (by rfl) (by rfl) ?_)
  walk_at "to_comp"
  (refine' LCt.CompSrcT.ledger ?hh ?F ?N ?R ?sz ?_; (case hh => exact rfl); (case F => k_asm); (case N => k_asm); (case R => k_mem); (case sz => (rw [List.size_toArray, hp.length, PySem.sizeLine_eq]; omega)); intro g')
  refine comp_filter (fun z => decide (z ≤ bg) || decide (z + y.length = 0)) hp ?_ ?_
  · intro z t I oI C oC D m₂ ys h tk E' hz hC hx F N off ne
    have hz0 := h0 z hz
    k_steps
    all_goals first
      | exact LCg.CompEnd.intro (by k_asm) (by k_asm) _ (fun p hp => hp) off (.inr ⟨_, List.Mem.tail _ (List.Mem.head _), rfl, _, rfl⟩) ⟨rfl, by (simp only [decide_eq_true_eq, decide_eq_false_iff_not, Bool.or_eq_true, Bool.or_eq_false_iff]; omega), _, rfl⟩
      | exact LCg.CompEnd.intro (by k_asm) (by k_asm) _ (fun p hp => hp) off (.inr ⟨_, List.Mem.tail _ (List.Mem.head _), rfl, _, rfl⟩) ⟨rfl, by (simp only [decide_eq_true_eq, decide_eq_false_iff_not, Bool.or_eq_true, Bool.or_eq_false_iff]; omega)⟩
  · intro ys hJ D h9 tk9 F9 N9 off9
    have e9 := off1_mem off9
    simp only [List.forall_mem_cons] at e9
    k_steps
    exact next _ _ _ _ _ _ (by k_asm) (by unfold Has; kst_all) (news_sub (by k_asm) (by walk_at "mem_any")) hJ e9.2.1 e9.1

end
example : True := by
  k_with_none
  k_with "enter_cells" => (refine' code_defC (by k_asm) (by k_asm) (by k_asm) (by k_asm) (by k_asm) (by exact rfl) (by exact rfl) (by assumption) (by k_is) (by k_is) (by ktr_room) (by exact BindsTo.of_eq rfl) (by exact rfl) (by decide +kernel) ?_ (by exact rfl) (by exact rfl) (by exact rfl); k_whole; intro g' L' h' tk' cells' FG' F' N' Y' B' X' T' l1; (try k_lt l1); k_cells Y'; (try simp only [List.cons_append, List.nil_append] at N'); (try dsimp only); (try k_lift B'); (try k_fold))
  k_with "eval ListComp" => (k_here; first | ((with_reducible show wpAny _ _ (eval (PySem.Expr.ListComp _ [PySem.Comprehension.mk _ _ [_] _] _ _) _) _ _ _); k_dflt (refine LCt.ListComp_T (F₀ := by k_asm) (by with_unfolding_all rfl) (by decide) (by rfl) (by decide) (by rfl) ?_)) | ((with_reducible show wpAny _ _ (eval (PySem.Expr.ListComp _ [PySem.Comprehension.mk _ _ [] _] _ _) _) _ _ _); k_dflt (refine LCg.ListComp_U (F₀ := by k_asm) (by with_unfolding_all rfl) (by decide) (by rfl) (by decide) (by rfl) ?_)))
  k_with "is_comp" => first | (with_reducible refine' LCt.CompSrcT.range ?_ ?_ ?_ ?_ ?_ ?_ ?_ ?_) | (with_reducible refine' LCg.CompSrc.range ?_ ?_ ?_ ?_ ?_ ?_ ?_ ?_) | (with_reducible refine' LCt.CompSrcT.ledger ?_ ?_ ?_ ?_ ?_ ?_) | (with_reducible refine' LCg.CompSrc.ledger ?_ ?_ ?_ ?_ ?_ ?_)
  k_with "to_comp" => repeat' (first | ((fail_if_success (walk_at "is_comp")); first | (k_unfold; (try dsimp only)) | (k_end; wrow_close) | walk1 | (dsimp only; walk1) | (leave1; try dsimp only)))
  k_with "comp_range" => first | (refine' LCt.CompSrcT.range (by exact rfl) (by k_asm) (by k_asm) (by assumption) (by exact small_one (by omega) (by omega) (by omega) (by omega)) (by first | exact rangeSize_nat _ _ | rfl) (by rw [PySem.sizeLine_eq]; omega) ?_; intro g') | (refine' LCg.CompSrc.range (by exact rfl) (by k_asm) (by k_asm) (by assumption) (by exact small_one (by omega) (by omega) (by omega) (by omega)) (by first | exact rangeSize_nat _ _ | rfl) (by rw [PySem.sizeLine_eq]; omega) ?_; intro g')
  k_with "mem_tail" => (intro q9 hq9; repeat' (first | with_reducible exact hq9 | refine List.mem_cons_of_mem _ ?_))
  k_with "news_sub" => first | k_asm | (refine news_sub (by k_asm) ?_; walk_at "mem_tail")
  k_with "led_lt" => first | assumption | (refine led_lt (by k_asm) ?_; walk_at "mem_tail") | ((with_reducible rename AllLt _ _ => ql9); exact ktn_ltOf ql9) | ((with_reducible rename _ ∧ AllLt _ _ => ql9); exact ktn_ltOf ql9.2) | ((with_reducible rename _ ∧ _ ∧ AllLt _ _ => ql9); exact ktn_ltOf ql9.2.2)
  k_with "mem_at" => first | exact List.Mem.head _ | (refine List.Mem.tail _ ?_; walk_at "mem_at")
  k_with "mem_any" => first | exact mem_nil_all | exact fun _ h => h | (refine mem_cons_all (by walk_at "mem_at") (by walk_at "mem_any")) | (walk_at "mem_tail")
  k_with "to_while" => repeat' (first | ((fail_if_success (with_reducible show wpAny _ _ (exec (Stmt.While _ _ _ _) _) _ _ _)); first | (k_unfold; (try dsimp only)) | (k_end; wrow_close) | walk1 | (dsimp only; walk1) | (leave1; try dsimp only)))
  k_with "ne9" => first | assumption | exact Nat.ne_of_lt (by omega) | exact Nat.ne_of_gt (by omega) | k_ne
  k_with "enter_n" => (refine' code_def (by k_asm) (by k_asm) (by k_asm) (by k_asm) (by k_asm) (by exact rfl) (by exact rfl) (by first | exact rfl | assumption) (by k_is) (by k_is) (by ktr_room) (by first | exact BindsTo.of_eq rfl | exact binds_K (by k_in) rfl (by k_is) rfl rfl rfl) (by exact locs rfl) ?_ (by exact rfl) (by exact rfl) (by exact rfl) (by decide); k_whole)
  k_with "enter_y" => (walk_at "enter_n"; intro g' L' h' FG' F' N' B' X' T'; (try dsimp only); (try k_lift B'); (try k_fold))
  k_with "call builtin:str.join" => (k_here; (with_reducible show wpAny _ _ (call (Value.builtin "str.join") [Value.str _ _, Value.ref _]) _ _ _); (with_reducible rename CarriedAll _ (List.map (fun _ => PyData.str (chr _)) _) => ktC); (refine join_chrs (by first | is_list | exact News.isList (by k_asm) (by k_mem)) ktC (by first | omega | (refine Nat.le_trans (pickC_len _ _ _ _) ?_; omega)) ?_; intro _ _))
  k_with "call ref" => (k_here; (with_reducible show wpAny _ _ (call (Value.ref 519) _) _ _ _); k_dflt (refine' draw_use (by k_asm) (by k_asm) (by k_asm) (by k_asm) (by k_asm) (by first | exact rfl | assumption) (by ktr_room) (by ktr_units) (by walk_at "upd") (by exact rfl) (by k_mem) (by assumption) (by assumption) (by assumption) (by assumption) (by omega) ?_); intro v9 t9 u9 n9 h9 tk9 F9 N9; (try dsimp only at N9); (try dsimp only); (try k_fold); (try k_sweep))
  k_with "call ref" => (k_here; (with_reducible show wpAny _ _ (call (Value.ref 67) _) _ _ _); k_dflt (refine' span_use (by k_asm) (by k_asm) (by k_asm) (by k_asm) (by k_asm) (by first | exact rfl | assumption) (by ktr_room) (by ktr_units) (by first | assumption | exact CntV.none | exact CntV.int _ _) (by omega) ?_ ?_); (first | (intro h9 tk9 hs9 F9 N9) | (intro b9 e9 d9 t9 u9 h9 tk9 hs9 ha9 hb9 hc9 F9 N9 hl9; k_lt hl9)) <;> (try dsimp only) <;> (try k_fold) <;> (try k_sweep))
  k_with "call ref" => (k_here; (with_reducible show wpAny _ _ (call (Value.ref 74) _) _ _ _); k_dflt (refine' value_use (by k_asm) (by k_asm) (by k_asm) (by k_asm) (by k_asm) (by first | exact rfl | assumption) (by ktr_room) (by ktr_units) (by first | assumption | exact CntV.none | exact CntV.int _ _) (by omega) ?_ ?_); (first | (intro h9 tk9 hs9 F9 N9) | (intro z9 t9 h9 tk9 hs9 F9 N9)) <;> (try dsimp only) <;> (try k_fold) <;> (try k_sweep))
  k_with "call ref" => (k_here; (with_reducible show wpAny _ _ (call (Value.ref 531) _) _ _ _); k_dflt (refine' ends_use (by k_asm) (by k_asm) (by k_asm) (by k_asm) (by k_asm) (by first | exact rfl | assumption) (by ktr_room) (by ktr_units) (by k_mem) (by first | assumption | exact CntV.none | exact CntV.int _ _) ?_); intro B9 e9 d9 t9 u9 h9 tk9 hb9 he9 F9 N9 hl9; k_lt hl9; (try dsimp only); (try k_fold); (try k_sweep))
  k_with "call ref" => (k_here; (with_reducible show wpAny _ _ (call (Value.ref 536) _) _ _ _); k_dflt (refine' part_use (by k_asm) (by k_asm) (by k_asm) (by k_asm) (by k_asm) (by first | exact rfl | assumption) (by ktr_room) (by ktr_units) (by k_mem) (by first | assumption | exact CntV.none | exact CntV.int _ _) (by omega) ?_ ?_); (first | (intro h9 tk9 hs9 F9 N9) | (intro d9 z9 p9 t9 u9 h9 tk9 hs9 hf9 F9 N9 hl9; (try k_lt hl9))) <;> (try dsimp only) <;> (try k_fold) <;> (try k_sweep))
  k_with "call ref" => (k_here; (with_reducible show wpAny _ _ (call (Value.ref 524) _) _ _ _); (try k_fmods); k_dflt (refine' word_use (by k_asm) (by k_asm) (by k_asm) (by k_asm) (by k_asm) (by first | exact rfl | assumption) (by ktr_room) (by ktr_units) (by walk_at "upd") (by exact rfl) (by k_mem) (by assumption) (by assumption) (by assumption) (by assumption) (by omega) (by omega) (by omega) ?_); intro z9 t9 u9 n9 h9 tk9 zl9 zok9 F9 N9; (try dsimp only at N9); (try dsimp only); (try k_fold); (try k_sweep))
  k_with "call ref" => (k_here; (with_reducible show wpAny _ _ (call (Value.ref 541) _) _ _ _); k_dflt (refine' places_use (by k_asm) (by k_asm) (by k_asm) (by k_asm) (by k_asm) (by first | exact rfl | assumption) (by ktr_room) (by ktr_units) (by omega) (by omega) ?_); intro d9 vs9 n9 h9 tk9 hp9 F9 N9 hl9; (try simp only [List.forall_mem_cons] at hl9); (try dsimp only); (try k_fold); (try k_sweep))
  k_with "call ref" => (k_here; (with_reducible show wpAny _ _ (call (Value.ref 548) _) _ _ _); k_dflt (refine' lput_use (by k_asm) (by k_asm) (by k_asm) (by k_asm) (by k_asm) (by first | exact rfl | assumption) (by ktr_room) (by ktr_units) (by k_mem) (by first | assumption | exact CntV.none | exact CntV.int _ _) (by omega) (by omega) ?_ ?_); (first | (intro d9 e9 z9 v9 o9 c9 cv9 t9 u9 w9 h9 tk9 hs9 hc9 F9 N9 hl9 he9; (try k_lt hl9)) | (intro h9 tk9 hs9 F9 N9)) <;> (try dsimp only) <;> (try k_fold) <;> (try k_sweep))
  k_with "call ref" => (k_here; (with_reducible show wpAny _ _ (call (Value.ref 555) _) _ _ _); k_dflt (refine' given_none (by k_asm) (by k_asm) (by k_asm) (by k_asm) (by k_asm) (by k_asm) (by k_asm) (by first | exact rfl | assumption) (by ktr_room) (by ktr_units) (by first | assumption | exact CntV.none | exact CntV.int _ _) (by omega) (by omega) (by assumption) ?_); intro h9 tk9 F9 N9; (try dsimp only); (try k_fold); (try k_sweep))
  k_with "call ref" => (k_here; (with_reducible show wpAny _ _ (call (Value.ref 555) _) _ _ _); k_dflt (refine' given_some (by k_asm) (by k_asm) (by k_asm) (by k_asm) (by k_asm) (by k_asm) (by k_asm) (by first | exact rfl | assumption) (by ktr_room) (by ktr_units) (by first | assumption | exact CntV.none | exact CntV.int _ _) (by omega) (by omega) (by assumption) ?_); intro d9 t9 u9 h9 tk9 F9 N9 hl9; (try k_lt hl9); (try dsimp only); (try k_fold); (try k_sweep))
  k_with "call ref" => (k_here; (with_reducible show wpAny _ _ (call (Value.ref 95) _) _ _ _); k_dflt (refine' index_use (by k_asm) (by k_asm) (by k_asm) (by k_asm) (by k_asm) (by first | exact rfl | assumption) (by ktr_room) (by ktr_units) (by omega) (by omega) ?_); intro v9 t9 h9 tk9 hx9 F9 N9; (try dsimp only); (try k_fold); (try k_sweep))
  k_with "call ref" => (k_here; (with_reducible show wpAny _ _ (call (Value.ref 102) _) _ _ _); k_dflt (refine' rindex_use (by k_asm) (by k_asm) (by k_asm) (by k_asm) (by k_asm) (by first | exact rfl | assumption) (by ktr_room) (by ktr_units) (by first | assumption | exact CntV.none | exact CntV.int _ _) (by omega) (by omega) ?_); intro v9 t9 h9 tk9 hx9 F9 N9; (try dsimp only); (try k_fold); (try k_sweep))
  k_with "call ref" => (k_here; (with_reducible show wpAny _ _ (call (Value.ref 399) _) _ _ _); k_dflt (refine' store_use (by k_asm) (by k_asm) (by k_asm) (by k_asm) (by k_asm) (by first | exact rfl | assumption) (by ktr_room) (by ktr_units) (by k_mem) (by k_mem) (by k_mem) (by k_mem) (by walk_at "upd") (by walk_at "ne9") (by walk_at "ne9") (by walk_at "ne9") (by walk_at "ne9") (by assumption) (by assumption) (by assumption) ?_); intro h9 tk9 F9 N9; (try dsimp only at N9); (try dsimp only); (try k_fold); (try k_sweep))
  k_with "call ref" => (k_here; (with_reducible show wpAny _ _ (call (Value.ref 459) []) _ _ _); k_dflt (refine' limits_use (by k_asm) (by k_asm) (by k_asm) (by k_asm) (by k_asm) (by first | exact rfl | assumption) (by ktr_room) (by ktr_units) ?_); intro l9 h9 tk9 F9 N9; (try dsimp only); (try k_fold); (try k_sweep))
  k_with "call ref" => (k_here; (with_reducible show wpAny _ _ (call (Value.ref 306) _) _ _ _); k_dflt (refine' heap_use (by k_asm) (by k_asm) (by k_asm) (by k_asm) (by k_asm) (by first | exact rfl | assumption) (by ktr_room) (by ktr_units) ?_); intro ha9 hd9 t9 u9 v9 w9 z9 h9 tk9 F9 N9 hl9 ho9; (have hl8 := hl9; (try k_lt hl8)); (try dsimp only); (try k_fold); (try k_sweep))
  k_with "call ref" => (k_here; (with_reducible show wpAny _ _ (call (Value.ref 437) _) _ _ _); k_dflt (refine' counter_use (by k_asm) (by k_asm) (by k_asm) (by k_asm) (by k_asm) (by first | exact rfl | assumption) (by ktr_room) (by ktr_units) ?_); intro ca9 cd9 pd9 t9 u9 v9 ob9 h9 tk9 F9 N9 hl9 ho9 hp9 lo9 hs9 hi9; (have hl8 := hl9; (try k_lt hl8)); (try dsimp only); (try k_fold); (try k_sweep))
  k_with "call ref" => (k_here; (with_reducible show wpAny _ _ (call (Value.ref 406) _) _ _ _); k_dflt (refine' fresh_use (by k_asm) (by k_asm) (by k_asm) (by k_asm) (by k_asm) (by first | exact rfl | assumption) (by ktr_room) (by ktr_units) (by assumption) (by omega) (by omega) (by omega) (by omega) ?_); intro sa9 sd9 a9 b9 c9 d9 e9 f9 g9 i9 tn9 tc9 wk9 h9 tk9 F9 N9 ho9 hp9; (try dsimp only); (try k_fold); (try k_sweep))
  k_with "call ref" => (k_here; (with_reducible show wpAny _ _ (call (Value.ref 501) _) _ _ _); k_dflt (refine' lvt_use (by k_asm) (by k_asm) (by k_asm) (by k_asm) (by k_asm) (by first | exact rfl | assumption) (by ktr_room) (by ktr_units) (by first | assumption | exact CntV.none | exact CntV.int _ _) ?_); intro la9 ld9 t9 u9 v9 w9 x9 h9 tk9 F9 N9 hl9 ho9; (have hl8 := hl9; (try k_lt hl8)); (try dsimp only); (try k_fold); (try k_sweep))
  k_with "call ref" => (k_here; (with_reducible show wpAny _ _ (call (Value.ref 338) _) _ _ _); k_dflt (refine' vo_use (by k_asm) (by k_asm) (by k_asm) (by k_asm) (by k_asm) (by first | exact rfl | assumption) (by ktr_room) (by ktr_units) (by k_mem) (by k_mem) ?_); intro h9 tk9 F9 N9; (try dsimp only) <;> (try k_fold) <;> (try k_sweep))
  k_with "call ref" => (k_here; (with_reducible show wpAny _ _ (call (Value.ref 484) _) _ _ _); k_dflt (refine' beg_use (by k_asm) (by k_asm) (by k_asm) (by k_asm) (by k_asm) (by first | exact rfl | assumption) (by ktr_room) (by ktr_units) (by k_mem) (by k_mem) ?_); intro t9 h9 tk9 F9 N9; (try dsimp only) <;> (try k_fold) <;> (try k_sweep))
  k_with "call ref" => (k_here; (with_reducible show wpAny _ _ (call (Value.ref 491) _) _ _ _); k_dflt (refine' get_use (by k_asm) (by k_asm) (by k_asm) (by k_asm) (by k_asm) (by first | exact rfl | assumption) (by ktr_room) (by ktr_units) (by k_mem) (by k_mem) (by k_mem) (by k_mem) (by first | assumption | exact CntV.none | exact CntV.int _ _) (by omega) ?_ ?_); (first | (intro h9 tk9 hs9 F9 N9) | (intro z9 t9 h9 tk9 hs9 F9 N9)) <;> (try dsimp only) <;> (try k_fold) <;> (try k_sweep))
  k_with "call ref" => (k_here; (with_reducible show wpAny _ _ (call (Value.ref 562) _) _ _ _); k_dflt (refine' set_none (by k_asm) (by k_asm) (by k_asm) (by k_asm) (by k_asm) (by k_asm) (by k_asm) (by first | exact rfl | assumption) (by ktr_room) (by ktr_units) (by k_mem) (by k_mem) (by k_mem) (by k_mem) (by first | assumption | exact CntV.none | exact CntV.int _ _) (by omega) (by assumption) ?_); intro h9 tk9 F9 N9; (try dsimp only); (try k_fold); (try k_sweep))
  k_with "call ref" => (k_here; (with_reducible show wpAny _ _ (call (Value.ref 562) _) _ _ _); k_dflt (refine' set_some (by k_asm) (by k_asm) (by k_asm) (by k_asm) (by k_asm) (by k_asm) (by k_asm) (by first | exact rfl | assumption) (by ktr_room) (by ktr_units) (by k_mem) (by k_mem) (by k_mem) (by k_mem) (by walk_at "drop") (by walk_at "drop") (by first | assumption | exact CntV.none | exact CntV.int _ _) (by omega) (by omega) (by k_mem) (by k_mem) (by k_mem) (by k_mem) (by k_mem) (by walk_at "ne9") (by walk_at "ne9") (by walk_at "ne9") (by walk_at "ne9") (by walk_at "ne9") (by assumption) (by assumption) (by assumption) (by assumption) ?_); intro to9 tv9 cv9 h9 tk9 hc9 F9 N9; (try dsimp only); (try k_fold); (try k_sweep))
  k_with "subscriptTail Name Slice ref ref" => (k_here; (with_reducible show wpAny _ _ (subscriptTail _ (PySem.Expr.Slice none _ none _) (Value.ref _) (Value.ref _)) _ _ _); k_dflt (refine' tail_two (by k_asm) (by k_asm) (by k_mem) ?_ (by with_unfolding_all rfl) (by intro _; with_unfolding_all rfl)); intro D9 h9 F9 N9 hl9; (try k_lt hl9); (try dsimp only))
  k_with "compareOp NotEq ref ref" => (k_here; (with_reducible show wpAny _ _ (compareOp CmpOp.NotEq (Value.ref _) (Value.ref _)) _ _ _); k_dflt (refine' ne_two (by k_asm) (by k_mem) (by k_mem) (by assumption) (by assumption) (by first | ktr_units | exact Nat.le_of_ble_eq_true rfl | (show _ < _; decide)) ?_))
  k_with "subscriptTail" => (k_here; (with_reducible show wpAny _ _ (subscriptTail _ _ (Value.ref _) (Value.int _ _)) _ _ _); k_dflt (refine' item_tupleT (by exact News.isTup (by k_asm) (by k_mem)) (by decide) (by decide) (by rfl) (by rfl) ?_; k_whole))
  k_with "subscriptTail Name Constant ref int" => (k_here; (with_reducible show wpAny _ _ (subscriptTail _ _ (Value.ref _) (Value.int _ _)) _ _ _); k_dflt (refine' item_tupleT (by exact News.isTup (by k_asm) (by k_mem)) (by decide) (by decide) (by rfl) (by rfl) ?_; k_whole))
  trivial
section
set_option linter.unusedSimpArgs false in
set_option maxHeartbeats 8000000 in
theorem law_6d {prog : Program} {w : World} {p : Program} {loose : List Str} {mean : ExcName → Option Value} {mg mb : Str → Option Value} {h₀ : Heap} {L f pl lt ah : Addr} {cd : Value} {s : Shared} {m : Str → Option Value} {o1 o2 o3 : Obj} {ps ls as : List Value} {ks : List Int} {np nl na : Nat} {x y : Str} {bg : Int} {tx ty tb : Tok} {Q : Flow → Shared → Prop} {E : Value → Shared → Prop}
    (B : Below callerA h₀ [] h₀) (T : Top p loose mean mg mb h₀) (X : (K w.params).In h₀)
    (F : Fr h₀ L s.heap m) (hm : Has m [(Str.ofString "places", .ref pl), (Str.ofString "later", .ref lt), (Str.ofString "ahead", .ref ah)])
    (N : News h₀ L s.heap [(ah, lst as na), (lt, lst ls nl), (pl, lst ps np), (L + 1 + 1 + 1, o3), (L + 1 + 1, o2), (L + 1, o1)]) (d1 : o1.data = .cell (some (.str x tx))) (d2 : o2.data = .cell (some (.str y ty))) (d3 : o3.data = .cell (some (.int bg tb))) (hx : x.length ≤ 100) (hy : y.length ≤ 100)
    (hp : IntsAre ps ks) (hkl : ks.length ≤ 200) (h0 : ∀ z ∈ ks, 0 ≤ z) (hl : IntsAre ls (ks.filter (fun z => decide (min bg x.length ≤ z)))) (ha : IntsAre as (ks.filter (fun z => decide (z ≤ bg) || decide (z + y.length = 0))))  (n1 : pl ≠ lt) (n2 : pl ≠ ah) (n3 : lt ≠ ah) (hks : ks = placesN x y (x.length + 1))
    (next : ∀ m' h' tk', Fr h₀ L h' m' → Has m' [(Str.ofString "places", .ref pl), (Str.ofString "later", .ref lt), (Str.ofString "ahead", .ref ah)] → News h₀ L h' [(ah, lst as na), (lt, lst ls nl), (pl, lst ps np), (L + 1 + 1 + 1, o3), (L + 1 + 1, o2), (L + 1, o1)] → Q .next { s with heap := h', toks := tk' }) :
    wpAny (model prog w) (callerA.deeper (lawEnv w.params L f cd)) (execs (lawCut w.params 20 1) (lawEnv w.params L f cd)) Q E s := by
  w_top off
  have F := fr_has F hm
  dsimp only [kstB] at F
  refine' law_as ?k6 ?_
  (case k6 => k_is)
  simp only [List.drop, List.take]
  have hli := later_idx (x := x) (y := y) (b := bg) (ns := ks.filter (fun z => decide (min bg x.length ≤ z))) (by rw [hks])
  generalize hns : ks.filter (fun z => decide (min bg x.length ≤ z)) = ns at hl hli
  cases hl with
  | nil =>
    have h1 := hli.1 rfl
    clear hli
    k_steps
    all_goals first
      | exact next _ _ _ (by k_asm) (by unfold Has; kst_all) (news_sub (by k_asm) (by walk_at "mem_any"))
      | (exfalso; (with_reducible rename _ ≠ _ => h2); (with_reducible rename IsIdx _ _ _ (-1) => h1); exact h2 (idx_unique (by assumption) h1))
  | cons z t hl =>
    have h1 := hli.2 _ _ rfl
    clear hli
    k_steps
    all_goals first
      | exact next _ _ _ (by k_asm) (by unfold Has; kst_all) (news_sub (by k_asm) (by walk_at "mem_any"))
      | (exfalso; (with_reducible rename decide (_ :: _ = []) = true => h2); simp at h2; done)
      | (exfalso; (with_reducible rename _ ≠ _ => h2); exact h2 (idx_unique (by assumption) h1))

end
section
example : True := by
  k_with "binaryOp Add ref ref" => (k_here; (with_reducible show wpAny _ _ (binaryOp _ (Value.ref _) (Value.ref _)) _ _ _); k_dflt (refine' kmk_add_ints (by k_asm) (by k_asm) (by exact News.isList (by k_asm) (by k_mem)) (by exact News.isList (by k_asm) (by k_mem)) (by exact IntsAre.cons _ _ .nil) (by assumption) ?_ (by (simp only [PySem.sizeLine_eq, List.length_cons, List.length_nil]; omega))); intro D' ws' h' F' N' l1 hI'; (try k_lt l1); (try k_sweep))
  k_with "call builtin:max" => (k_here; (with_reducible show wpAny _ _ (call (Value.builtin "max") [Value.ref _]) _ _ _); k_dflt (refine' kso_max (by k_asm) (by k_asm) (by exact News.isList (by k_asm) (by k_mem)) (by assumption) (by (simp only [List.length_append, List.length_cons, List.length_nil]; omega)) (by exact rfl) ?_); intro h' M9 t9 tk9 F' N' hm9 hb9; (try k_sweep))
  trivial
set_option linter.unusedSimpArgs false in
set_option maxHeartbeats 8000000 in
theorem law_6e {prog : Program} {w : World} {p : Program} {loose : List Str} {mean : ExcName → Option Value} {mg mb : Str → Option Value} {h₀ : Heap} {L f pl lt ah : Addr} {cd : Value} {s : Shared} {m : Str → Option Value} {o1 o2 o3 : Obj} {ps ls as : List Value} {ks : List Int} {np nl na : Nat} {x y : Str} {bg : Int} {tx ty tb : Tok} {Q : Flow → Shared → Prop} {E : Value → Shared → Prop}
    (B : Below callerA h₀ [] h₀) (T : Top p loose mean mg mb h₀) (X : (K w.params).In h₀)
    (F : Fr h₀ L s.heap m) (hm : Has m [(Str.ofString "places", .ref pl), (Str.ofString "later", .ref lt), (Str.ofString "ahead", .ref ah)])
    (N : News h₀ L s.heap [(ah, lst as na), (lt, lst ls nl), (pl, lst ps np), (L + 1 + 1 + 1, o3), (L + 1 + 1, o2), (L + 1, o1)]) (d1 : o1.data = .cell (some (.str x tx))) (d2 : o2.data = .cell (some (.str y ty))) (d3 : o3.data = .cell (some (.int bg tb))) (hx : x.length ≤ 100) (hy : y.length ≤ 100)
    (hp : IntsAre ps ks) (hkl : ks.length ≤ 200) (h0 : ∀ z ∈ ks, 0 ≤ z) (hl : IntsAre ls (ks.filter (fun z => decide (min bg x.length ≤ z)))) (ha : IntsAre as (ks.filter (fun z => decide (z ≤ bg) || decide (z + y.length = 0))))  (n1 : pl ≠ lt) (n2 : pl ≠ ah) (n3 : lt ≠ ah) (hks : ks = placesN x y (x.length + 1))
    (next : ∀ m' h' tk', Fr h₀ L h' m' → Q (.ret (.bool true)) { s with heap := h', toks := tk' }) :
    wpAny (model prog w) (callerA.deeper (lawEnv w.params L f cd)) (execs (lawCut w.params 21 1) (lawEnv w.params L f cd)) Q E s := by
  w_top off
  have F := fr_has F hm
  dsimp only [kstB] at F
  refine' law_as ?k6 ?_
  (case k6 => k_is)
  simp only [List.drop, List.take]
  have hfl : (ks.filter (fun z => decide (z ≤ bg) || decide (z + y.length = 0))).length ≤ 200 := Nat.le_trans (List.length_filter_le _ _) hkl
  k_steps
  · (with_reducible rename IsRix _ _ (rEnd _ _ none) _ => hr)
    (with_reducible rename _ ∈ [-1] ++ ks => hm9)
    (with_reducible rename ∀ _, _ ∈ [-1] ++ ks → _ => hb9)
    have e := rix_unique hr (max_rix (fun v => by rw [hks]; exact all_iff) hm9 hb9)
    rw [e, beq_self_eq_true]
    exact next _ _ _ (by k_asm)
  · exfalso
    (with_reducible rename _ ≠ _ => hne)
    (with_reducible rename IsRix _ _ (rEnd _ _ (some _)) _ => hr)
    (with_reducible rename _ ∈ [-1] ++ _ => hm9)
    (with_reducible rename ∀ _, _ ∈ [-1] ++ _ → _ => hb9)
    exact hne (rix_unique hr (max_rix (fun v => by rw [hks]; exact ahead_iff) hm9 hb9))

end
example : True := by
  k_with_none
  k_with "enter_cells" => (refine' code_defC (by k_asm) (by k_asm) (by k_asm) (by k_asm) (by k_asm) (by exact rfl) (by exact rfl) (by assumption) (by k_is) (by k_is) (by ktr_room) (by exact BindsTo.of_eq rfl) (by exact rfl) (by decide +kernel) ?_ (by exact rfl) (by exact rfl) (by exact rfl); k_whole; intro g' L' h' tk' cells' FG' F' N' Y' B' X' T' l1; (try k_lt l1); k_cells Y'; (try simp only [List.cons_append, List.nil_append] at N'); (try dsimp only); (try k_lift B'); (try k_fold))
  k_with "eval ListComp" => (k_here; first | ((with_reducible show wpAny _ _ (eval (PySem.Expr.ListComp _ [PySem.Comprehension.mk _ _ [_] _] _ _) _) _ _ _); k_dflt (refine LCt.ListComp_T (F₀ := by k_asm) (by with_unfolding_all rfl) (by decide) (by rfl) (by decide) (by rfl) ?_)) | ((with_reducible show wpAny _ _ (eval (PySem.Expr.ListComp _ [PySem.Comprehension.mk _ _ [] _] _ _) _) _ _ _); k_dflt (refine LCg.ListComp_U (F₀ := by k_asm) (by with_unfolding_all rfl) (by decide) (by rfl) (by decide) (by rfl) ?_)))
  k_with "is_comp" => first | (with_reducible refine' LCt.CompSrcT.range ?_ ?_ ?_ ?_ ?_ ?_ ?_ ?_) | (with_reducible refine' LCg.CompSrc.range ?_ ?_ ?_ ?_ ?_ ?_ ?_ ?_) | (with_reducible refine' LCt.CompSrcT.ledger ?_ ?_ ?_ ?_ ?_ ?_) | (with_reducible refine' LCg.CompSrc.ledger ?_ ?_ ?_ ?_ ?_ ?_)
  k_with "to_comp" => repeat' (first | ((fail_if_success (walk_at "is_comp")); first | (k_unfold; (try dsimp only)) | (k_end; wrow_close) | walk1 | (dsimp only; walk1) | (leave1; try dsimp only)))
  k_with "comp_range" => first | (refine' LCt.CompSrcT.range (by exact rfl) (by k_asm) (by k_asm) (by assumption) (by exact small_one (by omega) (by omega) (by omega) (by omega)) (by first | exact rangeSize_nat _ _ | rfl) (by rw [PySem.sizeLine_eq]; omega) ?_; intro g') | (refine' LCg.CompSrc.range (by exact rfl) (by k_asm) (by k_asm) (by assumption) (by exact small_one (by omega) (by omega) (by omega) (by omega)) (by first | exact rangeSize_nat _ _ | rfl) (by rw [PySem.sizeLine_eq]; omega) ?_; intro g')
  k_with "mem_tail" => (intro q9 hq9; repeat' (first | with_reducible exact hq9 | refine List.mem_cons_of_mem _ ?_))
  k_with "news_sub" => first | k_asm | (refine news_sub (by k_asm) ?_; walk_at "mem_tail")
  k_with "led_lt" => first | assumption | (refine led_lt (by k_asm) ?_; walk_at "mem_tail") | ((with_reducible rename AllLt _ _ => ql9); exact ktn_ltOf ql9) | ((with_reducible rename _ ∧ AllLt _ _ => ql9); exact ktn_ltOf ql9.2) | ((with_reducible rename _ ∧ _ ∧ AllLt _ _ => ql9); exact ktn_ltOf ql9.2.2)
  k_with "mem_at" => first | exact List.Mem.head _ | (refine List.Mem.tail _ ?_; walk_at "mem_at")
  k_with "mem_any" => first | exact mem_nil_all | exact fun _ h => h | (refine mem_cons_all (by walk_at "mem_at") (by walk_at "mem_any")) | (walk_at "mem_tail")
  k_with "to_while" => repeat' (first | ((fail_if_success (with_reducible show wpAny _ _ (exec (Stmt.While _ _ _ _) _) _ _ _)); first | (k_unfold; (try dsimp only)) | (k_end; wrow_close) | walk1 | (dsimp only; walk1) | (leave1; try dsimp only)))
  k_with "ne9" => first | assumption | exact Nat.ne_of_lt (by omega) | exact Nat.ne_of_gt (by omega) | k_ne
  k_with "enter_n" => (refine' code_def (by k_asm) (by k_asm) (by k_asm) (by k_asm) (by k_asm) (by exact rfl) (by exact rfl) (by first | exact rfl | assumption) (by k_is) (by k_is) (by ktr_room) (by first | exact BindsTo.of_eq rfl | exact binds_K (by k_in) rfl (by k_is) rfl rfl rfl) (by exact locs rfl) ?_ (by exact rfl) (by exact rfl) (by exact rfl) (by decide); k_whole)
  k_with "enter_y" => (walk_at "enter_n"; intro g' L' h' FG' F' N' B' X' T'; (try dsimp only); (try k_lift B'); (try k_fold))
  k_with "call builtin:str.join" => (k_here; (with_reducible show wpAny _ _ (call (Value.builtin "str.join") [Value.str _ _, Value.ref _]) _ _ _); (with_reducible rename CarriedAll _ (List.map (fun _ => PyData.str (chr _)) _) => ktC); (refine join_chrs (by first | is_list | exact News.isList (by k_asm) (by k_mem)) ktC (by first | omega | (refine Nat.le_trans (pickC_len _ _ _ _) ?_; omega)) ?_; intro _ _))
  k_with "call ref" => (k_here; (with_reducible show wpAny _ _ (call (Value.ref 519) _) _ _ _); k_dflt (refine' draw_use (by k_asm) (by k_asm) (by k_asm) (by k_asm) (by k_asm) (by first | exact rfl | assumption) (by ktr_room) (by ktr_units) (by walk_at "upd") (by exact rfl) (by k_mem) (by assumption) (by assumption) (by assumption) (by assumption) (by omega) ?_); intro v9 t9 u9 n9 h9 tk9 F9 N9; (try dsimp only at N9); (try dsimp only); (try k_fold); (try k_sweep))
  k_with "call ref" => (k_here; (with_reducible show wpAny _ _ (call (Value.ref 67) _) _ _ _); k_dflt (refine' span_use (by k_asm) (by k_asm) (by k_asm) (by k_asm) (by k_asm) (by first | exact rfl | assumption) (by ktr_room) (by ktr_units) (by first | assumption | exact CntV.none | exact CntV.int _ _) (by omega) ?_ ?_); (first | (intro h9 tk9 hs9 F9 N9) | (intro b9 e9 d9 t9 u9 h9 tk9 hs9 ha9 hb9 hc9 F9 N9 hl9; k_lt hl9)) <;> (try dsimp only) <;> (try k_fold) <;> (try k_sweep))
  k_with "call ref" => (k_here; (with_reducible show wpAny _ _ (call (Value.ref 74) _) _ _ _); k_dflt (refine' value_use (by k_asm) (by k_asm) (by k_asm) (by k_asm) (by k_asm) (by first | exact rfl | assumption) (by ktr_room) (by ktr_units) (by first | assumption | exact CntV.none | exact CntV.int _ _) (by omega) ?_ ?_); (first | (intro h9 tk9 hs9 F9 N9) | (intro z9 t9 h9 tk9 hs9 F9 N9)) <;> (try dsimp only) <;> (try k_fold) <;> (try k_sweep))
  k_with "call ref" => (k_here; (with_reducible show wpAny _ _ (call (Value.ref 531) _) _ _ _); k_dflt (refine' ends_use (by k_asm) (by k_asm) (by k_asm) (by k_asm) (by k_asm) (by first | exact rfl | assumption) (by ktr_room) (by ktr_units) (by k_mem) (by first | assumption | exact CntV.none | exact CntV.int _ _) ?_); intro B9 e9 d9 t9 u9 h9 tk9 hb9 he9 F9 N9 hl9; k_lt hl9; (try dsimp only); (try k_fold); (try k_sweep))
  k_with "call ref" => (k_here; (with_reducible show wpAny _ _ (call (Value.ref 536) _) _ _ _); k_dflt (refine' part_use (by k_asm) (by k_asm) (by k_asm) (by k_asm) (by k_asm) (by first | exact rfl | assumption) (by ktr_room) (by ktr_units) (by k_mem) (by first | assumption | exact CntV.none | exact CntV.int _ _) (by omega) ?_ ?_); (first | (intro h9 tk9 hs9 F9 N9) | (intro d9 z9 p9 t9 u9 h9 tk9 hs9 hf9 F9 N9 hl9; (try k_lt hl9))) <;> (try dsimp only) <;> (try k_fold) <;> (try k_sweep))
  k_with "call ref" => (k_here; (with_reducible show wpAny _ _ (call (Value.ref 524) _) _ _ _); (try k_fmods); k_dflt (refine' word_use (by k_asm) (by k_asm) (by k_asm) (by k_asm) (by k_asm) (by first | exact rfl | assumption) (by ktr_room) (by ktr_units) (by walk_at "upd") (by exact rfl) (by k_mem) (by assumption) (by assumption) (by assumption) (by assumption) (by omega) (by omega) (by omega) ?_); intro z9 t9 u9 n9 h9 tk9 zl9 zok9 F9 N9; (try dsimp only at N9); (try dsimp only); (try k_fold); (try k_sweep))
  k_with "call ref" => (k_here; (with_reducible show wpAny _ _ (call (Value.ref 541) _) _ _ _); k_dflt (refine' places_use (by k_asm) (by k_asm) (by k_asm) (by k_asm) (by k_asm) (by first | exact rfl | assumption) (by ktr_room) (by ktr_units) (by omega) (by omega) ?_); intro d9 vs9 n9 h9 tk9 hp9 F9 N9 hl9; (try simp only [List.forall_mem_cons] at hl9); (try dsimp only); (try k_fold); (try k_sweep))
  k_with "call ref" => (k_here; (with_reducible show wpAny _ _ (call (Value.ref 548) _) _ _ _); k_dflt (refine' lput_use (by k_asm) (by k_asm) (by k_asm) (by k_asm) (by k_asm) (by first | exact rfl | assumption) (by ktr_room) (by ktr_units) (by k_mem) (by first | assumption | exact CntV.none | exact CntV.int _ _) (by omega) (by omega) ?_ ?_); (first | (intro d9 e9 z9 v9 o9 c9 cv9 t9 u9 w9 h9 tk9 hs9 hc9 F9 N9 hl9 he9; (try k_lt hl9)) | (intro h9 tk9 hs9 F9 N9)) <;> (try dsimp only) <;> (try k_fold) <;> (try k_sweep))
  k_with "call ref" => (k_here; (with_reducible show wpAny _ _ (call (Value.ref 555) _) _ _ _); k_dflt (refine' given_none (by k_asm) (by k_asm) (by k_asm) (by k_asm) (by k_asm) (by k_asm) (by k_asm) (by first | exact rfl | assumption) (by ktr_room) (by ktr_units) (by first | assumption | exact CntV.none | exact CntV.int _ _) (by omega) (by omega) (by assumption) ?_); intro h9 tk9 F9 N9; (try dsimp only); (try k_fold); (try k_sweep))
  k_with "call ref" => (k_here; (with_reducible show wpAny _ _ (call (Value.ref 555) _) _ _ _); k_dflt (refine' given_some (by k_asm) (by k_asm) (by k_asm) (by k_asm) (by k_asm) (by k_asm) (by k_asm) (by first | exact rfl | assumption) (by ktr_room) (by ktr_units) (by first | assumption | exact CntV.none | exact CntV.int _ _) (by omega) (by omega) (by assumption) ?_); intro d9 t9 u9 h9 tk9 F9 N9 hl9; (try k_lt hl9); (try dsimp only); (try k_fold); (try k_sweep))
  k_with "call ref" => (k_here; (with_reducible show wpAny _ _ (call (Value.ref 95) _) _ _ _); k_dflt (refine' index_use (by k_asm) (by k_asm) (by k_asm) (by k_asm) (by k_asm) (by first | exact rfl | assumption) (by ktr_room) (by ktr_units) (by omega) (by omega) ?_); intro v9 t9 h9 tk9 hx9 F9 N9; (try dsimp only); (try k_fold); (try k_sweep))
  k_with "call ref" => (k_here; (with_reducible show wpAny _ _ (call (Value.ref 102) _) _ _ _); k_dflt (refine' rindex_use (by k_asm) (by k_asm) (by k_asm) (by k_asm) (by k_asm) (by first | exact rfl | assumption) (by ktr_room) (by ktr_units) (by first | assumption | exact CntV.none | exact CntV.int _ _) (by omega) (by omega) ?_); intro v9 t9 h9 tk9 hx9 F9 N9; (try dsimp only); (try k_fold); (try k_sweep))
  k_with "call ref" => (k_here; (with_reducible show wpAny _ _ (call (Value.ref 399) _) _ _ _); k_dflt (refine' store_use (by k_asm) (by k_asm) (by k_asm) (by k_asm) (by k_asm) (by first | exact rfl | assumption) (by ktr_room) (by ktr_units) (by k_mem) (by k_mem) (by k_mem) (by k_mem) (by walk_at "upd") (by walk_at "ne9") (by walk_at "ne9") (by walk_at "ne9") (by walk_at "ne9") (by assumption) (by assumption) (by assumption) ?_); intro h9 tk9 F9 N9; (try dsimp only at N9); (try dsimp only); (try k_fold); (try k_sweep))
  k_with "call ref" => (k_here; (with_reducible show wpAny _ _ (call (Value.ref 459) []) _ _ _); k_dflt (refine' limits_use (by k_asm) (by k_asm) (by k_asm) (by k_asm) (by k_asm) (by first | exact rfl | assumption) (by ktr_room) (by ktr_units) ?_); intro l9 h9 tk9 F9 N9; (try dsimp only); (try k_fold); (try k_sweep))
  k_with "call ref" => (k_here; (with_reducible show wpAny _ _ (call (Value.ref 306) _) _ _ _); k_dflt (refine' heap_use (by k_asm) (by k_asm) (by k_asm) (by k_asm) (by k_asm) (by first | exact rfl | assumption) (by ktr_room) (by ktr_units) ?_); intro ha9 hd9 t9 u9 v9 w9 z9 h9 tk9 F9 N9 hl9 ho9; (have hl8 := hl9; (try k_lt hl8)); (try dsimp only); (try k_fold); (try k_sweep))
  k_with "call ref" => (k_here; (with_reducible show wpAny _ _ (call (Value.ref 437) _) _ _ _); k_dflt (refine' counter_use (by k_asm) (by k_asm) (by k_asm) (by k_asm) (by k_asm) (by first | exact rfl | assumption) (by ktr_room) (by ktr_units) ?_); intro ca9 cd9 pd9 t9 u9 v9 ob9 h9 tk9 F9 N9 hl9 ho9 hp9 lo9 hs9 hi9; (have hl8 := hl9; (try k_lt hl8)); (try dsimp only); (try k_fold); (try k_sweep))
  k_with "call ref" => (k_here; (with_reducible show wpAny _ _ (call (Value.ref 406) _) _ _ _); k_dflt (refine' fresh_use (by k_asm) (by k_asm) (by k_asm) (by k_asm) (by k_asm) (by first | exact rfl | assumption) (by ktr_room) (by ktr_units) (by assumption) (by omega) (by omega) (by omega) (by omega) ?_); intro sa9 sd9 a9 b9 c9 d9 e9 f9 g9 i9 tn9 tc9 wk9 h9 tk9 F9 N9 ho9 hp9; (try dsimp only); (try k_fold); (try k_sweep))
  k_with "call ref" => (k_here; (with_reducible show wpAny _ _ (call (Value.ref 501) _) _ _ _); k_dflt (refine' lvt_use (by k_asm) (by k_asm) (by k_asm) (by k_asm) (by k_asm) (by first | exact rfl | assumption) (by ktr_room) (by ktr_units) (by first | assumption | exact CntV.none | exact CntV.int _ _) ?_); intro la9 ld9 t9 u9 v9 w9 x9 h9 tk9 F9 N9 hl9 ho9; (have hl8 := hl9; (try k_lt hl8)); (try dsimp only); (try k_fold); (try k_sweep))
  k_with "call ref" => (k_here; (with_reducible show wpAny _ _ (call (Value.ref 338) _) _ _ _); k_dflt (refine' vo_use (by k_asm) (by k_asm) (by k_asm) (by k_asm) (by k_asm) (by first | exact rfl | assumption) (by ktr_room) (by ktr_units) (by k_mem) (by k_mem) ?_); intro h9 tk9 F9 N9; (try dsimp only) <;> (try k_fold) <;> (try k_sweep))
  k_with "call ref" => (k_here; (with_reducible show wpAny _ _ (call (Value.ref 484) _) _ _ _); k_dflt (refine' beg_use (by k_asm) (by k_asm) (by k_asm) (by k_asm) (by k_asm) (by first | exact rfl | assumption) (by ktr_room) (by ktr_units) (by k_mem) (by k_mem) ?_); intro t9 h9 tk9 F9 N9; (try dsimp only) <;> (try k_fold) <;> (try k_sweep))
  k_with "call ref" => (k_here; (with_reducible show wpAny _ _ (call (Value.ref 491) _) _ _ _); k_dflt (refine' get_use (by k_asm) (by k_asm) (by k_asm) (by k_asm) (by k_asm) (by first | exact rfl | assumption) (by ktr_room) (by ktr_units) (by k_mem) (by k_mem) (by k_mem) (by k_mem) (by first | assumption | exact CntV.none | exact CntV.int _ _) (by omega) ?_ ?_); (first | (intro h9 tk9 hs9 F9 N9) | (intro z9 t9 h9 tk9 hs9 F9 N9)) <;> (try dsimp only) <;> (try k_fold) <;> (try k_sweep))
  k_with "call ref" => (k_here; (with_reducible show wpAny _ _ (call (Value.ref 562) _) _ _ _); k_dflt (refine' set_none (by k_asm) (by k_asm) (by k_asm) (by k_asm) (by k_asm) (by k_asm) (by k_asm) (by first | exact rfl | assumption) (by ktr_room) (by ktr_units) (by k_mem) (by k_mem) (by k_mem) (by k_mem) (by first | assumption | exact CntV.none | exact CntV.int _ _) (by omega) (by assumption) ?_); intro h9 tk9 F9 N9; (try dsimp only); (try k_fold); (try k_sweep))
  k_with "call ref" => (k_here; (with_reducible show wpAny _ _ (call (Value.ref 562) _) _ _ _); k_dflt (refine' set_some (by k_asm) (by k_asm) (by k_asm) (by k_asm) (by k_asm) (by k_asm) (by k_asm) (by first | exact rfl | assumption) (by ktr_room) (by ktr_units) (by k_mem) (by k_mem) (by k_mem) (by k_mem) (by walk_at "drop") (by walk_at "drop") (by first | assumption | exact CntV.none | exact CntV.int _ _) (by omega) (by omega) (by k_mem) (by k_mem) (by k_mem) (by k_mem) (by k_mem) (by walk_at "ne9") (by walk_at "ne9") (by walk_at "ne9") (by walk_at "ne9") (by walk_at "ne9") (by assumption) (by assumption) (by assumption) (by assumption) ?_); intro to9 tv9 cv9 h9 tk9 hc9 F9 N9; (try dsimp only); (try k_fold); (try k_sweep))
  k_with "subscriptTail Name Slice ref ref" => (k_here; (with_reducible show wpAny _ _ (subscriptTail _ (PySem.Expr.Slice none _ none _) (Value.ref _) (Value.ref _)) _ _ _); k_dflt (refine' tail_two (by k_asm) (by k_asm) (by k_mem) ?_ (by with_unfolding_all rfl) (by intro _; with_unfolding_all rfl)); intro D9 h9 F9 N9 hl9; (try k_lt hl9); (try dsimp only))
  k_with "compareOp NotEq ref ref" => (k_here; (with_reducible show wpAny _ _ (compareOp CmpOp.NotEq (Value.ref _) (Value.ref _)) _ _ _); k_dflt (refine' ne_two (by k_asm) (by k_mem) (by k_mem) (by assumption) (by assumption) (by first | ktr_units | exact Nat.le_of_ble_eq_true rfl | (show _ < _; decide)) ?_))
  k_with "subscriptTail" => (k_here; (with_reducible show wpAny _ _ (subscriptTail _ _ (Value.ref _) (Value.int _ _)) _ _ _); k_dflt (refine' item_tupleT (by exact News.isTup (by k_asm) (by k_mem)) (by decide) (by decide) (by rfl) (by rfl) ?_; k_whole))
  k_with "subscriptTail Name Constant ref int" => (k_here; (with_reducible show wpAny _ _ (subscriptTail _ _ (Value.ref _) (Value.int _ _)) _ _ _); k_dflt (refine' item_tupleT (by exact News.isTup (by k_asm) (by k_mem)) (by decide) (by decide) (by rfl) (by rfl) ?_; k_whole))
  trivial
section
theorem cut_add (P : Params) (i a b : Nat) : lawCut P i (a + b) = lawCut P i a ++ lawCut P (i + a) b := by
  unfold lawCut
  rw [List.take_add, List.drop_drop]
theorem step {M : Model} {A : Around} {env : Env} {P : Params} {i : Nat} (a b : Nat) {Q : Flow → Shared → Prop} {E : Value → Shared → Prop} {s : Shared}
    (h : wpAny M A (execs (lawCut P i a) env) (fun f s' => match f with | .next => wpAny M A (execs (lawCut P (i + a) b) env) Q E s' | f => Q f s') E s) : wpAny M A (execs (lawCut P i (a + b)) env) Q E s := by
  rw [cut_add]
  exact wpAny_app h
theorem placesN_len {x y : Str} : ∀ n : Nat, (placesN x y n).length ≤ n
  | 0 => Nat.le_refl _
  | n + 1 => by
    have := placesN_len (x := x) (y := y) n
    unfold placesN
    split
    · rw [List.length_append, List.length_singleton]; omega
    · omega
theorem placesN_nat {x y : Str} {n : Nat} : ∀ z ∈ placesN x y n, 0 ≤ z := fun z hz => by
  obtain ⟨i, rfl, _⟩ := placesN_mem.mp hz
  omega
set_option maxHeartbeats 4000000 in
/-- the law from the place on where LvText comes in -/
theorem law_tail {prog : Program} {w : World} {p : Program} {loose : List Str} {mean : ExcName → Option Value} {mg mb : Str → Option Value} {h₀ : Heap} {L f pn i td : Addr} {cd : Value} {s : Shared} {m : Str → Option Value} {o1 o2 o3 : Obj} {vs : List Value} {ns : List Int} {k n n' : Nat} {x : Str} {o : Int} {c : Option Int} {cv : Value} {t tx t1 t2 : Tok} {Q : Flow → Shared → Prop} {E : Value → Shared → Prop}
    (B : Below callerA h₀ [] h₀) (T : Top p loose mean mg mb h₀) (X : (K w.params).In h₀)
    (F : Fr h₀ L s.heap m) (hm : Has m [(Str.ofString "pen", .ref pn), (Str.ofString "offset", .int o t1), (Str.ofString "count", cv), (Str.ofString "told", .ref td)])
    (N : News h₀ L s.heap [(td, tup [.int (if o < 0 then -o else o) t2, .bool (decide (o < 0)), cv]), (pn, lst [.ref i, .int (k : Int) t] n), (i, lst vs n'), (L + 1 + 1 + 1, o3), (L + 1 + 1, o2), (L + 1, o1)]) (hc : CntV cv c) (d1 : o1.data = .cell (some (.str x tx))) (d2 : o2.data = .cell none) (d3 : o3.data = .cell none)
    (hx : x.length ≤ 12) (hk : k ≤ 21) (hv : IntsAre vs ns) (h0 : 0 < ns.length) (hn : ns.length < 2 ^ 20) (hip : i ≠ pn) (l1 : @LT.lt Nat _ (L + 1 + 1 + 1) i) (l2 : @LT.lt Nat _ i pn) (l3 : @LT.lt Nat _ pn td)
    (next : ∀ m' h' tk', Fr h₀ L h' m' → Q (.ret (.bool true)) { s with heap := h', toks := tk' }) :
    wpAny (model prog w) (callerA.deeper (lawEnv w.params L f cd)) (execs (lawCut w.params 11 11) (lawEnv w.params L f cd)) Q E s := by
  refine step 3 8 (law_4 (ns := ns) B T X F hm N hc d1 l1 l2 l3 ?_)
  intro la ld sa sd ca ce pd r1 r2 r3 r4 r5 v1 v2 v3 v4 v5 v6 v7 v8 q1 q2 q3 tn tc wk hv9 ob m h tk F hm N l4 g2 g3 g4 g5 g6 g7 lo hs hi
  have ha : 0 ≤ (if o < 0 then -o else o) := by split <;> omega
  have hoo : o = if decide (o < 0) = true then -(if o < 0 then -o else o) else (if o < 0 then -o else o) := by
    by_cases h : o < 0
    · rw [if_pos (decide_eq_true h), if_pos h]; omega
    · rw [if_neg (by simpa using h), if_neg h]
  refine step 1 7 (law_5 (I := pn) (oI := o1) B T X F hm N hv h0 hn hk hc hc ha hoo lo hs hi d1 hx l1 l2 hip (Nat.lt_trans l3 l4) g2 g3 g4 g5 g6 g7 l3 l4 ?_)
  intro k t n x tx o1 m h tk F hm N d1 hk hx
  refine step 3 4 (law_6a (pl := pn) (lt := pn) (ah := pn) (ps := []) (ls := []) (as := []) (ks := []) (np := 0) (nl := 0) (na := 0) (y := x) (bg := 0) (ty := t) (tb := t) B T X F hm N d1 d2 d3 hv h0 hn (by omega) (by omega) l1 l2 hip ?_)
  intro y ty pl ps np bg tb o2 o3 m h tk F hm N hp d2 d3 hy
  have hx : x.length ≤ 100 := by omega
  have hkl : (placesN x y (x.length + 1)).length ≤ 200 := Nat.le_trans (placesN_len _) (by omega)
  refine step 1 3 (law_6b (lt := pn) (ah := pn) (ls := []) (as := []) (nl := 0) (na := 0) B T X F hm N d1 d2 d3 hx hy hp hkl placesN_nat ?_)
  intro lt ls nl m h tk F hm N hl n1
  refine step 1 2 (law_6c (ah := pn) (as := []) (na := 0) B T X F hm N d1 d2 d3 hx hy hp hkl placesN_nat hl n1 ?_)
  intro ah as na m h tk F hm N ha n2 n3
  refine step 1 1 (law_6d B T X F hm N d1 d2 d3 hx hy hp hkl placesN_nat hl ha n1 n2 n3 rfl ?_)
  intro m h tk F hm N
  exact law_6e B T X F hm N d1 d2 d3 hx hy hp hkl placesN_nat hl ha n1 n2 n3 rfl fun m h tk F => next m h tk F
set_option maxHeartbeats 4000000 in
/-- the whole law -/
theorem law_all {prog : Program} {w : World} {p : Program} {loose : List Str} {mean : ExcName → Option Value} {mg mb : Str → Option Value} {h₀ : Heap} {L f l : Addr} {cd : Value} {s : Shared} {u : Str → Option Value} {o1 o2 o3 : Obj} {vs : List Value} {ns : List Int} {Q : Flow → Shared → Prop} {E : Value → Shared → Prop}
    (B : Below callerA h₀ [] h₀) (T : Top p loose mean mg mb h₀) (X : (K w.params).In h₀)
    (F : Fr h₀ L s.heap (fun z => if z = Str.ofString "script" then some (.ref l) else u z))
    (N : News h₀ L s.heap [(L + 1 + 1 + 1, o3), (L + 1 + 1, o2), (L + 1, o1)]) (d1 : o1.data = .cell none) (d2 : o2.data = .cell none) (d3 : o3.data = .cell none)
    (hl : h₀.IsList l vs.toArray) (hi : IntsAre vs ns) (hn : ns.length ≤ 63)
    (next : ∀ m' h' tk', Fr h₀ L h' m' → Q (.ret (.bool true)) { s with heap := h', toks := tk' }) :
    wpAny (model prog w) (callerA.deeper (lawEnv w.params L f cd)) (execs (lawCut w.params 0 22) (lawEnv w.params L f cd)) Q E s := by
  refine step 2 20 (law_0 B T X F N d1 d2 d3 hl hi hn ?_)
  intro pn i vs ns n n' t u' h tk F N hv h0 hn l1 l2
  have hip : i ≠ pn := Nat.ne_of_lt l2
  refine step 3 17 (law_1 (k0 := 0) B T X F (fun q hq => by rw [List.mem_singleton.mp hq]; exact if_pos rfl) N d1 rfl hip hv h0 hn l1 l2 ?_)
  intro x tx o t1 c cv k t n o1 m h tk F hm N hc d1 hx okx hk
  refine step 3 14 (law_2 (ns := ns) B T X F hm N hc d1 hx l1 l2 ?_)
  intro td t2 m h tk F hm N l3
  refine step 2 12 (law_3a B T X F hm N hc d1 hx hk hv h0 hn hip l1 l2 l3 ?_ ?_)
  · intro k t n y ty m h tk F hm N hl hk hy oky
    refine step 1 11 (law_3n B T X F hm N hc d1 hx hk hv h0 hn hip l1 l2 l3 hy hl ?_)
    intro m h tk F hm N
    exact law_tail B T X F hm N hc d1 d2 d3 hx hk hv h0 hn hip l1 l2 l3 fun m h tk F => next m h tk F
  · intro k t n y ty d e z v oo c' t3 t4 m h tk F hm N hl hk hy oky l4
    refine step 1 11 (law_3s B T X F hm N hc d1 hx hk hv h0 hn hip l1 l2 l3 hy okx oky hl l4 ?_)
    intro m h tk F hm N
    exact law_tail B T X F hm N hc d1 d2 d3 hx hk hv h0 hn hip l1 l2 l3 fun m h tk F => next m h tk F

end
section
theorem fr_script {h₀ h : Heap} {L l : Addr} {m : Str → Option Value} (F : Fr h₀ L h m) (e : m (Str.ofString "script") = some (.ref l)) : Fr h₀ L h (fun z => if z = Str.ofString "script" then some (.ref l) else m z) := by
  have e2 : (fun z => if z = Str.ofString "script" then some (Value.ref l) else m z) = m := by
    funext z
    by_cases hz : z = Str.ofString "script"
    · rw [if_pos hz, hz, e]
    · rw [if_neg hz]
  rw [e2]
  exact F
theorem law_full {prog : Program} {w : World} {oc : Value} {od : Option Addr} {osl : Array (Option Value)} {name qual : Str} {params : Arguments} {body : List Stmt} {scope : Scope} {dV kV doc pm cdv ct : Value} {an : Option Addr} {L f : Addr} {cd : Value} {Q : Flow → Shared → Prop} {E : Value → Shared → Prop} {s : Shared}
    (ho : (K w.params).lookup 567 = some ⟨oc, od, .func (fnOf name qual params body scope dV kV doc pm an cdv ct), osl⟩) (hb : body.length ≤ 22)
    (h : wpAny (model prog w) (callerA.deeper (lawEnv w.params L f cd)) (execs (lawCut w.params 0 22) (lawEnv w.params L f cd)) Q E s) :
    wpAny (model prog w) (callerA.deeper (envOfC (Str.ofString "law") scope L f cd)) (execs body (envOfC (Str.ofString "law") scope L f cd)) Q E s := by
  have e1 : fnBody w.params 567 = body := by unfold fnBody; rw [ho]
  have e2 : fnScope w.params 567 = scope := by unfold fnScope; rw [ho]
  unfold lawEnv lawCut at h
  rw [e1, e2, List.drop_zero, List.take_of_length_le hb] at h
  exact h
theorem fin.tw10098057777631523497 : True := trivial
theorem fin.tw1014637456484912126 : True := trivial
theorem fin.tw10194128795564708546 : True := trivial
theorem fin.tw10196768644732416780 : True := trivial
theorem fin.tw1035503724928835527 : True := trivial
theorem fin.tw10393886385942881009 : True := trivial
theorem fin.tw10511823565363050587 : True := trivial
theorem fin.tw10696652717036330658 : True := trivial
theorem fin.tw10751089155417173751 : True := trivial
theorem fin.tw1080700006314346644 : True := trivial
theorem fin.tw10829458402184033698 : True := trivial
theorem fin.tw10852849658779182186 : True := trivial
theorem fin.tw10891054232620793217 : True := trivial
theorem fin.tw10895054467252067526 : True := trivial
theorem fin.tw10907391636593693970 : True := trivial
theorem fin.tw11039862389202566683 : True := trivial
theorem fin.tw11061592194353771069 : True := trivial
theorem fin.tw11112386831996348380 : True := trivial
theorem fin.tw11151619158091525091 : True := trivial
theorem fin.tw11227884535216515135 : True := trivial
theorem fin.tw11277574374343807151 : True := trivial
theorem fin.tw1128348596072947701 : True := trivial
theorem fin.tw1140776683492033738 : True := trivial
theorem fin.tw11575174756993882273 : True := trivial
theorem fin.tw11587955951900863698 : True := trivial
theorem fin.tw11607805686811502034 : True := trivial
theorem fin.tw11936995450923721628 : True := trivial
theorem fin.tw11953781441336167498 : True := trivial
theorem fin.tw1202912048536075021 : True := trivial
theorem fin.tw12118000046449163591 : True := trivial
theorem fin.tw12135189313929291683 : True := trivial
theorem fin.tw12171577908484138354 : True := trivial
theorem fin.tw12180539936304867106 : True := trivial
theorem fin.tw12237877928780879103 : True := trivial
theorem fin.tw12291753297600562012 : True := trivial
theorem fin.tw12347537446847802165 : True := trivial
theorem fin.tw12356021495744459628 : True := trivial
theorem fin.tw12409915417874342407 : True := trivial
theorem fin.tw12480679962508375977 : True := trivial
theorem fin.tw12533113581142691389 : True := trivial
theorem fin.tw12550770813317053977 : True := trivial
theorem fin.tw12586190556516072552 : True := trivial
theorem fin.tw12780881840741157306 : True := trivial
theorem fin.tw12809788781938459499 : True := trivial
theorem fin.tw12847644182280273618 : True := trivial
theorem fin.tw12868640280835112553 : True := trivial
theorem fin.tw12869217540446652890 : True := trivial
theorem fin.tw12876064707754696378 : True := trivial
theorem fin.tw12932903420030652473 : True := trivial
theorem fin.tw12962497063298326498 : True := trivial
theorem fin.tw12996517811204074000 : True := trivial
theorem fin.tw13035599975385658867 : True := trivial
theorem fin.tw1306319669024162852 : True := trivial
theorem fin.tw13162651487661262736 : True := trivial
theorem fin.tw13177410634674063896 : True := trivial
theorem fin.tw13294311002278339166 : True := trivial
theorem fin.tw13337293482115323266 : True := trivial
theorem fin.tw13423622936843584764 : True := trivial
theorem fin.tw13467322939085005891 : True := trivial
theorem fin.tw13790858721211988464 : True := trivial
theorem fin.tw13814004702073501669 : True := trivial
theorem fin.tw13815853411582834384 : True := trivial
theorem fin.tw13870153662132920491 : True := trivial
theorem fin.tw1387329636951720631 : True := trivial
theorem fin.tw13925877587632400325 : True := trivial
theorem fin.tw13929302177132474383 : True := trivial
theorem fin.tw1397303283331804279 : True := trivial
theorem fin.tw14018533915963200917 : True := trivial
theorem fin.tw14111491100615862519 : True := trivial
theorem fin.tw14166196953294261902 : True := trivial
theorem fin.tw1420267162992608975 : True := trivial
theorem fin.tw14239432107786713131 : True := trivial
theorem fin.tw14279960228734115912 : True := trivial
theorem fin.tw14333544728242365436 : True := trivial
theorem fin.tw14347400895652799225 : True := trivial
theorem fin.tw14431720936831517352 : True := trivial
theorem fin.tw14449560505687523246 : True := trivial
theorem fin.tw14470914187005692979 : True := trivial
theorem fin.tw14541005305830221311 : True := trivial
theorem fin.tw14685975602060884167 : True := trivial
theorem fin.tw14715893982664842847 : True := trivial
theorem fin.tw14786503066443513839 : True := trivial
theorem fin.tw14855157385224911753 : True := trivial
theorem fin.tw15144710454662140524 : True := trivial
theorem fin.tw15149952090015108872 : True := trivial
theorem fin.tw15216479089859931547 : True := trivial
theorem fin.tw15234240111613058569 : True := trivial
theorem fin.tw15309079848183770524 : True := trivial
theorem fin.tw15373703851562958014 : True := trivial
theorem fin.tw15399907426655090358 : True := trivial
theorem fin.tw15434440284735832900 : True := trivial
theorem fin.tw1545086475593560577 : True := trivial
theorem fin.tw15476544859757588837 : True := trivial
theorem fin.tw15564276425815640635 : True := trivial
theorem fin.tw1560641971993327685 : True := trivial
theorem fin.tw15694102408757989348 : True := trivial
theorem fin.tw15989303212955285315 : True := trivial
theorem fin.tw16030041051751750485 : True := trivial
theorem fin.tw16229209127682248589 : True := trivial
theorem fin.tw16256441300576474876 : True := trivial
theorem fin.tw16275787546110486726 : True := trivial
theorem fin.tw16285329926789087883 : True := trivial
theorem fin.tw16401934584784274106 : True := trivial
theorem fin.tw16407147864228438881 : True := trivial
theorem fin.tw16448676403291746579 : True := trivial
theorem fin.tw16584127079891442865 : True := trivial
theorem fin.tw16906536467411238026 : True := trivial
theorem fin.tw16934629359412608497 : True := trivial
theorem fin.tw17013622689778091987 : True := trivial
theorem fin.tw17123178472405020103 : True := trivial
theorem fin.tw17130245016438642246 : True := trivial
theorem fin.tw17164383140453370395 : True := trivial
theorem fin.tw17186005699333237546 : True := trivial
theorem fin.tw17210917647794062089 : True := trivial
theorem fin.tw17311274769643918242 : True := trivial
theorem fin.tw17361756636278455780 : True := trivial
theorem fin.tw17379621104745772108 : True := trivial
theorem fin.tw17416127249078093707 : True := trivial
theorem fin.tw17495881415371897999 : True := trivial
theorem fin.tw17570509445847580414 : True := trivial
theorem fin.tw17593727381932232133 : True := trivial
theorem fin.tw17701328389417463424 : True := trivial
theorem fin.tw17717364068325071970 : True := trivial
theorem fin.tw17974384156558142227 : True := trivial
theorem fin.tw18082680734076937219 : True := trivial
theorem fin.tw18087328562809068087 : True := trivial
theorem fin.tw18105942590061964161 : True := trivial
theorem fin.tw18295790063311454060 : True := trivial
theorem fin.tw18404063521330658252 : True := trivial
theorem fin.tw18437432516367875068 : True := trivial
theorem fin.tw1963134401048803436 : True := trivial
theorem fin.tw1976505206021243879 : True := trivial
theorem fin.tw1982079694162106894 : True := trivial
theorem fin.tw2008552940280697342 : True := trivial
theorem fin.tw2051409578822353534 : True := trivial
theorem fin.tw2067723777617599883 : True := trivial
theorem fin.tw2086631506510373192 : True := trivial
theorem fin.tw216489041496292469 : True := trivial
theorem fin.tw2236755162388048479 : True := trivial
theorem fin.tw2304379251839397102 : True := trivial
theorem fin.tw2320886540369039338 : True := trivial
theorem fin.tw2331231422344091171 : True := trivial
theorem fin.tw2462912638960843985 : True := trivial
theorem fin.tw2503846163805864124 : True := trivial
theorem fin.tw2512408688544751470 : True := trivial
theorem fin.tw2537931557510868981 : True := trivial
theorem fin.tw2617349483901765261 : True := trivial
theorem fin.tw2656788454239962097 : True := trivial
theorem fin.tw2711489104339610207 : True := trivial
theorem fin.tw2775396313129547428 : True := trivial
theorem fin.tw3004984022683251337 : True := trivial
theorem fin.tw3029852977388229646 : True := trivial
theorem fin.tw3112429581023547943 : True := trivial
theorem fin.tw3125960719983571848 : True := trivial
theorem fin.tw3211687289105081006 : True := trivial
theorem fin.tw3222278782482380304 : True := trivial
theorem fin.tw3263211703599914710 : True := trivial
theorem fin.tw3268265519342814607 : True := trivial
theorem fin.tw3302319216010004292 : True := trivial
theorem fin.tw3343445320678177929 : True := trivial
theorem fin.tw3373110491918621954 : True := trivial
theorem fin.tw3506512066687448480 : True := trivial
theorem fin.tw3683778510129048087 : True := trivial
theorem fin.tw373065315874586923 : True := trivial
theorem fin.tw3788772014149755174 : True := trivial
theorem fin.tw3794220679723124481 : True := trivial
theorem fin.tw3837020019201816242 : True := trivial
theorem fin.tw3857263333814641470 : True := trivial
theorem fin.tw3863403702602939814 : True := trivial
theorem fin.tw3885313090954376144 : True := trivial
theorem fin.tw3906754673857718949 : True := trivial
theorem fin.tw3975253019698251321 : True := trivial
theorem fin.tw4013537778516871869 : True := trivial
theorem fin.tw4040260094072895976 : True := trivial
theorem fin.tw4043148821406017626 : True := trivial
theorem fin.tw4162185377826839926 : True := trivial
theorem fin.tw4218790737952374519 : True := trivial
theorem fin.tw423345284130997744 : True := trivial
theorem fin.tw428092273266315144 : True := trivial
theorem fin.tw4424551920762525699 : True := trivial
theorem fin.tw4443050520305737185 : True := trivial
theorem fin.tw4499257904209204147 : True := trivial
theorem fin.tw4588413851689716618 : True := trivial
theorem fin.tw4613182775407389354 : True := trivial
theorem fin.tw4684940682943077961 : True := trivial
theorem fin.tw4768634762848416435 : True := trivial
theorem fin.tw480829909506669009 : True := trivial
theorem fin.tw4928979718650693569 : True := trivial
theorem fin.tw4950403968356008110 : True := trivial
theorem fin.tw4992356995671143779 : True := trivial
theorem fin.tw4995774134780000232 : True := trivial
theorem fin.tw5073790198343104882 : True := trivial
theorem fin.tw5102460946473063141 : True := trivial
theorem fin.tw5227809002895711924 : True := trivial
theorem fin.tw5555312102172926907 : True := trivial
theorem fin.tw5634151482396758240 : True := trivial
theorem fin.tw5734618986648460908 : True := trivial
theorem fin.tw5736607870324714639 : True := trivial
theorem fin.tw5805905742469029177 : True := trivial
theorem fin.tw5853953084782111080 : True := trivial
theorem fin.tw5899999196529652853 : True := trivial
theorem fin.tw5962627729488381771 : True := trivial
theorem fin.tw6068950659093879613 : True := trivial
theorem fin.tw612862322836996645 : True := trivial
theorem fin.tw6144012678527597917 : True := trivial
theorem fin.tw6207176494656529804 : True := trivial
theorem fin.tw6289197191216398940 : True := trivial
theorem fin.tw6310958089706085282 : True := trivial
theorem fin.tw6381419901266130222 : True := trivial
theorem fin.tw6388184931127306564 : True := trivial
theorem fin.tw6400248389586479577 : True := trivial
theorem fin.tw6449190631224713292 : True := trivial
theorem fin.tw6454446336052903152 : True := trivial
theorem fin.tw6475936969365037317 : True := trivial
theorem fin.tw6498334528663615478 : True := trivial
theorem fin.tw6525817661751114472 : True := trivial
theorem fin.tw6566618420281934 : True := trivial
theorem fin.tw6567050819087999508 : True := trivial
theorem fin.tw6667815254911646788 : True := trivial
theorem fin.tw6766378078585498003 : True := trivial
theorem fin.tw6956187926921108005 : True := trivial
theorem fin.tw6968583824967984638 : True := trivial
theorem fin.tw7021976415091001641 : True := trivial
theorem fin.tw7070210977369740762 : True := trivial
theorem fin.tw7140950020116457504 : True := trivial
theorem fin.tw7161896034601878586 : True := trivial
theorem fin.tw7177338460636591580 : True := trivial
theorem fin.tw7193555501269276637 : True := trivial
theorem fin.tw7321584467024264148 : True := trivial
theorem fin.tw7334248845499685764 : True := trivial
theorem fin.tw7439575562449295702 : True := trivial
theorem fin.tw7468869467488854307 : True := trivial
theorem fin.tw7470013935711676318 : True := trivial
theorem fin.tw757079261281740938 : True := trivial
theorem fin.tw7684487725183542926 : True := trivial
theorem fin.tw7716820226725407877 : True := trivial
theorem fin.tw7821361960523482326 : True := trivial
theorem fin.tw7822013112032934038 : True := trivial
theorem fin.tw7845872953664198349 : True := trivial
theorem fin.tw7890596953891613788 : True := trivial
theorem fin.tw7930893340574950883 : True := trivial
theorem fin.tw7976502392129159676 : True := trivial
theorem fin.tw799341379326975648 : True := trivial
theorem fin.tw8004206274103572539 : True := trivial
theorem fin.tw8025084765662995669 : True := trivial
theorem fin.tw8126443298418566877 : True := trivial
theorem fin.tw828056024939588000 : True := trivial
theorem fin.tw830653844747074499 : True := trivial
theorem fin.tw8330952907988395303 : True := trivial
theorem fin.tw8408514402456403777 : True := trivial
theorem fin.tw846297522682114974 : True := trivial
theorem fin.tw8472697214298850164 : True := trivial
theorem fin.tw8656503046869711584 : True := trivial
theorem fin.tw876206183137641144 : True := trivial
theorem fin.tw8776770756819070316 : True := trivial
theorem fin.tw8892799339518399672 : True := trivial
theorem fin.tw895571856199123645 : True := trivial
theorem fin.tw8999559765510592377 : True := trivial
theorem fin.tw9001875181463519149 : True := trivial
theorem fin.tw9059937348426287209 : True := trivial
theorem fin.tw9113340658982188547 : True := trivial
theorem fin.tw9221430085559818832 : True := trivial
theorem fin.tw9297318355482256503 : True := trivial
theorem fin.tw9445451236469955387 : True := trivial
theorem fin.tw9597861255099599992 : True := trivial
theorem fin.tw9610726530385051774 : True := trivial
theorem fin.tw9825859731914700964 : True := trivial
theorem fin.tw9962418760945406050 : True := trivial
theorem fin.tw9997704412844104603 : True := trivial
theorem fin.tw999798209818781672 : True := trivial
set_option Elab.async true in
set_option maxHeartbeats 8000000 in
theorem fin : PySem.Challenge.rw_nz0192_01.Holds := by
  w_top off
  w_on
  o_law
  o_head (kHook K kAs (fun P => kAs_ok P))
  (case hw => w_witness2)
  w_strict (k_go0)
  refine' law_full ?k6 ?k7 ?_
  (case k6 => k_is)
  (case k7 => exact Nat.le_of_ble_eq_true rfl)
  (with_reducible rename Fr _ _ _ (bindL _ _ _) => F9)
  have F8 := fr_script F9 (by with_unfolding_all rfl)
  clear F9
  refine' law_all ?zzhB ?zzhT ?zzhX F8 ?zzhN ?zzd1 ?zzd2 ?zzd3 ?zzhl ?zzhi ?zzhn ?_
  (case zzhB => k_asm)
  (case zzhT => k_asm)
  (case zzhX => k_asm)
  (case zzhN => k_asm)
  (case zzhl => assumption)
  (case zzhi => assumption)
  (case zzhn => omega)
  (case zzd1 => with_unfolding_all assumption)
  (case zzd2 => with_unfolding_all assumption)
  (case zzd3 => with_unfolding_all assumption)
  intro m9 h9 tk9 Fr9
  dsimp only
  k_steps

end
end Mine
theorem PySem.Challenge.cw_nz0192_01_holds : PySem.Challenge.rw_nz0192_01.Holds := by
  exact Mine.fin
