import PyProof.Rows.All
import Wide.All
import OpenK.AllK
import Wide.FinOn
import PySem.Challenge.RW_nz0308_01
open PySem PySem.W PyProof.Rows
set_option Elab.async false
set_option maxRecDepth 100000
set_option maxHeartbeats 8000000
set_option compiler.extract_closed false
set_option hygiene false
namespace Mine
open PySem.Challenge
/-- a statement of the row's top, by its place -/
noncomputable def st (i : Nat) : Stmt := pw_nz0308_01.main.body.getD i (.Pass ⟨0, 0, 0, 0⟩)
/-- a method of a class of the row's top, by its places -/
noncomputable def me (i j : Nat) : Stmt := match st i with
  | .ClassDef _ _ _ b .. => b.getD j (.Pass ⟨0, 0, 0, 0⟩)
  | s => s
noncomputable def fnOb (s : Stmt) (qual : Str) (dV kV doc pm cd ct : Value) (b : Nat) : Obj := match s with
  | .FunctionDef n a body _ _ _ sc _ _ _ => ⟨.type "function", none, .func { name := n, qualname := qual, params := a, body := .stmts body, scope := sc, globals := 3, closure := [], defaults := dV, kwdefaults := kV, doc := doc, pyModule := pm, annotations := none, code := cd, closureTuple := ct, builtins := b }, #[]⟩
  | _ => default
noncomputable def en (P : Params) (s : String) (t : Nat) (v : Value) : DictEntry := ⟨PyData.keyHash P (Str.ofString s), .str (Str.ofString s) t, v⟩
noncomputable def as : List Addr := [2, 3, 79, 80, 84, 85, 99, 100, 134, 135, 141, 142, 148, 149, 162, 163, 169, 170, 176, 177, 185, 191, 192, 205, 206, 212, 213, 219, 220, 240, 241, 296, 297, 303, 304, 310, 311, 317, 318, 324, 325, 338, 339, 361, 362, 363, 364, 370, 371, 377, 378, 379, 385, 386, 387, 393, 394, 395, 399, 400, 406, 407, 413, 414, 418, 419, 423, 424, 428, 429]
noncomputable def K (P : Params) : Frag :=
  (nat_lit 2, ⟨.none, none, .dict #[en P "type.__subclasses__.Exception.0" 232 (.int 46 0), en P "type.__subclasses__.Exception.n" 233 (.int 1 0)] 2, #[]⟩) ::
  (nat_lit 3, ⟨(.type "dict"), none, .dict #[en P "__name__" 165 (.str (Str.ofString "law_nz0308_01") 667), en P "__doc__" 166 .none, en P "__package__" 167 .none, en P "__loader__" 168 (.builtin "__main__.__loader__#opaque"), en P "__spec__" 169 .none, en P "__annotations__" 170 (.ref 6), en P "__builtins__" 171 (.ref 4), en P "__file__" 173 (.str (Str.ofString "/claim/cut.py") 172), en P "__cached__" 174 .none, en P "_wall" 193 (.ref 21), en P "PostError" 235 (.ref 46), en P "WordFault" 251 (.ref 59), en P "WireFault" 267 (.ref 71), en P "CRLF" 271 (.bytes #[13, 10] 270), en P "lower_code" 278 (.ref 80), en P "lower" 284 (.ref 85), en P "upper_text" 290 (.ref 90), en P "ascii_text" 296 (.ref 95), en P "text_octets" 302 (.ref 100), en P "QUOTE" 306 (.int 34 305), en P "BACKSLASH" 308 (.int 92 307), en P "MOST_DEPTH" 310 (.int 30 309), en P "MOST_FIGURES" 312 (.int 19 311), en P "MOST_COUNT_FIGURES" 314 (.int 10 313), en P "MOST_QUOTED" 316 (.int 72 315), en P "SPECIALS" 318 (.bytes #[40, 41, 123, 37, 42, 34, 92, 93] 317), en P "VALUE_SPECIALS" 320 (.bytes #[40, 41, 123, 34, 93] 319), en P "Atom" 356 (.ref 124), en P "is_printable" 363 (.ref 135), en P "is_atom_code" 370 (.ref 142), en P "is_astring_code" 377 (.ref 149), en P "is_value_code" 384 (.ref 156), en P "is_figure" 391 (.ref 163), en P "number_of_figures" 400 (.ref 170), en P "figures_of" 407 (.ref 177), en P "Wire" 629 (.ref 362), en P "is_quotable" 635 (.ref 371), en P "quoted_octets" 644 (.ref 378), en P "literal_octets" 652 (.ref 386), en P "string_octets" 660 (.ref 394), en P "astring_octets" 666 (.ref 400), en P "_law_take" 677 (.ref 407), en P "_law_bag" 686 (.ref 414), en P "_law_octets" 692 (.ref 419), en P "_law_string" 698 (.ref 424), en P "law" 704 (.ref 429)] 46, #[]⟩) ::
  (nat_lit 79, ⟨(.type "code"), none, .fields #[(.str (Str.ofString "lower_code") 272), (.str (Str.ofString "lower_code") 273), (.str (Str.ofString "/claim/cut.py") 274), (.int 20 0), (.int 1 0), (.int 0 0), (.int 0 0), (.int 3 0), (.ref 74), (.bool true), (.int 181 0), (.ref 75), .none, (.ref 76), (.ref 77), (.ref 78), (.int 276 0), (.int 20 0), (.str (Str.ofString "/claim/cut.py") 277)], #[]⟩) ::
  (nat_lit 80, fnOb (st 7) (Str.ofString "lower_code") .none .none .none (.str (Str.ofString "postkeep.octets") 268) (.ref 79) .none 0) ::
  (nat_lit 84, ⟨(.type "code"), none, .fields #[(.str (Str.ofString "lower") 279), (.str (Str.ofString "lower") 280), (.str (Str.ofString "/claim/cut.py") 281), (.int 22 0), (.int 1 0), (.int 0 0), (.int 0 0), (.int 3 0), (.ref 81), (.bool true), (.int 181 0), (.ref 82), .none, .none, .none, (.ref 83), (.int 282 0), (.int 22 0), (.str (Str.ofString "/claim/cut.py") 283)], #[]⟩) ::
  (nat_lit 85, fnOb (st 8) (Str.ofString "lower") .none .none .none (.str (Str.ofString "postkeep.octets") 268) (.ref 84) .none 0) ::
  (nat_lit 99, ⟨(.type "code"), none, .fields #[(.str (Str.ofString "text_octets") 297), (.str (Str.ofString "text_octets") 298), (.str (Str.ofString "/claim/cut.py") 299), (.int 31 0), (.int 1 0), (.int 0 0), (.int 0 0), (.int 3 0), (.ref 96), (.bool true), (.int 181 0), (.ref 97), .none, .none, .none, (.ref 98), (.int 300 0), (.int 31 0), (.str (Str.ofString "/claim/cut.py") 301)], #[]⟩) ::
  (nat_lit 100, fnOb (st 11) (Str.ofString "text_octets") .none .none .none (.str (Str.ofString "postkeep.octets") 268) (.ref 99) .none 0) ::
  (nat_lit 134, ⟨(.type "code"), none, .fields #[(.str (Str.ofString "is_printable") 357), (.str (Str.ofString "is_printable") 358), (.str (Str.ofString "/claim/cut.py") 359), (.int 52 0), (.int 1 0), (.int 0 0), (.int 0 0), (.int 3 0), (.ref 129), (.bool true), (.int 181 0), (.ref 130), .none, (.ref 131), (.ref 132), (.ref 133), (.int 361 0), (.int 52 0), (.str (Str.ofString "/claim/cut.py") 362)], #[]⟩) ::
  (nat_lit 135, fnOb (st 22) (Str.ofString "is_printable") .none .none .none (.str (Str.ofString "postkeep.wire") 303) (.ref 134) .none 0) ::
  (nat_lit 141, ⟨(.type "code"), none, .fields #[(.str (Str.ofString "is_atom_code") 364), (.str (Str.ofString "is_atom_code") 365), (.str (Str.ofString "/claim/cut.py") 366), (.int 54 0), (.int 1 0), (.int 0 0), (.int 0 0), (.int 3 0), (.ref 136), (.bool true), (.int 181 0), (.ref 137), .none, (.ref 138), (.ref 139), (.ref 140), (.int 368 0), (.int 54 0), (.str (Str.ofString "/claim/cut.py") 369)], #[]⟩) ::
  (nat_lit 142, fnOb (st 23) (Str.ofString "is_atom_code") .none .none .none (.str (Str.ofString "postkeep.wire") 303) (.ref 141) .none 0) ::
  (nat_lit 148, ⟨(.type "code"), none, .fields #[(.str (Str.ofString "is_astring_code") 371), (.str (Str.ofString "is_astring_code") 372), (.str (Str.ofString "/claim/cut.py") 373), (.int 56 0), (.int 1 0), (.int 0 0), (.int 0 0), (.int 3 0), (.ref 143), (.bool true), (.int 181 0), (.ref 144), .none, (.ref 145), (.ref 146), (.ref 147), (.int 375 0), (.int 56 0), (.str (Str.ofString "/claim/cut.py") 376)], #[]⟩) ::
  (nat_lit 149, fnOb (st 24) (Str.ofString "is_astring_code") .none .none .none (.str (Str.ofString "postkeep.wire") 303) (.ref 148) .none 0) ::
  (nat_lit 162, ⟨(.type "code"), none, .fields #[(.str (Str.ofString "is_figure") 385), (.str (Str.ofString "is_figure") 386), (.str (Str.ofString "/claim/cut.py") 387), (.int 60 0), (.int 1 0), (.int 0 0), (.int 0 0), (.int 3 0), (.ref 157), (.bool true), (.int 181 0), (.ref 158), .none, (.ref 159), (.ref 160), (.ref 161), (.int 389 0), (.int 60 0), (.str (Str.ofString "/claim/cut.py") 390)], #[]⟩) ::
  (nat_lit 163, fnOb (st 26) (Str.ofString "is_figure") .none .none .none (.str (Str.ofString "postkeep.wire") 303) (.ref 162) .none 0) ::
  (nat_lit 169, ⟨(.type "code"), none, .fields #[(.str (Str.ofString "number_of_figures") 392), (.str (Str.ofString "number_of_figures") 393), (.str (Str.ofString "/claim/cut.py") 394), (.int 62 0), (.int 1 0), (.int 0 0), (.int 0 0), (.int 3 0), (.ref 164), (.bool true), (.int 181 0), (.ref 165), .none, (.ref 166), (.ref 167), (.ref 168), (.int 398 0), (.int 62 0), (.str (Str.ofString "/claim/cut.py") 399)], #[]⟩) ::
  (nat_lit 170, fnOb (st 27) (Str.ofString "number_of_figures") .none .none .none (.str (Str.ofString "postkeep.wire") 303) (.ref 169) .none 0) ::
  (nat_lit 176, ⟨(.type "code"), none, .fields #[(.str (Str.ofString "figures_of") 401), (.str (Str.ofString "figures_of") 402), (.str (Str.ofString "/claim/cut.py") 403), (.int 67 0), (.int 1 0), (.int 0 0), (.int 0 0), (.int 3 0), (.ref 171), (.bool true), (.int 181 0), (.ref 172), .none, (.ref 173), (.ref 174), (.ref 175), (.int 405 0), (.int 67 0), (.str (Str.ofString "/claim/cut.py") 406)], #[]⟩) ::
  (nat_lit 177, fnOb (st 28) (Str.ofString "figures_of") .none .none .none (.str (Str.ofString "postkeep.wire") 303) (.ref 176) .none 0) ::
  (nat_lit 185, ⟨(.type "tuple"), none, .seq #[(.int 0 420)] 0, #[]⟩) ::
  (nat_lit 191, ⟨(.type "code"), none, .fields #[(.str (Str.ofString "__init__") 421), (.str (Str.ofString "Wire.__init__") 422), (.str (Str.ofString "/claim/cut.py") 423), (.int 73 0), (.int 3 0), (.int 0 0), (.int 0 0), (.int 3 0), (.ref 186), (.bool true), (.int 181 0), (.ref 187), .none, (.ref 188), (.ref 189), (.ref 190), (.int 427 0), (.int 73 0), (.str (Str.ofString "/claim/cut.py") 428)], #[]⟩) ::
  (nat_lit 192, fnOb (me 29 0) (Str.ofString "Wire.__init__") (.ref 185) .none .none (.str (Str.ofString "postkeep.wire") 303) (.ref 191) .none 0) ::
  (nat_lit 205, ⟨(.type "code"), none, .fields #[(.str (Str.ofString "peek") 438), (.str (Str.ofString "Wire.peek") 439), (.str (Str.ofString "/claim/cut.py") 440), (.int 80 0), (.int 1 0), (.int 0 0), (.int 0 0), (.int 3 0), (.ref 200), (.bool true), (.int 181 0), (.ref 201), .none, (.ref 202), (.ref 203), (.ref 204), (.int 442 0), (.int 80 0), (.str (Str.ofString "/claim/cut.py") 443)], #[]⟩) ::
  (nat_lit 206, fnOb (me 29 2) (Str.ofString "Wire.peek") .none .none .none (.str (Str.ofString "postkeep.wire") 303) (.ref 205) .none 0) ::
  (nat_lit 212, ⟨(.type "code"), none, .fields #[(.str (Str.ofString "skip") 445), (.str (Str.ofString "Wire.skip") 446), (.str (Str.ofString "/claim/cut.py") 447), (.int 83 0), (.int 2 0), (.int 0 0), (.int 0 0), (.int 3 0), (.ref 207), (.bool true), (.int 181 0), (.ref 208), .none, (.ref 209), (.ref 210), (.ref 211), (.int 450 0), (.int 83 0), (.str (Str.ofString "/claim/cut.py") 451)], #[]⟩) ::
  (nat_lit 213, fnOb (me 29 3) (Str.ofString "Wire.skip") .none .none .none (.str (Str.ofString "postkeep.wire") 303) (.ref 212) .none 0) ::
  (nat_lit 219, ⟨(.type "code"), none, .fields #[(.str (Str.ofString "need") 453), (.str (Str.ofString "Wire.need") 454), (.str (Str.ofString "/claim/cut.py") 455), (.int 89 0), (.int 3 0), (.int 0 0), (.int 0 0), (.int 3 0), (.ref 214), (.bool true), (.int 181 0), (.ref 215), .none, (.ref 216), (.ref 217), (.ref 218), (.int 459 0), (.int 89 0), (.str (Str.ofString "/claim/cut.py") 460)], #[]⟩) ::
  (nat_lit 220, fnOb (me 29 4) (Str.ofString "Wire.need") .none .none .none (.str (Str.ofString "postkeep.wire") 303) (.ref 219) .none 0) ::
  (nat_lit 240, ⟨(.type "code"), none, .fields #[(.str (Str.ofString "run") 476), (.str (Str.ofString "Wire.run") 477), (.str (Str.ofString "/claim/cut.py") 478), (.int 99 0), (.int 2 0), (.int 0 0), (.int 0 0), (.int 3 0), (.ref 235), (.bool true), (.int 181 0), (.ref 236), .none, (.ref 237), (.ref 238), (.ref 239), (.int 482 0), (.int 99 0), (.str (Str.ofString "/claim/cut.py") 483)], #[]⟩) ::
  (nat_lit 241, fnOb (me 29 7) (Str.ofString "Wire.run") .none .none .none (.str (Str.ofString "postkeep.wire") 303) (.ref 240) .none 0) ::
  (nat_lit 296, ⟨(.type "code"), none, .fields #[(.str (Str.ofString "quoted") 540), (.str (Str.ofString "Wire.quoted") 541), (.str (Str.ofString "/claim/cut.py") 542), (.int 133 0), (.int 1 0), (.int 0 0), (.int 0 0), (.int 3 0), (.ref 291), (.bool true), (.int 181 0), (.ref 292), .none, (.ref 293), (.ref 294), (.ref 295), (.int 545 0), (.int 133 0), (.str (Str.ofString "/claim/cut.py") 546)], #[]⟩) ::
  (nat_lit 297, fnOb (me 29 15) (Str.ofString "Wire.quoted") .none .none .none (.str (Str.ofString "postkeep.wire") 303) (.ref 296) .none 0) ::
  (nat_lit 303, ⟨(.type "code"), none, .fields #[(.str (Str.ofString "literal") 548), (.str (Str.ofString "Wire.literal") 549), (.str (Str.ofString "/claim/cut.py") 550), (.int 148 0), (.int 1 0), (.int 0 0), (.int 0 0), (.int 3 0), (.ref 298), (.bool true), (.int 181 0), (.ref 299), .none, (.ref 300), (.ref 301), (.ref 302), (.int 555 0), (.int 148 0), (.str (Str.ofString "/claim/cut.py") 556)], #[]⟩) ::
  (nat_lit 304, fnOb (me 29 16) (Str.ofString "Wire.literal") .none .none .none (.str (Str.ofString "postkeep.wire") 303) (.ref 303) .none 0) ::
  (nat_lit 310, ⟨(.type "code"), none, .fields #[(.str (Str.ofString "string") 558), (.str (Str.ofString "Wire.string") 559), (.str (Str.ofString "/claim/cut.py") 560), (.int 162 0), (.int 1 0), (.int 0 0), (.int 0 0), (.int 3 0), (.ref 305), (.bool true), (.int 181 0), (.ref 306), .none, (.ref 307), (.ref 308), (.ref 309), (.int 562 0), (.int 162 0), (.str (Str.ofString "/claim/cut.py") 563)], #[]⟩) ::
  (nat_lit 311, fnOb (me 29 17) (Str.ofString "Wire.string") .none .none .none (.str (Str.ofString "postkeep.wire") 303) (.ref 310) .none 0) ::
  (nat_lit 317, ⟨(.type "code"), none, .fields #[(.str (Str.ofString "string_or") 565), (.str (Str.ofString "Wire.string_or") 566), (.str (Str.ofString "/claim/cut.py") 567), (.int 165 0), (.int 2 0), (.int 0 0), (.int 0 0), (.int 3 0), (.ref 312), (.bool true), (.int 181 0), (.ref 313), .none, (.ref 314), (.ref 315), (.ref 316), (.int 571 0), (.int 165 0), (.str (Str.ofString "/claim/cut.py") 572)], #[]⟩) ::
  (nat_lit 318, fnOb (me 29 18) (Str.ofString "Wire.string_or") .none .none .none (.str (Str.ofString "postkeep.wire") 303) (.ref 317) .none 0) ::
  (nat_lit 324, ⟨(.type "code"), none, .fields #[(.str (Str.ofString "astring") 574), (.str (Str.ofString "Wire.astring") 575), (.str (Str.ofString "/claim/cut.py") 576), (.int 173 0), (.int 1 0), (.int 0 0), (.int 0 0), (.int 3 0), (.ref 319), (.bool true), (.int 181 0), (.ref 320), .none, (.ref 321), (.ref 322), (.ref 323), (.int 578 0), (.int 173 0), (.str (Str.ofString "/claim/cut.py") 579)], #[]⟩) ::
  (nat_lit 325, fnOb (me 29 19) (Str.ofString "Wire.astring") .none .none .none (.str (Str.ofString "postkeep.wire") 303) (.ref 324) .none 0) ::
  (nat_lit 338, ⟨(.type "code"), none, .fields #[(.str (Str.ofString "nstring") 588), (.str (Str.ofString "Wire.nstring") 589), (.str (Str.ofString "/claim/cut.py") 590), (.int 179 0), (.int 1 0), (.int 0 0), (.int 0 0), (.int 3 0), (.ref 333), (.bool true), (.int 181 0), (.ref 334), .none, (.ref 335), (.ref 336), (.ref 337), (.int 593 0), (.int 179 0), (.str (Str.ofString "/claim/cut.py") 594)], #[]⟩) ::
  (nat_lit 339, fnOb (me 29 21) (Str.ofString "Wire.nstring") .none .none .none (.str (Str.ofString "postkeep.wire") 303) (.ref 338) .none 0) ::
  (nat_lit 361, ⟨(.type "dict"), none, .dict #[en P "__module__" 415 (.str (Str.ofString "postkeep.wire") 303), en P "__firstlineno__" 419 (.int 71 418), en P "__init__" 429 (.ref 192), en P "fault" 437 (.ref 199), en P "peek" 444 (.ref 206), en P "skip" 452 (.ref 213), en P "need" 461 (.ref 220), en P "space" 468 (.ref 227), en P "done" 475 (.ref 234), en P "run" 484 (.ref 241), en P "word_of" 494 (.ref 248), en P "atom" 501 (.ref 255), en P "word" 508 (.ref 262), en P "skip_word" 516 (.ref 269), en P "set_text" 523 (.ref 276), en P "flag" 530 (.ref 283), en P "number" 539 (.ref 290), en P "quoted" 547 (.ref 297), en P "literal" 557 (.ref 304), en P "string" 564 (.ref 311), en P "string_or" 573 (.ref 318), en P "astring" 580 (.ref 325), en P "pattern" 587 (.ref 332), en P "nstring" 595 (.ref 339), en P "list_of" 603 (.ref 346), en P "plain_value" 609 (.ref 351), en P "value" 619 (.ref 359), en P "__static_attributes__" 622 (.ref 360), en P "__dict__" 624 (.ref 363), en P "__weakref__" 626 (.ref 364), en P "__doc__" 627 .none] 4, #[]⟩) ::
  (nat_lit 362, ⟨(.type "type"), none, .cls ⟨Str.ofString "Wire", [(.type "object")], [(.ref 362), (.type "object")], 361, Str.ofString "Wire", true, [], [], false, none, false⟩, #[none, none, (some (.str (Str.ofString "Wire") 408)), (some (.str (Str.ofString "Wire") 416)), (some (.builtin "object.__new__")), (some (.bool true))]⟩) ::
  (nat_lit 363, ⟨(.type "getset_descriptor"), none, .fields #[(.str (Str.ofString "__dict__") 623), (.ref 362), (.builtin "function.__dict__"), (.builtin "function.__dict__#set")], #[]⟩) ::
  (nat_lit 364, ⟨(.type "getset_descriptor"), none, .fields #[(.str (Str.ofString "__weakref__") 625), (.ref 362), (.builtin "ExceptionGroup.__weakref__"), .none], #[]⟩) ::
  (nat_lit 370, ⟨(.type "code"), none, .fields #[(.str (Str.ofString "is_quotable") 630), (.str (Str.ofString "is_quotable") 631), (.str (Str.ofString "/claim/cut.py") 632), (.int 217 0), (.int 1 0), (.int 0 0), (.int 0 0), (.int 3 0), (.ref 367), (.bool true), (.int 181 0), (.ref 368), .none, .none, .none, (.ref 369), (.int 633 0), (.int 217 0), (.str (Str.ofString "/claim/cut.py") 634)], #[]⟩) ::
  (nat_lit 371, fnOb (st 30) (Str.ofString "is_quotable") .none .none .none (.str (Str.ofString "postkeep.wire") 303) (.ref 370) .none 0) ::
  (nat_lit 377, ⟨(.type "code"), none, .fields #[(.str (Str.ofString "quoted_octets") 636), (.str (Str.ofString "quoted_octets") 637), (.str (Str.ofString "/claim/cut.py") 638), (.int 219 0), (.int 1 0), (.int 0 0), (.int 0 0), (.int 3 0), (.ref 372), (.bool true), (.int 181 0), (.ref 373), .none, (.ref 374), (.ref 375), (.ref 376), (.int 642 0), (.int 219 0), (.str (Str.ofString "/claim/cut.py") 643)], #[]⟩) ::
  (nat_lit 378, fnOb (st 31) (Str.ofString "quoted_octets") .none .none .none (.str (Str.ofString "postkeep.wire") 303) (.ref 377) .none 0) ::
  (nat_lit 379, ⟨(.type "tuple"), none, .seq #[(.bool false)] 0, #[]⟩) ::
  (nat_lit 385, ⟨(.type "code"), none, .fields #[(.str (Str.ofString "literal_octets") 645), (.str (Str.ofString "literal_octets") 646), (.str (Str.ofString "/claim/cut.py") 647), (.int 227 0), (.int 2 0), (.int 0 0), (.int 0 0), (.int 3 0), (.ref 380), (.bool true), (.int 181 0), (.ref 381), .none, (.ref 382), (.ref 383), (.ref 384), (.int 650 0), (.int 227 0), (.str (Str.ofString "/claim/cut.py") 651)], #[]⟩) ::
  (nat_lit 386, fnOb (st 32) (Str.ofString "literal_octets") (.ref 379) .none .none (.str (Str.ofString "postkeep.wire") 303) (.ref 385) .none 0) ::
  (nat_lit 387, ⟨(.type "tuple"), none, .seq #[(.bool false)] 0, #[]⟩) ::
  (nat_lit 393, ⟨(.type "code"), none, .fields #[(.str (Str.ofString "string_octets") 653), (.str (Str.ofString "string_octets") 654), (.str (Str.ofString "/claim/cut.py") 655), (.int 229 0), (.int 2 0), (.int 0 0), (.int 0 0), (.int 3 0), (.ref 388), (.bool true), (.int 181 0), (.ref 389), .none, (.ref 390), (.ref 391), (.ref 392), (.int 658 0), (.int 229 0), (.str (Str.ofString "/claim/cut.py") 659)], #[]⟩) ::
  (nat_lit 394, fnOb (st 33) (Str.ofString "string_octets") (.ref 387) .none .none (.str (Str.ofString "postkeep.wire") 303) (.ref 393) .none 0) ::
  (nat_lit 395, ⟨(.type "tuple"), none, .seq #[(.bool false)] 0, #[]⟩) ::
  (nat_lit 399, ⟨(.type "code"), none, .fields #[(.str (Str.ofString "astring_octets") 661), (.str (Str.ofString "astring_octets") 662), (.str (Str.ofString "/claim/cut.py") 663), (.int 233 0), (.int 2 0), (.int 0 0), (.int 0 0), (.int 3 0), (.ref 396), (.bool true), (.int 181 0), (.ref 397), .none, .none, .none, (.ref 398), (.int 664 0), (.int 233 0), (.str (Str.ofString "/claim/cut.py") 665)], #[]⟩) ::
  (nat_lit 400, fnOb (st 34) (Str.ofString "astring_octets") (.ref 395) .none .none (.str (Str.ofString "postkeep.wire") 303) (.ref 399) .none 0) ::
  (nat_lit 406, ⟨(.type "code"), none, .fields #[(.str (Str.ofString "_law_take") 669), (.str (Str.ofString "_law_take") 670), (.str (Str.ofString "/claim/cut.py") 671), (.int 239 0), (.int 2 0), (.int 0 0), (.int 0 0), (.int 3 0), (.ref 401), (.bool true), (.int 181 0), (.ref 402), .none, (.ref 403), (.ref 404), (.ref 405), (.int 675 0), (.int 239 0), (.str (Str.ofString "/claim/cut.py") 676)], #[]⟩) ::
  (nat_lit 407, fnOb (st 36) (Str.ofString "_law_take") .none .none .none (.str (Str.ofString "law_nz0308_01") 667) (.ref 406) .none 0) ::
  (nat_lit 413, ⟨(.type "code"), none, .fields #[(.str (Str.ofString "_law_bag") 678), (.str (Str.ofString "_law_bag") 679), (.str (Str.ofString "/claim/cut.py") 680), (.int 243 0), (.int 1 0), (.int 0 0), (.int 0 0), (.int 3 0), (.ref 408), (.bool true), (.int 181 0), (.ref 409), .none, (.ref 410), (.ref 411), (.ref 412), (.int 684 0), (.int 243 0), (.str (Str.ofString "/claim/cut.py") 685)], #[]⟩) ::
  (nat_lit 414, fnOb (st 37) (Str.ofString "_law_bag") .none .none .none (.str (Str.ofString "law_nz0308_01") 667) (.ref 413) .none 0) ::
  (nat_lit 418, ⟨(.type "code"), none, .fields #[(.str (Str.ofString "_law_octets") 687), (.str (Str.ofString "_law_octets") 688), (.str (Str.ofString "/claim/cut.py") 689), (.int 250 0), (.int 1 0), (.int 0 0), (.int 0 0), (.int 3 0), (.ref 415), (.bool true), (.int 181 0), (.ref 416), .none, .none, .none, (.ref 417), (.int 690 0), (.int 250 0), (.str (Str.ofString "/claim/cut.py") 691)], #[]⟩) ::
  (nat_lit 419, fnOb (st 38) (Str.ofString "_law_octets") .none .none .none (.str (Str.ofString "law_nz0308_01") 667) (.ref 418) .none 0) ::
  (nat_lit 423, ⟨(.type "code"), none, .fields #[(.str (Str.ofString "_law_string") 693), (.str (Str.ofString "_law_string") 694), (.str (Str.ofString "/claim/cut.py") 695), (.int 261 0), (.int 2 0), (.int 0 0), (.int 0 0), (.int 3 0), (.ref 420), (.bool true), (.int 181 0), (.ref 421), .none, .none, .none, (.ref 422), (.int 696 0), (.int 261 0), (.str (Str.ofString "/claim/cut.py") 697)], #[]⟩) ::
  (nat_lit 424, fnOb (st 39) (Str.ofString "_law_string") .none .none .none (.str (Str.ofString "law_nz0308_01") 667) (.ref 423) .none 0) ::
  (nat_lit 428, ⟨(.type "code"), none, .fields #[(.str (Str.ofString "law") 699), (.str (Str.ofString "law") 700), (.str (Str.ofString "/claim/cut.py") 701), (.int 268 0), (.int 1 0), (.int 0 0), (.int 0 0), (.int 3 0), (.ref 425), (.bool true), (.int 181 0), (.ref 426), .none, .none, .none, (.ref 427), (.int 702 0), (.int 268 0), (.str (Str.ofString "/claim/cut.py") 703)], #[]⟩) ::
  (nat_lit 429, fnOb (st 40) (Str.ofString "law") .none .none .none (.str (Str.ofString "law_nz0308_01") 667) (.ref 428) .none 0) :: []
noncomputable def lo : List Str := [Str.ofString "_wall", Str.ofString "PostError", Str.ofString "WordFault", Str.ofString "WireFault", Str.ofString "CRLF", Str.ofString "lower_code", Str.ofString "lower", Str.ofString "upper_text", Str.ofString "ascii_text", Str.ofString "text_octets", Str.ofString "QUOTE", Str.ofString "BACKSLASH", Str.ofString "MOST_DEPTH", Str.ofString "MOST_FIGURES", Str.ofString "MOST_COUNT_FIGURES", Str.ofString "MOST_QUOTED", Str.ofString "SPECIALS", Str.ofString "VALUE_SPECIALS", Str.ofString "Atom", Str.ofString "is_printable", Str.ofString "is_atom_code", Str.ofString "is_astring_code", Str.ofString "is_value_code", Str.ofString "is_figure", Str.ofString "number_of_figures", Str.ofString "figures_of", Str.ofString "Wire", Str.ofString "is_quotable", Str.ofString "quoted_octets", Str.ofString "literal_octets", Str.ofString "string_octets", Str.ofString "astring_octets", Str.ofString "_law_take", Str.ofString "_law_bag", Str.ofString "_law_octets", Str.ofString "_law_string"]
theorem eK : ∀ P, as = (K P).map (·.1) := fun _ => by kernel_rfl
noncomputable def q : Program := { pw_nz0308_01 with main := { pw_nz0308_01.main with body := [st 40] } }
theorem left_of {p q : Program} {loose : List Str} {Xt : Shared → Bool} {α : Type} {Yf : Shared → α} {Ya : World → α} {N : Nat} {g0 : Bool} {H₀ : Params → Heap} {gs₀ : Array GenState} {d₀ : Drawn} {k₀ : Nat}
    (open_ : ∀ w : World, (fencedOpening treeTable p w N).map (fun s => (s.heap, s.gens, s.drawn, s.toks)) = some (H₀ w.params, gs₀, d₀, k₀))
    (main : ∀ (w : World) (os : OsState), (topFrom treeTable p w N ⟨H₀ w.params, gs₀, d₀, k₀, os⟩).map (fun s => (openSeen q loose (importedModules p.main.body) Xt g0 s, Yf s)) = some (openGood q loose, Ya w)) :
    LeftO p q loose Xt Yf Ya N g0 := fun w => by
  obtain ⟨⟨h, gs, d, k, os⟩, e, e'⟩ := Option.map_eq_some_iff.mp (open_ w)
  obtain ⟨rfl, rfl, rfl, rfl⟩ : h = H₀ w.params ∧ gs = gs₀ ∧ d = d₀ ∧ k = k₀ := by simpa using e'
  unfold openEnds
  rw [e]
  exact main w os
noncomputable abbrev Xt (s : Shared) : Bool := xlAt q [] s && recOk (RowW.records rw_nz0308_01.row.toRowW) s
noncomputable def T0 (P : Params) : BT := ((((((((((BT.nil.ins 0 (boot_o_0 P)).ins 1 (boot_o_1 P)).ins 2 (boot_o_2 P)).ins 3 (boot_o_3 P)).ins 4 (boot_o_4 P)).ins 5 (boot_o_5 P)).ins 6 (boot_o_6 P)).ins 7 (boot_o_7 P)).ins 8 (boot_o_8 P)).ins 9 (boot_o_9 P)).ins 10 (boot_o_10 P)
noncomputable def S0 (w : World) (os : OsState) : SharedT := ⟨T0 w.params, 11, (boot_heap w.params).life, Array.mk [], boot_drawn, boot_toks, os⟩
/-- the run of the top over a tree of objects; «topRun» says the same over the array -/
noncomputable def topRunX (stp : SharedT → Thread → Option (SharedT × Thread)) (ok : Thread → Bool) : Nat → SharedT → Thread → Option SharedT
  | 0, _, _ => none
  | n + 1, s, t => match through t with
    | true => some s
    | false => match ok t with
      | false => none
      | true => match stp s t with
        | some (s', t') => topRunX stp ok n s' t'
        | none => none
theorem topRunX_of {tb : String → Option Builtin} {p : Program} {w : World} {n₀ : Nat} {ann : Option Value} : ∀ {n : Nat} {s s' : SharedT} {t : Thread}, topRunX (stepT (denote tb) p w) (stepOk n₀ ann) n s t = some s' → topRun tb p w n₀ ann n s.abs t = some s'.abs
  | 0, _, _, _, h => by cases h
  | n + 1, s, s', t, h => by
    unfold topRunX at h
    unfold topRun
    cases he : through t with
    | true => rw [he] at h; cases h; rfl
    | false =>
      rw [he] at h
      cases hk : stepOk n₀ ann t with
      | false => rw [hk] at h; cases h
      | true =>
        rw [hk] at h
        cases hs : stepT (denote tb) p w s t with
        | none => rw [hs] at h; cases h
        | some r => obtain ⟨s₂, t₂⟩ := r; rw [hs] at h; rw [stepT_spec hs]; exact topRunX_of h
theorem abs0 : ∀ (w : World) (os : OsState), (S0 w os).abs = ⟨boot_heap w.params, Array.mk [], boot_drawn, boot_toks, os⟩ := fun _ _ => by kernel_rfl
theorem sizes : ∀ w : World, ((boot_heap w.params).objs.size, (boot_heap w.params).nsMap mainGlobals (Str.ofString "__annotations__")) = (11, some (.ref 6)) := fun _ => by kernel_rfl
theorem run_fast : ∀ (w : World) (os : OsState), (topRunX (PySem.W.Fast.tw10156331382660048174 (PySem.W.Fast.tw11892475500146522536 PySem.W.Fast.tw14364793385576792824) pw_nz0308_01 w) (PySem.W.Fast.tw6613529449190102663 11 (some (.ref 6))) 5542 (S0 w os) (topStub pw_nz0308_01)).map
    (fun s => (staticsOk (importedModules pw_nz0308_01.main.body) (boot_heap w.params) s.abs.heap && namesBound pw_nz0308_01 s.abs.heap && gensDone s.abs && laidKept (boot_heap w.params) s.abs.heap, PySem.W.Fast.tw4187177175401517315 q lo (importedModules pw_nz0308_01.main.body) Xt true s.abs, (kHook K as eK).obs s.abs)) = some (true, openGood q lo, (kHook K as eK).val w) := by
  intro w os
  kernel_rfl
theorem opens : ∀ w : World, (fencedOpening treeTable pw_nz0308_01 w 5542).map (fun s => (s.heap, s.gens, s.drawn, s.toks)) = some (boot_heap w.params, Array.mk [], boot_drawn, boot_toks) :=
  boot_open (by kernel_rfl) (by kernel_rfl) (fun s => by kernel_rfl)
theorem size_ok : ∀ w : World, ((boot_heap w.params).isNs mainGlobals && (Array.mk [] : Array GenState).size == 0) = true := fun w => by kernel_rfl
theorem top_runs : ∀ (w : World) (os : OsState), (topFrom treeTable pw_nz0308_01 w 5542 ⟨boot_heap w.params, Array.mk [], boot_drawn, boot_toks, os⟩).map (fun s => (openSeen q lo (importedModules pw_nz0308_01.main.body) Xt true s, (kHook K as eK).obs s)) = some (openGood q lo, (kHook K as eK).val w) := by
  intro w os
  have h := run_fast w os
  rw [← PySem.W.Fast.te10156331382660048174, ← PySem.W.Fast.te11892475500146522536, ← PySem.W.Fast.te14364793385576792824, ← PySem.W.Fast.te6613529449190102663, ← PySem.W.Fast.te4187177175401517315] at h
  obtain ⟨s, e, e'⟩ := Option.map_eq_some_iff.mp h
  obtain ⟨l1, l2, l3⟩ : _ ∧ _ ∧ _ := by simpa only [Prod.mk.injEq] using e'
  have r := topRunX_of e
  rw [abs0] at r
  obtain ⟨z1, z2⟩ : _ ∧ _ := by simpa only [Prod.mk.injEq] using sizes w
  unfold topFrom
  dsimp only
  rw [size_ok w, z1, z2]
  dsimp only
  rw [r]
  dsimp only [Option.bind]
  rw [l1]
  show some (_, _) = some (_, _)
  rw [l2, l3]
theorem left : LeftO pw_nz0308_01 q lo Xt (kHook K as eK).obs (kHook K as eK).val 5542 := left_of opens top_runs
set_option maxHeartbeats 4000000
open PySem.Calls PySem.Spec
open PySem.Sem (wp)
section
abbrev Led := List (Addr × Obj)
abbrev TopM (mean : ExcName → Option Value) (mg mb : Str → Option Value) (h : Heap) : Prop := Top q (looseW q lo) mean mg mb h
/-- a contract of a def: called at any frame, it comes back by `post`, the frame kept and the ledger as told -/
def Ct (w : World) (f : Addr) (D : Nat) (news : Led) (vs : List Value) (post : Value → Led → Prop) : Prop :=
  ∀ (mean : ExcName → Option Value) (mg mb : Str → Option Value) (dp un : Nat) (gd : Option (List Code)) (cn : Str) (cs : Scope) (a : Addr) (ccd : Value) (cl : List (Str × Addr)) (outer : List Env) (A₀ : Around) (base h₀ : Heap) (L : Addr) (m : Str → Option Value) (s : Shared) (Q E : Value → Shared → Prop),
    Below A₀ base outer h₀ → Fr h₀ L s.heap m → (K w.params).In h₀ → News h₀ L s.heap news → TopM mean mg mb h₀ → cs.kind = .function → dp + D < recursionLimit → un + 8 * D < cLine →
    (∀ v news' h' tk', post v news' → Fr h₀ L h' m → News h₀ L h' news' → Q v { s with heap := h', toks := tk' }) →
    wpAny (model pw_nz0308_01 w) (ktrTop dp un gd cn cs L a ccd cl outer) (call (.ref f) vs) Q E s
theorem ct_use {w : World} {f : Addr} {D : Nat} {news : Led} {vs : List Value} {post : Value → Led → Prop} {mean : ExcName → Option Value} {mg mb : Str → Option Value} {dp un : Nat} {gd : Option (List Code)} {cn : Str} {cs : Scope} {a : Addr} {ccd : Value} {cl : List (Str × Addr)} {outer : List Env} {A₀ : Around} {base h₀ : Heap} {L : Addr} {m : Str → Option Value} {s : Shared} {Q E : Value → Shared → Prop}
    (C : Ct w f D news vs post) (B : Below A₀ base outer h₀) (F : Fr h₀ L s.heap m) (X : (K w.params).In h₀) (N : News h₀ L s.heap news) (T : TopM mean mg mb h₀) (hk : cs.kind = .function) (hd : dp + D < recursionLimit) (hu : un + 8 * D < cLine)
    (ret : ∀ v news' h' tk', post v news' → Fr h₀ L h' m → News h₀ L h' news' → Q v { s with heap := h', toks := tk' }) :
    wpAny (model pw_nz0308_01 w) (ktrTop dp un gd cn cs L a ccd cl outer) (call (.ref f) vs) Q E s := C _ _ _ _ _ _ _ _ _ _ _ _ _ _ _ _ _ _ _ _ B F X N T hk hd hu ret
theorem fill_in {G : Prop} (h : rw_nz0308_01 = rw_nz0308_01 → K = K → G) : G := h rfl rfl
end
section
/-! A logic of my own: as wpAny, but at contexts whose stack holds none of the decoders that hold a bytearray; and nothing is raised. -/
def cln (c : Code) : Bool := match c with
  | .builtin id _ => !Builtin.Bytes.decodersThatHold.contains id
  | _ => true
def ClB (l : List (Code × Pos)) : Prop := ∀ x ∈ l, cln x.1 = true
def Cl (Γ : PySem.Ctx) : Prop := cln Γ.code = true ∧ ClB Γ.below
theorem ClB.cons {c : Code} {p : Pos} {l : List (Code × Pos)} (hc : cln c = true) (h : ClB l) : ClB ((c, p) :: l) := fun x hx => by
  rcases List.mem_cons.mp hx with rfl | hx
  · exact hc
  · exact h x hx
def wpP {α : Type} (M : Model) (A : Around) (t : Sem α) (Q : α → Shared → Prop) (s : Shared) : Prop :=
  ∀ Γ p, Γ.In A → Cl Γ → wp M Γ t (fun a _ s' => Q a s') (fun _ _ _ => False) p s
def codeP (M : Model) (A : Around) (c : Code) (R : Result → Shared → Prop) (s : Shared) : Prop :=
  ∀ Γ p, Γ.code = c → Γ.Below A → ClB Γ.below → wpCode M Γ R p s
section
variable {α β : Type} {M : Model} {A : Around} {s : Shared}
theorem P_any {t : Sem α} {Q : α → Shared → Prop} (h : wpAny M A t Q (fun _ _ => False) s) : wpP M A t Q s := fun Γ p hΓ _ => h Γ p hΓ
theorem codeP_any {c : Code} {R : Result → Shared → Prop} (h : codeAny M A c R s) : codeP M A c R s := fun Γ p hc hΓ _ => h Γ p hc hΓ
theorem P_pure {a : α} {Q : α → Shared → Prop} (h : Q a s) : wpP M A (pure a) Q s := fun _ _ _ _ => h
theorem P_mono {t : Sem α} {Q Q' : α → Shared → Prop} (h : wpP M A t Q s) (hQ : ∀ a s, Q a s → Q' a s) : wpP M A t Q' s :=
  fun Γ p hΓ hC => Sem.wp_mono M Γ t (fun a _ s => hQ a s) (fun _ _ _ x => x) p s (h Γ p hΓ hC)
theorem P_bind {m : Sem α} {f : α → Sem β} {Q : β → Shared → Prop} (h : wpP M A m (fun a s' => wpP M A (f a) Q s') s) : wpP M A (m >>= f) Q s := fun Γ p hΓ hC => by
  rw [Sem.wp_bind']
  exact Sem.wp_mono M Γ m (fun a p' s' h' => h' Γ p' hΓ hC) (fun _ _ _ h' => h') p s (h Γ p hΓ hC)
theorem P_then {m : Sem α} {f : α → Sem β} {Q : β → Shared → Prop} (h : wpAny M A m (fun a s' => wpP M A (f a) Q s') (fun _ _ => False) s) : wpP M A (m >>= f) Q s := P_bind (P_any h)
theorem P_holding {vs : List Value} {m : Sem α} {Q : α → Shared → Prop} (h : wpP M A m Q s) : wpP M A (holding vs m) Q s := fun Γ p hΓ hC => by
  rw [Sem.wp_holding]; exact h Γ p hΓ hC
theorem P_keep {vs : List Value} {m : Sem α} {Q : α → Shared → Prop} (h : wpP M A m Q s) : wpP M A (m.keep vs) Q s := fun Γ p hΓ hC => by
  rw [Sem.wp_keep]; exact h Γ p hΓ hC
theorem P_onRaise {m : Sem α} {k : Value → Sem Unit} {Q : α → Shared → Prop} (h : wpP M A m Q s) : wpP M A (m.onRaise k) Q s := fun Γ p hΓ hC => by
  rw [Sem.wp_onRaise]
  exact Sem.wp_mono M Γ m (fun _ _ _ x => x) (fun _ _ _ x => x.elim) p s (h Γ p hΓ hC)
theorem P_run {c : Code} {h : Option Value} {Q : Flow → Shared → Prop}
    (hc : codeP M (A.mark h) c (fun r s' => match r with | .ok f => Q f s' | .error _ => False) s) (hnb : h ≠ some byPass := by intro x; cases x) : wpP M A (run c h) Q s :=
  fun Γ p hΓ hC => by
    rw [Sem.wp_run]
    refine wpCode_mono (fun r s' hr => ?_) (hc _ p rfl (hΓ.enter c h p hnb) (hC.2.cons hC.1))
    cases r <;> exact hr
theorem P_runValue {c : Code} {Q : Value → Shared → Prop} (hc : codeP M A c (fun r s' => match r with | .ok (.ret v) => Q v s' | .ok _ => False | .error _ => False) s) : wpP M A (runValue c) Q s :=
  fun Γ p hΓ hC => by
    rw [Sem.wp_runValue]
    refine wpCode_mono (fun r s' hr => ?_) (hc _ p rfl (hΓ.enter c none p (by intro x; cases x)) (hC.2.cons hC.1))
    cases r with
    | error e => exact hr.elim
    | ok f => cases f <;> exact hr
def OkRet (Q : Value → Shared → Prop) (r : Result) (s' : Shared) : Prop := match r with | .ok (.ret v) => Q v s' | .ok _ => False | .error _ => False
theorem P_call {f : Value} {pos : List Value} {kw : List (Str × Value)} {Q : Value → Shared → Prop} (hc : codeP M A (.call f ⟨pos, kw⟩) (OkRet Q) s) : wpP M A (call f pos kw) Q s := P_runValue hc
theorem codeP_of_tree {c : Code} {R : Result → Shared → Prop} (hq : cln c = true)
    (h : wpP M (A.under c) (M.den c) (fun fin s' => match fin with | .done f => R (.ok f) s' | .again c' => c'.quiet = true ∧ codeP M A c' R s') s) : codeP M A c R s := fun Γ p hc hΓ hC => by
  rw [wpCode_iff_wp, hc]
  refine Sem.wp_mono M Γ _ (fun fin p' s' h' => ?_) (fun _ _ _ h' => h'.elim) p s (h Γ p (hc ▸ hΓ.in) ⟨hc ▸ hq, hC⟩)
  cases fin with
  | done f => exact h'
  | again c' => exact ⟨h'.1, h'.2 (Γ.goto c') p' rfl (hΓ.goto c') hC⟩
theorem codeP_loop {c : Code} {R : Result → Shared → Prop} (hc : cln c = true) (hq : c.quiet = true) (I : Nat → Shared → Prop)
    (turn : ∀ n s, I n s → wpP M (A.under c) (M.den c)
      (fun fin s' => match fin with | .done f => R (.ok f) s' | .again c' => (c' = c ∧ ∃ m, m < n ∧ I m s') ∨ (c'.quiet = true ∧ codeP M A c' R s')) s)
    (n : Nat) (h : I n s) : codeP M A c R s := by
  induction n using Nat.strongRecOn generalizing s with
  | ind n ih =>
    refine codeP_of_tree hc (P_mono (turn n s h) fun fin s' hf => ?_)
    cases fin with
    | done f => exact hf
    | again c' =>
      rcases hf with ⟨rfl, m, hm, hI⟩ | hf
      · exact ⟨hq, ih m hm hI⟩
      · exact hf
end
section
variable {prog : Program} {w : World} {A : Around} {R : Result → Shared → Prop} {s : Shared}
theorem codeP_func {body env} (h : wpP (model prog w) (A.deeper env) (execs body env) (fun f s' => R (.ok (.ret (match f with | .ret v => v | _ => .none))) s') s) : codeP (model prog w) A (.func body env) R s := by
  refine codeP_of_tree rfl ?_
  show wpP _ (A.deeper env) (do point; match ← (execs body env).onRaise (leaving env) with | .ret v => ret v | _ => ret .none) _ s
  refine P_then (wpAny_point (P_bind (P_onRaise (P_mono h fun f s' h' => ?_))))
  cases f <;> exact P_pure h'
theorem codeP_call_function {a : Addr} {args : Args} {o : Obj} {fd : FuncData} {body : List Stmt} (hroom : A.depth < recursionLimit) (ho : s.heap.get? a = some o)
    (hd' : o.data = .func fd) (hco : fd.scope.isCoroutine = false) (hgen : fd.scope.isGenerator = false) (hbody : fd.body = .stmts body) (hcd : s.heap.CodeRec fd.code fd.qualname)
    (h : wpAny (model prog w) A.in1 (bindArgs fd args) (fun binds s₁ =>
      wpAny (model prog w) A.in1 (newFunctionEnv fd.scope fd.globals fd.closure binds (fd.qualname ++ ".<locals>.") (some a) fd.code none fd.builtins)
        (fun env s₂ => s₂.heap.NoLimit ∧ codeP (model prog w) A (.func body env) R s₂) (fun _ _ => False) s₁) (fun _ _ => False) s) :
    codeP (model prog w) A (.call (.ref a) args) R s := by
  refine codeP_of_tree rfl ?_
  show wpP _ A.in1 (callAny (.ref a) args) _ s
  simp only [callAny]
  refine P_then (wpAny_load ho ?_)
  obtain ⟨c, oc, vs, tq, hc, hoc, hdc, hq⟩ := hcd
  simp only [hd', callFunction, hco, hgen, hbody, hc]
  rw [hc] at h
  refine P_then (m := field (.ref c) 1) (wpAny_field hoc hdc hq (P_then (wpAny_pure ?_)))
  exact P_then (wpAny_mono h (fun binds s₁ h₁ => P_then (wpAny_mono h₁ (fun env s₂ h₂ => P_then (wpAny_enterFrame h₂.1 hroom
    (P_pure (And.intro rfl h₂.2)))) fun _ _ h' => h')) fun _ _ h' => h')
theorem codeP_whileLoop {test body env} (I : Nat → Shared → Prop)
    (turn : ∀ n s, I n s → wpP (model prog w) A (isTrue test env (eval test env)) (fun b s₂ =>
        if b then wpP (model prog w) A (execs body env) (fun f s₃ => match f with
            | .next | .cont => ∃ m, m < n ∧ I m s₃
            | .brk => R (.ok .next) s₃
            | .ret v => R (.ok (.ret v)) s₃) s₂
        else R (.ok .next) s₂) s)
    (n : Nat) (h : I n s) : codeP (model prog w) A (.whileLoop test body [] env) R s := by
  refine codeP_loop rfl rfl I (fun n s hI => ?_) n h
  show wpP _ A ((whileTurn test body [] env).onRaise (fun x => do noteFrame x env; theTreesLotGoes x)) _ s
  refine P_onRaise ?_
  simp only [whileTurn]
  refine P_bind (P_mono (turn n s hI) fun b s₂ h₂ => ?_)
  cases b with
  | false =>
    simp only [Bool.false_eq_true, if_false] at h₂ ⊢
    exact P_then (wpAny_execs_nil (P_pure h₂))
  | true =>
    simp only [if_true] at h₂ ⊢
    refine P_bind (P_mono h₂ fun f s₃ h₃ => ?_)
    cases f with
    | next => exact P_pure (.inl ⟨rfl, h₃⟩)
    | cont => exact P_pure (.inl ⟨rfl, h₃⟩)
    | brk => exact P_pure h₃
    | ret v => exact P_pure h₃
theorem codeP_forLoop {target it body env} (I : Nat → Shared → Prop)
    (turn : ∀ n s, I n s → wpAny (model prog w) A (pyNext it) (fun r s₁ => match r with
      | none => R (.ok .next) s₁
      | some v => wpAny (model prog w) A (assign target env v) (fun _ s₂ => wpP (model prog w) A (execs body env) (fun f s₃ => match f with
          | .next | .cont => ∃ m, m < n ∧ I m s₃
          | .brk => R (.ok .next) s₃
          | .ret v => R (.ok (.ret v)) s₃) s₂) (fun _ _ => False) s₁) (fun _ _ => False) s)
    (n : Nat) (h : I n s) (ht : ∀ v, letOwnedTupleGo target it v = pure () := by intro _; rfl) : codeP (model prog w) A (.forLoop target it body [] env) R s := by
  refine codeP_loop rfl rfl I (fun n s hI => ?_) n h
  show wpP _ _ ((forTurn target it body [] env).onRaise (fun x => do noteFrame x env; theTreesLotGoes x)) _ s
  refine P_onRaise ?_
  simp only [forTurn]
  refine P_then (wpAny_standAt (P_bind (P_onRaise (P_any (wpAny_mono (turn n s hI) (fun r s₁ h₁ => ?_) fun _ _ h' => h')))))
  cases r with
  | none => exact P_pure (.inr ⟨rfl, codeP_any (codeAny_block (wpAny_execs_nil h₁))⟩)
  | some v =>
    refine P_then (wpAny_of_eq (ht v) ?_)
    refine P_then (wpAny_mono h₁ (fun _ s₂ h₂ => P_bind (P_mono h₂ fun f s₃ h₃ => ?_)) fun _ _ h' => h')
    cases f with
    | next => exact P_pure (.inl ⟨rfl, h₃⟩)
    | cont => exact P_pure (.inl ⟨rfl, h₃⟩)
    | brk => exact P_pure h₃
    | ret v => exact P_pure h₃
end
section
variable {prog : Program} {w : World} {A : Around} {s : Shared} {env : Env}
theorem P_execs_cons {st rest} {Q : Flow → Shared → Prop} (h : wpP (model prog w) A (exec st env) (fun f s' => match f with | .next => wpP (model prog w) A (execs rest env) Q s' | f => Q f s') s) :
    wpP (model prog w) A (execs (st :: rest) env) Q s := by
  rw [execs_cons]
  refine P_bind (P_mono h fun f s' h' => ?_)
  cases f <;> first | exact h' | exact P_pure h'
theorem P_execs_nil {Q : Flow → Shared → Prop} (h : Q .next s) : wpP (model prog w) A (execs [] env) Q s := P_any (wpAny_execs_nil h)
/-- a plain statement ahead of the rest -/
theorem P_plain {st rest} {Q : Flow → Shared → Prop} (h : wpAny (model prog w) A (exec st env) (fun f s' => match f with | .next => wpP (model prog w) A (execs rest env) Q s' | f => Q f s') (fun _ _ => False) s) :
    wpP (model prog w) A (execs (st :: rest) env) Q s := P_execs_cons (P_any h)
theorem P_Return {e pos} {Q : Flow → Shared → Prop} (h : wpP (model prog w) A (eval e env) (fun v => Q (.ret v)) s) : wpP (model prog w) A (exec (.Return (some e) pos) env) Q s := by
  rw [exec_Return_some]
  exact P_then (wpAny_standAt (P_bind (P_mono h fun v s' h' => P_pure h')))
theorem P_If {test body orelse pos} {Q : Flow → Shared → Prop}
    (h : wpP (model prog w) A (isTrue test env (eval test env)) (fun b s₂ => if b then wpP (model prog w) A (execs body env) Q s₂ else wpP (model prog w) A (execs orelse env) Q s₂) s) :
    wpP (model prog w) A (exec (.If test body orelse pos) env) Q s := by
  rw [exec_If]
  refine P_then (wpAny_standAt (P_bind (P_mono h fun b s₂ h₂ => ?_)))
  cases b <;> exact h₂
theorem P_Expr {e pos} {Q : Flow → Shared → Prop} (h : wpP (model prog w) A (eval e env) (fun _ => Q .next) s)
    (hi : interactive env = false := by rfl) (hs : swapsWith e none pos.line env = pure false := by rfl) : wpP (model prog w) A (exec (.Expr e pos) env) Q s := by
  rw [exec_Expr env e pos hi hs]
  exact P_then (wpAny_standAt (P_bind (P_mono h fun v s' h' => P_any (wpAny_dropValue h'))))
theorem P_While {test body pos} {Q : Flow → Shared → Prop} (h : codeP (model prog w) A (.whileLoop test body [] env) (fun r s' => match r with | .ok f => Q f s' | .error _ => False) s) :
    wpP (model prog w) A (exec (.While test body [] pos) env) Q s := by
  rw [exec_While]
  refine P_then (wpAny_standAt ?_)
  unfold runOwn
  exact P_onRaise (P_run h)
theorem P_For {target iter body pos} {Q : Flow → Shared → Prop}
    (h : wpAny (model prog w) A (eval iter env) (fun x s₁ => wpAny (model prog w) A (pyIter x) (fun it s₂ =>
      codeP (model prog w) A (.forLoop target it body [] env) (fun r s' => match r with | .ok f => Q f s' | .error _ => False) s₂) (fun _ _ => False) s₁) (fun _ _ => False) s)
    (hs : ∀ x, foldedSetIterable iter env x = pure x := by intro _; rfl) : wpP (model prog w) A (exec (.For target iter body [] pos) env) Q s := by
  rw [exec_For]
  refine P_then (wpAny_standAt (P_then (wpAny_mono h (fun x s₁ h₁ => P_then (wpAny_of_eq (hs x) (P_then (wpAny_standAt (P_then (wpAny_holding
    (wpAny_mono h₁ (fun it s₂ h₂ => ?_) fun _ _ h' => h'))))))) fun _ _ h' => h')))
  unfold runOwn
  exact P_onRaise (P_run h₂)
theorem P_IfExp {test body orelse pos} {Q : Value → Shared → Prop}
    (h : wpAny (model prog w) A (isTrue test env (eval test env)) (fun c s₂ => if c then wpP (model prog w) A (eval body env) Q s₂ else wpP (model prog w) A (eval orelse env) Q s₂) (fun _ _ => False) s) :
    wpP (model prog w) A (eval (.IfExp test body orelse pos) env) Q s := by
  rw [eval_IfExp]
  refine P_then (wpAny_mono h (fun c s₂ h₂ => ?_) fun _ _ x => x)
  cases c <;> exact h₂
theorem P_callWith {P : Heap → Prop} {pos : Pos} {f : Value} {first : List Value} {args : List (Bool × Sem Value)} {Q : Value → Shared → Prop} (hplain : args.any (·.1) = false)
    (hk : ∀ h, P h → ∃ k, (k = Keeper.frame ∨ k = Keeper.machine ∨ k = Keeper.boundFrame) ∧ Looks (model prog w) h (keeperOf f) k)
    (h : wpAny (model prog w) A (evalArgs f true args []) (fun a s₁ => P s₁.heap ∧ wpP (model prog w) A (call f (first ++ a.pos) a.kw) Q s₁) (fun _ _ => False) s) : wpP (model prog w) A (callWith pos f first args []) Q s := by
  unfold callWith
  refine P_then (wpAny_holding (wpAny_mono h (fun a s₁ h₁ => P_then (wpAny_standAt ?_)) fun _ _ x => x))
  obtain ⟨k, hk', L⟩ := hk _ h₁.1
  simp only [hplain, List.any_nil, Bool.or_false]
  refine P_then (L.here ?_)
  have tail : ∀ {t : Sem Value}, wpP (model prog w) A t Q s₁ → wpP (model prog w) A (t >>= fun r => holding [r] point >>= fun _ => pure r) Q s₁ :=
    fun ht => P_bind (P_mono ht fun r s₂ hr => P_then (wpAny_holding (wpAny_point (P_pure hr))))
  rcases hk' with rfl | rfl | rfl <;> dsimp only
  · split
    · exact tail h₁.2
    · exact tail (P_keep h₁.2)
  · exact tail h₁.2
  · split
    · exact tail h₁.2
    · exact tail (P_keep h₁.2)
end
end
section
theorem ba_slot_append : Slot "bytearray" "append" "bytearray.append" :=
  .of (owner := "bytearray") (n := "append") (by rw [typeLookup_type, builtinLookup_eq_fast]; kernel_rfl) (by decide +kernel) (by decide +kernel) (by decide +kernel)
    (by first | exact .inl (by decide +kernel) | exact .inr (by decide +kernel)) (by rw [isSubtype_type]; kernel_rfl)
theorem ba_type_append : typeOf (.builtin "bytearray.append") = pure (.type "method_descriptor") := by show builtinType _ = _; rw [builtinType_eq_fast]; kernel_rfl
theorem ba_entry_append : entryFor table "bytearray.append" = some Builtin.«bytearray.append» := entryFor_of_tree (by kernel_rfl)
theorem ba_args_append (a b : Value) : argsOk "bytearray.append" ⟨[a, b], []⟩ := by unfold argsOk; kernel_rfl
theorem ba_plainAttrs : PlainAttrs "bytearray" where
  ga := ⟨"bytearray.__getattribute__", by rw [typeLookup_type, builtinLookup_eq_fast]; kernel_rfl, by decide +kernel⟩
  noGetattr := by rw [typeLookup_type, builtinLookup_eq_fast]; kernel_rfl
theorem ba_slot_init : Slot "bytearray" "__init__" "bytearray.__init__" :=
  .of (owner := "bytearray") (n := "__init__") (by rw [typeLookup_type, builtinLookup_eq_fast]; kernel_rfl) (by decide +kernel) (by decide +kernel) (by decide +kernel)
    (by first | exact .inl (by decide +kernel) | exact .inr (by decide +kernel)) (by rw [isSubtype_type]; kernel_rfl)
theorem ba_entry_init : entryFor table "bytearray.__init__" = some Builtin.«bytearray.__init__» := entryFor_of_tree (by kernel_rfl)
theorem ba_args_init1 (a : Value) : argsOk "bytearray.__init__" ⟨[a], []⟩ := by unfold argsOk; kernel_rfl
theorem ba_args_init2 (a b : Value) : argsOk "bytearray.__init__" ⟨[a, b], []⟩ := by unfold argsOk; kernel_rfl
theorem ba_mro : mroOf (.type "bytearray") = pure [.type "bytearray", .type "object"] := by rw [mroOf_type]; kernel_rfl
theorem ba_lookup_new : typeLookup (.type "bytearray") "__new__" = pure (some (.builtin "bytearray.__new__")) := by rw [typeLookup_type, builtinLookup_eq_fast]; kernel_rfl
theorem ba_made : Bind.madeBy (.type "bytearray") = pure (some "bytearray.__new__") := madeBy_type ba_mro ba_lookup_new (by decide +kernel)
theorem ba_plain_new : plainId "bytearray.__new__" = true := by decide +kernel
theorem ba_entry_new : entryFor table "bytearray.__new__" = some Builtin.«list.__new__» := entryFor_alias (id' := "list.__new__") (by kernel_rfl) rfl (by decide +kernel) (by kernel_rfl)
theorem ba_typeCall0 : checkTypeCall "bytearray" ⟨[], []⟩ = pure () := by kernel_rfl
theorem ba_typeCall1 (a : Value) : checkTypeCall "bytearray" ⟨[a], []⟩ = pure () := by kernel_rfl
theorem ba_newCall0 : checkBuiltinCall "bytearray.__new__" ⟨[.type "bytearray"], []⟩ = pure () := by kernel_rfl
theorem ba_newCall1 (a : Value) : checkBuiltinCall "bytearray.__new__" ⟨[.type "bytearray", a], []⟩ = pure () := by kernel_rfl
theorem ba_sub : isSubtype (.type "bytearray") (.type "bytearray") = pure true := by rw [isSubtype_type]; kernel_rfl
theorem ba_release : typeLookup (.type "bytearray") "__release_buffer__" = pure (some (.builtin "bytearray.__release_buffer__")) := by rw [typeLookup_type, builtinLookup_eq_fast]; kernel_rfl
theorem ba_buffer : typeLookup (.type "bytearray") "__buffer__" = pure (some (.builtin "bytearray.__buffer__")) := by rw [typeLookup_type, builtinLookup_eq_fast]; kernel_rfl
theorem ba_no_bytes : typeLookup (.type "bytearray") "__bytes__" = pure none := by rw [typeLookup_type, builtinLookup_eq_fast]; kernel_rfl
theorem ba_no_index : typeLookup (.type "bytearray") "__index__" = pure none := by rw [typeLookup_type, builtinLookup_eq_fast]; kernel_rfl
theorem by_no_index : typeLookup (.type "bytes") "__index__" = pure none := by rw [typeLookup_type, builtinLookup_eq_fast]; kernel_rfl
theorem by_bytes : typeLookup (.type "bytes") "__bytes__" = pure (some (.builtin "bytes.__bytes__")) := by rw [typeLookup_type, builtinLookup_eq_fast]; kernel_rfl
theorem ba_bind0 : Builtin.Bytes.bindOptional "bytearray.__init__" "bytearray" ["source", "encoding", "errors"] [] [] = pure [none, none, none] := by kernel_rfl
theorem ba_bind1 (v : Value) : Builtin.Bytes.bindOptional "bytearray.__init__" "bytearray" ["source", "encoding", "errors"] [v] [] = pure [some v, none, none] := by kernel_rfl
theorem ba_owner_new : ("bytearray.__new__".splitOn ".__new__").headD "" = "bytearray" := by rw [split_bytearray]; rfl
abbrev baObj (b : Array UInt8) : Obj := { cls := .type "bytearray", data := .bytearray b }
section
variable {prog : Program} {w : World} {A : Around} {s : Shared}
theorem P_call_entry {T : String} {name : Str} {id : String} {b : Builtin} {self : Value} {rest : List Value} {Q : Value → Shared → Prop} (h : Slot T name id) (hT : s.TypeIs self T)
    (hb : entryFor table id = some b) (hcl : ∀ as, cln (.builtin id as) = true) (ha : argsOk id ⟨self :: rest, []⟩)
    (hc : wpP (model prog w) A.in1 (b ⟨self :: rest, []⟩) (fun fin s' => ∃ v, fin = .done (.ret v) ∧ Q v s') s) : wpP (model prog w) A (call (.builtin id) (self :: rest)) Q s := by
  refine P_call (codeP_of_tree rfl ?_)
  show wpP _ A.in1 (do checkBuiltinCall id ⟨self :: rest, []⟩; again (.builtin id ⟨self :: rest, []⟩)) _ s
  refine P_then (h.check _ _ _ _ _ _ _ _ hT ha (P_pure ⟨plainId_quiet h.plain _, codeP_of_tree (hcl _) ?_⟩))
  show wpP _ _ (match entryFor table id with | some b => b ⟨self :: rest, []⟩ | none => unsupported ((withoutEnding? id "#data").getD id)) _ s
  rw [hb, Around.under_plainId h.plain]
  refine P_mono hc fun fin s' h' => ?_
  obtain ⟨v, rfl, hv⟩ := h'
  exact hv
theorem clean_decoder {id : String} {as : Args} (h : cln (.builtin id as) = true) : Builtin.Bytes.decodersThatHold.contains id = false := by
  unfold cln at h
  simpa using h
theorem dite5 {p1 p2 p3 p4 p5 : Prop} [Decidable p1] [Decidable p2] [Decidable p3] [Decidable p4] [Decidable p5] {A1 : p1 → Bool} {A2 : p2 → Bool} {A3 : p3 → Bool} {A4 : p4 → Bool} {A5 : p5 → Bool} {z : Bool}
    (n1 : ¬p1) (n2 : ¬p2) (n3 : ¬p3) (n4 : ¬p4) (n5 : ¬p5) (hz : z = false) : ¬ (if h : p1 then A1 h else if h : p2 then A2 h else if h : p3 then A3 h else if h : p4 then A4 h else if h : p5 then A5 h else z) = true := by
  rw [dif_neg n1, dif_neg n2, dif_neg n3, dif_neg n4, dif_neg n5, hz]
  exact Bool.false_ne_true
/-- a bytearray is not exported by what stands on a clean stack without guards -/
theorem P_exported {M : Model} {a : Addr} {Q : Bool → Shared → Prop} (hg : A.guards = some []) (h : Q false s) : wpP M A (Builtin.Bytes.exported (.ref a)) Q s := fun Γ p hΓ hC => by
  have hall : ClB ((Γ.code, p) :: Γ.below) := hC.2.cons hC.1
  have hgu : guardsOf ((Γ.code, p) :: Γ.below) = [] := by rw [guardsOf_cons]; exact hΓ.2.2.2.1 _ hg
  unfold Builtin.Bytes.exported
  show Q (List.any ((Γ.code, p) :: Γ.below) _) s
  generalize hst : (Γ.code, p) :: Γ.below = st at hall hgu ⊢
  have key : ∀ x ∈ st, cln x.1 = true ∧ x.1.isGuard = false := fun x hx => ⟨hall x hx, by
    cases q : x.1.isGuard with
    | false => rfl
    | true =>
      have : x.1 ∈ guardsOf st := List.mem_filter.mpr ⟨List.mem_map_of_mem hx, q⟩
      rw [hgu] at this; cases this⟩
  rw [List.any_eq_false.mpr fun x hx => ?_]
  · exact h
  · obtain ⟨hc, hgd⟩ := key x hx
    obtain ⟨c, q⟩ := x
    dsimp only at hc hgd ⊢
    cases c with
    | builtin id as =>
      have hd := clean_decoder hc
      have n1 : id ≠ "bytearray.__contains__" := fun e => by subst e; revert hgd; simp only [Code.isGuard]; decide +kernel
      have n2 : id ≠ "bytearray.__mod__" := fun e => by subst e; revert hgd; simp only [Code.isGuard]; decide +kernel
      have n3 : id ≠ "bytearray.__rmod__" := fun e => by subst e; revert hgd; simp only [Code.isGuard]; decide +kernel
      have n4 : id ≠ "_struct.pack_into.held" := fun e => by subst e; revert hgd; simp only [Code.isGuard]; decide +kernel
      have n5 : id ≠ "bytearray.find.held" := fun e => by subst e; revert hgd; simp only [Code.isGuard]; decide +kernel
      obtain ⟨l, kw⟩ := as
      cases l with
      | nil =>
        delta Builtin.Bytes.exported.match_1
        change ¬ (dite (id = "bytearray.__contains__") _ _) = true
        exact dite5 n1 n2 n3 n4 n5 rfl
      | cons v r =>
        delta Builtin.Bytes.exported.match_1
        change ¬ (dite (id = "bytearray.__contains__") _ _) = true
        exact dite5 n1 n2 n3 n4 n5 ((congrArg _ hd).trans (Bool.and_false _))
    | _ => exact Bool.false_ne_true
end
section
variable {prog : Program} {w : World} {A : Around} {s : Shared}
theorem P_ite_false {α : Type} {M : Model} {c : Bool} {a b : Sem α} {Q : α → Shared → Prop} (hc : c = false) (h : wpP M A b Q s) : wpP M A (if c = true then a else b) Q s := by subst hc; exact h
theorem P_exports {M : Model} {a : Addr} {b : Array UInt8} {Q : Bool → Shared → Prop} (hg : A.guards = some []) (ho : s.heap.get? a = some (baObj b)) (h : Q false s) :
    wpP M A (Builtin.Bytes.exported (.ref a) <||> (do return (← Builtin.Bytes.exportsOf (.ref a)) > 0)) Q s := by
  unfold orM
  refine P_bind (P_exported hg ?_)
  show wpP M A (Builtin.Bytes.exportsOf (.ref a) >>= _) Q s
  refine P_then (m := Builtin.Bytes.exportsOf (.ref a)) ?_
  unfold Builtin.Bytes.exportsOf
  exact wpAny_bind (wpAny_load ho (wpAny_pure (P_pure h)))
theorem P_checkResize {M : Model} {a : Addr} {b : Array UInt8} {Q : Unit → Shared → Prop} (hg : A.guards = some []) (ho : s.heap.get? a = some (baObj b)) (h : Q () s) : wpP M A (Builtin.Bytes.checkResize (.ref a)) Q s := by
  unfold Builtin.Bytes.checkResize
  refine P_bind (P_exports hg ho ?_)
  exact P_ite_false rfl (P_pure h)
theorem ba_write {M : Model} {E : Value → Shared → Prop} {a : Addr} {b : Array UInt8} {f : Array UInt8 → Array UInt8} {Q : Unit → Shared → Prop} (ho : s.heap.get? a = some (baObj b)) (hz : (f b).size ≤ sizeLine)
    (h : ∀ h', h'.get? a = some (baObj (f b)) → Heap.SameBut a s.heap h' → Q () { s with heap := h' }) : wpAny M A (Builtin.Bytes.write (.ref a) f) Q E s := by
  show wpAny _ _ (updateBytearray a f) _ _ _
  unfold updateBytearray
  refine wpAny_bind (wpAny_load ho ?_)
  show wpAny _ _ (update a (Obj.mapBytearray f) >>= fun _ => lookBehind a) _ _ _
  refine wpAny_bind (wpAny_update ho ?_)
  have h₂ : (s.heap.update a (Obj.mapBytearray f)).get? a = some (baObj (f b)) := Heap.get?_update_self (Obj.mapBytearray f) ho rfl
  refine wpAny_lookBehind h₂ ?_ (h _ h₂ (Heap.SameBut.update ..))
  show (if (f b).size > sizeLine then some "bytearray:memory" else none) = none
  rw [if_neg (Nat.not_lt.mpr hz)]
/-- found.append(c), at a clean context -/
theorem P_append {a : Addr} {b : Array UInt8} {c : Int} {t : Tok} {Q : Value → Shared → Prop} (hg : A.guards = some []) (ho : s.heap.get? a = some (baObj b)) (h0 : 0 ≤ c) (h1 : c < 256) (hz : b.size < sizeLine)
    (h : ∀ h', h'.get? a = some (baObj (b.push c.toNat.toUInt8)) → Heap.SameBut a s.heap h' → Q .none { s with heap := h' }) :
    wpP (model prog w) A (call (.builtin "bytearray.append") [.ref a, .int c t]) Q s := by
  refine P_call_entry ba_slot_append ⟨_, ho, rfl⟩ ba_entry_append (fun _ => by show (!Builtin.Bytes.decodersThatHold.contains "bytearray.append") = true; decide +kernel) (ba_args_append _ _) ?_
  unfold Builtin.«bytearray.append»
  refine P_then (wpAny_of_eq (a := (Value.ref a, Value.int c t)) rfl ?_)
  refine P_then (m := Builtin.Bytes.byteValue (.int c t)) ?_
  · unfold Builtin.Bytes.byteValue
    refine wpAny_bind (wpAny_of_eq (rfl : asIndex (.int c t) = pure c) ?_)
    refine bm_if_false (by simp only [Bool.or_eq_false_iff, decide_eq_false_iff_not]; omega) (wpAny_pure ?_)
    refine P_bind (P_checkResize hg ho ?_)
    refine P_then (ba_write ho (by rw [Array.size_push]; exact hz) fun h' e hs => ?_)
    exact P_pure ⟨_, rfl, h h' e hs⟩
end
end
section
section
variable {prog : Program} {w : World} {A : Around} {s : Shared}
theorem codeP_builtin {id : String} {args : Args} {b : Builtin} {R : Result → Shared → Prop} (hb : entryFor table id = some b) (hcl : cln (.builtin id args) = true)
    (h : wpP (model prog w) (A.under (.builtin id args)) (b args) (fun fin s' => match fin with | .done f => R (.ok f) s' | .again c' => c'.quiet = true ∧ codeP (model prog w) A c' R s') s) :
    codeP (model prog w) A (.builtin id args) R s := by
  refine codeP_of_tree hcl ?_
  show wpP _ _ (match entryFor table id with | some b => b args | none => unsupported ((withoutEnding? id "#data").getD id)) _ s
  rw [hb]; exact h
theorem P_callSpecial {M : Model} {self : Value} {T : String} {name : Str} {id : String} {args : List Value} {Q : Option Value → Shared → Prop} (hT : s.TypeIs self T) (h : Slot T name id)
    (hc : wpP M A (call (.builtin id) (self :: args)) (fun v => Q (some v)) s) : wpP M A (callSpecial? self name args) Q s := by
  simp only [callSpecial?]
  refine P_then (wpAny_specialOf hT h.lookup ?_)
  simp only [h.bind]
  exact P_holding (P_then (wpAny_pure (P_bind (P_mono hc fun v s' h' => P_pure h'))))
theorem P_typeCall {T newId initId : String} {args : List Value} {Q : Value → Shared → Prop} (ft : TypeCalled T newId initId) (hct : checkTypeCall T ⟨args, []⟩ = pure ())
    (hnew : wpAny (model prog w) A.in1 (call (.builtin newId) (.type T :: args)) (fun obj s₁ => s₁.TypeIs obj T ∧ wpP (model prog w) A.in1 (call (.builtin initId) (obj :: args)) (fun r s₂ => r = .none ∧ Q obj s₂) s₁) (fun _ _ => False) s) :
    wpP (model prog w) A (call (.type T) args) Q s := by
  refine P_call (codeP_of_tree rfl ?_)
  show wpP _ _ (callAny (.type T) _) _ _
  refine P_pure ⟨Code.quiet_builtin _ (by decide +kernel), codeP_builtin F.entry_type_call (by show (!Builtin.Bytes.decodersThatHold.contains "type.__call__") = true; decide +kernel) ?_⟩
  rw [Around.under_plain (weight_type_call_type T args []) rfl]
  obtain ⟨c, tl, hmro⟩ := ft.mro
  unfold Builtin.«type.__call__»
  refine P_ite_false ft.notType ?_
  refine P_ite_false ft.canCreate ?_
  refine P_then (wpAny_of_eq hct ?_)
  refine P_then (wpAny_of_eq hmro ?_)
  refine P_ite_false rfl ?_
  refine P_then (wpAny_of_eq ft.made ?_)
  refine P_then (wpAny_pure ?_)
  refine P_then (wpAny_holding (wpAny_mono hnew (fun obj s₁ h₁ => ?_) fun _ _ x => x))
  refine P_then (wpAny_isInstance h₁.1 ft.sub ?_)
  refine P_ite_false rfl ?_
  refine P_bind (P_holding (P_callSpecial h₁.1 ft.init (P_mono h₁.2 fun r s₂ h₂ => ?_)))
  obtain ⟨rfl, hq⟩ := h₂
  exact P_pure hq
theorem ba_new {E : Value → Shared → Prop} {args : List Value} {Q : Value → Shared → Prop} (hck : checkBuiltinCall "bytearray.__new__" ⟨.type "bytearray" :: args, []⟩ = pure ())
    (h : Q (.ref s.heap.objs.size) { s with heap := s.heap.push (baObj #[]) }) : wpAny (model prog w) A (call (.builtin "bytearray.__new__") (.type "bytearray" :: args)) Q E s := by
  refine wpAny_call (codeAny_of_tree ?_)
  show wpAny _ A.in1 (do checkBuiltinCall "bytearray.__new__" ⟨.type "bytearray" :: args, []⟩; again (.builtin "bytearray.__new__" ⟨.type "bytearray" :: args, []⟩)) _ _ s
  refine wpAny_bind (wpAny_of_eq hck (wpAny_pure ⟨plainId_quiet ba_plain_new _, codeAny_builtin_stack ba_entry_new rfl fun p st => ?_⟩))
  rw [Around.under_plainId ba_plain_new _]
  have hsub := ba_sub
  have hown := ba_owner_new
  obtain ⟨hp, g, d, tk, os⟩ := s
  simp only [hown]
  wp_walk
  exact h
theorem ba_slotIsOwn {M : Model} {E : Value → Shared → Prop} {a : Addr} {o : Obj} {n : String} {id : String} {Q : Bool → Shared → Prop} (ho : s.heap.get? a = some o) (hc : o.cls = .type "bytearray") (hl : typeLookup (.type "bytearray") (n : Str) = pure (some (.builtin id)))
    (he : id.endsWith ("." ++ n) = true) (hd : id.dropRight (n.length + 1) = "bytearray") (h : Q true s) : wpAny M A (Builtin.Bytes.slotIsOwn (.ref a) n) Q E s := by
  unfold Builtin.Bytes.slotIsOwn
  have hT : s.TypeIs (.ref a) "bytearray" := ⟨o, ho, hc⟩
  refine wpAny_bind (wpAny_specialOf hT hl ?_)
  dsimp only
  rw [he]
  refine bm_if_false rfl ?_
  rw [hd]
  exact wpAny_isInstance hT ba_sub h
theorem ba_ownRelease {M : Model} {E : Value → Shared → Prop} {a : Addr} {o : Obj} {Q : Bool → Shared → Prop} (ho : s.heap.get? a = some o) (hc : o.cls = .type "bytearray") (h : Q false s) : wpAny M A (Builtin.Bytes.ownRelease (.ref a)) Q E s := by
  unfold Builtin.Bytes.ownRelease
  exact wpAny_bind (ba_slotIsOwn ho hc ba_release (by decide +kernel) (by decide +kernel) (wpAny_pure h))
theorem by_buffer_full {id : String} {b : Array UInt8} {t : Tok} : Builtin.Bytes.buffer? id (.bytes b t) true = pure (some b) := by
  unfold Builtin.Bytes.buffer?
  rw [KBy.special_eq KBy.look_buffer, KBy.own_buffer, KBy.own_release]
  kernel_rfl
theorem P_ba_init0 {a : Addr} {Q : Value → Shared → Prop} (hg : A.guards = some []) (ho : s.heap.get? a = some (baObj #[]))
    (h : ∀ h', h'.get? a = some (baObj #[]) → Heap.SameBut a s.heap h' → Q .none { s with heap := h' }) : wpP (model prog w) A (call (.builtin "bytearray.__init__") [.ref a]) Q s := by
  refine P_call_entry ba_slot_init ⟨_, ho, rfl⟩ ba_entry_init (fun _ => by show (!Builtin.Bytes.decodersThatHold.contains "bytearray.__init__") = true; decide +kernel) (ba_args_init1 _) ?_
  unfold Builtin.«bytearray.__init__»
  refine P_then (ba_ownRelease ho rfl ?_)
  refine P_ite_false rfl ?_
  refine P_then (wpAny_of_eq ba_bind0 ?_)
  refine P_then (wpAny_of_eq (a := ()) rfl ?_)
  refine P_then (wpAny_of_eq (a := ()) rfl ?_)
  refine P_bind (P_exports hg ho ?_)
  refine P_ite_false rfl ?_
  refine P_then (ba_write ho (Nat.zero_le _) fun h' e hs => ?_)
  exact P_then (wpAny_pure (P_pure ⟨_, rfl, h h' e hs⟩))
theorem P_ba_init1 {a : Addr} {b : Array UInt8} {t : Tok} {Q : Value → Shared → Prop} (hg : A.guards = some []) (ho : s.heap.get? a = some (baObj #[])) (hz : b.size ≤ sizeLine)
    (h : ∀ h', h'.get? a = some (baObj b) → Heap.SameBut a s.heap h' → Q .none { s with heap := h' }) : wpP (model prog w) A (call (.builtin "bytearray.__init__") [.ref a, .bytes b t]) Q s := by
  refine P_call_entry ba_slot_init ⟨_, ho, rfl⟩ ba_entry_init (fun _ => by show (!Builtin.Bytes.decodersThatHold.contains "bytearray.__init__") = true; decide +kernel) (ba_args_init2 _ _) ?_
  unfold Builtin.«bytearray.__init__»
  refine P_then (ba_ownRelease ho rfl ?_)
  refine P_ite_false rfl ?_
  refine P_then (wpAny_of_eq (ba_bind1 _) ?_)
  refine P_then (wpAny_of_eq (a := ()) rfl ?_)
  refine P_then (wpAny_of_eq (a := ()) rfl ?_)
  refine P_bind (P_exports hg ho ?_)
  refine P_ite_false rfl ?_
  refine P_then (ba_write ho (Nat.zero_le _) fun h' e hs => ?_)
  refine P_then (wpAny_of_eq (a := none) rfl ?_)
  refine P_ite_false rfl ?_
  refine P_then (wpAny_pure ?_)
  refine P_then (wpAny_specialOf (T := "bytes") (typeIs_bytes _ _ _) by_no_index ?_)
  refine P_ite_false rfl ?_
  refine P_then (wpAny_of_eq by_buffer_full ?_)
  refine P_then (wpAny_rule ?_)
  refine P_then (ba_write (f := fun _ => b) e hz fun h'' e' hs' => ?_)
  exact P_pure ⟨_, rfl, h h'' e' (hs.trans hs')⟩
end
end
section
theorem ba_called : TypeCalled "bytearray" "bytearray.__new__" "bytearray.__init__" :=
  ⟨by decide +kernel, by decide +kernel, ⟨_, _, ba_mro⟩, ba_made, by decide +kernel, ba_sub, ba_slot_init⟩
theorem bc_args (a b : Value) : argsOk "bytes.__contains__" ⟨[a, b], []⟩ := by unfold argsOk; kernel_rfl
theorem bc_slot : Slot "bytes" "__contains__" "bytes.__contains__" :=
  .of (owner := "bytes") (n := "__contains__") (by rw [typeLookup_type, builtinLookup_eq_fast]; kernel_rfl) (by decide +kernel) (by decide +kernel) (by decide +kernel)
    (by first | exact .inl (by decide +kernel) | exact .inr (by decide +kernel)) (by rw [isSubtype_type]; kernel_rfl)
theorem bc_entry : entryFor table "bytes.__contains__" = some Builtin.«bytes.__contains__» := entryFor_of_tree (by kernel_rfl)
section
variable {prog : Program} {w : World} {A : Around} {E : Value → Shared → Prop} {s : Shared} {h₀ : Heap} {L : Addr} {m : Str → Option Value} {news : Led}
/-- bytearray() -/
theorem P_bytearray0 {Q : Value → Shared → Prop} (hg : A.guards = some []) (F : Fr h₀ L s.heap m) (N : News h₀ L s.heap news)
    (h : ∀ x h', Fr h₀ L h' m → News h₀ L h' ((x, baObj #[]) :: news) → (∀ p ∈ news, p.1 < x) → Q (.ref x) { s with heap := h' }) : wpP (model prog w) A (call (.type "bytearray") []) Q s := by
  refine P_typeCall ba_called ba_typeCall0 (ba_new ba_newCall0 ?_)
  have hx : (s.heap.push (baObj #[])).get? s.heap.objs.size = some (baObj #[]) := Heap.get?_push_size _ rfl
  refine ⟨⟨_, hx, rfl⟩, P_ba_init0 hg hx fun h' e hs => ⟨rfl, ?_⟩⟩
  have F1 := F.push (baObj #[])
  have N1 := N.push F (baObj #[])
  have lt : ∀ p ∈ news, p.1 < s.heap.objs.size := fun p hp => Heap.lt_size (N p hp).1
  have k : ∀ b o, b ≠ s.heap.objs.size → (s.heap.push (baObj #[])).get? b = some o → h'.get? b = some o := fun b o hb q => hs.extBut b o hb q
  have hL : L ≠ s.heap.objs.size := Nat.ne_of_lt F.ns.lt
  have hn : h₀.get? s.heap.objs.size = none := next_is_new F
  refine h _ h' ⟨F1.ns.at' fun o q => k L o hL q, fun b o q => k b o (fun z => by rw [z, hn] at q; cases q) (F1.keep b o q), F.above⟩ (fun p hp => ?_) lt
  rcases List.mem_cons.mp hp with rfl | hp
  · exact ⟨e, Ne.symm hL, hn⟩
  · have := N1 p (List.mem_cons_of_mem _ hp)
    exact ⟨k _ _ (Nat.ne_of_lt (lt p hp)) this.1, this.2⟩
/-- bytearray(b) of bytes -/
theorem P_bytearray1 {b : Array UInt8} {t : Tok} {Q : Value → Shared → Prop} (hg : A.guards = some []) (F : Fr h₀ L s.heap m) (N : News h₀ L s.heap news) (hz : b.size ≤ sizeLine)
    (h : ∀ x h', Fr h₀ L h' m → News h₀ L h' ((x, baObj b) :: news) → (∀ p ∈ news, p.1 < x) → Q (.ref x) { s with heap := h' }) : wpP (model prog w) A (call (.type "bytearray") [.bytes b t]) Q s := by
  refine P_typeCall ba_called (ba_typeCall1 _) (ba_new (ba_newCall1 _) ?_)
  have hx : (s.heap.push (baObj #[])).get? s.heap.objs.size = some (baObj #[]) := Heap.get?_push_size _ rfl
  refine ⟨⟨_, hx, rfl⟩, P_ba_init1 hg hx hz fun h' e hs => ⟨rfl, ?_⟩⟩
  have F1 := F.push (baObj #[])
  have N1 := N.push F (baObj #[])
  have lt : ∀ p ∈ news, p.1 < s.heap.objs.size := fun p hp => Heap.lt_size (N p hp).1
  have k : ∀ b o, b ≠ s.heap.objs.size → (s.heap.push (baObj #[])).get? b = some o → h'.get? b = some o := fun b o hb q => hs.extBut b o hb q
  have hL : L ≠ s.heap.objs.size := Nat.ne_of_lt F.ns.lt
  have hn : h₀.get? s.heap.objs.size = none := next_is_new F
  refine h _ h' ⟨F1.ns.at' fun o q => k L o hL q, fun b o q => k b o (fun z => by rw [z, hn] at q; cases q) (F1.keep b o q), F.above⟩ (fun p hp => ?_) lt
  rcases List.mem_cons.mp hp with rfl | hp
  · exact ⟨e, Ne.symm hL, hn⟩
  · have := N1 p (List.mem_cons_of_mem _ hp)
    exact ⟨k _ _ (Nat.ne_of_lt (lt p hp)) this.1, this.2⟩
/-- found.append(c), by the ledger -/
theorem P_append_led {x : Addr} {b : Array UInt8} {c : Int} {t : Tok} {pre post : Led} {Q : Value → Shared → Prop} (hg : A.guards = some []) (F : Fr h₀ L s.heap m) (N : News h₀ L s.heap (pre ++ (x, baObj b) :: post))
    (h1 : ∀ p ∈ pre, p.1 ≠ x) (h2 : ∀ p ∈ post, p.1 ≠ x) (c0 : 0 ≤ c) (c1 : c < 256) (hz : b.size < sizeLine)
    (h : ∀ h', Fr h₀ L h' m → News h₀ L h' (pre ++ (x, baObj (b.push c.toNat.toUInt8)) :: post) → Q .none { s with heap := h' }) : wpP (model prog w) A (call (.builtin "bytearray.append") [.ref x, .int c t]) Q s := by
  have D := N (x, baObj b) (by simp)
  refine P_append hg D.1 c0 c1 hz fun h' e hs => ?_
  have k : ∀ b o, b ≠ x → s.heap.get? b = some o → h'.get? b = some o := fun b o hb q => hs.extBut b o hb q
  refine h h' ⟨F.ns.at' fun o q => k L o (Ne.symm D.2.1) q, fun b o q => k b o (fun z => by rw [z, D.2.2] at q; cases q) (F.keep b o q), F.above⟩ fun p hp => ?_
  rcases List.mem_append.mp hp with q | q
  · have P := N p (List.mem_append_left _ q); exact ⟨k _ _ (h1 p q) P.1, P.2⟩
  · rcases List.mem_cons.mp q with rfl | q
    · exact ⟨e, D.2⟩
    · have P := N p (List.mem_append_right _ (.tail _ q)); exact ⟨k _ _ (h2 p q) P.1, P.2⟩
/-- bytes(found) of a bytearray -/
theorem bytes_of_ba {x : Addr} {b : Array UInt8} {Q : Value → Shared → Prop} (ho : s.heap.get? x = some (baObj b)) (hz : b.size ≤ sizeLine) (h : ∀ t k, Q (.bytes b t) { s with toks := k }) :
    wpAny (model prog w) A (call (.type "bytes") [.ref x]) Q E s := by
  have hT : s.TypeIs (.ref x) "bytearray" := ⟨_, ho, rfl⟩
  refine callType_codes (Q₁ := fun obj s₁ => s₁.TypeIs obj "bytes" ∧ Q obj s₁) F.bm_called (F.bm_typeCall _) F.entry_object_init ?_ fun obj s₁ h₁ => ?_
  · refine codeAny_of_tree ?_
    show wpAny _ A.in1.in1 (do checkBuiltinCall "bytes.__new__" ⟨[.type "bytes", .ref x], []⟩; again (.builtin "bytes.__new__" ⟨[.type "bytes", .ref x], []⟩)) _ _ s
    refine wpAny_bind (wpAny_of_eq (F.bm_newCall _) (wpAny_pure ⟨plainId_quiet F.bm_plain _, codeAny_builtin F.bm_entry ?_⟩))
    rw [Around.under_plainId F.bm_plain _]
    unfold Builtin.«bytes.__new__»
    refine wpAny_bind (wpAny_of_eq (a := true) rfl ?_)
    refine bm_if_false rfl ?_
    refine wpAny_bind (wpAny_of_eq F.bm_sub ?_)
    refine bm_if_false rfl ?_
    refine wpAny_bind (wpAny_of_eq (F.bm_bind _) ?_)
    refine wpAny_bind (wpAny_of_eq (a := ()) rfl ?_)
    refine wpAny_bind (wpAny_of_eq (a := ()) rfl ?_)
    refine bm_if_false rfl ?_
    refine wpAny_bind (wpAny_specialOf hT ba_no_bytes ?_)
    refine wpAny_bind (wpAny_bind ?_)
    show wpAny _ _ (load x >>= _) _ _ _
    refine wpAny_bind (wpAny_load ho ?_)
    refine wpAny_pure (wpAny_pure ?_)
    refine bm_if_false rfl ?_
    refine wpAny_bind (wpAny_specialOf hT ba_no_index ?_)
    refine bm_if_true rfl ?_
    first
      | show wpAny _ _ (Builtin.Bytes.buffer? "bytes.__new__" (.ref x) true >>= _) _ _ _
      | (refine wpAny_bind ?_; show wpAny _ _ (Builtin.Bytes.buffer? "bytes.__new__" (.ref x) true >>= _) _ _ _)
    refine wpAny_bind ?_
    unfold Builtin.Bytes.buffer?
    refine wpAny_bind (wpAny_specialOf hT ba_buffer ?_)
    refine wpAny_bind (ba_slotIsOwn ho rfl ba_buffer (by decide +kernel) (by decide +kernel) ?_)
    refine bm_if_false rfl ?_
    refine wpAny_bind (wpAny_specialOf hT ba_buffer ?_)
    refine wpAny_bind (ba_ownRelease ho rfl ?_)
    refine bm_if_false rfl ?_
    refine wpAny_bind ?_
    unfold Builtin.Bytes.payload Builtin.Bytes.payload?
    refine wpAny_bind (wpAny_bind (wpAny_load ho ?_))
    refine wpAny_pure (wpAny_pure (wpAny_pure ?_))
    refine wpAny_bind (wpAny_rule ?_)
    refine wpAny_bind (wpAny_mkBytes ?_ hz)
    show wpAny _ _ (if (Value.type "bytes" == Value.type "bytes") = true then _ else _) _ _ _
    refine bm_if_true (by decide) ?_
    first
      | exact wpAny_pure ⟨typeIs_bytes _ _ _, h _ _⟩
      | exact wpAny_bind (wpAny_pure (wpAny_pure ⟨typeIs_bytes _ _ _, h _ _⟩))
      | exact wpAny_pure (wpAny_pure ⟨typeIs_bytes _ _ _, h _ _⟩)
  · exact ⟨h₁.1, F.args_object_init_2 obj _, object_init_meets F.bm_called.init.lookup F.bm_called.made (by decide) prog w A.in1 _ s₁ ⟨h₁.1, rfl, h₁.2⟩⟩
end
end
section
open PySem.W.KBw (bInts)
theorem toUInt8_toNat {c : Int} (h0 : 0 ≤ c) (h1 : c < 256) : ((c.toNat.toUInt8.toNat : Nat) : Int) = c := byte_back h0 h1
theorem mem_bInts {b : Array UInt8} {c : Int} (h0 : 0 ≤ c) (h1 : c < 256) : b.contains c.toNat.toUInt8 = decide (c ∈ bInts b) := by
  rw [Bool.eq_iff_iff, decide_eq_true_eq, Array.contains_iff_mem]
  constructor
  · intro h
    exact List.mem_map.mpr ⟨_, Array.mem_toList_iff.mpr h, toUInt8_toNat h0 h1⟩
  · intro h
    obtain ⟨x, hx, e⟩ := List.mem_map.mp h
    have : c.toNat.toUInt8 = x := by
      apply UInt8.toNat_inj.mp
      have := toUInt8_toNat h0 h1
      omega
    rw [this]; exact Array.mem_toList_iff.mp hx
theorem gives_contains {b : Array UInt8} {c : Int} {t u : Tok} (h0 : 0 ≤ c) (h1 : c < 256) : Gives (Builtin.«bytes.__contains__» ⟨[.bytes b t, .int c u], []⟩) (.val (.bool (decide (c ∈ bInts b)))) := by
  refine .of_wp fun M A E s Q hq => ?_
  show wpAny M A (Builtin.Bytes.containsIn "bytes.__contains__" (.bytes b t) (.int c u) >>= fun r => ret (.bool r)) _ E s
  refine wpAny_bind ?_
  unfold Builtin.Bytes.containsIn
  refine wpAny_bind (wpAny_attempt (wpAny_of_eq (rfl : asIndex (.int c u) = pure c) ?_))
  refine wpAny_bind (wpAny_of_eq KBy.buffer_eq ?_)
  refine bm_if_false (by simp only [Bool.or_eq_false_iff, decide_eq_false_iff_not]; omega) ?_
  refine wpAny_pure (wpAny_pure ⟨_, rfl, ?_⟩)
  rw [mem_bInts h0 h1]; exact hq
section
variable {prog : Program} {w : World} {A : Around} {E : Value → Shared → Prop} {s : Shared}
theorem in_bytes {b : Array UInt8} {c : Int} {t u : Tok} {Q : Value → Shared → Prop} (h0 : 0 ≤ c) (h1 : c < 256) (h : Q (.bool (decide (c ∈ bInts b))) s) : wpAny (model prog w) A (compareOp .In (.int c u) (.bytes b t)) Q E s :=
  in_gives (typeIs_bytes s b t) bc_slot bc_entry (bc_args _ _) (gives_contains h0 h1) h
theorem notin_bytes {b : Array UInt8} {c : Int} {t u : Tok} {Q : Value → Shared → Prop} (h0 : 0 ≤ c) (h1 : c < 256) (h : Q (.bool (!decide (c ∈ bInts b))) s) : wpAny (model prog w) A (compareOp .NotIn (.int c u) (.bytes b t)) Q E s :=
  notIn_gives (typeIs_bytes s b t) bc_slot bc_entry (bc_args _ _) (gives_contains h0 h1) h
/-- bytes(b) of bytes: the same -/
theorem bytes_of_bytes {b : Array UInt8} {t : Tok} {Q : Value → Shared → Prop} (h : Q (.bytes b t) s) : wpAny (model prog w) A (call (.type "bytes") [.bytes b t]) Q E s := by
  refine callType_codes (Q₁ := fun obj s₁ => s₁.TypeIs obj "bytes" ∧ Q obj s₁) F.bm_called (F.bm_typeCall _) F.entry_object_init ?_ fun obj s₁ h₁ => ?_
  · refine codeAny_of_tree ?_
    show wpAny _ A.in1.in1 (do checkBuiltinCall "bytes.__new__" ⟨[.type "bytes", .bytes b t], []⟩; again (.builtin "bytes.__new__" ⟨[.type "bytes", .bytes b t], []⟩)) _ _ s
    refine wpAny_bind (wpAny_of_eq (F.bm_newCall _) (wpAny_pure ⟨plainId_quiet F.bm_plain _, codeAny_builtin F.bm_entry ?_⟩))
    rw [Around.under_plainId F.bm_plain _]
    unfold Builtin.«bytes.__new__»
    refine wpAny_bind (wpAny_of_eq (a := true) rfl ?_)
    refine bm_if_false rfl ?_
    refine wpAny_bind (wpAny_of_eq F.bm_sub ?_)
    refine bm_if_false rfl ?_
    refine wpAny_bind (wpAny_of_eq (F.bm_bind _) ?_)
    refine wpAny_bind (wpAny_of_eq (a := ()) rfl ?_)
    refine wpAny_bind (wpAny_of_eq (a := ()) rfl ?_)
    refine bm_if_false rfl ?_
    refine wpAny_bind (wpAny_specialOf (T := "bytes") (typeIs_bytes _ _ _) by_bytes ?_)
    refine wpAny_bind (wpAny_rule ?_)
    refine wpAny_bind (wpAny_typeOf (T := "bytes") (typeIs_bytes _ _ _) ?_)
    refine bm_if_true (by decide) ?_
    show wpAny _ _ (if (Value.type "bytes" == Value.type "bytes") = true then _ else _) _ _ _
    refine bm_if_true (by decide) ?_
    first
      | exact wpAny_pure ⟨typeIs_bytes _ _ _, h⟩
      | exact wpAny_bind (wpAny_pure (wpAny_pure ⟨typeIs_bytes _ _ _, h⟩))
      | exact wpAny_pure (wpAny_pure ⟨typeIs_bytes _ _ _, h⟩)
  · exact ⟨h₁.1, F.args_object_init_2 obj _, object_init_meets F.bm_called.init.lookup F.bm_called.made (by decide) prog w A.in1 _ s₁ ⟨h₁.1, rfl, h₁.2⟩⟩
end
/-! A list comprehension over bytes whose element is walked once, whatever it calls. -/
/-- the values that the turns hand back, item by item -/
def Rel2 (Y : Int → Value → Prop) : List Int → List Value → Prop
  | [], [] => True
  | k :: ks, v :: vs => Y k v ∧ Rel2 Y ks vs
  | _, _ => False
theorem Rel2.snoc {Y : Int → Value → Prop} {k : Int} {v : Value} : ∀ {ks : List Int} {vs : List Value}, Rel2 Y ks vs → Y k v → Rel2 Y (ks ++ [k]) (vs ++ [v])
  | [], [], _, h => ⟨h, trivial⟩
  | _ :: _, _ :: _, h, h' => ⟨h.1, Rel2.snoc h.2 h'⟩
theorem Rel2.ints {f : Int → Int} : ∀ {ks : List Int} {vs : List Value}, Rel2 (fun k v => ∃ t, v = .int (f k) t) ks vs → IntsAre vs (ks.map f)
  | [], [], _ => .nil
  | _ :: _, _ :: _, h => by obtain ⟨⟨t, rfl⟩, h2⟩ := h; exact .cons _ _ (Rel2.ints h2)
section
variable {prog : Program} {w : World} {A : Around} {E : Value → Shared → Prop} {s : Shared} {h₀ : Heap} {L : Addr} {m : Str → Option Value} {env : Env} {news : Led}
theorem rest_of {elt : Expr} {x : Str} {scope : Scope} {cl : List (Str × Addr)} {s₂ : Shared} {ks : List Int} {Y : Int → Value → Prop} {Fin : List Value → Led → Prop}
    (turn : ∀ k t I oI C oC D m₂ h tk ys (E' : Value → Shared → Prop), k ∈ ks → LCg.NsObj oC m₂ → m₂ x = some (.int k t) → Fr h₀ L h m → News h₀ L h ((I, oI) :: (C, oC) :: (D, LCg.lst ys) :: news) →
      wpAny (model prog w) A (eval elt (compEnvC scope cl C env)) (fun y s' => ∃ h' tk', s' = { s₂ with heap := h', toks := tk' } ∧ Y k y ∧ Fr h₀ L h' m ∧ News h₀ L h' ((I, oI) :: (C, oC) :: (D, LCg.lst ys) :: news)) E' { s₂ with heap := h, toks := tk })
    (fin : ∀ ys, Rel2 Y ks ys → Fin ys news) :
    ∀ (n i : Nat) (ys : List Value), i + n = ks.length → Rel2 Y (ks.take i) ys → LCg.CompRest prog w A h₀ L m env elt x scope cl s₂ (fun _ => True) (fun i v => ∃ k t, ks[i]? = some k ∧ v = .int k t) Fin n i ys news
  | 0, i, ys, hi, hr => by
    refine LCg.CompRest.zero (fin ys ?_)
    have : i = ks.length := by omega
    rw [this, List.take_length] at hr; exact hr
  | n + 1, i, ys, hi, hr => by
    refine LCg.CompRest.succ fun v I oI C oC D m₂ h tk E' hv hC hx F N off ne => ?_
    obtain ⟨k, t, hk, rfl⟩ := hv
    refine wpAny_mono (turn k t I oI C oC D m₂ h tk ys E' (List.mem_of_getElem? hk) hC hx F N) (fun y s' hy => ?_) fun _ _ e => e
    obtain ⟨h', tk', rfl, hY, F', N'⟩ := hy
    refine ⟨h', tk', news, rfl, F', N', off, trivial, rest_of turn fin n (i + 1) (ys ++ [y]) (by omega) ?_⟩
    rw [List.take_add_one, hk]
    exact Rel2.snoc hr hY
/-- the end of a turn: a value as told, the frame and the ledger kept -/
def TurnEnd (h₀ : Heap) (L : Addr) (m : Str → Option Value) (s : Shared) (Y : Value → Prop) (led : Led) (y : Value) (s' : Shared) : Prop :=
  ∃ h' tk', s' = { s with heap := h', toks := tk' } ∧ Y y ∧ Fr h₀ L h' m ∧ News h₀ L h' led
theorem ListComp_bytes {elt iter : Expr} {x : Str} {px : Pos} {scope : Scope} {cl : List (Str × Addr)} {pos : Pos} {Q : Value → Shared → Prop} {b : Array UInt8} {t : Tok} {ks : List Int} (Y : Int → Value → Prop)
    (hh : A.handled = none) (hb : bInts b = ks) (hz : ks.length ≤ sizeLine) (F₀ : Fr h₀ L s.heap m) (N₀ : News h₀ L s.heap news)
    (hclos : closureFor scope env = pure cl) (hcell : ∀ y ∈ scope.names, y.2 ≠ .cell) (hkind : scope.kind = .function)
    (hnames : ∀ y ∈ scope.names, y.2 = .local → scope.names.lookup y.1 = some .local) (hx : scope.names.lookup x = some .local)
    (hi : ∀ (R : Value → Shared → Prop), R (.bytes b t) s → wpAny (model prog w) A (eval iter env) R E s)
    (turn : ∀ k t I oI C oC D m₂ h tk ys (E' : Value → Shared → Prop), k ∈ ks → LCg.NsObj oC m₂ → m₂ x = some (.int k t) → Fr h₀ L h m → News h₀ L h ((I, oI) :: (C, oC) :: (D, LCg.lst ys) :: news) →
      wpAny (model prog w) A (eval elt (compEnvC scope cl C env)) (TurnEnd h₀ L m s (Y k) ((I, oI) :: (C, oC) :: (D, LCg.lst ys) :: news)) E' { s with heap := h, toks := tk })
    (h : ∀ D ys h' tk, Rel2 Y ks ys → Fr h₀ L h' m → News h₀ L h' ((D, LCg.lst ys) :: news) → LCg.Off1 D news → Q (.ref D) { s with heap := h', toks := tk })
    (hs : ∀ x, foldedSetIterable iter env x = pure x := by intro _; rfl) :
    wpAny (model prog w) A (eval (.ListComp elt [⟨.Name x px, iter, [], 0⟩] scope pos) env) Q E s := by
  rw [eval_ListComp]
  refine wpAny_comprehension_free (use := none) rfl hs hclos hkind hnames (hi _ ?_)
  refine KBw.pyIter_bytes ?_
  have hlen : b.size = ks.length := by rw [← hb, KBw.ints_length]
  let W := KBw.walks (prog := prog) (w := w) (A := A) hh s.heap.objs.size b t
  have W' : Walks prog w A s.heap.objs.size [s.heap.objs.size] [s.heap.objs.size] ks.length (fun i v => ∃ k t, ks[i]? = some k ∧ v = .int k t) (fun i h => KBw.IsBytesIter h s.heap.objs.size b t i) :=
    { sub := W.sub, frame := W.frame, self := W.self,
      done := fun s Q E st hQ => W.done s Q E (hlen ▸ st) hQ,
      item := fun i s Q E hi st hQ => W.item i s Q E (hlen ▸ hi) st fun v h' tk hP => hQ v h' tk (by
        obtain ⟨c, u, hc, rfl⟩ := hP
        exact ⟨_, u, hb ▸ KBw.ints_get hc, rfl⟩) }
  have up : ∀ b' o, s.heap.get? b' = some o → (s.heap.push { cls := .type "bytes_iterator", data := .fields #[.bytes b t, .int 0 0] }).get? b' = some o := fun b' o e => Heap.get?_push_of_some _ e
  refine LCg.block_U (S := fun _ => True) (news := news) (Fin := fun ys nw => nw = news ∧ Rel2 Y ks ys) W' hz (fun i h st => by obtain ⟨o, e, _⟩ := st; exact ⟨o, e⟩)
    (fun i h h' o nw st e e' _ _ _ => by obtain ⟨o', q, r⟩ := st; rw [e] at q; cases q; exact ⟨o, e', r⟩) hcell hkind hx ⟨_, Heap.get?_push_size _ rfl, rfl, rfl⟩ (fun b' hb' => ?_)
    (F₀.keeps up) (N₀.grown up) (Nat.ne_of_lt F₀.ns.lt) (next_is_new F₀) (fun p hp => Nat.ne_of_lt (Heap.lt_size (N₀ p hp).1)) trivial
    (rest_of (s₂ := { s with heap := s.heap.push { cls := .type "bytes_iterator", data := .fields #[.bytes b t, .int 0 0] } }) (Fin := fun ys nw => nw = news ∧ Rel2 Y ks ys)
      (fun k t' I oI C oC D m₂ h tk ys E' => turn k t' I oI C oC D m₂ h tk ys E') (fun ys hr => ⟨rfl, hr⟩) ks.length 0 [] (by omega) (by simp [Rel2])) ?_
  · rw [List.mem_singleton.mp hb']
    show s.heap.objs.size < (s.heap.push _).objs.size
    rw [Heap.size_push]; exact Nat.lt_succ_self _
  · intro D C h' tk m' ys news' F' N' o1 hn hC₀ hD₀ hCL hDL hCD offC fin
    obtain ⟨rfl, hr⟩ := fin
    refine ⟨m', hn, fun h'' hs'' => h D ys h'' tk hr (F'.change hs'' hCL hC₀) (fun p hp => ?_) o1⟩
    refine ⟨hs''.extBut _ _ ?_ (N' p hp).1, (N' p hp).2⟩
    rcases List.mem_cons.mp hp with rfl | hp
    · exact Ne.symm hCD
    · exact offC p hp
end
end
theorem ct_auto {w : World} {f : Addr} {D : Nat} {news : Led} {vs : List Value} {post : Value → Led → Prop} {mean : ExcName → Option Value} {mg mb : Str → Option Value} {dp un : Nat} {gd : Option (List Code)} {cn : Str} {cs : Scope} {a : Addr} {ccd : Value} {cl : List (Str × Addr)} {outer : List Env} {A₀ : Around} {base h₀ : Heap} {L : Addr} {m : Str → Option Value} {s : Shared} {Q E : Value → Shared → Prop}
    (B : Below A₀ base outer h₀ := by k_asm) (F : Fr h₀ L s.heap m := by k_asm) (X : (K w.params).In h₀ := by k_asm) (N : News h₀ L s.heap news := by k_asm) (T : TopM mean mg mb h₀ := by k_asm) (hk : cs.kind = .function := by first | exact rfl | assumption) (C : Ct w f D news vs post) (hd : dp + D < recursionLimit := by ktr_room) (hu : un + 8 * D < cLine := by ktr_units)
    (ret : ∀ v news' h' tk', post v news' → Fr h₀ L h' m → News h₀ L h' news' → Q v { s with heap := h', toks := tk' }) :
    wpAny (model pw_nz0308_01 w) (ktrTop dp un gd cn cs L a ccd cl outer) (call (.ref f) vs) Q E s := ct_use C B F X N T hk hd hu ret
local macro_rules | `(tactic| walk_at "mine:fn") => `(tactic| ((with_reducible rename Fr _ _ _ _ => cF'); (with_reducible rename News _ _ _ _ => cN')))
local macro_rules | `(tactic| walk_at "mine:kA") => `(tactic| ((case kA => exact rfl); (case kF => exact rfl); (case kK => assumption); (case k1 => k_asm); (case k2 => k_asm); (case k3 => k_asm); (case k4 => k_asm); (case k5 => k_asm); (case k6 => k_is); (case k7 => k_is); (case k8 => ktr_room)))
local macro_rules | `(tactic| walk_at "mine:kC") => `(tactic| ((case c2 => exact rfl); (case c3 => exact rfl); (case c4 => exact rfl)))
local macro_rules | `(tactic| walk_at "mine:kB") => `(tactic| ((case kh => rfl); (case kb => kba_ints); (case kz => (rw [sizeLine_eq]; kba_size))))
local macro_rules | `(tactic| walk_at "mine:tn") => `(tactic| (intro k t I oI C oC D m₂ h tk ys E' hmem hC hx F N; clear cF' cN'))
local macro_rules | `(tactic| walk_at "mine:hl") => `(tactic| (clear cF' cN'; intro D ys h tk hr F N' hoff))
local macro_rules | `(tactic| walk_at "mine:u1") => `(tactic| ((case k1 => k_asm); (case k2 => k_asm); (case k3 => k_asm); (case k4 => k_asm); (case k5 => k_asm); (case kK => first | exact rfl | assumption)))
local macro_rules | `(tactic| walk_at "mine:u2") => `(tactic| ((case kd => ktr_room); (case ku => ktr_units)))
local macro_rules | `(tactic| walk_at "mine:c1") => `(tactic| ((case kc => with_unfolding_all rfl); (case kl => decide); (case kk => with_unfolding_all rfl); (case kn => decide); (case kx => with_unfolding_all rfl)))
local macro_rules | `(tactic| walk_at "mine:c2") => `(tactic| ((case ks => (intro _; with_unfolding_all rfl))))
local macro_rules | `(tactic| walk_at "mine:c3") => `(tactic| ((case hi => (intro R hR; walk1; exact hR))))
local macro_rules | `(tactic| walk_at "mine:oA") => `(tactic| (intro v9 n9 h9 tk9 hp9 F9 N9; obtain ⟨e9, e9'⟩ := hp9; subst e9; subst e9'; (try dsimp only); (try k_fold)))
local macro_rules | `(tactic| walk_at "mine:oB") => `(tactic| (intro v9 n9 h9 tk9 hp9 F9 N9; obtain ⟨⟨b9, t9, e9, hb9⟩, e9'⟩ := hp9; subst e9; subst e9'; (try dsimp only); (try k_fold)))
local macro_rules | `(tactic| walk_at "mine:oC") => `(tactic| (intro v9 n9 h9 tk9 hp9 F9 N9; obtain ⟨⟨b9, t9, e9, hb9⟩, tn9, k19, k29, e9'⟩ := hp9; subst e9; subst e9'; (try dsimp only); (try k_fold)))
local macro_rules | `(tactic| walk_at "mine:oD") => `(tactic| (intro v9 n9 h9 tk9 hp9 F9 N9; obtain ⟨⟨t9, e9⟩, e9'⟩ := hp9; subst e9; subst e9'; (try dsimp only); (try k_fold)))
local macro_rules | `(tactic| walk_at "mine:oE") => `(tactic| (intro v9 n9 h9 tk9 hp9 F9 N9; obtain ⟨e9, tn9, k19, k29, e9'⟩ := hp9; subst e9; subst e9'; (try dsimp only); (try k_fold)))
local macro_rules | `(tactic| walk_at "mine:enterD") => `(tactic| (refine' code_def ?k1 ?k2 ?k3 ?k4 ?k5 ?kA ?kF ?kK ?k6 ?k7 ?k8 ?k9 ?kB ?_ ?c2 ?c3 ?c4 ?c5; (walk_at "mine:kA"); (case k9 => exact binds_K (by k_in) rfl (by k_is) rfl rfl rfl); (case c5 => decide); (case kB => exact locs rfl); (walk_at "mine:kC"); k_whole; intro g' L' h' FG' F' N' B' X' T'; (try dsimp only); (try k_fold)))
local macro_rules | `(tactic| lsm_bools) => `(tactic| assumption)
local macro_rules | `(tactic| walk_at "mine:tail") => `(tactic| ((with_reducible rename News _ _ _ _ => kN9); exact fun p hp => kN9 p (by repeat (first | exact hp | refine List.mem_cons_of_mem _ ?_))))
local macro_rules | `(tactic| walk_at "mine:fill") => `(tactic| (refine fill_in ?_; k_fill; intro _ _))
local macro_rules | `(tactic| walk_at "mine:use") => `(tactic| (
  (case k1 => k_asm); (case k2 => k_asm); (case k3 => k_asm); (case k4 => k_asm); (case k5 => k_asm); (case kK => first | exact rfl | assumption); (case kd => ktr_room); (case ku => ktr_units)))
section
open PySem.W.KBw (bInts)
local macro_rules | `(tactic| walk_at "mine:fill") => `(tactic| (refine fill_in ?_; k_fill; intro _ _))
local macro_rules | `(tactic| walk_at "mine:use") => `(tactic| (
  (case k1 => k_asm); (case k2 => k_asm); (case k3 => k_asm); (case k4 => k_asm); (case k5 => k_asm); (case kK => first | exact rfl | assumption); (case kd => ktr_room); (case ku => ktr_units)))
def lowC (c : Int) : Int := if 65 ≤ c ∧ c ≤ 90 then c + 32 else c
def isPrint (c : Int) : Bool := decide (33 ≤ c) && decide (c ≤ 126)
def SPEC : List Int := [40, 41, 123, 37, 42, 34, 92, 93]
def isAtomC (c : Int) : Bool := isPrint c && !decide (c ∈ SPEC)
def isAstr (c : Int) : Bool := isAtomC c || decide (c = 93)
def isFig (c : Int) : Bool := decide (48 ≤ c) && decide (c ≤ 57)
theorem low_yes {c : Int} (h1 : 65 ≤ c) (h2 : c ≤ 90) : lowC c = c + 32 := if_pos ⟨h1, h2⟩
theorem low_no1 {c : Int} (h1 : ¬65 ≤ c) : lowC c = c := if_neg fun h => h1 h.1
theorem low_no2 {c : Int} (h1 : ¬c ≤ 90) : lowC c = c := if_neg fun h => h1 h.2
theorem print_no {c : Int} (h : ¬33 ≤ c) : decide (33 ≤ c) = isPrint c := by simp [isPrint, h]
theorem print_yes {c : Int} (h : 33 ≤ c) : decide (c ≤ 126) = isPrint c := by simp [isPrint, h]
theorem atom_no {c : Int} (h : isPrint c = false) : isPrint c = isAtomC c := by simp [isAtomC, h]
theorem atom_yes {c : Int} (h : isPrint c = true) : (!decide (c ∈ bInts #[40, 41, 123, 37, 42, 34, 92, 93])) = isAtomC c := by rw [show bInts #[40, 41, 123, 37, 42, 34, 92, 93] = SPEC from rfl]; simp [isAtomC, h]
theorem astr_yes {c : Int} (h : isAtomC c = true) : isAtomC c = isAstr c := by simp [isAstr, h]
theorem astr_no {c : Int} (h : isAtomC c = false) : (c == 93) = isAstr c := by rw [isAstr, h, Bool.false_or]; rfl
theorem fig_no {c : Int} (h : ¬48 ≤ c) : decide (48 ≤ c) = isFig c := by simp [isFig, h]
theorem fig_yes {c : Int} (h : 48 ≤ c) : decide (c ≤ 57) = isFig c := by simp [isFig, h]
theorem c_lower_code (w : World) (news : Led) (c : Int) (t : Tok) : Ct w 80 1 news [.int c t] (fun v news' => (∃ t', v = .int (lowC c) t') ∧ news' = news) := by
  walk_at "mine:fill"
  unfold Ct
  intro mean mg mb dp un gd cn cs a ccd cl outer A₀ base h₀ L m s Q E B F X N T hk hd hu ret
  refine wpAny_call ?_
  k_dflt ktr_enter
  k_steps
  all_goals (first | (have e := low_yes (c := c) (by assumption) (by assumption); refine ret _ _ _ _ ⟨⟨_, congrArg (fun z => Value.int z _) e.symm⟩, rfl⟩ (by k_asm) (by k_asm)) | (have e := low_no1 (c := c) (by assumption); refine ret _ _ _ _ ⟨⟨_, congrArg (fun z => Value.int z _) e.symm⟩, rfl⟩ (by k_asm) (by k_asm)) | (have e := low_no2 (c := c) (by assumption); refine ret _ _ _ _ ⟨⟨_, congrArg (fun z => Value.int z _) e.symm⟩, rfl⟩ (by k_asm) (by k_asm)))
theorem c_is_printable (w : World) (news : Led) (c : Int) (t : Tok) : Ct w 135 1 news [.int c t] (fun v news' => v = .bool (isPrint c) ∧ news' = news) := by
  walk_at "mine:fill"
  unfold Ct
  intro mean mg mb dp un gd cn cs a ccd cl outer A₀ base h₀ L m s Q E B F X N T hk hd hu ret
  refine wpAny_call ?_
  k_dflt ktr_enter
  k_steps
  all_goals (refine ret _ _ _ _ ⟨congrArg Value.bool ?_, rfl⟩ (by k_asm) (by k_asm))
  all_goals (first | exact print_no (by assumption) | exact print_yes (by assumption))
theorem c_is_figure (w : World) (news : Led) (c : Int) (t : Tok) : Ct w 163 1 news [.int c t] (fun v news' => v = .bool (isFig c) ∧ news' = news) := by
  walk_at "mine:fill"
  unfold Ct
  intro mean mg mb dp un gd cn cs a ccd cl outer A₀ base h₀ L m s Q E B F X N T hk hd hu ret
  refine wpAny_call ?_
  k_dflt ktr_enter
  k_steps
  all_goals (refine ret _ _ _ _ ⟨congrArg Value.bool ?_, rfl⟩ (by k_asm) (by k_asm))
  all_goals (first | exact fig_no (by assumption) | exact fig_yes (by assumption))
local macro_rules | `(tactic| walk_at "eval Call") => `(tactic| (k_here; k_dflt (refine Call_ ?_)))
local macro_rules | `(tactic| walk_at "eval Call Attribute") => `(tactic| (k_here; k_dflt (refine MethodCall_ ?_)))
section
local macro_rules | `(tactic| walk_at "call ref") => `(tactic| ((with_reducible show wpAny _ _ (call (Value.ref 135) _) _ _ _); k_dflt (refine ct_auto (C := c_is_printable _ _ _ _) (ret := ?_)); walk_at "mine:oA"))
local macro_rules | `(tactic| walk_at "compareOp NotIn int bytes") => `(tactic| (refine notin_bytes (by assumption) (by assumption) ?_))
theorem c_is_atom (w : World) (news : Led) (c : Int) (t : Tok) (c0 : 0 ≤ c) (c1 : c < 256) : Ct w 142 2 news [.int c t] (fun v news' => v = .bool (isAtomC c) ∧ news' = news) := by
  walk_at "mine:fill"
  unfold Ct
  intro mean mg mb dp un gd cn cs a ccd cl outer A₀ base h₀ L m s Q E B F X N T hk hd hu ret
  refine wpAny_call ?_
  k_dflt ktr_enter
  k_steps
  all_goals (refine ret _ _ _ _ ⟨congrArg Value.bool ?_, rfl⟩ (by k_asm) (by k_asm))
  all_goals (first | exact atom_no (by assumption) | exact atom_yes (by assumption))
end
section
local macro_rules | `(tactic| walk_at "call ref") => `(tactic| ((with_reducible show wpAny _ _ (call (Value.ref 142) _) _ _ _); k_dflt (refine ct_auto (C := c_is_atom _ _ _ _ (by assumption) (by assumption)) (ret := ?_)); walk_at "mine:oA"))
theorem c_is_astring (w : World) (news : Led) (c : Int) (t : Tok) (c0 : 0 ≤ c) (c1 : c < 256) : Ct w 149 3 news [.int c t] (fun v news' => v = .bool (isAstr c) ∧ news' = news) := by
  walk_at "mine:fill"
  unfold Ct
  intro mean mg mb dp un gd cn cs a ccd cl outer A₀ base h₀ L m s Q E B F X N T hk hd hu ret
  refine wpAny_call ?_
  k_dflt ktr_enter
  k_steps
  all_goals (refine ret _ _ _ _ ⟨congrArg Value.bool ?_, rfl⟩ (by k_asm) (by k_asm))
  all_goals (first | exact astr_no (by assumption) | exact astr_yes (by assumption))
end
end
section
open PySem.W.KBw (bInts)
local macro_rules | `(tactic| lsm_bools) => `(tactic| assumption)
local macro_rules | `(tactic| walk_at "mine:fill") => `(tactic| (refine fill_in ?_; k_fill; intro _ _))
local macro_rules | `(tactic| walk_at "mine:use") => `(tactic| (
  (case k1 => k_asm); (case k2 => k_asm); (case k3 => k_asm); (case k4 => k_asm); (case k5 => k_asm); (case kK => first | exact rfl | assumption); (case kd => ktr_room); (case ku => ktr_units)))
theorem News.rest {h₀ h : Heap} {L : Addr} {p : Addr × Obj} {news : Led} (N : News h₀ L h (p :: news)) : News h₀ L h news := fun q hq => N q (List.mem_cons_of_mem _ hq)
theorem lowC_in {c : Int} (h : 0 ≤ c ∧ c < 256) : 0 ≤ lowC c ∧ lowC c < 256 := by unfold lowC; split <;> omega
theorem low_in {b : Array UInt8} {ks : List Int} (hb : bInts b = ks) : KBa.In (ks.map lowC) := fun n hn => by
  obtain ⟨k, hk, rfl⟩ := List.mem_map.mp hn
  subst hb
  exact lowC_in (KBw.ints_in hk)
theorem Rel2.bools {f : Int → Bool} : ∀ {ks : List Int} {vs : List Value}, Rel2 (fun k v => v = .bool (f k)) ks vs → LSm.BoolsAre vs (ks.map f)
  | [], [], _ => .nil
  | _ :: _, _ :: _, h => by obtain ⟨rfl, h2⟩ := h; exact .cons _ (Rel2.bools h2)
def isPr (c : Int) : Bool := decide (32 ≤ c) && decide (c ≤ 126)
theorem pr_no {c : Int} (h : ¬32 ≤ c) : decide (32 ≤ c) = isPr c := by simp [isPr, h]
theorem pr_yes {c : Int} (h : 32 ≤ c) : decide (c ≤ 126) = isPr c := by simp [isPr, h]
def quotable (ks : List Int) : Bool := decide (ks.length ≤ 72) && ks.all isPr
theorem quotable_yes {ks : List Int} (h : (ks.length : Int) ≤ 72) : (ks.all fun x => isPr x) = quotable ks := by
  have : ks.length ≤ 72 := by omega
  simp [quotable, this]
theorem quotable_no {ks : List Int} (h : ¬(ks.length : Int) ≤ 72) : decide ((ks.length : Int) ≤ 72) = quotable ks := by
  have : ¬ks.length ≤ 72 := by omega
  simp [quotable, h, this]
def figNum (ks : List Int) : Int := ks.foldl (fun a k => a * 10 + k - 48) 0
local macro_rules | `(tactic| walk_at "eval Call") => `(tactic| (k_here; k_dflt (refine Call_ ?_)))
local macro_rules | `(tactic| walk_at "eval Call Attribute") => `(tactic| (k_here; k_dflt (refine MethodCall_ ?_)))
section
local macro_rules | `(tactic| walk_at "call ref") => `(tactic| ((with_reducible show wpAny _ _ (call (Value.ref 80) _) _ _ _); k_dflt (refine ct_auto (C := c_lower_code _ _ _ _) (ret := ?_)); walk_at "mine:oD"))
local macro_rules | `(tactic| walk_at "eval ListComp") => `(tactic| (k_here; (walk_at "mine:fn"); k_dflt (refine' ListComp_bytes (Y := fun k v => ∃ t, v = .int (lowC k) t) ?kh ?kb ?kz cF' cN' ?kc ?kl ?kk ?kn ?kx ?hi ?turn1 ?hlist1 ?ks; (walk_at "mine:kB"); (walk_at "mine:c1"); (walk_at "mine:c2"); (walk_at "mine:c3"); (case' turn1 => (walk_at "mine:tn"; skip)); (case' hlist1 => (walk_at "mine:hl"; (have kI := Rel2.ints hr); (have kL := News.isList N' List.mem_cons_self); (have kIn := low_in (by assumption)); (have N := News.rest N'); clear N'; clear hr)))))
theorem c_lower (w : World) (news : Led) (b : Array UInt8) (t : Tok) (ks : List Int) (hb : bInts b = ks) (hz : ks.length ≤ 200) : Ct w 85 3 news [.bytes b t] (fun v news' => (∃ b' t', v = .bytes b' t' ∧ bInts b' = ks.map lowC) ∧ news' = news) := by
  walk_at "mine:fill"
  unfold Ct
  intro mean mg mb dp un gd cn cs a ccd cl outer A₀ base h₀ L m s Q E B F X N T hk hd hu ret
  refine wpAny_call ?_
  k_dflt ktr_enter
  k_steps
  all_goals (first | exact ⟨_, _, rfl, ⟨_, rfl⟩, by k_asm, by k_asm⟩ | refine ret _ _ _ _ ⟨⟨_, _, rfl, KBa.ints_make (by assumption)⟩, rfl⟩ (by k_asm) (by k_asm))
end
section
local macro_rules | `(tactic| walk_at "eval ListComp") => `(tactic| (k_here; (walk_at "mine:fn"); k_dflt (refine' ListComp_bytes (Y := fun k v => v = .bool (isPr k)) ?kh ?kb ?kz cF' cN' ?kc ?kl ?kk ?kn ?kx ?hi ?turn2 ?hlist2 ?ks; (walk_at "mine:kB"); (walk_at "mine:c1"); (walk_at "mine:c2"); (walk_at "mine:c3"); (case' turn2 => (walk_at "mine:tn"; skip)); (case' hlist2 => (walk_at "mine:hl"; (have kB := Rel2.bools hr); (have kL := News.isList N' List.mem_cons_self); (have N := News.rest N'); clear N'; clear hr)))))
theorem c_is_quotable (w : World) (news : Led) (b : Array UInt8) (t : Tok) (ks : List Int) (hb : bInts b = ks) (hz : ks.length ≤ 200) : Ct w 371 2 news [.bytes b t] (fun v news' => v = .bool (quotable ks) ∧ news' = news) := by
  walk_at "mine:fill"
  unfold Ct
  intro mean mg mb dp un gd cn cs a ccd cl outer A₀ base h₀ L m s Q E B F X N T hk hd hu ret
  refine wpAny_call ?_
  k_dflt ktr_enter
  k_steps
  all_goals (first
    | exact ⟨_, _, rfl, congrArg Value.bool (pr_no (by assumption)), by k_asm, by k_asm⟩
    | exact ⟨_, _, rfl, congrArg Value.bool (pr_yes (by assumption)), by k_asm, by k_asm⟩
    | exact ret _ _ _ _ ⟨congrArg Value.bool (quotable_yes (by assumption)), rfl⟩ (by k_asm) (by k_asm)
    | exact ret _ _ _ _ ⟨congrArg Value.bool (quotable_no (by assumption)), rfl⟩ (by k_asm) (by k_asm))
end
section
local macro_rules | `(tactic| walk_at "pyIter bytes") => `(tactic| ((walk_at "mine:fn"); k_dflt (refine' KBw.iterBytes_acc1 (y := Str.ofString "number") (fun a k => a * 10 + k - 48) (by kba_ints) (by rfl) cF' cN' (by rfl) ?turn3 ?done3; (case' turn3 => (clear cF' cN'; intro k t a ta h tk own hmem h0 h1 hoff F N)); (case' done3 => (clear cF' cN'; intro u t h tk F N)))))
local macro_rules | `(tactic| walk_at "InvEndN") => `(tactic| k_dflt exact InvEndN.intro (by k_asm) (by k_asm) ⟨rfl, ⟨_, rfl⟩, by kba_same⟩ rfl (fun p hp => List.mem_append_left _ hp) (fun p hp => List.mem_append_right _ hp))
theorem c_number (w : World) (news : Led) (b : Array UInt8) (t : Tok) (ks : List Int) (hb : bInts b = ks) (hz : ks.length ≤ 200) : Ct w 170 2 news [.bytes b t] (fun v news' => (∃ t', v = .int (figNum ks) t') ∧ news' = news) := by
  walk_at "mine:fill"
  unfold Ct
  intro mean mg mb dp un gd cn cs a ccd cl outer A₀ base h₀ L m s Q E B F X N T hk hd hu ret
  refine wpAny_call ?_
  k_dflt ktr_enter
  k_steps
  all_goals (refine ret _ _ _ _ ⟨⟨_, rfl⟩, rfl⟩ (by k_asm) (by k_asm))
end
section
end
end
section
open PySem.W.KBw (bInts)
/-! A list comprehension of one clause over any source that walks, with or without a test. -/
/-- what the iterator of a source hands out -/
def SrcOk (prog : Program) (w : World) (A : Around) (src : Value) (s₁ : Shared) (n : Nat) (P : Nat → Value → Prop) : Prop :=
  ∀ (R E : Value → Shared → Prop), (∀ (o : Obj) (St : Nat → Heap → Prop), Walks prog w A s₁.heap.objs.size [s₁.heap.objs.size] [s₁.heap.objs.size] n P St → (∀ i h, St i h → ∃ o, h.get? s₁.heap.objs.size = some o) →
    St 0 (s₁.heap.push o) → R (.ref s₁.heap.objs.size) { s₁ with heap := s₁.heap.push o }) → wpAny (model prog w) A (pyIter src) R E s₁
def Item {α : Type} (mk : α → Tok → Value) (ks : List α) (i : Nat) (v : Value) : Prop := ∃ k t, ks[i]? = some k ∧ v = mk k t
/-- the values that the turns hand back, item by item -/
def RelA {α : Type} (Y : α → Value → Prop) : List α → List Value → Prop
  | [], [] => True
  | k :: ks, v :: vs => Y k v ∧ RelA Y ks vs
  | _, _ => False
section
variable {α : Type} {Y : α → Value → Prop}
theorem RelA.snoc {k : α} {v : Value} : ∀ {ks : List α} {vs : List Value}, RelA Y ks vs → Y k v → RelA Y (ks ++ [k]) (vs ++ [v])
  | [], [], _, h => ⟨h, trivial⟩
  | _ :: _, _ :: _, h, h' => ⟨h.1, RelA.snoc h.2 h'⟩
theorem RelA.ints {f : α → Int} : ∀ {ks : List α} {vs : List Value}, RelA (fun k v => ∃ t, v = .int (f k) t) ks vs → IntsAre vs (ks.map f)
  | [], [], _ => .nil
  | _ :: _, _ :: _, h => by obtain ⟨⟨t, rfl⟩, h2⟩ := h; exact .cons _ _ (RelA.ints h2)
end
section
variable {prog : Program} {w : World} {A : Around} {E : Value → Shared → Prop} {s : Shared} {h₀ : Heap} {L : Addr} {m : Str → Option Value} {env : Env} {news : Led}
theorem src_bytes {b : Array UInt8} {t : Tok} {ks : List Int} {s₁ : Shared} (hh : A.handled = none) (hb : bInts b = ks) : SrcOk prog w A (.bytes b t) s₁ ks.length (Item Value.int ks) := fun R E h => by
  refine KBw.pyIter_bytes ?_
  have hlen : b.size = ks.length := by rw [← hb, KBw.ints_length]
  let W := KBw.walks (prog := prog) (w := w) (A := A) hh s₁.heap.objs.size b t
  refine h _ (fun i h => KBw.IsBytesIter h s₁.heap.objs.size b t i)
    { sub := W.sub, frame := W.frame, self := W.self,
      done := fun s Q E st hQ => W.done s Q E (hlen ▸ st) hQ,
      item := fun i s Q E hi st hQ => W.item i s Q E (hlen ▸ hi) st fun v h' tk hP => hQ v h' tk (by
        obtain ⟨c, u, hc, rfl⟩ := hP
        exact ⟨_, u, hb ▸ KBw.ints_get hc, rfl⟩) } (fun i h st => by obtain ⟨o, e, _⟩ := st; exact ⟨o, e⟩) ⟨_, Heap.get?_push_size _ rfl, rfl, rfl⟩
theorem src_text {x : Str} {t : Tok} {s₁ : Shared} (hh : A.handled = none) : SrcOk prog w A (.str x t) s₁ x.cps.toList.length (Item (fun (c : Nat) u => .str ⟨#[c]⟩ u) x.cps.toList) := fun R E h => by
  have conv : ∀ {T : String} (W : Walks prog w A s₁.heap.objs.size [s₁.heap.objs.size] [s₁.heap.objs.size] x.cps.size (SignAt x) (fun i h => h.IsStrIter s₁.heap.objs.size T x t i)),
      Walks prog w A s₁.heap.objs.size [s₁.heap.objs.size] [s₁.heap.objs.size] x.cps.toList.length (Item (fun (c : Nat) u => Value.str ⟨#[c]⟩ u) x.cps.toList) (fun i h => h.IsStrIter s₁.heap.objs.size T x t i) := fun {T} W =>
    { sub := W.sub, frame := W.frame, self := W.self,
      done := fun s Q E st hQ => W.done s Q E (by rw [Array.length_toList] at st; exact st) hQ,
      item := fun i s Q E hi st hQ => W.item i s Q E (by rw [Array.length_toList] at hi; exact hi) st fun v h' tk hP => hQ v h' tk (by
        obtain ⟨c, u, hc, rfl⟩ := hP
        exact ⟨c, u, by rw [Array.getElem?_toList]; exact hc, rfl⟩) }
  have some : ∀ {T : String} (i : Nat) (h : Heap), h.IsStrIter s₁.heap.objs.size T x t i → ∃ o, h.get? s₁.heap.objs.size = some o := fun i h st => by obtain ⟨o, e, _⟩ := st; exact ⟨o, e⟩
  cases ha : x.cps.all (· < 128)
  · exact wpAny_pyIter_wide ha (h _ _ (conv (Walks.strWide hh _ x t)) some ⟨_, Heap.get?_push_size _ rfl, rfl, rfl⟩)
  · exact wpAny_pyIter_ascii ha (h _ _ (conv (Walks.strAscii hh _ x t)) some ⟨_, Heap.get?_push_size _ rfl, rfl, rfl⟩)
/-- the end of a test: its answer, the frame and the ledger kept -/
def TestEnd (h₀ : Heap) (L : Addr) (m : Str → Option Value) (s : Shared) (a : Bool) (led : Led) (ok : Bool) (s' : Shared) : Prop :=
  ∃ h' tk', s' = { s with heap := h', toks := tk' } ∧ ok = a ∧ Fr h₀ L h' m ∧ News h₀ L h' led
/-- how the source stands once the iterable is evaluated -/
def SrcEnd (prog : Program) (w : World) (A : Around) (h₀ : Heap) (L : Addr) (m : Str → Option Value) (s : Shared) (n : Nat) (P : Nat → Value → Prop) (news : Led) (src : Value) (s₁ : Shared) : Prop :=
  ∃ h tk, s₁ = { s with heap := h, toks := tk } ∧ Fr h₀ L h m ∧ News h₀ L h news ∧ SrcOk prog w A src s₁ n P
theorem restA {α : Type} {mk : α → Tok → Value} {elt : Expr} {x : Str} {scope : Scope} {cl : List (Str × Addr)} {s₂ : Shared} {ks : List α} {Y : α → Value → Prop} {Fin : List Value → Led → Prop}
    (turn : ∀ k t I oI C oC D m₂ h tk ys (E' : Value → Shared → Prop), k ∈ ks → LCg.NsObj oC m₂ → m₂ x = some (mk k t) → Fr h₀ L h m → News h₀ L h ((I, oI) :: (C, oC) :: (D, LCg.lst ys) :: news) →
      wpAny (model prog w) A (eval elt (compEnvC scope cl C env)) (TurnEnd h₀ L m s₂ (Y k) ((I, oI) :: (C, oC) :: (D, LCg.lst ys) :: news)) E' { s₂ with heap := h, toks := tk })
    (fin : ∀ ys, RelA Y ks ys → Fin ys news) :
    ∀ (n i : Nat) (ys : List Value), i + n = ks.length → RelA Y (ks.take i) ys → LCg.CompRest prog w A h₀ L m env elt x scope cl s₂ (fun _ => True) (Item mk ks) Fin n i ys news
  | 0, i, ys, hi, hr => by
    refine LCg.CompRest.zero (fin ys ?_)
    have : i = ks.length := by omega
    rw [this, List.take_length] at hr; exact hr
  | n + 1, i, ys, hi, hr => by
    refine LCg.CompRest.succ fun v I oI C oC D m₂ h tk E' hv hC hx F N off ne => ?_
    obtain ⟨k, t, hk, rfl⟩ := hv
    refine wpAny_mono (turn k t I oI C oC D m₂ h tk ys E' (List.mem_of_getElem? hk) hC hx F N) (fun y s' hy => ?_) fun _ _ e => e
    obtain ⟨h', tk', rfl, hY, F', N'⟩ := hy
    refine ⟨h', tk', news, rfl, F', N', off, trivial, restA turn fin n (i + 1) (ys ++ [y]) (by omega) ?_⟩
    rw [List.take_add_one, hk]
    exact RelA.snoc hr hY
theorem restT {α : Type} {mk : α → Tok → Value} {ct elt : Expr} {x : Str} {scope : Scope} {cl : List (Str × Addr)} {s₂ : Shared} {ks : List α} {Y : α → Value → Prop} {q : α → Bool} {Fin : List Value → Led → Prop}
    (test : ∀ k t I oI C oC D m₂ h tk ys (E' : Value → Shared → Prop), k ∈ ks → LCg.NsObj oC m₂ → m₂ x = some (mk k t) → Fr h₀ L h m → News h₀ L h ((I, oI) :: (C, oC) :: (D, LCg.lst ys) :: news) →
      wpAny (model prog w) A (isTrue ct (compEnvC scope cl C env) (eval ct (compEnvC scope cl C env))) (TestEnd h₀ L m s₂ (q k) ((I, oI) :: (C, oC) :: (D, LCg.lst ys) :: news)) E' { s₂ with heap := h, toks := tk })
    (turn : ∀ k t I oI C oC D m₂ h tk ys (E' : Value → Shared → Prop), k ∈ ks → q k = true → LCg.NsObj oC m₂ → m₂ x = some (mk k t) → Fr h₀ L h m → News h₀ L h ((I, oI) :: (C, oC) :: (D, LCg.lst ys) :: news) →
      wpAny (model prog w) A (eval elt (compEnvC scope cl C env)) (TurnEnd h₀ L m s₂ (Y k) ((I, oI) :: (C, oC) :: (D, LCg.lst ys) :: news)) E' { s₂ with heap := h, toks := tk })
    (fin : ∀ ys, RelA Y (ks.filter q) ys → Fin ys news) :
    ∀ (n i : Nat) (ys : List Value), i + n = ks.length → RelA Y ((ks.take i).filter q) ys → LCt.CompRestT prog w A h₀ L m env ct elt x scope cl s₂ (fun _ => True) (Item mk ks) Fin n i ys news
  | 0, i, ys, hi, hr => by
    refine LCt.CompRestT.zero (fin ys ?_)
    have : i = ks.length := by omega
    rw [this, List.take_length] at hr; exact hr
  | n + 1, i, ys, hi, hr => by
    refine LCt.CompRestT.succ fun v I oI C oC D m₂ h tk E' hv hC hx F N off ne => ?_
    obtain ⟨k, t, hk, rfl⟩ := hv
    refine wpAny_mono (test k t I oI C oC D m₂ h tk ys E' (List.mem_of_getElem? hk) hC hx F N) (fun ok s' hy => ?_) fun _ _ e => e
    obtain ⟨h', tk', rfl, rfl, F', N'⟩ := hy
    cases hq : q k with
    | true =>
      simp only [if_true]
      refine wpAny_mono (turn k t I oI C oC D m₂ h' tk' ys E' (List.mem_of_getElem? hk) hq hC hx F' N') (fun y s' hy => ?_) fun _ _ e => e
      obtain ⟨h'', tk'', rfl, hY, F'', N''⟩ := hy
      refine ⟨h'', tk'', news, rfl, F'', N'', off, trivial, restT test turn fin n (i + 1) (ys ++ [y]) (by omega) ?_⟩
      rw [List.take_add_one, hk, List.filter_append]
      simp only [Option.toList, List.filter_cons, hq, if_true, List.filter_nil]
      exact RelA.snoc hr hY
    | false =>
      simp only [Bool.false_eq_true, if_false]
      refine ⟨h', tk', news, rfl, F', N', off, trivial, restT test turn fin n (i + 1) ys (by omega) ?_⟩
      rw [List.take_add_one, hk, List.filter_append]
      simp only [Option.toList, List.filter_cons, hq, Bool.false_eq_true, if_false, List.filter_nil, List.append_nil]
      exact hr
theorem ListComp_A {α : Type} {mk : α → Tok → Value} {elt iter : Expr} {x : Str} {px : Pos} {scope : Scope} {cl : List (Str × Addr)} {pos : Pos} {Q : Value → Shared → Prop} {ks : List α} (Y : α → Value → Prop)
    (hz : ks.length ≤ sizeLine)
    (hclos : closureFor scope env = pure cl) (hcell : ∀ y ∈ scope.names, y.2 ≠ .cell) (hkind : scope.kind = .function)
    (hnames : ∀ y ∈ scope.names, y.2 = .local → scope.names.lookup y.1 = some .local) (hx : scope.names.lookup x = some .local)
    (hi : wpAny (model prog w) A (eval iter env) (SrcEnd prog w A h₀ L m s ks.length (Item mk ks) news) E s)
    (turn : ∀ k t I oI C oC D m₂ h tk ys (E' : Value → Shared → Prop), k ∈ ks → LCg.NsObj oC m₂ → m₂ x = some (mk k t) → Fr h₀ L h m → News h₀ L h ((I, oI) :: (C, oC) :: (D, LCg.lst ys) :: news) →
      wpAny (model prog w) A (eval elt (compEnvC scope cl C env)) (TurnEnd h₀ L m s (Y k) ((I, oI) :: (C, oC) :: (D, LCg.lst ys) :: news)) E' { s with heap := h, toks := tk })
    (h : ∀ D ys h' tk, RelA Y ks ys → Fr h₀ L h' m → News h₀ L h' ((D, LCg.lst ys) :: news) → LCg.Off1 D news → Q (.ref D) { s with heap := h', toks := tk })
    (hs : ∀ x, foldedSetIterable iter env x = pure x := by intro _; rfl) :
    wpAny (model prog w) A (eval (.ListComp elt [⟨.Name x px, iter, [], 0⟩] scope pos) env) Q E s := by
  rw [eval_ListComp]
  refine wpAny_comprehension_free (use := none) rfl hs hclos hkind hnames (wpAny_mono hi (fun src s₁ h₁ => ?_) fun _ _ e => e)
  obtain ⟨g, tk₀, rfl, F₀, N₀, S⟩ := h₁
  refine S _ _ fun o St W hIo hst => ?_
  have up : ∀ b' o', g.get? b' = some o' → (g.push o).get? b' = some o' := fun b' o' e => Heap.get?_push_of_some _ e
  refine LCg.block_U (S := fun _ => True) (news := news) (Fin := fun ys nw => nw = news ∧ RelA Y ks ys) W hz hIo
    (fun i h h' o nw st e e' _ _ _ => W.frame _ _ _ st fun b hb o' eo => by
      rw [List.mem_singleton.mp hb] at eo ⊢
      rw [e] at eo; cases eo; exact e') hcell hkind hx hst (fun b' hb' => ?_)
    (F₀.keeps up) (N₀.grown up) (Nat.ne_of_lt F₀.ns.lt) (next_is_new F₀) (fun p hp => Nat.ne_of_lt (Heap.lt_size (N₀ p hp).1)) trivial
    (restA (s₂ := { s with heap := g.push o, toks := tk₀ }) (Fin := fun ys nw => nw = news ∧ RelA Y ks ys)
      (fun k t' I oI C oC D m₂ h tk ys E' => turn k t' I oI C oC D m₂ h tk ys E') (fun ys hr => ⟨rfl, hr⟩) ks.length 0 [] (by omega) (by simp [RelA])) ?_
  · rw [List.mem_singleton.mp hb']
    show g.objs.size < (g.push _).objs.size
    rw [Heap.size_push]; exact Nat.lt_succ_self _
  · intro D C h' tk m' ys news' F' N' o1 hn hC₀ hD₀ hCL hDL hCD offC fin
    obtain ⟨rfl, hr⟩ := fin
    refine ⟨m', hn, fun h'' hs'' => h D ys h'' tk hr (F'.change hs'' hCL hC₀) (fun p hp => ?_) o1⟩
    refine ⟨hs''.extBut _ _ ?_ (N' p hp).1, (N' p hp).2⟩
    rcases List.mem_cons.mp hp with rfl | hp
    · exact Ne.symm hCD
    · exact offC p hp
theorem ListComp_T {α : Type} {mk : α → Tok → Value} {ct elt iter : Expr} {x : Str} {px : Pos} {scope : Scope} {cl : List (Str × Addr)} {pos : Pos} {Q : Value → Shared → Prop} {ks : List α} (Y : α → Value → Prop) (q : α → Bool)
    (hz : ks.length ≤ sizeLine)
    (hclos : closureFor scope env = pure cl) (hcell : ∀ y ∈ scope.names, y.2 ≠ .cell) (hkind : scope.kind = .function)
    (hnames : ∀ y ∈ scope.names, y.2 = .local → scope.names.lookup y.1 = some .local) (hx : scope.names.lookup x = some .local)
    (hi : wpAny (model prog w) A (eval iter env) (SrcEnd prog w A h₀ L m s ks.length (Item mk ks) news) E s)
    (test : ∀ k t I oI C oC D m₂ h tk ys (E' : Value → Shared → Prop), k ∈ ks → LCg.NsObj oC m₂ → m₂ x = some (mk k t) → Fr h₀ L h m → News h₀ L h ((I, oI) :: (C, oC) :: (D, LCg.lst ys) :: news) →
      wpAny (model prog w) A (isTrue ct (compEnvC scope cl C env) (eval ct (compEnvC scope cl C env))) (TestEnd h₀ L m s (q k) ((I, oI) :: (C, oC) :: (D, LCg.lst ys) :: news)) E' { s with heap := h, toks := tk })
    (turn : ∀ k t I oI C oC D m₂ h tk ys (E' : Value → Shared → Prop), k ∈ ks → q k = true → LCg.NsObj oC m₂ → m₂ x = some (mk k t) → Fr h₀ L h m → News h₀ L h ((I, oI) :: (C, oC) :: (D, LCg.lst ys) :: news) →
      wpAny (model prog w) A (eval elt (compEnvC scope cl C env)) (TurnEnd h₀ L m s (Y k) ((I, oI) :: (C, oC) :: (D, LCg.lst ys) :: news)) E' { s with heap := h, toks := tk })
    (h : ∀ D ys h' tk, RelA Y (ks.filter q) ys → Fr h₀ L h' m → News h₀ L h' ((D, LCg.lst ys) :: news) → LCg.Off1 D news → Q (.ref D) { s with heap := h', toks := tk })
    (hs : ∀ x, foldedSetIterable iter env x = pure x := by intro _; rfl) :
    wpAny (model prog w) A (eval (.ListComp elt [⟨.Name x px, iter, [ct], 0⟩] scope pos) env) Q E s := by
  rw [eval_ListComp]
  refine wpAny_comprehension_free (use := none) rfl hs hclos hkind hnames (wpAny_mono hi (fun src s₁ h₁ => ?_) fun _ _ e => e)
  obtain ⟨g, tk₀, rfl, F₀, N₀, S⟩ := h₁
  refine S _ _ fun o St W hIo hst => ?_
  have up : ∀ b' o', g.get? b' = some o' → (g.push o).get? b' = some o' := fun b' o' e => Heap.get?_push_of_some _ e
  refine LCt.block_T (S := fun _ => True) (news := news) (Fin := fun ys nw => nw = news ∧ RelA Y (ks.filter q) ys) W hz hIo
    (fun i h h' o nw st e e' _ _ _ => W.frame _ _ _ st fun b hb o' eo => by
      rw [List.mem_singleton.mp hb] at eo ⊢
      rw [e] at eo; cases eo; exact e') hcell hkind hx hst (fun b' hb' => ?_)
    (F₀.keeps up) (N₀.grown up) (Nat.ne_of_lt F₀.ns.lt) (next_is_new F₀) (fun p hp => Nat.ne_of_lt (Heap.lt_size (N₀ p hp).1)) trivial
    (restT (s₂ := { s with heap := g.push o, toks := tk₀ }) (Fin := fun ys nw => nw = news ∧ RelA Y (ks.filter q) ys)
      (fun k t' I oI C oC D m₂ h tk ys E' => test k t' I oI C oC D m₂ h tk ys E') (fun k t' I oI C oC D m₂ h tk ys E' => turn k t' I oI C oC D m₂ h tk ys E') (fun ys hr => ⟨rfl, hr⟩) ks.length 0 [] (by omega) (by simp [RelA])) ?_
  · rw [List.mem_singleton.mp hb']
    show g.objs.size < (g.push _).objs.size
    rw [Heap.size_push]; exact Nat.lt_succ_self _
  · intro D C h' tk m' ys news' F' N' o1 hn hC₀ hD₀ hCL hDL hCD offC fin
    obtain ⟨rfl, hr⟩ := fin
    refine ⟨m', hn, fun h'' hs'' => h D ys h'' tk hr (F'.change hs'' hCL hC₀) (fun p hp => ?_) o1⟩
    refine ⟨hs''.extBut _ _ ?_ (N' p hp).1, (N' p hp).2⟩
    rcases List.mem_cons.mp hp with rfl | hp
    · exact Ne.symm hCD
    · exact offC p hp
end
end
section
open PySem.W.KBw (bInts)
section
variable {prog : Program} {w : World} {A : Around} {E : Value → Shared → Prop} {s : Shared} {h₀ : Heap} {L : Addr} {m : Str → Option Value} {env : Env} {news : Led}
def upTo (n : Nat) : List Int := (List.range n).map Int.ofNat
theorem upTo_length (n : Nat) : (upTo n).length = n := by simp [upTo]
theorem upTo_get {n i : Nat} (h : i < n) : (upTo n)[i]? = some (i : Int) := by simp [upTo, h]
theorem src_range {r : Addr} {n : Nat} {t u v : Tok} {s₁ : Shared} (hh : A.handled = none) (hr : IsRange s₁.heap r 0 n 1 t u v) (hn : n ≤ 1000) : SrcOk prog w A (.ref r) s₁ (upTo n).length (Item Value.int (upTo n)) := fun R E h => by
  have hsm : Builtin.Range.small 0 (n : Int) 1 = true := small_one (by omega) (by omega) (by omega) (by omega)
  have hz : Builtin.Range.rangeSize 0 (n : Int) 1 = ((n : Nat) : Int) := by
    have := rangeSize_nat 0 n
    first | exact this | simpa using this
  refine wpAny_pyIter_range hr hsm ?_
  let W := LCg.range_walks (prog := prog) (w := w) (A := A) (I := s₁.heap.objs.size) hh 0 n
  refine h _ (fun i h => IsRangeIter h s₁.heap.objs.size (0 + (i : Nat) * 1) ((n : Int) - (i : Nat)) 1)
    { sub := W.sub, frame := W.frame, self := W.self,
      done := fun s Q E st hQ => W.done s Q E (by rw [upTo_length] at st; exact st) hQ,
      item := fun i s Q E hi st hQ => W.item i s Q E (by rw [upTo_length] at hi; exact hi) st fun v h' tk hP => hQ v h' tk (by
        obtain ⟨u, rfl⟩ := hP
        rw [upTo_length] at hi
        exact ⟨_, u, upTo_get hi, by rw [Int.zero_add]⟩) } (fun i h st => ⟨_, st⟩) (by show IsRangeIter _ _ _ _ _; rw [hz]; simpa using Heap.get?_push_size _ rfl)
theorem ListComp_text {elt iter : Expr} {x : Str} {px : Pos} {scope : Scope} {cl : List (Str × Addr)} {pos : Pos} {Q : Value → Shared → Prop} {b : Str} {t : Tok} (Y : Nat → Value → Prop)
    (hh : A.handled = none) (F₀ : Fr h₀ L s.heap m) (N₀ : News h₀ L s.heap news)
    (hi : ∀ (R : Value → Shared → Prop), R (.str b t) s → wpAny (model prog w) A (eval iter env) R E s)
    (hz : b.cps.toList.length ≤ sizeLine)
    (hclos : closureFor scope env = pure cl) (hcell : ∀ y ∈ scope.names, y.2 ≠ .cell) (hkind : scope.kind = .function)
    (hnames : ∀ y ∈ scope.names, y.2 = .local → scope.names.lookup y.1 = some .local) (hx : scope.names.lookup x = some .local)
    (turn : ∀ (k : Nat) t I oI C oC D m₂ h tk ys (E' : Value → Shared → Prop), k ∈ b.cps.toList → LCg.NsObj oC m₂ → m₂ x = some (.str ⟨#[k]⟩ t) → Fr h₀ L h m → News h₀ L h ((I, oI) :: (C, oC) :: (D, LCg.lst ys) :: news) →
      wpAny (model prog w) A (eval elt (compEnvC scope cl C env)) (TurnEnd h₀ L m s (Y k) ((I, oI) :: (C, oC) :: (D, LCg.lst ys) :: news)) E' { s with heap := h, toks := tk })
    (h : ∀ D ys h' tk, RelA Y b.cps.toList ys → Fr h₀ L h' m → News h₀ L h' ((D, LCg.lst ys) :: news) → LCg.Off1 D news → Q (.ref D) { s with heap := h', toks := tk })
    (hs : ∀ x, foldedSetIterable iter env x = pure x := by intro _; rfl) :
    wpAny (model prog w) A (eval (.ListComp elt [⟨.Name x px, iter, [], 0⟩] scope pos) env) Q E s :=
  ListComp_A (mk := fun (c : Nat) u => Value.str ⟨#[c]⟩ u) Y hz hclos hcell hkind hnames hx (hi _ ⟨_, _, rfl, F₀, N₀, src_text hh⟩) turn h hs
theorem ListComp_bytesT {ct elt iter : Expr} {x : Str} {px : Pos} {scope : Scope} {cl : List (Str × Addr)} {pos : Pos} {Q : Value → Shared → Prop} {b : Array UInt8} {t : Tok} {ks : List Int} (Y : Int → Value → Prop) (q : Int → Bool)
    (hh : A.handled = none) (hb : bInts b = ks) (hz : ks.length ≤ sizeLine) (F₀ : Fr h₀ L s.heap m) (N₀ : News h₀ L s.heap news)
    (hclos : closureFor scope env = pure cl) (hcell : ∀ y ∈ scope.names, y.2 ≠ .cell) (hkind : scope.kind = .function)
    (hnames : ∀ y ∈ scope.names, y.2 = .local → scope.names.lookup y.1 = some .local) (hx : scope.names.lookup x = some .local)
    (hi : ∀ (R : Value → Shared → Prop), R (.bytes b t) s → wpAny (model prog w) A (eval iter env) R E s)
    (test : ∀ k t I oI C oC D m₂ h tk ys (E' : Value → Shared → Prop), k ∈ ks → LCg.NsObj oC m₂ → m₂ x = some (.int k t) → Fr h₀ L h m → News h₀ L h ((I, oI) :: (C, oC) :: (D, LCg.lst ys) :: news) →
      wpAny (model prog w) A (isTrue ct (compEnvC scope cl C env) (eval ct (compEnvC scope cl C env))) (TestEnd h₀ L m s (q k) ((I, oI) :: (C, oC) :: (D, LCg.lst ys) :: news)) E' { s with heap := h, toks := tk })
    (turn : ∀ k t I oI C oC D m₂ h tk ys (E' : Value → Shared → Prop), k ∈ ks → q k = true → LCg.NsObj oC m₂ → m₂ x = some (.int k t) → Fr h₀ L h m → News h₀ L h ((I, oI) :: (C, oC) :: (D, LCg.lst ys) :: news) →
      wpAny (model prog w) A (eval elt (compEnvC scope cl C env)) (TurnEnd h₀ L m s (Y k) ((I, oI) :: (C, oC) :: (D, LCg.lst ys) :: news)) E' { s with heap := h, toks := tk })
    (h : ∀ D ys h' tk, RelA Y (ks.filter q) ys → Fr h₀ L h' m → News h₀ L h' ((D, LCg.lst ys) :: news) → LCg.Off1 D news → Q (.ref D) { s with heap := h', toks := tk })
    (hs : ∀ x, foldedSetIterable iter env x = pure x := by intro _; rfl) :
    wpAny (model prog w) A (eval (.ListComp elt [⟨.Name x px, iter, [ct], 0⟩] scope pos) env) Q E s :=
  ListComp_T (mk := Value.int) Y q hz hclos hcell hkind hnames hx (hi _ ⟨_, _, rfl, F₀, N₀, src_bytes hh hb⟩) test turn h hs
theorem Assign_ListComp_T {α : Type} {mk : α → Tok → Value} {ct elt iter : Expr} {x y : Str} {px py : Pos} {scope : Scope} {cl : List (Str × Addr)} {pos spos : Pos} {Q : Flow → Shared → Prop} {ks : List α} (Y : α → Value → Prop) (q : α → Bool)
    (hz : ks.length ≤ sizeLine) (hLe : env.locals = L)
    (hsw : swapsWith (.ListComp elt [⟨.Name x px, iter, [ct], 0⟩] scope pos) (some (.Name y py)) spos.line env = pure true)
    (hclos : closureFor scope env = pure cl) (hcell : ∀ z ∈ scope.names, z.2 ≠ .cell) (hkind : scope.kind = .function)
    (hnames : ∀ z ∈ scope.names, z.2 = .local → scope.names.lookup z.1 = some .local) (hx : scope.names.lookup x = some .local)
    (hy : env.kindOf y = some .local) (hp : (env.scope.kind == .class || (env.scope.kind == .module && env.locals != env.globals)) = false)
    (hi : wpAny (model prog w) A (eval iter env) (SrcEnd prog w A h₀ L m s ks.length (Item mk ks) news) E s)
    (test : ∀ k t I oI C oC D m₂ h tk ys (E' : Value → Shared → Prop), k ∈ ks → LCg.NsObj oC m₂ → m₂ x = some (mk k t) → Fr h₀ L h m → News h₀ L h ((I, oI) :: (C, oC) :: (D, LCg.lst ys) :: news) →
      wpAny (model prog w) A (isTrue ct (compEnvC scope cl C env) (eval ct (compEnvC scope cl C env))) (TestEnd h₀ L m s (q k) ((I, oI) :: (C, oC) :: (D, LCg.lst ys) :: news)) E' { s with heap := h, toks := tk })
    (turn : ∀ k t I oI C oC D m₂ h tk ys (E' : Value → Shared → Prop), k ∈ ks → q k = true → LCg.NsObj oC m₂ → m₂ x = some (mk k t) → Fr h₀ L h m → News h₀ L h ((I, oI) :: (C, oC) :: (D, LCg.lst ys) :: news) →
      wpAny (model prog w) A (eval elt (compEnvC scope cl C env)) (TurnEnd h₀ L m s (Y k) ((I, oI) :: (C, oC) :: (D, LCg.lst ys) :: news)) E' { s with heap := h, toks := tk })
    (h : ∀ D ys h' tk, RelA Y (ks.filter q) ys → Fr h₀ L h' (fun z => if z = y then some (.ref D) else m z) → News h₀ L h' ((D, LCg.lst ys) :: news) → LCg.Off1 D news → Q .next { s with heap := h', toks := tk })
    (hs : ∀ x, foldedSetIterable iter env x = pure x := by intro _; rfl) :
    wpAny (model prog w) A (exec (.Assign [.Name y py] (.ListComp elt [⟨.Name x px, iter, [ct], 0⟩] scope pos) spos) env) Q E s := by
  subst hLe
  rw [exec_Assign_Name_used _ _ _ _ hsw]
  refine wpAny_bind (wpAny_standAt (wpAny_bind ?_))
  show wpAny _ A (do let _ ← comprehension (.ListComp elt [⟨.Name x px, iter, [ct], 0⟩] scope pos) scope env _ (newList []) false (eval iter env) (some (assign (.Name y py) env))) _ _ s
  refine wpAny_bind (wpAny_mono (wpAny_comprehension_free (use := some (assign (.Name y py) env)) (Q := fun _ s' => Q .next s') rfl hs hclos hkind hnames
    (wpAny_mono hi (fun src s₁ h₁ => ?_) fun _ _ e => e)) (fun _ s' hq => wpAny_pure (wpAny_pure hq)) fun _ _ e => e)
  obtain ⟨g, tk₀, rfl, F₀, N₀, S⟩ := h₁
  refine S _ _ fun o St W hIo hst => ?_
  have up : ∀ b' o', g.get? b' = some o' → (g.push o).get? b' = some o' := fun b' o' e => Heap.get?_push_of_some _ e
  refine LCt.block_T (S := fun _ => True) (news := news) (Fin := fun ys nw => nw = news ∧ RelA Y (ks.filter q) ys) W hz hIo
    (fun i h h' o nw st e e' _ _ _ => W.frame _ _ _ st fun b hb o' eo => by
      rw [List.mem_singleton.mp hb] at eo ⊢
      rw [e] at eo; cases eo; exact e') hcell hkind hx hst (fun b' hb' => ?_)
    (F₀.keeps up) (N₀.grown up) (Nat.ne_of_lt F₀.ns.lt) (next_is_new F₀) (fun p hp => Nat.ne_of_lt (Heap.lt_size (N₀ p hp).1)) trivial
    (restT (s₂ := { s with heap := g.push o, toks := tk₀ }) (Fin := fun ys nw => nw = news ∧ RelA Y (ks.filter q) ys)
      (fun k t' I oI C oC D m₂ h tk ys E' => test k t' I oI C oC D m₂ h tk ys E') (fun k t' I oI C oC D m₂ h tk ys E' => turn k t' I oI C oC D m₂ h tk ys E') (fun ys hr => ⟨rfl, hr⟩) ks.length 0 [] (by omega) (by simp [RelA])) ?_
  · rw [List.mem_singleton.mp hb']
    show g.objs.size < (g.push _).objs.size
    rw [Heap.size_push]; exact Nat.lt_succ_self _
  · intro D C h' tk m' ys news' F' N' o1 hn hC₀ hD₀ hCL hDL hCD offC fin
    obtain ⟨rfl, hr⟩ := fin
    show wpAny _ A (assign (.Name y py) env (.ref D)) _ _ _
    refine wpAny_assign_Name (wpAny_storeName_local hy F'.ns (fun h₂ hn₂ hs₂ => ?_) hp)
    have hL₀ : h₀.get? env.locals = none := Heap.get?_none_of_le F'.above
    have F₂ : Fr h₀ env.locals h₂ (fun z => if z = y then some (.ref D) else m z) := ⟨hn₂, fun b o e => hs₂.extBut b o (fun q => by rw [q, hL₀] at e; cases e) (F'.keep b o e), F'.above⟩
    refine ⟨m', hn.sameBut hs₂ hCL, fun h'' hs'' => h D ys h'' _ hr (F₂.change hs'' hCL hC₀) (fun p hp => ?_) o1⟩
    have z : h₂.get? p.1 = some p.2 := hs₂.extBut _ _ (N' p hp).2.1 (N' p hp).1
    refine ⟨hs''.extBut _ _ ?_ z, (N' p hp).2⟩
    rcases List.mem_cons.mp hp with rfl | hp
    · exact Ne.symm hCD
    · exact offC p hp
end
end
section
open PySem.W.KBw (bInts)
/-! A for loop over any source that walks, with an invariant of the frame and the ledger; the ledger may change from turn to turn. -/
def LoopEnd (h₀ : Heap) (L : Addr) (s : Shared) (I : Addr) (oI : Obj) (J : (Str → Option Value) → Led → Prop) (s' : Shared) : Prop :=
  ∃ h' tk' m' nx, s' = { s with heap := h', toks := tk' } ∧ Fr h₀ L h' m' ∧ News h₀ L h' ((I, oI) :: nx) ∧ (∀ p ∈ nx, p.1 ≠ I) ∧ J m' nx
def LoopPost (h₀ : Heap) (L : Addr) (s : Shared) (I : Addr) (oI : Obj) (J : (Str → Option Value) → Led → Prop) (Q : Flow → Shared → Prop) (f : Flow) (s' : Shared) : Prop :=
  match f with
  | .ret v => Q (.ret v) s'
  | .brk => Q .next s'
  | _ => LoopEnd h₀ L s I oI J s'
section
variable {prog : Program} {w : World} {A : Around} {E : Value → Shared → Prop} {s : Shared} {h₀ : Heap} {m₀ : Str → Option Value} {env : Env} {news : Led} {x : Str} {body : List Stmt} {Q : Flow → Shared → Prop} {src : Value}
theorem iter_any {α : Type} {mk : α → Tok → Value} {ks : List α} (J : List α → (Str → Option Value) → Led → Prop)
    (S : SrcOk prog w A src s ks.length (Item mk ks)) (F : Fr h₀ env.locals s.heap m₀) (N : News h₀ env.locals s.heap news) (hJ : J [] m₀ news)
    (turn : ∀ pre k post t m₁ nx h tk I oI, ks = pre ++ k :: post → (∀ p ∈ nx, p.1 ≠ I) → J pre m₁ nx → Fr h₀ env.locals h (fun y => if y = x then some (mk k t) else m₁ y) → News h₀ env.locals h ((I, oI) :: nx) →
      wpAny (model prog w) A (execs body env) (LoopPost h₀ env.locals s I oI (J (pre ++ [k])) Q) E { s with heap := h, toks := tk })
    (done : ∀ m₁ nx h tk, J ks m₁ nx → Fr h₀ env.locals h m₁ → News h₀ env.locals h nx → Q .next { s with heap := h, toks := tk }) :
    wpAny (model prog w) A (pyIter src) (fun it s₂ => LoopAtV prog w A h₀ env x body Q E it s₂) E s := by
  refine S _ _ fun o St W hIo hst => ?_
  refine ⟨_, _, _, ks.length, _, _, m₀, news, fun i m nx => J (ks.take i) m nx, rfl, W, ?_, ?_, ?_, hst, F.push _, (fun p hp => ⟨Heap.get?_push_of_some _ (N p hp).1, (N p hp).2⟩), by simpa using hJ, ?_, ?_⟩
  · intro hm
    exact absurd F.ns.lt ((List.mem_singleton.mp hm) ▸ Nat.lt_irrefl _)
  · intro b' hb
    rw [List.mem_singleton.mp hb]
    exact next_is_new F
  · intro p hp hI
    exact absurd (Heap.lt_size (N p hp).1) ((List.mem_singleton.mp hI) ▸ Nat.lt_irrefl _)
  · rintro i v m₁ news₁ s₁ own ⟨hh', tk', rfl⟩ hin ⟨k, t, hk, rfl⟩ hJ' hoff hown hownat hfull hst₁ F₁ N₁
    obtain ⟨oI, hoI⟩ := hIo _ _ hst₁
    have mem := hfull s.heap.objs.size (List.mem_singleton.mpr rfl) (next_is_new F) oI hoI
    have hoff' : ∀ p ∈ news₁, p.1 ≠ s.heap.objs.size := fun p hp e => hoff p hp (List.mem_singleton.mpr e)
    have hsplit : ks = ks.take i ++ k :: ks.drop (i + 1) := by
      have h1 : i < ks.length := hin
      have h2 : ks[i] = k := by rw [List.getElem?_eq_getElem h1] at hk; exact Option.some.inj hk
      rw [← h2, List.getElem_cons_drop, List.take_append_drop]
    have hnext : ks.take (i + 1) = ks.take i ++ [k] := by rw [List.take_add_one, hk]; rfl
    refine wpAny_mono (turn (ks.take i) k (ks.drop (i + 1)) t m₁ news₁ hh' tk' s.heap.objs.size oI hsplit hoff' hJ' F₁ (fun p hp => ?_)) (fun f s₂ p => ?_) fun _ _ e => e
    · rcases List.mem_cons.mp hp with rfl | hp
      · exact N₁ _ (List.mem_append_left _ mem)
      · exact N₁ _ (List.mem_append_right _ hp)
    · have fin : LoopEnd h₀ env.locals s s.heap.objs.size oI (J (ks.take i ++ [k])) s₂ → LoopStepU h₀ env.locals [s.heap.objs.size] own (J (ks.take (i + 1))) { s with heap := hh', toks := tk' } .next s₂ := by
        rintro ⟨h', tk, m', nx, e, F', N', ha, hm⟩
        refine ⟨rfl, h', tk, m', nx, e, F', fun p hp => ?_, fun p hp hq => ha p hp (List.mem_singleton.mp hq), by rw [hnext]; exact hm⟩
        rcases List.mem_append.mp hp with hp | hp
        · have e1 : p.1 = s.heap.objs.size := List.mem_singleton.mp (hown p hp)
          have e2 := hownat p hp
          have e3 : p.2 = oI := by
            rw [e1] at e2
            have e4 : hh'.get? s.heap.objs.size = some p.2 := e2
            have e5 : hh'.get? s.heap.objs.size = some oI := hoI
            rw [e5] at e4; exact (Option.some.inj e4).symm
          have : p = (s.heap.objs.size, oI) := Prod.ext e1 e3
          rw [this]; exact N' _ List.mem_cons_self
        · exact N' _ (List.mem_cons_of_mem _ hp)
      cases f with
      | ret v => exact .ret p
      | brk => exact .brk p
      | next => exact .next (fin p)
      | cont => exact .cont (fin p)
  · rintro h' tk m' news' F' N' _ hJ'
    rw [List.take_length] at hJ'
    exact done m' news' h' tk hJ' F' N'
theorem iter_none {α : Type} {mk : α → Tok → Value} {ks : List α}
    (S : SrcOk prog w A src s ks.length (Item mk ks)) (F : Fr h₀ env.locals s.heap m₀) (N : News h₀ env.locals s.heap news)
    (turn : ∀ k t h tk I oI, k ∈ ks → (∀ p ∈ news, p.1 ≠ I) → Fr h₀ env.locals h (fun y => if y = x then some (mk k t) else m₀ y) → News h₀ env.locals h ((I, oI) :: news) →
      wpAny (model prog w) A (execs body env) (LoopPost h₀ env.locals s I oI (fun m' nx => nx = news ∧ ∀ z, z ≠ x → m' z = m₀ z) Q) E { s with heap := h, toks := tk })
    (done : ∀ (u : Str → Option Value) h tk, Fr h₀ env.locals h (fun z => if z = x then u z else m₀ z) → News h₀ env.locals h news → Q .next { s with heap := h, toks := tk }) :
    wpAny (model prog w) A (pyIter src) (fun it s₂ => LoopAtV prog w A h₀ env x body Q E it s₂) E s := by
  refine iter_any (fun _ m nx => nx = news ∧ ∀ z, z ≠ x → m z = m₀ z) S F N ⟨rfl, fun _ _ => rfl⟩ ?_ ?_
  · rintro pre k post t m₁ nx h tk I oI hks hoff ⟨rfl, hm⟩ F₁ N₁
    have e : (fun z => if z = x then some (mk k t) else m₁ z) = fun z => if z = x then some (mk k t) else m₀ z := by
      funext z; by_cases h1 : z = x
      · simp [h1]
      · simp only [if_neg h1]; exact hm z h1
    rw [e] at F₁
    exact turn k t h tk I oI (by rw [hks]; simp) hoff F₁ N₁
  · rintro m₁ nx h tk ⟨rfl, hm⟩ F₁ N₁
    refine done m₁ h tk ?_ N₁
    have e : (fun z => if z = x then m₁ z else m₀ z) = m₁ := by
      funext z; by_cases h1 : z = x
      · simp [h1]
      · simp only [if_neg h1]; exact (hm z h1).symm
    rw [e]; exact F₁
/-- a name that holds a list of ints, made anew in every turn -/
theorem iter_row {α : Type} {mk : α → Tok → Value} {ks : List α} {y : Str} {D₀ : Addr} {vs₀ : List Value} {k₀ : Nat} (f : α → List Int) (hxy : x ≠ y)
    (S : SrcOk prog w A src s ks.length (Item mk ks)) (F : Fr h₀ env.locals s.heap m₀) (N : News h₀ env.locals s.heap ((D₀, ⟨.type "list", none, .seq vs₀.toArray k₀, #[]⟩) :: news)) (hy : m₀ y = some (.ref D₀)) (h0 : vs₀ = [])
    (turn : ∀ pre k post t h tk I oI D vs j, ks = pre ++ k :: post → IntsAre vs (pre.flatMap f) → D ≠ I → (∀ p ∈ news, p.1 ≠ I) → Fr h₀ env.locals h (fun z => if z = x then some (mk k t) else if z = y then some (.ref D) else m₀ z) → News h₀ env.locals h ((I, oI) :: (D, ⟨.type "list", none, .seq vs.toArray j, #[]⟩) :: news) →
      wpAny (model prog w) A (execs body env) (LoopPost h₀ env.locals s I oI (fun m' nx => (∃ D vs j, nx = (D, ⟨.type "list", none, .seq vs.toArray j, #[]⟩) :: news ∧ IntsAre vs ((pre ++ [k]).flatMap f) ∧ m' y = some (.ref D)) ∧ ∀ z, z ≠ x → z ≠ y → m' z = m₀ z) Q) E { s with heap := h, toks := tk })
    (done : ∀ (u : Str → Option Value) h tk D vs j, IntsAre vs (ks.flatMap f) → Fr h₀ env.locals h (fun z => if z = x then u z else if z = y then some (.ref D) else m₀ z) → News h₀ env.locals h ((D, ⟨.type "list", none, .seq vs.toArray j, #[]⟩) :: news) → Q .next { s with heap := h, toks := tk }) :
    wpAny (model prog w) A (pyIter src) (fun it s₂ => LoopAtV prog w A h₀ env x body Q E it s₂) E s := by
  subst h0
  refine iter_any (fun pre m nx => (∃ D vs j, nx = (D, ⟨.type "list", none, .seq vs.toArray j, #[]⟩) :: news ∧ IntsAre vs (pre.flatMap f) ∧ m y = some (.ref D)) ∧ ∀ z, z ≠ x → z ≠ y → m z = m₀ z) S F N ⟨⟨_, _, _, rfl, .nil, hy⟩, fun _ _ _ => rfl⟩ ?_ ?_
  · rintro pre k post t m₁ nx h tk I oI hks hoff ⟨⟨D, vs, j, rfl, hi, hD⟩, hm⟩ F₁ N₁
    have e : (fun z => if z = x then some (mk k t) else m₁ z) = fun z => if z = x then some (mk k t) else if z = y then some (.ref D) else m₀ z := by
      funext z; by_cases h1 : z = x
      · simp [h1]
      · simp only [if_neg h1]
        by_cases h2 : z = y
        · rw [h2, hD]; simp
        · simp only [if_neg h2]; exact hm z h1 h2
    rw [e] at F₁
    exact turn pre k post t h tk I oI D vs j hks hi (hoff _ List.mem_cons_self) (fun p hp => hoff p (List.mem_cons_of_mem _ hp)) F₁ N₁
  · rintro m₁ nx h tk ⟨⟨D, vs, j, rfl, hi, hD⟩, hm⟩ F₁ N₁
    refine done m₁ h tk D vs j hi ?_ N₁
    have e : (fun z => if z = x then m₁ z else if z = y then some (.ref D) else m₀ z) = m₁ := by
      funext z; by_cases h1 : z = x
      · simp [h1]
      · simp only [if_neg h1]
        by_cases h2 : z = y
        · rw [h2, hD]; simp
        · simp only [if_neg h2]; exact (hm z h1 h2).symm
    rw [e]; exact F₁
end
end
section
/-! A for loop over a list of the ledger, with one name that holds an int of no told worth. -/
section
variable {prog : Program} {w : World} {A : Around} {E : Value → Shared → Prop} {s : Shared} {h₀ : Heap} {m₀ : Str → Option Value} {env : Env} {news : Led} {x y : Str} {body : List Stmt} {Q : Flow → Shared → Prop}
theorem iter_list_int {D : Addr} {vs : List Value} {ns : List Int} {j : Nat} {a₀ : Int} {t₀ : Tok} (hxy : x ≠ y) (hh : A.handled = none) (hD : (D, ({ cls := .type "list", data := .seq vs.toArray j } : Obj)) ∈ news) (hi : IntsAre vs ns)
    (F : Fr h₀ env.locals s.heap m₀) (N : News h₀ env.locals s.heap news) (hy : m₀ y = some (.int a₀ t₀)) (ha₀ : 0 ≤ a₀)
    (turn : ∀ k t a ta h tk I oI, 0 ≤ a → (∀ p ∈ news, p.1 ≠ I) → Fr h₀ env.locals h (fun z => if z = x then some (.int k t) else if z = y then some (.int a ta) else m₀ z) → News h₀ env.locals h ((I, oI) :: news) →
      wpAny (model prog w) A (execs body env) (LoopPost h₀ env.locals s I oI (fun m' nx => nx = news ∧ (∃ a t, m' y = some (.int a t) ∧ 0 ≤ a) ∧ ∀ z, z ≠ x → z ≠ y → m' z = m₀ z) Q) E { s with heap := h, toks := tk })
    (done : ∀ (u : Str → Option Value) a ta h tk, 0 ≤ a → Fr h₀ env.locals h (fun z => if z = x then u z else if z = y then some (.int a ta) else m₀ z) → News h₀ env.locals h news → Q .next { s with heap := h, toks := tk }) :
    wpAny (model prog w) A (pyIter (.ref D)) (fun it s₂ => LoopAtV prog w A h₀ env x body Q E it s₂) E s := by
  have hl : s.heap.IsList D vs.toArray := ⟨_, (N _ hD).1, rfl, _, rfl⟩
  have hlt : D < s.heap.objs.size := Heap.lt_size (N _ hD).1
  have hne : D ≠ s.heap.objs.size := Nat.ne_of_lt hlt
  refine wpAny_pyIter_list hl ?_
  have W := Walks.list (prog := prog) (w := w) hh s.heap.objs.size D hne vs.toArray
  refine ⟨_, _, _, vs.toArray.size, _, _, m₀, news, fun _ m nx => nx = news ∧ (∃ a t, m y = some (.int a t) ∧ 0 ≤ a) ∧ ∀ z, z ≠ x → z ≠ y → m z = m₀ z, rfl, W, ?_, ?_, ?_, ⟨⟨_, Heap.get?_push_size _ rfl, rfl, rfl⟩, hl.at fun o e => Heap.get?_push_of_some _ e⟩, F.push _,
    (fun p hp => ⟨Heap.get?_push_of_some _ (N p hp).1, (N p hp).2⟩), ⟨rfl, ⟨_, _, hy, ha₀⟩, fun _ _ _ => rfl⟩, ?_, ?_⟩
  · intro hm
    rcases List.mem_cons.mp hm with e | hm
    · exact absurd F.ns.lt (e ▸ Nat.lt_irrefl _)
    · exact (N _ hD).2.1 (List.mem_singleton.mp hm).symm
  · intro b hb
    rw [List.mem_singleton.mp hb]
    exact next_is_new F
  · intro p hp hI
    exact absurd (Heap.lt_size (N p hp).1) ((List.mem_singleton.mp hI) ▸ Nat.lt_irrefl _)
  · rintro i v m₁ news₁ s₁ own ⟨hh', tk', rfl⟩ hin hP ⟨rfl, ⟨a, ta, ha, hnn⟩, hm⟩ hoff hown hownat hfull hst₁ F₁ N₁
    have hI : ∃ o, hh'.get? s.heap.objs.size = some o := by obtain ⟨o, e, _⟩ := hst₁.1; exact ⟨o, e⟩
    obtain ⟨oI, hoI⟩ := hI
    have mem := hfull s.heap.objs.size List.mem_cons_self (next_is_new F) oI hoI
    have hoff' : ∀ p ∈ news₁, p.1 ≠ s.heap.objs.size := fun p hp e => hoff p hp (List.mem_singleton.mpr e)
    obtain ⟨k, t, rfl⟩ : ∃ k t, v = .int k t := by
      obtain ⟨k, t, e, _⟩ := IntsAre.at hi i v (by simpa using hP)
      exact ⟨k, t, e⟩
    have e : (fun z => if z = x then some (Value.int k t) else m₁ z) = fun z => if z = x then some (Value.int k t) else if z = y then some (.int a ta) else m₀ z := by
      funext z; by_cases h1 : z = x
      · simp [h1]
      · simp only [if_neg h1]
        by_cases h2 : z = y
        · rw [h2, ha]; simp
        · simp only [if_neg h2]; exact hm z h1 h2
    rw [e] at F₁
    refine wpAny_mono (turn k t a ta hh' tk' s.heap.objs.size oI hnn hoff' F₁ (fun p hp => ?_)) (fun f s₂ p => ?_) fun _ _ e => e
    · rcases List.mem_cons.mp hp with rfl | hp
      · exact N₁ _ (List.mem_append_left _ mem)
      · exact N₁ _ (List.mem_append_right _ hp)
    · have fin : LoopEnd h₀ env.locals s s.heap.objs.size oI (fun m' nx => nx = news₁ ∧ (∃ a t, m' y = some (.int a t) ∧ 0 ≤ a) ∧ ∀ z, z ≠ x → z ≠ y → m' z = m₀ z) s₂ → LoopStepU h₀ env.locals [s.heap.objs.size] own (fun m nx => nx = news₁ ∧ (∃ a t, m y = some (.int a t) ∧ 0 ≤ a) ∧ ∀ z, z ≠ x → z ≠ y → m z = m₀ z) { s with heap := hh', toks := tk' } .next s₂ := by
        rintro ⟨h', tk, m', nx, e, F', N', ha', hm'⟩
        refine ⟨rfl, h', tk, m', nx, e, F', fun p hp => ?_, fun p hp hq => ha' p hp (List.mem_singleton.mp hq), hm'⟩
        rcases List.mem_append.mp hp with hp | hp
        · have e2 := hownat p hp
          rcases List.mem_cons.mp (hown p hp) with e1 | e1
          · have e3 : p.2 = oI := by
              rw [e1] at e2
              have e4 : hh'.get? s.heap.objs.size = some p.2 := e2
              rw [hoI] at e4; exact (Option.some.inj e4).symm
            have : p = (s.heap.objs.size, oI) := Prod.ext e1 e3
            rw [this]; exact N' _ List.mem_cons_self
          · have e1' : p.1 = D := List.mem_singleton.mp e1
            have e5 := (N₁ _ (List.mem_append_right _ hD)).1
            have e6 : hh'.get? D = some p.2 := by rw [← e1']; exact e2
            have e7 : p = (D, ({ cls := .type "list", data := .seq vs.toArray j } : Obj)) := Prod.ext e1' (by
              have e8 : hh'.get? D = some ({ cls := .type "list", data := .seq vs.toArray j } : Obj) := e5
              rw [e6] at e8; exact Option.some.inj e8)
            rw [e7]
            exact N' _ (List.mem_cons_of_mem _ (hm'.1 ▸ hD))
        · exact N' _ (List.mem_cons_of_mem _ hp)
      cases f with
      | ret v => exact .ret p
      | brk => exact .brk p
      | next => exact .next (fin p)
      | cont => exact .cont (fin p)
  · rintro h' tk m' news' F' N' _ ⟨rfl, ⟨a, ta, ha, hnn⟩, hm⟩
    refine done m' a ta h' tk hnn ?_ N'
    have e : (fun z => if z = x then m' z else if z = y then some (Value.int a ta) else m₀ z) = m' := by
      funext z; by_cases h1 : z = x
      · simp [h1]
      · simp only [if_neg h1]
        by_cases h2 : z = y
        · rw [h2, ha]; simp
        · simp only [if_neg h2]; exact (hm z h1 h2).symm
    rw [e]; exact F'
end
end
section
open PySem.W.KBw (bInts)
local macro_rules | `(tactic| lsm_bools) => `(tactic| assumption)
local macro_rules | `(tactic| walk_at "mine:fill") => `(tactic| (refine fill_in ?_; k_fill; intro _ _))
local macro_rules | `(tactic| walk_at "mine:use") => `(tactic| (
  (case k1 => k_asm); (case k2 => k_asm); (case k3 => k_asm); (case k4 => k_asm); (case k5 => k_asm); (case kK => first | exact rfl | assumption); (case kd => ktr_room); (case ku => ktr_units)))
local macro_rules | `(tactic| walk_at "eval Call") => `(tactic| (k_here; k_dflt (refine Call_ ?_)))
local macro_rules | `(tactic| walk_at "eval Call Attribute") => `(tactic| (k_here; k_dflt (refine MethodCall_ ?_)))
theorem text_in {x : Str} (h : ∀ c ∈ x.cps.toList, c ≤ 127) : KBa.In (x.cps.toList.map Int.ofNat) := by
  intro n hn
  obtain ⟨c, hc, rfl⟩ := List.mem_map.mp hn
  have := h c hc
  constructor
  · exact Int.natCast_nonneg c
  · show (c : Int) < 256
    omega
theorem text_len {x : Str} (h : x.length ≤ 200) : x.cps.toList.length ≤ 200 := by simp only [Str.length] at h; rw [Array.length_toList]; omega
theorem text_fits {x : Str} (h : x.length ≤ 200) : x.cps.toList.length ≤ sizeLine := by rw [sizeLine_eq]; simp only [Str.length] at h; rw [Array.length_toList]; omega
theorem upTo_mem {n : Nat} {k : Int} (h : k ∈ upTo n) : 0 ≤ k ∧ k < (n : Int) := by
  obtain ⟨i, hi, rfl⟩ := List.mem_map.mp h
  have := List.mem_range.mp hi
  exact ⟨Int.natCast_nonneg i, by show (i : Int) < n; omega⟩
theorem text_code {x : Str} {k : Int} (hx : ∀ c ∈ x.cps.toList, c ≤ 127) (h : 0 ≤ k ∧ k < (x.length : Int)) : (((Txt.item x k).cps.getD 0 0 : Nat) : Int) ≤ 127 := by
  have hl : k.toNat < x.cps.size := by have := h.2; simp only [Str.length] at this; omega
  rw [item_meets h.1 (n := x.cps[k.toNat]) (by simp [hl])]
  have := hx x.cps[k.toNat] (by simp)
  simp; omega
local macro_rules | `(tactic| walk_at "eval ListComp") => `(tactic| (k_here; (walk_at "mine:fn"); k_dflt (refine' ListComp_text (Y := fun k v => ∃ t, v = .int (Int.ofNat k) t) ?kh cF' cN' ?hi ?kz ?kc ?kl ?kk ?kn ?kx ?turn4 ?hlist4 ?ks; (walk_at "mine:c3"); (case kh => rfl); (case kz => exact text_fits (by assumption)); (walk_at "mine:c1"); (walk_at "mine:c2"); (case' turn4 => (walk_at "mine:tn"; skip)); (case' hlist4 => (walk_at "mine:hl"; (have kI := RelA.ints hr); (have kL := News.isList N' List.mem_cons_self); (have kIn := text_in (by assumption)); (have hL9 := text_len (by assumption)); (have N := News.rest N'); clear N'; clear hr)))))
local macro_rules | `(tactic| walk_at "exec For Name Call cons nil") => `(tactic| (k_here; (rename Fr _ _ _ _ => lF'); (with_unfolding_all refine' For_invVF lF' ?k1 ?k2 ?_; (case k1 => exact rfl); (case k2 => exact rfl); k_whole)))
local macro_rules | `(tactic| walk_at "pyIter ref") => `(tactic| ((walk_at "mine:fn"); k_dflt (refine' iter_none (src_range ?hh ?hr ?hn) cF' cN' ?turn5 ?done5; (case hh => rfl); (case hr => assumption); (case hn => omega); (case' turn5 => (clear cF' cN'; intro k t h tk I oI hmem hoff F N; (have hk9 := upTo_mem hmem); (have hq9 := text_code (by assumption) hk9); obtain ⟨hk9a, hk9b⟩ := hk9)); (case' done5 => (clear cF' cN'; intro u h tk F N)))))
theorem c_text (w : World) (news : Led) (x : Str) (t : Tok) (hx : ∀ c ∈ x.cps.toList, c ≤ 127) (hz : x.length ≤ 200) : Ct w 100 4 news [.str x t] (fun v news' => (∃ b t', v = .bytes b t' ∧ bInts b = x.cps.toList.map Int.ofNat) ∧ news' = news) := by
  walk_at "mine:fill"
  unfold Ct
  intro mean mg mb dp un gd cn cs a ccd cl outer A₀ base h₀ L m s Q E B F X N T hk hd hu ret
  refine wpAny_call ?_
  k_dflt ktr_enter
  k_steps
  all_goals (first
    | exact ⟨_, _, rfl, ⟨_, rfl⟩, by k_asm, by k_asm⟩
    | exact ⟨_, _, _, _, rfl, by k_asm, by k_asm, by assumption, rfl, by kba_same⟩
    | exact ret _ _ _ _ ⟨⟨_, _, rfl, KBa.ints_make (by assumption)⟩, rfl⟩ (by k_asm) (by k_asm))
def digs (n : Nat) : List Int := if n < 10 then [48 + (n : Int)] else [48 + (n / 10 : Nat), 48 + (n % 10 : Nat)]
theorem digs_eq {n : Nat} (h : n ≤ 99) : (Str.ofString (toString (n : Int))).cps.toList.map Int.ofNat = digs n ∧ (Str.ofString (toString (n : Int))).cps.toList.all (fun c => decide (c ≤ 127)) = true ∧ (Str.ofString (toString (n : Int))).length ≤ 200 := by
  have : ∀ m : Fin 100, (Str.ofString (toString ((m.val : Nat) : Int))).cps.toList.map Int.ofNat = digs m.val ∧ (Str.ofString (toString ((m.val : Nat) : Int))).cps.toList.all (fun c => decide (c ≤ 127)) = true ∧ (Str.ofString (toString ((m.val : Nat) : Int))).length ≤ 200 := by decide +kernel
  exact this ⟨n, by omega⟩
theorem all_le {l : List Nat} (h : l.all (fun c => decide (c ≤ 127)) = true) : ∀ c ∈ l, c ≤ 127 := fun c hc => of_decide_eq_true (List.all_eq_true.mp h c hc)
section
local macro_rules | `(tactic| walk_at "call ref") => `(tactic| ((with_reducible show wpAny _ _ (call (Value.ref 100) _) _ _ _); k_dflt (refine ct_auto (C := c_text _ _ _ _ (by assumption) (by assumption)) (ret := ?_)); walk_at "mine:oB"))
theorem c_figures (w : World) (news : Led) (n : Nat) (t : Tok) (hn : n ≤ 99) : Ct w 177 5 news [.int n t] (fun v news' => (∃ b t', v = .bytes b t' ∧ bInts b = digs n) ∧ news' = news) := by
  walk_at "mine:fill"
  unfold Ct
  intro mean mg mb dp un gd cn cs a ccd cl outer A₀ base h₀ L m s Q E B F X N T hk hd hu ret
  refine wpAny_call ?_
  k_dflt ktr_enter
  obtain ⟨hd1, hd2, hd3⟩ := digs_eq hn
  have hd4 := all_le hd2
  k_steps
  all_goals (exact ret _ _ _ _ ⟨⟨_, _, rfl, Eq.trans (by assumption) hd1⟩, rfl⟩ (by k_asm) (by k_asm))
end
section
local macro_rules | `(tactic| walk_at "call ref") => `(tactic| ((with_reducible show wpAny _ _ (call (Value.ref 177) _) _ _ _); k_dflt (refine ct_auto (C := c_figures _ _ _ _ (by assumption)) (ret := ?_)); walk_at "mine:oB"))
theorem digs_le (n : Nat) : (digs n).length ≤ 2 := by unfold digs; split <;> simp
def litO (ks : List Int) (p : Bool) : List Int := [123] ++ digs ks.length ++ (if p then [43, 125] else [125]) ++ [13, 10] ++ ks
theorem lit_yes {ks : List Int} {p : Bool} {b9 b : Array UInt8} (h9 : bInts b9 = digs ks.length) (hb : bInts b = ks) (hp : p = true) : bInts (#[123] ++ b9 ++ #[43, 125] ++ #[13, 10] ++ b) = litO ks p := by
  rw [KBw.ints_app (KBw.ints_app (KBw.ints_app (KBw.ints_app (rfl : bInts #[123] = [123]) h9) (rfl : bInts #[43, 125] = [43, 125])) (rfl : bInts #[13, 10] = [13, 10])) hb, hp]
  rfl
theorem lit_no {ks : List Int} {p : Bool} {b9 b : Array UInt8} (h9 : bInts b9 = digs ks.length) (hb : bInts b = ks) (hp : p = false) : bInts (#[123] ++ b9 ++ #[125] ++ #[13, 10] ++ b) = litO ks p := by
  rw [KBw.ints_app (KBw.ints_app (KBw.ints_app (KBw.ints_app (rfl : bInts #[123] = [123]) h9) (rfl : bInts #[125] = [125])) (rfl : bInts #[13, 10] = [13, 10])) hb, hp]
  rfl
local macro_rules | `(tactic| walk_at "call type:bytes") => `(tactic| (k_here; (with_reducible show wpAny _ _ (call (Value.type "bytes") [Value.bytes _ _]) _ _ _); k_dflt (refine bytes_of_bytes ?_)))
theorem c_literal (w : World) (news : Led) (b : Array UInt8) (t : Tok) (ks : List Int) (p : Bool) (hb : bInts b = ks) (hz : ks.length ≤ 99) : Ct w 386 6 news [.bytes b t, .bool p] (fun v news' => (∃ b' t', v = .bytes b' t' ∧ bInts b' = litO ks p) ∧ news' = news) := by
  walk_at "mine:fill"
  unfold Ct
  intro mean mg mb dp un gd cn cs a ccd cl outer A₀ base h₀ L m s Q E B F X N T hk hd hu ret
  refine wpAny_call ?_
  k_dflt (walk_at "mine:enterD")
  have hdl := digs_le ks.length
  k_steps
  all_goals (first
    | (have hp9 : p = true := by assumption
       exact ret _ _ _ _ ⟨⟨_, _, rfl, lit_yes (by assumption) hb hp9⟩, rfl⟩ (by k_asm) (by k_asm))
    | (have hp9 : p = false := by assumption
       exact ret _ _ _ _ ⟨⟨_, _, rfl, lit_no (by assumption) hb hp9⟩, rfl⟩ (by k_asm) (by k_asm)))
end
section
local macro_rules | `(tactic| walk_at "setItem ref int") => `(tactic| (k_here; k_dflt (refine' ki_set ?F ?N ?a ?b ?e ?U ?_; (case F => k_asm); (case N => k_asm); (case U => exact Upd.head (by assumption)); (case a => decide); (case b => decide); (case e => rfl)); ki_rest))
abbrev one (n : Int) (t : Tok) (k : Nat) : Obj := ⟨.type "list", none, .seq #[.int n t] k, #[]⟩
theorem c_take (w : World) (news : Led) (B : Addr) (n m : Int) (t tm : Tok) (k : Nat) (hm : 0 < m) (hm2 : m < 1000) (off : ∀ p ∈ news, p.1 ≠ B) : Ct w 407 2 ((B, one n t k) :: news) [.ref B, .int m tm] (fun v news' => (∃ r t', v = .int r t' ∧ 0 ≤ r ∧ r < m) ∧ ∃ n' t' k', news' = (B, one n' t' k') :: news) := by
  walk_at "mine:fill"
  unfold Ct
  intro mean mg mb dp un gd cn cs a ccd cl outer A₀ base h₀ L m s Q E B F X N T hk hd hu ret
  refine wpAny_call ?_
  k_dflt ktr_enter
  k_steps
  all_goals (exact ret _ _ _ _ ⟨⟨_, _, rfl, fmod_lo _ hm, fmod_hi _ hm⟩, _, _, _, rfl⟩ (by k_asm) (by k_asm))
end
end
section
open PySem.W.KBw (bInts)
local macro_rules | `(tactic| lsm_bools) => `(tactic| assumption)
local macro_rules | `(tactic| walk_at "mine:fill") => `(tactic| (refine fill_in ?_; k_fill; intro _ _))
local macro_rules | `(tactic| walk_at "mine:use") => `(tactic| (
  (case k1 => k_asm); (case k2 => k_asm); (case k3 => k_asm); (case k4 => k_asm); (case k5 => k_asm); (case kK => first | exact rfl | assumption); (case kd => ktr_room); (case ku => ktr_units)))
local macro_rules | `(tactic| walk_at "eval Call") => `(tactic| (k_here; k_dflt (refine Call_ ?_)))
local macro_rules | `(tactic| walk_at "eval Call Attribute") => `(tactic| (k_here; k_dflt (refine MethodCall_ ?_)))
theorem ne_of_lts {d : Addr} {news : Led} (h : ∀ p ∈ news, p.1 < d) : ∀ p ∈ news, p.1 ≠ d := fun p hp => Nat.ne_of_lt (h p hp)
theorem ne_gt {a b : Addr} (h : a < b) : b ≠ a := Nat.ne_of_gt h
/-- the dict of a Wire -/
abbrev wd (w : World) (b : Array UInt8) (t : Tok) (n : Int) (tn : Tok) (k1 k2 : Tok) : Obj :=
  dictOf [⟨PyData.keyHash w.params (Str.ofString "data"), .str (Str.ofString "data") k1, .bytes b t⟩, ⟨PyData.keyHash w.params (Str.ofString "at"), .str (Str.ofString "at") k2, .int n tn⟩] 2
local macro_rules | `(tactic| k_upd) => `(tactic| first | exact Upd.head (by assumption) | (refine' Upd.tail ?a ?b; (case a => first | assumption | k_ne); (case b => k_upd)))
section
local macro_rules | `(tactic| walk_at "call ref") => `(tactic| (k_here; k_dflt (refine' call_cls ?k1 ?k2 ?k3 ?k4 ?k5 ?k6 ?_; (case k1 => k_asm); (case k2 => k_asm); (case k3 => k_asm); (case k4 => k_is); (case k5 => k_is); (case k6 => k_is); k_whole; intro x' d' h' F' N' l1 l2; (have l3 := ne_of_lts l1); (have l4 := ne_gt l2); (walk_at "mine:enterD"))))
theorem c_wire (w : World) (news : Led) (b : Array UInt8) (t tn : Tok) (n : Int) : Ct w 362 4 (news) [.bytes b t, .int n tn] (fun v news' => ∃ W d tn k1 k2, v = .ref W ∧ W ≠ d ∧ (∀ p ∈ news, p.1 ≠ d) ∧ (∀ p ∈ news, p.1 < d) ∧ d < W ∧ news' = (W, instObj 362 d) :: (d, wd w b t n tn k1 k2) :: news) := by
  walk_at "mine:fill"
  unfold Ct
  intro mean mg mb dp un gd cn cs a ccd cl outer A₀ base h₀ L m s Q E B F X N T hk hd hu ret
  k_steps
  all_goals (exact ret _ _ _ _ ⟨_, _, _, _, _, rfl, by assumption, by assumption, by assumption, by assumption, rfl⟩ (by k_asm) (by k_asm))
theorem c_wire0 (w : World) (news : Led) (b : Array UInt8) (t : Tok) : Ct w 362 4 (news) [.bytes b t] (fun v news' => ∃ W d tn k1 k2, v = .ref W ∧ W ≠ d ∧ (∀ p ∈ news, p.1 ≠ d) ∧ (∀ p ∈ news, p.1 < d) ∧ d < W ∧ news' = (W, instObj 362 d) :: (d, wd w b t 0 tn k1 k2) :: news) := by
  walk_at "mine:fill"
  unfold Ct
  intro mean mg mb dp un gd cn cs a ccd cl outer A₀ base h₀ L m s Q E B F X N T hk hd hu ret
  k_steps
  all_goals (exact ret _ _ _ _ ⟨_, _, _, _, _, rfl, by assumption, by assumption, by assumption, by assumption, rfl⟩ (by k_asm) (by k_asm))
end
section
def peekI (ks : List Int) (n : Nat) : Int := if n < ks.length then ks.getD n 0 else -1
theorem peek_yes {ks : List Int} {n : Nat} (h : (n : Int) < (ks.length : Int)) : ks.getD (n : Int).toNat 0 = peekI ks n := by
  have : n < ks.length := by omega
  rw [peekI, if_pos this]; rfl
theorem peek_no {ks : List Int} {n : Nat} (h : ¬(n : Int) < (ks.length : Int)) : -1 = peekI ks n := by
  have : ¬n < ks.length := by omega
  rw [peekI, if_neg this]
theorem cut_eq (ks : List Int) (n j : Nat) : List.take (clipAt ks.length ((n : Int) + (j : Int)) - min n ks.length) (List.drop (min n ks.length) ks) = (ks.drop n).take j := by
  rw [show ((n : Int) + (j : Int)) = ((n + j : Nat) : Int) from rfl, clipAt_nat]
  by_cases h : n ≤ ks.length
  · rw [Nat.min_eq_left h]
    by_cases h2 : n + j ≤ ks.length
    · rw [Nat.min_eq_left h2, Nat.add_sub_cancel_left]
    · rw [Nat.min_eq_right (by omega), List.take_of_length_le (by simp), List.take_of_length_le (by simp; omega)]
  · rw [Nat.min_eq_right (by omega : ks.length ≤ n), List.drop_of_length_le (Nat.le_refl _), List.drop_of_length_le (by omega)]
    simp
theorem same_ints {x o : Array UInt8} {xs os : List Int} (hx : bInts x = xs) (ho : bInts o = os) : (x.toList != o.toList) = !decide (xs = os) := by
  have inj : ∀ l r : List UInt8, (l.map fun c => (c.toNat : Int)) = (r.map fun c => (c.toNat : Int)) → l = r := by
    intro l; induction l with
    | nil => intro r h; cases r with | nil => rfl | cons _ _ => cases h
    | cons a l ih => intro r h; cases r with
      | nil => cases h
      | cons b r =>
        simp only [List.map_cons, List.cons.injEq] at h
        obtain ⟨h1, h2⟩ := h
        rw [ih r h2, UInt8.toNat_inj.mp (by omega : a.toNat = b.toNat)]
  subst hx; subst ho
  have : (x.toList = o.toList) ↔ (bInts x = bInts o) := ⟨fun h => by unfold KBw.bInts; rw [h], fun h => inj _ _ h⟩
  unfold bne
  by_cases h : bInts x = bInts o
  · rw [decide_eq_true h, show (x.toList == o.toList) = true from beq_iff_eq.mpr (this.mpr h)]
  · rw [decide_eq_false h, show (x.toList == o.toList) = false from beq_eq_false_iff_ne.mpr fun e => h (this.mp e)]
theorem skip_no {ks os : List Int} {n : Nat} {x o : Array UInt8} (hx : bInts x = List.take (clipAt ks.length ((n : Int) + (os.length : Int)) - min n ks.length) (List.drop (min n ks.length) ks)) (ho : bInts o = os) (a : (x.toList != o.toList) = true) : ¬(ks.drop n).take os.length = os := by
  rw [cut_eq] at hx
  rw [same_ints hx ho] at a
  simpa using a
theorem skip_yes {ks os : List Int} {n : Nat} {x o : Array UInt8} (hx : bInts x = List.take (clipAt ks.length ((n : Int) + (os.length : Int)) - min n ks.length) (List.drop (min n ks.length) ks)) (ho : bInts o = os) (a : (x.toList != o.toList) = false) : (ks.drop n).take os.length = os := by
  rw [cut_eq] at hx
  rw [same_ints hx ho] at a
  simpa using a
theorem Ct.mono {w : World} {f : Addr} {D : Nat} {news : Led} {vs : List Value} {post post' : Value → Led → Prop} (C : Ct w f D news vs post) (h : ∀ v n, post v n → post' v n) : Ct w f D news vs post' :=
  fun mean mg mb dp un gd cn cs a ccd cl outer A₀ base h₀ L m s Q E B F X N T hk hd hu ret => C mean mg mb dp un gd cn cs a ccd cl outer A₀ base h₀ L m s Q E B F X N T hk hd hu fun v n h' tk hp => ret v n h' tk (h v n hp)
theorem c_peek (w : World) (news : Led) (W d : Addr) (b : Array UInt8) (t tn k1 k2 : Tok) (n : Nat) (ks : List Int) (hb : bInts b = ks) (hz : ks.length ≤ 300) (hW : W ≠ d) (off : ∀ p ∈ news, p.1 ≠ d) : Ct w 206 2 ((W, instObj 362 d) :: (d, wd w b t n tn k1 k2) :: news) [.ref W] (fun v news' => (∃ t', v = .int (peekI ks n) t') ∧ news' = (W, instObj 362 d) :: (d, wd w b t n tn k1 k2) :: news) := by
  walk_at "mine:fill"
  unfold Ct
  intro mean mg mb dp un gd cn cs a ccd cl outer A₀ base h₀ L m s Q E B F X N T hk hd hu ret
  refine wpAny_call ?_
  k_dflt ktr_enter
  k_steps
  all_goals (first
    | (have e9 := peek_yes (ks := ks) (n := n) (by assumption)
       exact ret _ _ _ _ ⟨⟨_, congrArg (fun z => Value.int z _) e9⟩, rfl⟩ (by k_asm) (by k_asm))
    | (have e9 := peek_no (ks := ks) (n := n) (by assumption)
       exact ret _ _ _ _ ⟨⟨_, congrArg (fun z => Value.int z _) e9⟩, rfl⟩ (by k_asm) (by k_asm)))
theorem c_skip (w : World) (news : Led) (W d : Addr) (b : Array UInt8) (t tn k1 k2 : Tok) (n : Nat) (ks : List Int) (hb : bInts b = ks) (hz : ks.length ≤ 300) (hW : W ≠ d) (off : ∀ p ∈ news, p.1 ≠ d) (o : Array UInt8) (to : Tok) (os : List Int) (ho : bInts o = os) (hoz : os.length ≤ 300) : Ct w 213 2 ((W, instObj 362 d) :: (d, wd w b t n tn k1 k2) :: news) [.ref W, .bytes o to] (fun v news' => v = .bool (decide ((ks.drop n).take os.length = os)) ∧ ∃ tn k1 k2, news' = (W, instObj 362 d) :: (d, wd w b t ((if (ks.drop n).take os.length = os then n + os.length else n : Nat) : Int) tn k1 k2) :: news) := by
  walk_at "mine:fill"
  unfold Ct
  intro mean mg mb dp un gd cn cs a ccd cl outer A₀ base h₀ L m s Q E B F X N T hk hd hu ret
  refine wpAny_call ?_
  k_dflt ktr_enter
  k_steps
  all_goals (refine ret _ _ _ _ ?_ (by k_asm) (by k_asm))
  all_goals (first
    | (have e9 := skip_no (by assumption) ho (by assumption)
       exact ⟨congrArg Value.bool (decide_eq_false e9).symm, _, _, _, by rw [if_neg e9]⟩)
    | (have e9 := skip_yes (by assumption) ho (by assumption)
       exact ⟨congrArg Value.bool (decide_eq_true e9).symm, _, _, _, by rw [if_pos e9]; rfl⟩))
theorem c_skipY (w : World) (news : Led) (W d : Addr) (b : Array UInt8) (t tn k1 k2 : Tok) (n : Nat) (ks : List Int) (hb : bInts b = ks) (hz : ks.length ≤ 300) (hW : W ≠ d) (off : ∀ p ∈ news, p.1 ≠ d) (o : Array UInt8) (to : Tok) (os : List Int) (ho : bInts o = os) (hoz : os.length ≤ 300) (hM : (ks.drop n).take os.length = os) : Ct w 213 2 ((W, instObj 362 d) :: (d, wd w b t n tn k1 k2) :: news) [.ref W, .bytes o to] (fun v news' => v = .bool true ∧ ∃ tn k1 k2, news' = (W, instObj 362 d) :: (d, wd w b t ((n + os.length : Nat) : Int) tn k1 k2) :: news) :=
  (c_skip w news W d b t tn k1 k2 n ks hb hz hW off o to os ho hoz).mono fun v nw ⟨e, tn, k1, k2, e'⟩ => ⟨by rw [e]; simp [hM], tn, k1, k2, by rw [e', if_pos hM]⟩
theorem c_skipN (w : World) (news : Led) (W d : Addr) (b : Array UInt8) (t tn k1 k2 : Tok) (n : Nat) (ks : List Int) (hb : bInts b = ks) (hz : ks.length ≤ 300) (hW : W ≠ d) (off : ∀ p ∈ news, p.1 ≠ d) (o : Array UInt8) (to : Tok) (os : List Int) (ho : bInts o = os) (hoz : os.length ≤ 300) (hM : ¬(ks.drop n).take os.length = os) : Ct w 213 2 ((W, instObj 362 d) :: (d, wd w b t n tn k1 k2) :: news) [.ref W, .bytes o to] (fun v news' => v = .bool false ∧ ∃ tn k1 k2, news' = (W, instObj 362 d) :: (d, wd w b t n tn k1 k2) :: news) :=
  (c_skip w news W d b t tn k1 k2 n ks hb hz hW off o to os ho hoz).mono fun v nw ⟨e, tn, k1, k2, e'⟩ => ⟨by rw [e]; simp [hM], tn, k1, k2, by rw [e', if_neg hM]⟩
local macro_rules | `(tactic| walk_at "call ref") => `(tactic| ((with_reducible show wpAny _ _ (call (Value.ref 213) _) _ _ _); k_dflt (refine ct_auto (C := by exact c_skipY _ _ _ _ _ _ _ _ _ _ _ (by assumption) (by assumption) (by assumption) (by assumption) _ _ _ (by kba_ints2) (by kba_size) (by assumption)) (ret := ?_); walk_at "mine:oE")))
theorem c_need (w : World) (news : Led) (W d : Addr) (b : Array UInt8) (t tn k1 k2 : Tok) (n : Nat) (ks : List Int) (hb : bInts b = ks) (hz : ks.length ≤ 300) (hW : W ≠ d) (off : ∀ p ∈ news, p.1 ≠ d) (o : Array UInt8) (to : Tok) (os : List Int) (ho : bInts o = os) (hoz : os.length ≤ 300) (x : Str) (tx : Tok) (hM : (ks.drop n).take os.length = os) : Ct w 220 4 ((W, instObj 362 d) :: (d, wd w b t n tn k1 k2) :: news) [.ref W, .bytes o to, .str x tx] (fun v news' => v = .none ∧ ∃ tn k1 k2, news' = (W, instObj 362 d) :: (d, wd w b t ((n + os.length : Nat) : Int) tn k1 k2) :: news) := by
  walk_at "mine:fill"
  unfold Ct
  intro mean mg mb dp un gd cn cs a ccd cl outer A₀ base h₀ L m s Q E B F X N T hk hd hu ret
  refine wpAny_call ?_
  k_dflt ktr_enter
  k_steps
  all_goals (exact ret _ _ _ _ ⟨rfl, _, _, _, rfl⟩ (by k_asm) (by k_asm))
end
end
section
open PySem.W.KBw (bInts)
local macro_rules | `(tactic| lsm_bools) => `(tactic| assumption)
local macro_rules | `(tactic| walk_at "mine:fill") => `(tactic| (refine fill_in ?_; k_fill; intro _ _))
local macro_rules | `(tactic| walk_at "mine:use") => `(tactic| (
  (case k1 => k_asm); (case k2 => k_asm); (case k3 => k_asm); (case k4 => k_asm); (case k5 => k_asm); (case kK => first | exact rfl | assumption); (case kd => ktr_room); (case ku => ktr_units)))
local macro_rules | `(tactic| walk_at "eval Call") => `(tactic| (k_here; k_dflt (refine Call_ ?_)))
local macro_rules | `(tactic| walk_at "eval Call Attribute") => `(tactic| (k_here; k_dflt (refine MethodCall_ ?_)))
local macro_rules | `(tactic| k_upd) => `(tactic| first | exact Upd.head (by assumption) | (refine' Upd.tail ?a ?b; (case a => first | assumption | k_ne); (case b => k_upd)))
def Stop (G : Prop) : Prop := G
theorem stop {G : Prop} (h : Stop G) : G := h
theorem take_end {g : Int → Bool} : ∀ {xs : List Int} {j : Nat}, j ≤ xs.length → (xs.take j).all g = true → (j = xs.length ∨ g (xs.getD j 0) = false) → xs.takeWhile g = xs.take j
  | [], _, _, _, _ => by simp
  | x :: xs, 0, _, _, h => by
    rcases h with h | h
    · simp at h
    · have : g x = false := by simpa using h
      simp [List.takeWhile_cons, this]
  | x :: xs, j + 1, hj, ha, h => by
    simp only [List.take_succ_cons, List.all_cons, Bool.and_eq_true] at ha
    rw [List.takeWhile_cons, if_pos ha.1, List.take_succ_cons, take_end (by simpa using hj) ha.2 (by simpa using h)]
theorem cut_eq2 (ks : List Int) (n j : Nat) : List.take (min (n + j) ks.length - min n ks.length) (List.drop (min n ks.length) ks) = (ks.drop n).take j := by
  have := cut_eq ks n j
  rw [show ((n : Int) + (j : Int)) = ((n + j : Nat) : Int) from rfl, clipAt_nat] at this
  exact this
theorem drop_getD (ks : List Int) (n j : Nat) : (ks.drop n).getD j 0 = ks.getD (n + j) 0 := by
  simp only [List.getD_eq_getElem?_getD, List.getElem?_drop]
theorem take_snoc {g : Int → Bool} {xs : List Int} {j : Nat} (hj : j < xs.length) (ha : (xs.take j).all g = true) (hg : g (xs.getD j 0) = true) : (xs.take (j + 1)).all g = true := by
  rw [List.take_add_one, List.getElem?_eq_getElem hj, List.all_append, ha]
  have : xs.getD j 0 = xs[j] := by simp [hj]
  rw [this] at hg
  simp [hg]
section
local macro_rules | `(tactic| walk_at "call ref") => `(tactic| ((with_reducible show wpAny _ _ (call (Value.ref 149) _) _ _ _); k_dflt (refine ct_auto (C := c_is_astring _ _ _ _ (by assumption) (by assumption)) (ret := ?_)); walk_at "mine:oA"))
local macro_rules | `(tactic| walk_at "exec While") => `(tactic| (k_here; refine stop ?_))
theorem c_run_astr (w : World) (news : Led) (W d : Addr) (b : Array UInt8) (t tn k1 k2 : Tok) (n : Nat) (ks : List Int) (hb : bInts b = ks) (hz : ks.length ≤ 300) (hW : W ≠ d) (off : ∀ p ∈ news, p.1 ≠ d) : Ct w 241 5 ((W, instObj 362 d) :: (d, wd w b t n tn k1 k2) :: news) [.ref W, .ref 149] (fun v news' => (∃ b' t', v = .bytes b' t' ∧ bInts b' = (ks.drop n).takeWhile isAstr) ∧ ∃ tn k1 k2, news' = (W, instObj 362 d) :: (d, wd w b t ((n + ((ks.drop n).takeWhile isAstr).length : Nat) : Int) tn k1 k2) :: news) := by
  walk_at "mine:fill"
  unfold Ct
  intro mean mg mb dp un gd cn cs a ccd cl outer A₀ base h₀ L m s Q E B F X N T hk hd hu ret
  refine wpAny_call ?_
  k_dflt ktr_enter
  k_steps
  unfold Stop
  refine While_inv2 (fun k m' nx => m' = _ ∧ ∃ (j : Nat) (tj k1' k2' : Nat), k = (ks.drop n).length - j ∧ j ≤ (ks.drop n).length ∧ ((ks.drop n).take j).all isAstr = true ∧ nx = (W, instObj 362 d) :: (d, wd w b t ((n + j : Nat) : Int) tj k1' k2') :: news) (by k_asm) (by k_asm) ⟨rfl, 0, _, _, _, rfl, Nat.zero_le _, rfl, rfl⟩ ?_
  rintro k m₁ nx h tk F1 N1 ⟨rfl, j, tj, k1', k2', hk, hj, ha, rfl⟩
  have hjz : (ks.drop n).length = ks.length - n := List.length_drop
  k_steps
  · have hl : (n + j) < ks.length := Int.ofNat_lt.mp ‹((n + j : Nat) : Int) < (ks.length : Int)›
    have hg : isAstr ((ks.drop n).getD j 0) = true := by rw [drop_getD]; assumption
    exact ⟨_, _, _, _, (ks.drop n).length - (j + 1), rfl, by k_asm, by k_asm, by omega, rfl, j + 1, _, _, _, by omega, by omega, take_snoc (by omega) ha hg, rfl⟩
  · have hl : (n + j) < ks.length := Int.ofNat_lt.mp ‹((n + j : Nat) : Int) < (ks.length : Int)›
    have hg : isAstr ((ks.drop n).getD j 0) = false := by rw [drop_getD]; assumption
    have e9 := take_end hj ha (Or.inr hg)
    refine ret _ _ _ _ ?_ (by k_asm) (by k_asm)
    exact ⟨⟨_, _, rfl, by rw [e9]; exact Eq.trans (by assumption) (cut_eq2 ks n j)⟩, _, _, _, by rw [e9, List.length_take, Nat.min_eq_left hj]⟩
  · have hl : ¬(n + j) < ks.length := fun h9 => ‹¬((n + j : Nat) : Int) < (ks.length : Int)› (Int.ofNat_lt.mpr h9)
    have e9 := take_end hj ha (Or.inl (by omega))
    refine ret _ _ _ _ ?_ (by k_asm) (by k_asm)
    exact ⟨⟨_, _, rfl, by rw [e9]; exact Eq.trans (by assumption) (cut_eq2 ks n j)⟩, _, _, _, by rw [e9, List.length_take, Nat.min_eq_left hj]⟩
end
section
local macro_rules | `(tactic| walk_at "call ref") => `(tactic| ((with_reducible show wpAny _ _ (call (Value.ref 163) _) _ _ _); k_dflt (refine ct_auto (C := c_is_figure _ _ _ _) (ret := ?_)); walk_at "mine:oA"))
local macro_rules | `(tactic| walk_at "exec While") => `(tactic| (k_here; refine stop ?_))
local macro_rules | `(tactic| walk_at "mine:none0") => `(tactic| skip)
theorem c_run_fig (w : World) (news : Led) (W d : Addr) (b : Array UInt8) (t tn k1 k2 : Tok) (n : Nat) (ks : List Int) (hb : bInts b = ks) (hz : ks.length ≤ 300) (hW : W ≠ d) (off : ∀ p ∈ news, p.1 ≠ d) : Ct w 241 5 ((W, instObj 362 d) :: (d, wd w b t n tn k1 k2) :: news) [.ref W, .ref 163] (fun v news' => (∃ b' t', v = .bytes b' t' ∧ bInts b' = (ks.drop n).takeWhile isFig) ∧ ∃ tn k1 k2, news' = (W, instObj 362 d) :: (d, wd w b t ((n + ((ks.drop n).takeWhile isFig).length : Nat) : Int) tn k1 k2) :: news) := by
  walk_at "mine:fill"
  unfold Ct
  intro mean mg mb dp un gd cn cs a ccd cl outer A₀ base h₀ L m s Q E B F X N T hk hd hu ret
  refine wpAny_call ?_
  k_dflt ktr_enter
  k_steps
  unfold Stop
  refine While_inv2 (fun k m' nx => m' = _ ∧ ∃ (j : Nat) (tj k1' k2' : Nat), k = (ks.drop n).length - j ∧ j ≤ (ks.drop n).length ∧ ((ks.drop n).take j).all isFig = true ∧ nx = (W, instObj 362 d) :: (d, wd w b t ((n + j : Nat) : Int) tj k1' k2') :: news) (by k_asm) (by k_asm) ⟨rfl, 0, _, _, _, rfl, Nat.zero_le _, rfl, rfl⟩ ?_
  rintro k m₁ nx h tk F1 N1 ⟨rfl, j, tj, k1', k2', hk, hj, ha, rfl⟩
  have hjz : (ks.drop n).length = ks.length - n := List.length_drop
  k_steps
  · have hl : (n + j) < ks.length := Int.ofNat_lt.mp ‹((n + j : Nat) : Int) < (ks.length : Int)›
    have hg : isFig ((ks.drop n).getD j 0) = true := by rw [drop_getD]; assumption
    exact ⟨_, _, _, _, (ks.drop n).length - (j + 1), rfl, by k_asm, by k_asm, by omega, rfl, j + 1, _, _, _, by omega, by omega, take_snoc (by omega) ha hg, rfl⟩
  · have hl : (n + j) < ks.length := Int.ofNat_lt.mp ‹((n + j : Nat) : Int) < (ks.length : Int)›
    have hg : isFig ((ks.drop n).getD j 0) = false := by rw [drop_getD]; assumption
    have e9 := take_end hj ha (Or.inr hg)
    refine ret _ _ _ _ ?_ (by k_asm) (by k_asm)
    exact ⟨⟨_, _, rfl, by rw [e9]; exact Eq.trans (by assumption) (cut_eq2 ks n j)⟩, _, _, _, by rw [e9, List.length_take, Nat.min_eq_left hj]⟩
  · have hl : ¬(n + j) < ks.length := fun h9 => ‹¬((n + j : Nat) : Int) < (ks.length : Int)› (Int.ofNat_lt.mpr h9)
    have e9 := take_end hj ha (Or.inl (by omega))
    refine ret _ _ _ _ ?_ (by k_asm) (by k_asm)
    exact ⟨⟨_, _, rfl, by rw [e9]; exact Eq.trans (by assumption) (cut_eq2 ks n j)⟩, _, _, _, by rw [e9, List.length_take, Nat.min_eq_left hj]⟩
end
end
section
open PySem.W.KBw (bInts)
local macro_rules | `(tactic| lsm_bools) => `(tactic| assumption)
local macro_rules | `(tactic| walk_at "mine:fill") => `(tactic| (refine fill_in ?_; k_fill; intro _ _))
local macro_rules | `(tactic| walk_at "mine:use") => `(tactic| (
  (case k1 => k_asm); (case k2 => k_asm); (case k3 => k_asm); (case k4 => k_asm); (case k5 => k_asm); (case kK => first | exact rfl | assumption); (case kd => ktr_room); (case ku => ktr_units)))
local macro_rules | `(tactic| walk_at "eval Call") => `(tactic| (k_here; k_dflt (refine Call_ ?_)))
local macro_rules | `(tactic| walk_at "eval Call Attribute") => `(tactic| (k_here; k_dflt (refine MethodCall_ ?_)))
local macro_rules | `(tactic| k_upd) => `(tactic| first | exact Upd.head (by assumption) | (refine' Upd.tail ?a ?b; (case a => first | assumption | k_ne); (case b => k_upd)))
theorem digs_fig {n : Nat} (h : n ≤ 99) : (digs n).all isFig = true := by
  have : ∀ m : Fin 100, (digs m.val).all isFig = true := by decide +kernel
  exact this ⟨n, by omega⟩
theorem digs_num {n : Nat} (h : n ≤ 99) : figNum (digs n) = (n : Int) := by
  have : ∀ m : Fin 100, figNum (digs m.val) = ((m.val : Nat) : Int) := by decide +kernel
  exact this ⟨n, by omega⟩
theorem digs_pos (n : Nat) : 0 < (digs n).length := by unfold digs; split <;> simp
theorem takeWhile_stop {g : Int → Bool} : ∀ {xs : List Int} {y : Int} {ys : List Int}, xs.all g = true → g y = false → (xs ++ y :: ys).takeWhile g = xs
  | [], y, ys, _, h => by simp [List.takeWhile_cons, h]
  | x :: xs, y, ys, ha, h => by
    simp only [List.all_cons, Bool.and_eq_true] at ha
    rw [List.cons_append, List.takeWhile_cons, if_pos ha.1, takeWhile_stop ha.2 h]
theorem drop_more {ks xs ys : List Int} {n : Nat} (h : ks.drop n = xs ++ ys) : ks.drop (n + xs.length) = ys := by
  rw [← List.drop_drop, h, List.drop_left]
theorem take_front {ks xs ys : List Int} {n : Nat} (h : ks.drop n = xs ++ ys) : (ks.drop n).take xs.length = xs := by rw [h, List.take_left]
theorem drop_fits {ks xs ys : List Int} {n : Nat} (h : ks.drop n = xs ++ ys) (hx : 0 < xs.length) : n + xs.length ≤ ks.length := by
  have := congrArg List.length h
  rw [List.length_drop, List.length_append] at this
  omega
theorem litT {ks cs post : List Int} {n : Nat} (hz : cs.length ≤ 99) (h : ks.drop n = litO cs true ++ post) :
    (ks.drop n).take ([123] : List Int).length = [123] ∧ (ks.drop (n + ([123] : List Int).length)).takeWhile isFig = digs cs.length ∧
    (ks.drop (n + ([123] : List Int).length + (digs cs.length).length)).take ([43] : List Int).length = [43] ∧
    (ks.drop (n + ([123] : List Int).length + (digs cs.length).length + ([43] : List Int).length)).take ([125, 13, 10] : List Int).length = [125, 13, 10] ∧
    (ks.drop (n + ([123] : List Int).length + (digs cs.length).length + ([43] : List Int).length + ([125, 13, 10] : List Int).length)).take cs.length = cs ∧
    n + ([123] : List Int).length + (digs cs.length).length + ([43] : List Int).length + ([125, 13, 10] : List Int).length + cs.length ≤ ks.length ∧
    n + ([123] : List Int).length + (digs cs.length).length + ([43] : List Int).length + ([125, 13, 10] : List Int).length + cs.length = n + (litO cs true).length := by
  have h0 : ks.drop n = [123] ++ (digs cs.length ++ ([43] ++ ([125, 13, 10] ++ (cs ++ post)))) := by rw [h]; simp [litO]
  have h1 := drop_more h0
  have h2 := drop_more h1
  have h3 := drop_more h2
  have h4 := drop_more h3
  refine ⟨take_front h0, ?_, take_front h2, take_front h3, take_front h4, ?_, ?_⟩
  · rw [h1]; exact takeWhile_stop (digs_fig hz) (by decide)
  · have a := drop_fits h3 (by simp)
    have b := congrArg List.length h4
    rw [List.length_drop, List.length_append] at b
    omega
  · simp [litO]; omega
theorem litF {ks cs post : List Int} {n : Nat} (hz : cs.length ≤ 99) (h : ks.drop n = litO cs false ++ post) :
    (ks.drop n).take ([123] : List Int).length = [123] ∧ (ks.drop (n + ([123] : List Int).length)).takeWhile isFig = digs cs.length ∧
    ¬(ks.drop (n + ([123] : List Int).length + (digs cs.length).length)).take ([43] : List Int).length = [43] ∧
    (ks.drop (n + ([123] : List Int).length + (digs cs.length).length)).take ([125, 13, 10] : List Int).length = [125, 13, 10] ∧
    (ks.drop (n + ([123] : List Int).length + (digs cs.length).length + ([125, 13, 10] : List Int).length)).take cs.length = cs ∧
    n + ([123] : List Int).length + (digs cs.length).length + ([125, 13, 10] : List Int).length + cs.length ≤ ks.length ∧
    n + ([123] : List Int).length + (digs cs.length).length + ([125, 13, 10] : List Int).length + cs.length = n + (litO cs false).length := by
  have h0 : ks.drop n = [123] ++ (digs cs.length ++ ([125, 13, 10] ++ (cs ++ post))) := by rw [h]; simp [litO]
  have h1 := drop_more h0
  have h2 := drop_more h1
  have h4 := drop_more h2
  refine ⟨take_front h0, ?_, ?_, take_front h2, take_front h4, ?_, ?_⟩
  · rw [h1]; exact takeWhile_stop (digs_fig hz) (by decide)
  · rw [h2]; simp
  · have a := drop_fits h2 (by simp)
    have b := congrArg List.length h4
    rw [List.length_drop, List.length_append] at b
    omega
  · simp [litO]; omega
section
local macro_rules | `(tactic| walk_at "call ref") => `(tactic| ((with_reducible show wpAny _ _ (call (Value.ref 220) _) _ _ _); k_dflt (refine ct_auto (C := by first | exact c_need _ _ _ _ _ _ _ _ _ _ _ (by assumption) (by assumption) (by assumption) (by assumption) _ _ [123] rfl (by decide) _ _ (by assumption) | exact c_need _ _ _ _ _ _ _ _ _ _ _ (by assumption) (by assumption) (by assumption) (by assumption) _ _ [125, 13, 10] (by first | rfl | exact KBw.ints_app rfl rfl) (by decide) _ _ (by assumption)) (ret := ?_); walk_at "mine:oE")))
local macro_rules | `(tactic| walk_at "call ref") => `(tactic| ((with_reducible show wpAny _ _ (call (Value.ref 241) _) _ _ _); k_dflt (refine ct_auto (C := by exact c_run_fig _ _ _ _ _ _ _ _ _ _ _ (by assumption) (by assumption) (by assumption) (by assumption)) (ret := ?_); intro v9 n9 h9 tk9 hp9 F9 N9; obtain ⟨⟨b9, t9, e9, hb9⟩, tn9, k19, k29, e9'⟩ := hp9; (rename List.takeWhile isFig _ = digs _ => hr9); rw [hr9] at hb9 e9'; subst e9; subst e9'; (try dsimp only); (try k_fold))))
local macro_rules | `(tactic| walk_at "call ref") => `(tactic| ((with_reducible show wpAny _ _ (call (Value.ref 213) _) _ _ _); k_dflt (refine ct_auto (C := by first | exact c_skipY _ _ _ _ _ _ _ _ _ _ _ (by assumption) (by assumption) (by assumption) (by assumption) _ _ [43] rfl (by decide) (by assumption) | exact c_skipN _ _ _ _ _ _ _ _ _ _ _ (by assumption) (by assumption) (by assumption) (by assumption) _ _ [43] rfl (by decide) (by assumption)) (ret := ?_); walk_at "mine:oE")))
local macro_rules | `(tactic| walk_at "call ref") => `(tactic| ((with_reducible show wpAny _ _ (call (Value.ref 170) _) _ _ _); k_dflt (refine ct_auto (C := c_number _ _ _ _ _ (by kba_ints) (by kba_size)) (ret := ?_)); intro v9 n9 h9 tk9 hp9 F9 N9; obtain ⟨⟨t9, e9⟩, e9'⟩ := hp9; (rename figNum _ = _ => hf9); rw [hf9] at e9; subst e9; subst e9'; (try dsimp only); (try k_fold)))
local macro_rules | `(tactic| walk_at "call type:bytes") => `(tactic| (k_here; (with_reducible show wpAny _ _ (call (Value.type "bytes") [Value.bytes _ _]) _ _ _); k_dflt (refine bytes_of_bytes ?_)))
theorem c_litW (w : World) (news : Led) (W d : Addr) (b : Array UInt8) (t tn k1 k2 : Tok) (n : Nat) (ks : List Int) (hb : bInts b = ks) (hz : ks.length ≤ 300) (hW : W ≠ d) (off : ∀ p ∈ news, p.1 ≠ d) (xs post : List Int) (p : Bool) (hL : ks.drop n = litO xs p ++ post) (hcz : xs.length ≤ 99) : Ct w 304 8 ((W, instObj 362 d) :: (d, wd w b t n tn k1 k2) :: news) [.ref W] (fun v news' => (∃ b' t', v = .bytes b' t' ∧ bInts b' = xs) ∧ ∃ tn k1 k2, news' = (W, instObj 362 d) :: (d, wd w b t ((n + (litO xs p).length : Nat) : Int) tn k1 k2) :: news) := by
  walk_at "mine:fill"
  unfold Ct
  intro mean mg mb dp un gd cn cs a ccd cl outer A₀ base h₀ L m s Q E B F X N T hk hd hu ret
  refine wpAny_call ?_
  k_dflt ktr_enter
  have hfn := digs_num hcz
  have hd1 := digs_pos xs.length
  have hd2 := digs_le xs.length
  cases p
  · obtain ⟨f1, f2, f3, f4, f5, f6, f7⟩ := litF hcz hL
    k_steps
    all_goals (first
      | (exfalso
         have h9 : ((digs xs.length).length : Int) = 0 := by assumption
         omega)
      | (refine ret _ _ _ _ ?_ (by k_asm) (by k_asm)
         exact ⟨⟨_, _, rfl, Eq.trans (by assumption) ((cut_eq ks _ xs.length).trans f5)⟩, _, _, _, by rw [← f7]; rfl⟩))
  · obtain ⟨f1, f2, f3, f4, f5, f6, f7⟩ := litT hcz hL
    k_steps
    all_goals (first
      | (exfalso
         have h9 : ((digs xs.length).length : Int) = 0 := by assumption
         omega)
      | (refine ret _ _ _ _ ?_ (by k_asm) (by k_asm)
         exact ⟨⟨_, _, rfl, Eq.trans (by assumption) ((cut_eq ks _ xs.length).trans f5)⟩, _, _, _, by rw [← f7]; rfl⟩))
end
end
section
open Builtin._codecs
open PySem.W.KBw (bInts)
theorem fold_ascii (l : List Nat) (acc : Array UInt8) : l.foldl (fun acc y => acc ++ (asciiCodec.bytesOf y).toArray) acc = acc ++ (l.map (·.toUInt8)).toArray := by
  induction l generalizing acc with
  | nil => simp
  | cons c l ih => rw [List.foldl_cons, ih]; simp [asciiCodec]
theorem narrow_ascii {id : String} {self : Value} {c : Nat} {l : List Nat} (h : ∀ y ∈ c :: l, y < 128) (hlen : (c :: l).length ≤ 1000) : encodeNarrow id asciiCodec none self ⟨(c :: l).toArray⟩ = pure ((c :: l).map (·.toUInt8)).toArray := by
  have hn : (c :: l).toArray.findIdx? asciiCodec.bad = none := by
    rw [List.findIdx?_toArray, List.findIdx?_eq_none_iff]
    intro y hy
    have := h y hy
    simp [asciiCodec]; omega
  unfold encodeNarrow
  have loop : ∀ {β : Type} (f : Nat → β → Sem (ForInStep β)) (s0 s1 : β) (k : Nat), (∀ i, f i s0 = pure (.yield s1)) → (∀ i, f i s1 = pure (.done s1)) → (forIn [0:k + 1] s0 f : Sem β) = pure s1 := by
    intro β f s0 s1 k h0 h1
    rw [Std.Legacy.Range.forIn_eq_forIn_range']
    simp only [Std.Legacy.Range.size, Nat.sub_zero, Nat.add_sub_cancel, Nat.div_one, List.range'_succ, List.forIn_cons, h0]
    show (forIn (List.range' (0 + 1) k 1) s1 f : Sem β) = pure s1
    cases k with
    | zero => rfl
    | succ k =>
      simp only [List.range'_succ, List.forIn_cons, h1]
      rfl
  have hx : (c :: l).toArray.extract 0 (c :: l).toArray.size = (c :: l).toArray := by simp
  have hz : ¬(#[] : Array UInt8).size > sizeLine := by simp
  have hc : asciiCodec.bad c = false := by have := h c List.mem_cons_self; simp [asciiCodec]; omega
  show (forIn [0:l.length + 1] _ _ >>= _) = _
  rw [loop _ _ ((c :: l).length, ((c :: l).map (·.toUInt8)).toArray, {}) l.length]
  · rfl
  · intro i
    simp only [if_neg hz, List.getElem?_toArray, List.getElem?_cons_zero, hc, Bool.not_false, if_true]
    rw [hx, hn]
    simp only [Option.getD_none, Nat.zero_add]
    rw [hx, ← Array.foldl_toList, fold_ascii]
    simp
  · intro i
    simp only [List.getElem?_toArray, List.getElem?_eq_none (Nat.le_refl (c :: l).length)]
    rw [if_neg (by rw [sizeLine_eq, List.size_toArray, List.length_map]; omega)]
theorem encode_road {self : Value} {x : Str} : encodeRoad "str.encode" self x (Str.ofString "ascii") none = (encodeNarrow "str.encode" asciiCodec none self x >>= fun b => mkBytes b) := by
  first | rfl | kernel_rfl
theorem encode_tree2 (x : Str) (t u : Tok) : Builtin.«str.encode» ⟨[.str x t, .str (Str.ofString "ascii") u], []⟩ = (encodeRoad "str.encode" (.str x t) x (Str.ofString "ascii") none >>= fun r => ret r) := by
  first | rfl | kernel_rfl
section
variable {prog : Program} {w : World} {A : Around} {E : Value → Shared → Prop} {s : Shared}
theorem enc_method {M : Model} {x : Str} {t : Tok} {pl : Sem Bool} {Q : Value × List Value → Shared → Prop} (h : Q (.builtin "str.encode", [.str x t]) s) : wpAny M A (getMethod (.str x t) (Str.ofString "encode") pl) Q E s := by
  with_reducible exact GM.of (.str x t) (typeIs_str _ _ _) F.slot_str_encode F.type_str_encode GM.noRef h
theorem meets_encode {x : Str} {t u : Tok} (h : ∀ y ∈ x.cps.toList, y < 128) (h0 : 0 < x.cps.toList.length) (hz : x.cps.toList.length ≤ 1000) :
    Meets (Builtin.«str.encode» ⟨[.str x t, .str (Str.ofString "ascii") u], []⟩) (fun _ R s => ∀ b t' k, bInts b = x.cps.toList.map Int.ofNat → R (.ok (.ret (.bytes b t'))) { s with toks := k }) := by
  refine .of_wp fun prog w A R s hS => ?_
  rw [encode_tree2, encode_road]
  obtain ⟨cs⟩ := x
  obtain ⟨l⟩ := cs
  cases l with
  | nil => exact absurd h0 (by simp)
  | cons c l =>
    have h' : ∀ y ∈ c :: l, y < 128 := h
    have hz' : (c :: l).length ≤ 1000 := hz
    rw [narrow_ascii h' hz']
    refine wpAny_bind (wpAny_bind (wpAny_pure ?_))
    refine wpAny_mkBytes (wpAny_pure ⟨_, rfl, hS _ _ _ ?_⟩) (by rw [sizeLine_eq, List.size_toArray, List.length_map]; omega)
    show ((c :: l).map (·.toUInt8)).map (fun y => (y.toNat : Int)) = (c :: l).map Int.ofNat
    rw [List.map_map]
    refine List.map_congr_left fun y hy => ?_
    have := h' y hy
    show (((y.toUInt8).toNat : Nat) : Int) = (y : Int)
    rw [show (y.toUInt8).toNat = y from by simp [Nat.toUInt8, UInt8.toNat_ofNat']; omega]
theorem str_encode {x : Str} {t u : Tok} {Q : Value → Shared → Prop} (h : ∀ y ∈ x.cps.toList, y < 128) (h0 : 0 < x.cps.toList.length) (hz : x.cps.toList.length ≤ 1000)
    (hQ : ∀ b t' k, bInts b = x.cps.toList.map Int.ofNat → Q (.bytes b t') { s with toks := k }) : wpAny (model prog w) A (call (.builtin "str.encode") [.str x t, .str (Str.ofString "ascii") u]) Q E s :=
  call_meets F.slot_str_encode (typeIs_str _ _ _) F.entry_str_encode (F.args_str_encode_2 _ _) (meets_encode h h0 hz) hQ
end
end
section
open PySem.W.KBw (bInts)
local macro_rules | `(tactic| walk_at "eval Call") => `(tactic| (k_here; k_dflt (refine Call_ ?_)))
local macro_rules | `(tactic| walk_at "eval Call Attribute") => `(tactic| (k_here; k_dflt (refine MethodCall_ ?_)))
theorem allLt_mem {d : Addr} : ∀ {l : Led}, AllLt d l → ∀ p ∈ l, p.1 < d
  | [], _, p, h => nomatch h
  | _ :: _, x, p, h => by
    rcases List.mem_cons.mp h with rfl | h
    · exact x.1
    · exact allLt_mem x.2 p h
theorem News.drop2 {h₀ h : Heap} {L : Addr} {p q : Addr × Obj} {r : Led} (N : News h₀ L h (p :: q :: r)) : News h₀ L h (p :: r) := fun z hz => by
  rcases List.mem_cons.mp hz with rfl | hz
  · exact N _ List.mem_cons_self
  · exact N _ (List.mem_cons_of_mem _ (List.mem_cons_of_mem _ hz))
theorem bits7 {a : Int} (h0 : 0 ≤ a) (h : a < 10 ^ Int.toNat 50) : (Builtin.Int.intBits a : Int) * 7 ≤ 2 ^ 27 := by
  have hb : Builtin.Int.intBits a ≤ 200 := by
    unfold Builtin.Int.intBits
    by_cases h1 : (a == 0) = true
    · rw [if_pos h1]; omega
    · rw [if_neg h1]
      have ha : a.natAbs ≠ 0 := by intro h2; apply h1; simp [Int.natAbs_eq_zero.mp h2]
      have h3 : a.natAbs < 2 ^ 199 := by
        have h4 : (10 : Int) ^ Int.toNat 50 < 2 ^ 199 := by decide +kernel
        have h5 : ((a.natAbs : Nat) : Int) = a := Int.natAbs_of_nonneg h0
        have h6 : ((a.natAbs : Nat) : Int) < ((2 ^ 199 : Nat) : Int) := by rw [h5]; exact Int.lt_trans h (by simpa using h4)
        exact Int.ofNat_lt.mp h6
      have := (Nat.log2_lt ha).mpr h3
      omega
  have : (Builtin.Int.intBits a : Int) ≤ 200 := by omega
  have h9 : (200 * 7 : Int) ≤ 2 ^ 27 := by decide
  omega
/-- a contract that asks something of the ground heap besides -/
def CtH (w : World) (f : Addr) (D : Nat) (pre : Heap → Prop) (news : Led) (vs : List Value) (post : Value → Led → Prop) : Prop :=
  ∀ (mean : ExcName → Option Value) (mg mb : Str → Option Value) (dp un : Nat) (gd : Option (List Code)) (cn : Str) (cs : Scope) (a : Addr) (ccd : Value) (cl : List (Str × Addr)) (outer : List Env) (A₀ : Around) (base h₀ : Heap) (L : Addr) (m : Str → Option Value) (s : Shared) (Q E : Value → Shared → Prop),
    pre h₀ → Below A₀ base outer h₀ → Fr h₀ L s.heap m → (K w.params).In h₀ → News h₀ L s.heap news → TopM mean mg mb h₀ → cs.kind = .function → dp + D < recursionLimit → un + 8 * D < cLine →
    (∀ v news' h' tk', post v news' → Fr h₀ L h' m → News h₀ L h' news' → Q v { s with heap := h', toks := tk' }) →
    wpAny (model pw_nz0308_01 w) (ktrTop dp un gd cn cs L a ccd cl outer) (call (.ref f) vs) Q E s
section
local macro_rules | `(tactic| walk_at "binaryOp Pow int int") => `(tactic| (k_here; k_dflt (refine' pow_int (by decide) ?hs ?_; (case hs => exact bits7 (by assumption) (by assumption)))))
local macro_rules | `(tactic| walk_at "exec For") => `(tactic| (k_here; (rename Fr _ _ _ _ => lF'); (with_unfolding_all refine' For_invVF lF' ?k1 ?k2 ?_; (case k1 => exact rfl); (case k2 => exact rfl); k_whole)))
local macro_rules | `(tactic| walk_at "pyIter ref") => `(tactic| ((walk_at "mine:fn"); k_dflt (refine' iter_list_int (y := Str.ofString "number") ?hxy ?hh ?hD ?hi ?kF ?kN ?hy ?ha ?turn6 ?done6; (case kF => exact cF'); (case kN => exact cN'); (case hxy => decide); (case hh => rfl); (case hD => k_mem); (case hi => assumption); (case hy => rfl); (case ha => decide); (case' turn6 => (clear cF' cN'; intro k t a ta h tk I oI hnn hoff F N)); (case' done6 => (clear cF' cN'; intro u a ta h tk hnn F N)))))
theorem c_bag (w : World) (news : Led) (S : Addr) (vs : List Value) (ns : List Int) (hi : IntsAre vs ns) (hz : ns.length ≤ 16777216) : CtH w 414 6 (fun h => h.IsList S vs.toArray) news [.ref S] (fun v news' => ∃ B n t k, v = .ref B ∧ (∀ p ∈ news, p.1 < B) ∧ news' = (B, one n t k) :: news) := by
  walk_at "mine:fill"
  unfold CtH
  intro mean mg mb dp un gd cn cs a ccd cl outer A₀ base h₀ L m s Q E hl B F X N T hk hd hu ret
  refine wpAny_call ?_
  k_dflt ktr_enter
  rename_i g9 L9 h9 FG9 F9 N9 B9 X9 T9
  have hl9 : g9.IsList S vs.toArray := hl.at fun o e => FG9.keep S o e
  k_steps
  all_goals (first
    | ((with_reducible show LoopPost _ _ _ _ _ _ _ _ _)
       exact ⟨_, _, _, _, rfl, by k_asm, by k_asm, by assumption, rfl, ⟨_, _, rfl, Int.add_nonneg (Int.mul_nonneg (by assumption) (by decide)) (fmod_lo _ (by decide))⟩, by kba_same⟩)
    | ((with_reducible show Q (Value.ref _) _)
       (with_reducible rename News _ _ _ _ => kN9)
       (with_reducible rename _ ∧ AllLt _ _ => lB9)
       exact ret _ _ _ _ ⟨_, _, _, _, rfl, allLt_mem lB9.2, rfl⟩ (by k_asm) (News.drop2 kN9))
    | trace_state)
end
end
section
open PySem.W.KBw (bInts)
local macro_rules | `(tactic| walk_at "eval Call") => `(tactic| (k_here; k_dflt (refine Call_ ?_)))
local macro_rules | `(tactic| walk_at "eval Call Attribute") => `(tactic| (k_here; k_dflt (refine MethodCall_ ?_)))
theorem mem_in {b : Array UInt8} {ks : List Int} {k : Int} (hb : bInts b = ks) (h : k ∈ ks) : 0 ≤ k ∧ k < 256 := by
  subst hb; exact KBw.ints_in h
def esc (c : Int) : List Int := if c = 34 ∨ c = 92 then [92, c] else [c]
def lawS (ks : List Int) (p : Bool) : List Int := if quotable ks then [34] ++ ks.flatMap esc ++ [34] else litO ks p
def isOdd (c : Int) : Bool := decide (c < 32) || decide (126 < c)
theorem odd1 {c : Int} (h : c < 32) : true = isOdd c := by simp [isOdd, h]
theorem odd2 {c : Int} (h1 : ¬c < 32) (h : 126 < c) : true = isOdd c := by simp [isOdd, h]
theorem odd3 {c : Int} (h1 : ¬c < 32) (h : ¬126 < c) : false = isOdd c := by simp [isOdd, h1, h]
theorem esc_le (c : Int) : (esc c).length ≤ 2 := by unfold esc; split <;> simp
theorem escs_le (l : List Int) : (l.flatMap esc).length ≤ 2 * l.length := by
  induction l with
  | nil => simp
  | cons c l ih => have := esc_le c; simp only [List.flatMap_cons, List.length_append, List.length_cons]; omega
theorem escs_len {vs : List Value} {ks : List Int} (_ : IntsAre vs (ks.flatMap esc)) : (ks.flatMap esc).length ≤ 2 * ks.length := escs_le ks
theorem pre_size {ks pre post : List Int} {k : Int} (h : ks = pre ++ k :: post) (hz : ks.length ≤ 99) : (pre.flatMap esc).length ≤ 198 := by
  have := escs_le pre
  rw [h] at hz
  simp only [List.length_append, List.length_cons] at hz
  omega
theorem pre_in {b : Array UInt8} {ks pre post : List Int} {k : Int} (hb : bInts b = ks) (h : ks = pre ++ k :: post) : 0 ≤ k ∧ k < 256 := mem_in hb (by rw [h]; simp)
theorem esc_in {b : Array UInt8} {ks : List Int} (hb : bInts b = ks) : KBa.In ([34] ++ ks.flatMap esc ++ [34]) := by
  intro n hn
  simp only [List.mem_append, List.mem_singleton, List.mem_flatMap] at hn
  rcases hn with (rfl | ⟨k, hk, h⟩) | rfl
  · decide
  · have := mem_in hb hk
    unfold esc at h
    split at h
    · simp only [List.mem_cons, List.not_mem_nil, or_false] at h; rcases h with rfl | rfl <;> omega
    · simp only [List.mem_singleton] at h; subst h; exact this
  · decide
theorem esc_yes {c : Int} (h : c = 34 ∨ c = 92) : esc c = [92, c] := if_pos h
theorem esc_no {c : Int} (h : ¬(c = 34 ∨ c = 92)) : esc c = [c] := if_neg h
theorem txt_plus {n : Nat} (h : n ≤ 99) : (∀ y ∈ (Str.ofString "{" ++ Str.ofString (toString (n : Int)) ++ Str.ofString "+" ++ Str.ofString "}").cps.toList, y < 128) ∧ 0 < (Str.ofString "{" ++ Str.ofString (toString (n : Int)) ++ Str.ofString "+" ++ Str.ofString "}").cps.toList.length ∧ (Str.ofString "{" ++ Str.ofString (toString (n : Int)) ++ Str.ofString "+" ++ Str.ofString "}").cps.toList.length ≤ 1000 ∧
    (Str.ofString "{" ++ Str.ofString (toString (n : Int)) ++ Str.ofString "+" ++ Str.ofString "}").cps.toList.map Int.ofNat = [123] ++ digs n ++ [43, 125] := by
  have : ∀ m : Fin 100, ((Str.ofString "{" ++ Str.ofString (toString ((m.val : Nat) : Int)) ++ Str.ofString "+" ++ Str.ofString "}").cps.toList.all (fun y => decide (y < 128))) = true ∧ 0 < (Str.ofString "{" ++ Str.ofString (toString ((m.val : Nat) : Int)) ++ Str.ofString "+" ++ Str.ofString "}").cps.toList.length ∧ (Str.ofString "{" ++ Str.ofString (toString ((m.val : Nat) : Int)) ++ Str.ofString "+" ++ Str.ofString "}").cps.toList.length ≤ 1000 ∧
    (Str.ofString "{" ++ Str.ofString (toString ((m.val : Nat) : Int)) ++ Str.ofString "+" ++ Str.ofString "}").cps.toList.map Int.ofNat = [123] ++ digs m.val ++ [43, 125] := by decide +kernel
  obtain ⟨a, b, c, d⟩ := this ⟨n, by omega⟩
  exact ⟨fun y hy => of_decide_eq_true (List.all_eq_true.mp a y hy), b, c, d⟩
theorem txt_none {n : Nat} (h : n ≤ 99) : (∀ y ∈ (Str.ofString "{" ++ Str.ofString (toString (n : Int)) ++ Str.ofString "" ++ Str.ofString "}").cps.toList, y < 128) ∧ 0 < (Str.ofString "{" ++ Str.ofString (toString (n : Int)) ++ Str.ofString "" ++ Str.ofString "}").cps.toList.length ∧ (Str.ofString "{" ++ Str.ofString (toString (n : Int)) ++ Str.ofString "" ++ Str.ofString "}").cps.toList.length ≤ 1000 ∧
    (Str.ofString "{" ++ Str.ofString (toString (n : Int)) ++ Str.ofString "" ++ Str.ofString "}").cps.toList.map Int.ofNat = [123] ++ digs n ++ [125] := by
  have : ∀ m : Fin 100, ((Str.ofString "{" ++ Str.ofString (toString ((m.val : Nat) : Int)) ++ Str.ofString "" ++ Str.ofString "}").cps.toList.all (fun y => decide (y < 128))) = true ∧ 0 < (Str.ofString "{" ++ Str.ofString (toString ((m.val : Nat) : Int)) ++ Str.ofString "" ++ Str.ofString "}").cps.toList.length ∧ (Str.ofString "{" ++ Str.ofString (toString ((m.val : Nat) : Int)) ++ Str.ofString "" ++ Str.ofString "}").cps.toList.length ≤ 1000 ∧
    (Str.ofString "{" ++ Str.ofString (toString ((m.val : Nat) : Int)) ++ Str.ofString "" ++ Str.ofString "}").cps.toList.map Int.ofNat = [123] ++ digs m.val ++ [125] := by decide +kernel
  obtain ⟨a, b, c, d⟩ := this ⟨n, by omega⟩
  exact ⟨fun y hy => of_decide_eq_true (List.all_eq_true.mp a y hy), b, c, d⟩
section
variable {prog : Program} {w : World} {A : Around} {E : Value → Shared → Prop} {s : Shared}
theorem enc_plus {n : Nat} {t u : Tok} {Q : Value → Shared → Prop} (hz : n ≤ 99) (hQ : ∀ b t' k, bInts b = [123] ++ digs n ++ [43, 125] → Q (.bytes b t') { s with toks := k }) :
    wpAny (model prog w) A (call (.builtin "str.encode") [.str (Str.ofString "{" ++ Str.ofString (toString (n : Int)) ++ Str.ofString "+" ++ Str.ofString "}") t, .str (Str.ofString "ascii") u]) Q E s := by
  obtain ⟨p1, p2, p3, p4⟩ := txt_plus hz
  exact str_encode p1 p2 p3 fun b t' k hb => hQ b t' k (hb.trans p4)
theorem enc_none {n : Nat} {t u : Tok} {Q : Value → Shared → Prop} (hz : n ≤ 99) (hQ : ∀ b t' k, bInts b = [123] ++ digs n ++ [125] → Q (.bytes b t') { s with toks := k }) :
    wpAny (model prog w) A (call (.builtin "str.encode") [.str (Str.ofString "{" ++ Str.ofString (toString (n : Int)) ++ Str.ofString "" ++ Str.ofString "}") t, .str (Str.ofString "ascii") u]) Q E s := by
  obtain ⟨p1, p2, p3, p4⟩ := txt_none hz
  exact str_encode p1 p2 p3 fun b t' k hb => hQ b t' k (hb.trans p4)
end
theorem row_end {h₀ h' : Heap} {L I D D' l2 : Addr} {m' m₀ : Str → Option Value} {oI o o2 : Obj} {rest : Led} {us : List Value} {s : Shared} {tk : Nat} {x y : Str} {pre e : List Int} {k : Int}
    (F : Fr h₀ L h' m') (N : News h₀ L h' ((D', listOf us.toArray 0) :: (l2, o2) :: (I, oI) :: (D, o) :: rest)) (l1 : ∀ p ∈ (l2, o2) :: (I, oI) :: (D, o) :: rest, p.1 < D') (hoff : ∀ p ∈ rest, p.1 ≠ I)
    (hI : IntsAre us (pre.flatMap esc ++ e)) (he : esc k = e) (hy : m' y = some (.ref D')) (hm : ∀ z, z ≠ x → z ≠ y → m' z = m₀ z) :
    LoopEnd h₀ L s I oI (fun m' nx => (∃ D vs j, nx = (D, ⟨.type "list", none, .seq vs.toArray j, #[]⟩) :: rest ∧ IntsAre vs ((pre ++ [k]).flatMap esc) ∧ m' y = some (.ref D)) ∧ ∀ z, z ≠ x → z ≠ y → m' z = m₀ z) { s with heap := h', toks := tk } := by
  refine ⟨h', tk, m', (D', listOf us.toArray 0) :: rest, rfl, F, ?_, ?_, ⟨D', us, 0, rfl, ?_, hy⟩, hm⟩
  · intro p hp
    simp only [List.mem_cons] at hp
    rcases hp with rfl | rfl | hp
    · exact N _ (by simp)
    · exact N _ (by simp)
    · exact N _ (by simp [hp])
  · intro p hp
    rcases List.mem_cons.mp hp with rfl | hp
    · exact Nat.ne_of_gt (l1 (I, oI) (by simp))
    · exact hoff p hp
  · rw [List.flatMap_append, List.flatMap_singleton, he]; exact hI
theorem isOdd_eq (c : Int) : isOdd c = !isPr c := by
  unfold isOdd isPr
  by_cases h1 : c < 32 <;> by_cases h2 : 126 < c <;> simp [h1, h2] <;> omega
theorem q_no1 {ks : List Int} (h : ¬(ks.length : Int) ≤ 72) : quotable ks = false := by rw [← quotable_no h]; simp [h]
theorem q_no2 {ks : List Int} (h : decide (ks.filter isOdd = []) = false) : quotable ks = false := by
  simp only [decide_eq_false_iff_not, List.filter_eq_nil_iff, isOdd_eq] at h
  have : ks.all isPr = false := by
    rw [← Bool.not_eq_true, List.all_eq_true]
    intro h2; apply h; intro a ha; simp [h2 a ha]
  simp [quotable, this]
theorem q_yes {ks : List Int} (h1 : (ks.length : Int) ≤ 72) (h : decide (ks.filter isOdd = []) = true) : quotable ks = true := by
  simp only [decide_eq_true_eq, List.filter_eq_nil_iff, isOdd_eq] at h
  have h3 : ks.length ≤ 72 := by omega
  have : ks.all isPr = true := List.all_eq_true.mpr fun a ha => by have := h a ha; simpa using this
  simp [quotable, this, h3]
theorem txt_true {ks : List Int} {b9 b : Array UInt8} {l : List Int} (h9 : bInts b9 = l) (hl : l = [123] ++ digs ks.length ++ [43, 125]) (hb : bInts b = ks) (hq : quotable ks = false) : bInts (b9 ++ #[(Int.toNat 13).toUInt8, (Int.toNat 10).toUInt8] ++ b) = lawS ks true := by
  rw [KBw.ints_app (KBw.ints_app h9 (rfl : bInts #[(Int.toNat 13).toUInt8, (Int.toNat 10).toUInt8] = [13, 10])) hb, hl]
  simp [lawS, hq, litO]
  rfl
theorem txt_false {ks : List Int} {b9 b : Array UInt8} {l : List Int} (h9 : bInts b9 = l) (hl : l = [123] ++ digs ks.length ++ [125]) (hb : bInts b = ks) (hq : quotable ks = false) : bInts (b9 ++ #[(Int.toNat 13).toUInt8, (Int.toNat 10).toUInt8] ++ b) = lawS ks false := by
  rw [KBw.ints_app (KBw.ints_app h9 (rfl : bInts #[(Int.toNat 13).toUInt8, (Int.toNat 10).toUInt8] = [13, 10])) hb, hl]
  simp [lawS, hq, litO]
  rfl
theorem lawS_yes {ks : List Int} {p : Bool} (h : quotable ks = true) : [34] ++ ks.flatMap esc ++ [34] = lawS ks p := by simp [lawS, h]
section
local macro_rules | `(tactic| walk_at "eval ListComp") => `(tactic| (k_here; (walk_at "mine:fn"); k_dflt (refine' ListComp_bytesT (Y := fun k v => ∃ t, v = .int k t) (q := isOdd) ?kh ?kb ?kz cF' cN' ?kc ?kl ?kk ?kn ?kx ?hi ?test7 ?turn7 ?hlist7 ?ks; (walk_at "mine:kB"); (walk_at "mine:c1"); (walk_at "mine:c2"); (walk_at "mine:c3"); (case' test7 => (intro k t I oI C oC D m₂ h tk ys E' hmem hC hx F N; (have hbd := mem_in (by assumption) hmem); obtain ⟨hbd0, hbd1⟩ := hbd; clear cF' cN'; skip)); (case' turn7 => (intro k t I oI C oC D m₂ h tk ys E' hmem hq hC hx F N; clear cF' cN'; skip)); (case' hlist7 => (walk_at "mine:hl"; (have kI := RelA.ints (f := fun k => k) hr); (simp only [List.map_id'] at kI); clear hr)))))
local macro_rules | `(tactic| walk_at "compareOp Eq ref ref") => `(tactic| (k_here; k_dflt (refine' eq_intsK ?k1 ?k2 ?k3 ?k4 ?k5 ?_; (case k1 => exact News.isList (by k_asm) (by k_mem)); (case k2 => assumption); (case k3 => exact News.isList (by k_asm) (by k_mem)); (case k4 => exact IntsAre.nil); (case k5 => ktr_units))))
local macro_rules | `(tactic| walk_at "getMethod str") => `(tactic| (k_here; k_dflt (refine enc_method ?_)))
local macro_rules | `(tactic| walk_at "call builtin:str.encode") => `(tactic| (k_here; (first | (with_reducible refine' enc_plus ?hz ?_) | (with_reducible refine' enc_none ?hz ?_)); (case hz => k_dflt assumption); intro b9 t9 k9 hb9))
local macro_rules | `(tactic| walk_at "pyIter bytes") => `(tactic| ((walk_at "mine:fn"); k_dflt (refine' iter_row (vs₀ := []) (y := Str.ofString "row") esc ?hxy (src_bytes ?hh ?hb) ?kF ?kN ?hy ?h0 ?turn8 ?done8; (case kF => exact cF'); (case kN => exact cN'); (case hxy => decide); (case hh => rfl); (case hb => kba_ints); (case hy => rfl); (case h0 => rfl); (case' turn8 => (clear cF' cN'; intro pre k post t h tk I oI D vs j hks hI hDI hoff F N; (have hp9 := pre_size hks (by assumption)); (have hq9 := pre_in (by assumption) hks); obtain ⟨hq0, hq1⟩ := hq9)); (case' done8 => (clear cF' cN'; intro u h tk D vs j hI F N; (have hi9 := esc_in (by assumption)); (have hs9 := escs_len hI))))))
local macro_rules | `(tactic| walk_at "binaryOp Add ref ref") => `(tactic| (k_here; k_dflt (refine' kmk_add_ints ?F ?N ?a ?b ?i ?j ?_ ?z; (case F => k_asm); (case N => k_asm); (case a => kmk_list); (case b => kmk_list); (case i => l_ints); (case j => l_ints); (case z => (rw [sizeLine_eq]; simp only [List.length_cons, List.length_nil, List.length_append]; omega))); intro D' ws' h' F' N' l1 hI'))
theorem c_lawstr (w : World) (news : Led) (b : Array UInt8) (t : Tok) (ks : List Int) (p : Bool) (hb : bInts b = ks) (hz : ks.length ≤ 99) : Ct w 424 12 (news) [.bytes b t, .bool p] (fun v news' => (∃ b' t', v = .bytes b' t' ∧ bInts b' = lawS ks p) ∧ news' = news) := by
  walk_at "mine:fill"
  unfold Ct
  intro mean mg mb dp un gd cn cs a ccd cl outer A₀ base h₀ L m s Q E B F X N T hk hd hu ret
  refine wpAny_call ?_
  k_dflt ktr_enter
  have hdl := digs_le ks.length
  k_steps
  all_goals (first
    | ((with_reducible show TurnEnd _ _ _ _ _ _ _ _); exact ⟨_, _, rfl, ⟨_, rfl⟩, by k_asm, by k_asm⟩)
    | ((with_reducible show TestEnd _ _ _ _ _ _ _ _); first
        | exact ⟨_, _, rfl, odd1 (by assumption), by k_asm, by k_asm⟩
        | exact ⟨_, _, rfl, odd2 (by assumption) (by assumption), by k_asm, by k_asm⟩
        | exact ⟨_, _, rfl, odd3 (by assumption) (by assumption), by k_asm, by k_asm⟩)
    | ((with_reducible show LoopPost _ _ _ _ _ _ _ _ _)
       show LoopEnd _ _ _ _ _ _ _
       refine row_end (by k_asm) (by k_asm) (by assumption) (by assumption) (by assumption) ?_ rfl (by kba_same)
       first | exact esc_yes (Or.inl (by assumption)) | exact esc_yes (Or.inr (by assumption)) | exact esc_no (fun h => h.elim (by assumption) (by assumption)))
    | ((with_reducible show Q (Value.bytes (byteArr _) _) _)
       have hq : quotable ks = true := q_yes (by assumption) (by assumption)
       refine ret _ _ _ _ ⟨⟨_, _, rfl, (KBa.ints_make (by assumption)).trans (lawS_yes hq)⟩, rfl⟩ (by k_asm) ?_
       (walk_at "mine:tail"))
    | ((with_reducible show Q (Value.bytes _ _) _)
       have hq : quotable ks = false := by first | exact q_no1 (by assumption) | exact q_no2 (by assumption)
       first
       | (have hp9 : p = true := by assumption
          subst hp9
          refine ret _ _ _ _ ⟨⟨_, _, rfl, txt_true (by assumption) rfl hb hq⟩, rfl⟩ (by k_asm) ?_)
       | (have hp9 : p = false := by assumption
          subst hp9
          refine ret _ _ _ _ ⟨⟨_, _, rfl, txt_false (by assumption) rfl hb hq⟩, rfl⟩ (by k_asm) ?_)
       (walk_at "mine:tail"))
    | trace_state)
end
end
section
open PySem.W.KBw (bInts)
local macro_rules | `(tactic| walk_at "eval Call") => `(tactic| (k_here; k_dflt (refine Call_ ?_)))
local macro_rules | `(tactic| walk_at "eval Call Attribute") => `(tactic| (k_here; k_dflt (refine MethodCall_ ?_)))
theorem c_takeF (w : World) (led : Led) (g : Obj → Led) (B : Addr) (n m : Int) (t tm : Tok) (k : Nat) (hm : 0 < m) (hm2 : m < 1000) (U : UpdF B (one n t k) led g) :
    Ct w 407 2 led [.ref B, .int m tm] (fun v news' => (∃ r t', v = .int r t' ∧ 0 ≤ r ∧ r < m) ∧ ∃ n' t' k', news' = g (one n' t' k')) := by
  obtain ⟨pre, post, rfl, hg, a, b⟩ := U.split
  intro mean mg mb dp un gd cn cs a' ccd cl outer A₀ base h₀ L m' s Q E Bl F X N T hk hd hu ret
  refine c_take w (pre ++ post) B n m t tm k hm hm2 (fun p hp => (List.mem_append.mp hp).elim (a p) (b p)) mean mg mb dp un gd cn cs a' ccd cl outer A₀ base h₀ L m' s Q E Bl F X (fun p hp => N p ?_) T hk hd hu (fun v nw h' tk' hp F' N' => ?_)
  · simp only [List.mem_append, List.mem_cons] at hp ⊢
    rcases hp with h | h | h
    · exact .inr (.inl h)
    · exact .inl h
    · exact .inr (.inr h)
  · obtain ⟨hv, n', t', k', rfl⟩ := hp
    refine ret v _ h' tk' ⟨hv, n', t', k', rfl⟩ F' (fun p hp => N' p ?_)
    rw [hg] at hp
    simp only [List.mem_append, List.mem_cons] at hp ⊢
    rcases hp with h | h | h
    · exact .inr (.inl h)
    · exact .inl h
    · exact .inr (.inr h)
theorem split5 {r : Int} (h0 : 0 ≤ r) (h1 : r < 5) : r = 0 ∨ r = 1 ∨ r = 2 ∨ r = 3 ∨ r = 4 := by omega
theorem cnt_lt (i : Nat) : ([0, 1, 3, 71, 72, 73, 80] : List Int).getD i 0 < 1000 := Int.lt_of_le_of_lt (kmn_any (lo := 0) (hi := 80) (by decide)).2 (by decide)
def NILs (ks : List Int) : Prop := ks = [78, 73, 76] ∨ ks = [110, 105, 108] ∨ ks = [78, 105, 108]
def goodO (ks : List Int) : Prop := ks.length ≤ 80 ∧ (ks.map lowC = [110, 105, 108] → NILs ks)
def goodR (ns : List Int) : Prop := ns.length ≤ 80 ∧ KBa.In ns ∧ ns.map lowC ≠ [110, 105, 108]
theorem goodR.good {ns : List Int} (h : goodR ns) : bInts (byteArr ns) = ns ∧ goodO ns := ⟨KBa.ints_make h.2.1, h.1, fun e => absurd e h.2.2⟩
theorem goodR_in {ns : List Int} (h : goodR ns) : KBa.In ns := h.2.1
theorem goodR_size {ns : List Int} (h : goodR ns) : ns.length ≤ 16777216 := Nat.le_trans h.1 (by decide)
theorem row_size {f : Int → Int} {c : Int} (h : c ≤ 80) : ((rangeKs 0 (c - 0).toNat).map f).length ≤ 16777216 := by
  rw [List.length_map, rangeKs_length]; omega
theorem u8_in (u : UInt8) : 0 ≤ ((u.toNat : Nat) : Int) ∧ ((u.toNat : Nat) : Int) < 256 := by have := u.toNat_lt; omega
theorem in_map {f : Int → Int} {l : List Int} (hf : ∀ k, 0 ≤ f k ∧ f k < 256) : KBa.In (l.map f) := by
  intro n hn
  obtain ⟨k, _, rfl⟩ := List.mem_map.mp hn
  exact hf k
theorem row_len {f : Int → Int} {c : Int} (h : 0 ≤ c) : (((rangeKs 0 (c - 0).toNat).map f).length : Int) = c := by
  rw [List.length_map, rangeKs_length]; omega
theorem goodR_set {ns : List Int} {r x : Int} (h0 : 0 ≤ r) (h1 : r < ns.length) (hl : (ns.length : Int) ≤ 80) (hin : KBa.In ns) (hx : x ∈ [32, 127, 10, 0, 34, 93]) : goodR (ns.set r.toNat x) := by
  refine ⟨by rw [List.length_set]; omega, fun n hn => ?_, fun e => ?_⟩
  · rcases List.mem_or_eq_of_mem_set hn with h | rfl
    · exact hin n h
    · simp only [List.mem_cons, List.not_mem_nil, or_false] at hx; omega
  · have h2 : x ∈ ns.set r.toNat x := List.mem_set (by omega) x
    have h3 : lowC x ∈ (ns.set r.toNat x).map lowC := List.mem_map_of_mem h2
    rw [e] at h3
    simp only [List.mem_cons, List.not_mem_nil, or_false] at hx
    rcases hx with rfl | rfl | rfl | rfl | rfl | rfl <;> exact absurd h3 (by decide)
theorem menu_mem (i : Nat) (h : i < 6) : ([32, 127, 10, 0, 34, 93] : List Int).getD i 0 ∈ ([32, 127, 10, 0, 34, 93] : List Int) := by
  have : ∀ j : Fin 6, ([32, 127, 10, 0, 34, 93] : List Int).getD j.val 0 ∈ ([32, 127, 10, 0, 34, 93] : List Int) := by decide
  exact this ⟨i, h⟩
theorem menu_mem' {r : Int} (h0 : 0 ≤ r) (h1 : r < 6) : ([32, 127, 10, 0, 34, 93] : List Int).getD r.toNat 0 ∈ ([32, 127, 10, 0, 34, 93] : List Int) := menu_mem _ (by omega)
theorem row_good {f : Int → Int} {c : Int} (hc : c ≤ 80) (hf : ∀ k, 0 ≤ f k ∧ f k < 256) (hn : lowC (f 0) = 110 → lowC (f 1) = 105 → lowC (f 2) = 108 → False) :
    bInts (byteArr ((rangeKs 0 (c - 0).toNat).map f)) = (rangeKs 0 (c - 0).toNat).map f ∧ goodO ((rangeKs 0 (c - 0).toNat).map f) := by
  refine ⟨KBa.ints_make (in_map hf), by rw [List.length_map, rangeKs_length]; omega, fun e => ?_⟩
  exfalso
  have hl := congrArg List.length e
  simp only [List.length_map, rangeKs_length, List.length_cons, List.length_nil] at hl
  rw [hl] at e
  simp only [rangeKs, List.range_succ, List.range_zero, List.nil_append, List.cons_append, List.map_cons, List.map_nil, List.cons.injEq] at e
  exact hn (by simpa using e.1) (by simpa using e.2.1) (by simpa using e.2.2.1)
theorem pool_no {l : List UInt8} {i : Nat} (h : (0 :: l).all (fun u => decide (lowC (u.toNat : Int) ≠ 110)) = true) : lowC (((l.getD i 0).toNat : Nat) : Int) ≠ 110 := by
  rw [List.all_cons, Bool.and_eq_true] at h
  by_cases hl : i < l.length
  · have e : l.getD i 0 = l[i] := by simp [List.getD, hl]
    rw [e]
    exact of_decide_eq_true (List.all_eq_true.mp h.2 l[i] (List.getElem_mem hl))
  · have e : l.getD i 0 = 0 := by simp [List.getD, Nat.not_lt.mp hl]
    rw [e]
    exact of_decide_eq_true h.1
theorem pool256 {i : Nat} (h : i < 256) : ((byteArr (List.map (fun k' => k') (rangeKs 0 (256 - 0 : Int).toNat))).toList.getD i 0).toNat = i := by
  have : ∀ j : Fin 256, ((byteArr (List.map (fun k' => k') (rangeKs 0 (256 - 0 : Int).toNat))).toList.getD j.val 0).toNat = j.val := by decide +kernel
  exact this ⟨i, h⟩
theorem ap256 (z : Int) : ((((byteArr (List.map (fun k' => k') (rangeKs 0 (256 - 0 : Int).toNat))).toList.getD (z.fmod (((256 - 0 : Int).toNat : Nat) : Int)).toNat 0).toNat : Nat) : Int) = z % 256 := by
  have e : z.fmod (((256 - 0 : Int).toNat : Nat) : Int) = z % 256 := by rw [Int.fmod_eq_emod_of_nonneg _ (by decide)]; rfl
  rw [e, pool256 (by omega)]; omega
theorem lowC_n {c k : Int} (h : lowC c = k) (hk : 97 ≤ k ∧ k ≤ 122) : c = k ∨ c = k - 32 := by
  unfold lowC at h
  split at h <;> omega
theorem ap_no {a b : Int} {f : Int → Int} (hf : ∀ k, f k = (a + b * k) % 256) : lowC (f 0) = 110 → lowC (f 1) = 105 → lowC (f 2) = 108 → False := by
  intro h0 h1 h2
  have e0 := lowC_n h0 (by decide)
  have e1 := lowC_n h1 (by decide)
  have e2 := lowC_n h2 (by decide)
  rw [hf] at e0 e1 e2
  omega
def PoolOk (b : Array UInt8) : Prop := (0 < (b.size : Int) ∧ (b.size : Int) ≤ 256) ∧ ∀ (p q : Int) (f : Int → Int), (∀ k, f k = (((b.toList.getD ((p + q * k).fmod (b.size : Int)).toNat 0).toNat : Nat) : Int)) → lowC (f 0) = 110 → lowC (f 1) = 105 → lowC (f 2) = 108 → False
theorem PoolOk.lit {b : Array UInt8} (h0 : 0 < b.size) (h1 : b.size ≤ 256) (h : (0 :: b.toList).all (fun u => decide (lowC (u.toNat : Int) ≠ 110)) = true) : PoolOk b :=
  ⟨by omega, fun p q f hf h0 _ _ => by rw [hf] at h0; exact pool_no h h0⟩
theorem PoolOk.all : PoolOk (byteArr (List.map (fun k' => k') (rangeKs 0 (256 - 0 : Int).toNat))) := by
  refine ⟨by rw [byteArr_size, List.length_map, rangeKs_length]; decide, fun p q f hf => ap_no (a := p) (b := q) fun k => ?_⟩
  rw [hf, ← ap256]
  congr 5
theorem PoolOk.no2 {b : Array UInt8} (h : PoolOk b) {p q : Int} : lowC (((b.toList.getD ((p + q * 0).fmod (b.size : Int)).toNat 0).toNat : Nat) : Int) = 110 → lowC (((b.toList.getD ((p + q * 1).fmod (b.size : Int)).toNat 0).toNat : Nat) : Int) = 105 →
    lowC (((b.toList.getD ((p + q * 2).fmod (b.size : Int)).toNat 0).toNat : Nat) : Int) = 108 → False := h.2 p q (fun k => (((b.toList.getD ((p + q * k).fmod (b.size : Int)).toNat 0).toNat : Nat) : Int)) (fun _ => rfl)
theorem split4 {r : Int} (h0 : 0 ≤ r) (h1 : r < 5) (h : r ≠ 0) : r = 1 ∨ r = 2 ∨ r = 3 ∨ r = 4 := by omega
def PoolV (v : Value) : Prop := ∃ b t, v = .bytes b t ∧ PoolOk b
section
variable {prog : Program} {w : World} {A : Around} {E : Value → Shared → Prop} {s : Shared} {h₀ : Heap} {L D : Addr} {m : Str → Option Value} {news : Led} {g : Obj → Led} {vs : List Value} {t u : Tok}
theorem upd_mid {d : Addr} {o o' : Obj} : ∀ {pre post : Led}, (∀ p ∈ pre, p.1 ≠ d) → (∀ p ∈ post, p.1 ≠ d) → Upd d o o' (pre ++ (d, o) :: post) (pre ++ (d, o') :: post)
  | [], _, _, b => .head b
  | _ :: _, _, a, b => .tail (a _ (.head _)) (upd_mid (fun p hp => a p (.tail _ hp)) b)
theorem pool_here {env : Env} {e : Expr} {Q : Value → Shared → Prop} {led : Led} (_F : Fr h₀ L s.heap m) (_N : News h₀ L s.heap led) (walk : wpAny (model prog w) A (eval e env) (TurnEnd h₀ L m s PoolV led) E s)
    (next : ∀ b t h' tk', PoolOk b → 0 < (b.size : Int) → (b.size : Int) ≤ 256 → Fr h₀ L h' m → News h₀ L h' led → Q (.bytes b t) { s with heap := h', toks := tk' }) : wpAny (model prog w) A (eval e env) Q E s :=
  wpAny_mono walk (fun v s' h => by
    obtain ⟨h', tk', rfl, ⟨b, t, rfl, hb⟩, F', N'⟩ := h
    exact next b t h' tk' hb hb.1.1 hb.1.2 F' N') fun _ _ e => e
theorem bInts_getD (b : Array UInt8) (i : Nat) : (bInts b).getD i 0 = (((b.toList.getD i 0).toNat : Nat) : Int) := by
  unfold KBw.bInts
  simp only [List.getD, List.getElem?_map]
  cases b.toList[i]? <;> rfl
theorem pool_item {value slice : Expr} {b : Array UInt8} {t ui : Tok} {a : Int} {Q : Value → Shared → Prop} (hp : 0 < (b.size : Int)) (hp1 : (b.size : Int) ≤ 256)
    (h : ∀ t' k, Q (.int (((b.toList.getD (a.fmod (b.size : Int)).toNat 0).toNat : Nat) : Int) t') { s with toks := k })
    (hs : subscripted slice false (.bytes b t) (.int (a.fmod (b.size : Int)) ui) = operate [.bytes b t, .int (a.fmod (b.size : Int)) ui] (getItem (.bytes b t) (.int (a.fmod (b.size : Int)) ui)) := by with_unfolding_all rfl)
    (ht : ∀ r, letTemporaryGo value (.bytes b t) r = pure () := by intro _; with_unfolding_all rfl) : wpAny (model prog w) A (subscriptTail value slice (.bytes b t) (.int (a.fmod (b.size : Int)) ui)) Q E s :=
  KBw.item_K (ks := bInts b) rfl (by rw [KBw.ints_length]; omega) (fmod_lo _ hp) (by rw [KBw.ints_length]; exact fmod_hi _ hp) (fun t' k _ _ => by
    rw [bInts_getD]; exact h t' k) hs ht
theorem set_row {f : Int → Int} {c r x : Int} {Q : Unit → Shared → Prop} (F : Fr h₀ L s.heap m) (N : News h₀ L s.heap news) (U : UpdF D (LCg.lst vs) news g) (hi : IntsAre vs ((rangeKs 0 (c - 0).toNat).map f)) (h0 : 0 ≤ r) (h1 : r < c) (hc : c ≤ 80)
    (hf : ∀ k, 0 ≤ f k ∧ f k < 256) (hx : x ∈ [32, 127, 10, 0, 34, 93])
    (h : ∀ h' vs' ns', Fr h₀ L h' m → News h₀ L h' (g (listOf vs'.toArray vs.length)) → IntsAre vs' ns' → goodR ns' → Q () { s with heap := h' }) :
    wpAny (model prog w) A (setItem (.ref D) (.int r t) (.int x u)) Q E s := by
  obtain ⟨pre, post, rfl, hg, a, b⟩ := U.split
  have hlen := row_len (f := f) (c := c) (by omega)
  refine ksa_set (n := vs.length) (news := pre ++ (D, LCg.lst vs) :: post) (news' := pre ++ (D, listOf (vs.set r.toNat (.int x u)).toArray vs.length) :: post) F N ?_ hi h0 (by omega) (by omega) fun h' F' N' hI _ _ => ?_
  · exact upd_mid a b
  · refine h h' _ _ F' ?_ hI (goodR_set h0 (by omega) (by omega) (in_map hf) hx)
    rw [hg]; exact N'
end
theorem News.single {h₀ h : Heap} {L : Addr} {led : Led} {p : Addr × Obj} (N : News h₀ L h led) (hp : p ∈ led) : News h₀ L h [p] := fun z hz => by
  rw [List.mem_singleton.mp hz]; exact N _ hp
theorem goodPack {b : Array UInt8} {t : Tok} {ks : List Int} (h : bInts b = ks ∧ goodO ks) : ∃ b' t' ks', Value.bytes b t = .bytes b' t' ∧ bInts b' = ks' ∧ goodO ks' := ⟨b, t, ks, rfl, h⟩
theorem nil1 : bInts #[78, 73, 76] = [78, 73, 76] ∧ goodO [78, 73, 76] := ⟨by decide, by decide, fun _ => .inl rfl⟩
theorem nil2 : bInts #[110, 105, 108] = [110, 105, 108] ∧ goodO [110, 105, 108] := ⟨by decide, by decide, fun _ => .inr (.inl rfl)⟩
theorem nil3 : bInts #[78, 105, 108] = [78, 105, 108] ∧ goodO [78, 105, 108] := ⟨by decide, by decide, fun _ => .inr (.inr rfl)⟩
theorem nil4 : bInts #[78, 73, 76, 83] = [78, 73, 76, 83] ∧ goodO [78, 73, 76, 83] := ⟨by decide, by decide, fun h => absurd h (by decide)⟩
theorem nil5 : bInts #[] = [] ∧ goodO [] := ⟨by decide, by decide, fun h => absurd h (by decide)⟩
end
section
open PySem.W.KBw (bInts)
local macro_rules | `(tactic| walk_at "eval Call") => `(tactic| (k_here; k_dflt (refine Call_ ?_)))
local macro_rules | `(tactic| walk_at "eval Call Attribute") => `(tactic| (k_here; k_dflt (refine MethodCall_ ?_)))
local macro_rules | `(tactic| walk_at "mine:enterC") => `(tactic| (refine' code_defC ?k1 ?k2 ?k3 ?k4 ?k5 ?kA ?kF ?kK ?k6 ?k7 ?k8 ?k9 ?kB ?kD ?_ ?c2 ?c3 ?c4; (walk_at "mine:kA"); (case k9 => first | exact BindsTo.of_eq rfl | exact binds_K (by k_in) rfl (by k_is) rfl rfl rfl); (case kB => exact rfl); (case kD => decide +kernel); (walk_at "mine:kC"); k_whole; intro g' L' h' tk' cells' FG' F' N' Y' B' X' T' l1; (try k_lt l1); k_cells Y'; (try simp only [List.cons_append, List.nil_append] at N'); (try dsimp only); (try k_fold)))
section
local macro_rules | `(tactic| walk_at "setItem ref int") => `(tactic| (k_here; k_dflt (refine' set_row ?F ?N ?U ?hi ?h0 ?h1 ?hc ?hf ?hx ?_; (case F => k_asm); (case N => k_asm); (case U => k_updF); (case hi => with_reducible assumption); (case h0 => with_reducible assumption); (case h1 => with_reducible assumption); (case hc => with_reducible assumption); (case hf => exact fun k => u8_in _); (case hx => exact menu_mem' (by with_reducible assumption) (by with_reducible assumption)); k_whole); intro h' vs' ns' F' N' hI' hG'))
local macro_rules | `(tactic| walk_at "call type:bytes") => `(tactic| (k_here; (with_reducible show wpAny _ _ (call (Value.type "bytes") [Value.ref _]) _ _ _); k_dflt (refine' KBa.make_K ?kbaF ?kbaN ?kbah ?kbal ?kbai ?kbar ?kban ?_; (case kbaF => k_asm); (case kbaN => k_asm); (case kbah => rfl); (case kbal => kba_isList); (case kbai => with_reducible assumption); (case kbar => first | exact in_map (fun k => u8_in _) | exact goodR_in (by with_reducible assumption)); (case kban => first | exact row_size (by with_reducible assumption) | exact goodR_size (by with_reducible assumption))); intro _ _ _ F' N' kbaIn))
local macro_rules | `(tactic| walk_at "call ref") => `(tactic| ((with_reducible show wpAny _ _ (call (Value.ref 407) _) _ _ _); k_dflt (refine ct_auto (C := by exact c_takeF _ _ _ _ _ _ _ _ _ (by first | with_reducible assumption | decide) (by first | decide | exact cnt_lt _) (by k_updF)) (ret := ?_); intro v9 n9 h9 tk9 hp9 F9 N9; obtain ⟨⟨r9, t9, e9, hr0, hr1⟩, n9', t9', k9', e9'⟩ := hp9; subst e9; subst e9'; (try dsimp only at N9); (try dsimp only); (try k_fold))))
local macro_rules | `(tactic| walk_at "subscriptTail") => `(tactic| (k_here; (with_reducible show wpAny _ _ (subscriptTail _ _ (Value.bytes _ _) (Value.int (Int.fmod _ _) _)) _ _ _); k_dflt (refine pool_item (by with_reducible assumption) (by with_reducible assumption) ?_); intro t9 k9))
local macro_rules | `(tactic| walk_at "eval IfExp") => `(tactic| (k_here; (walk_at "mine:fn"); k_dflt (refine' pool_here cF' cN' ?walk9 ?next9; (case' walk9 => ((rename (@Ne Int _ 0) => hne9); obtain h8 | h8 | h8 | h8 := split4 (by with_reducible assumption) (by with_reducible assumption) hne9 <;> subst h8 <;> refine IfExp_ ?_)); (case' next9 => (clear cF' cN'; intro b9 t9 h9 tk9 hpb hpb0 hpb1 F9 N9)))))
local macro_rules | `(tactic| walk_at "call ref") => `(tactic| ((with_reducible show wpAny _ _ (call (Value.ref 407) [_, Value.int 5 _]) _ _ _); k_dflt (refine ct_auto (C := by exact c_takeF _ _ _ _ _ _ _ _ _ (by first | with_reducible assumption | decide) (by first | decide | exact cnt_lt _) (by k_updF)) (ret := ?_); intro v9 n9 h9 tk9 hp9 F9 N9; (rename (@Eq Int _ 0) => hway9); obtain ⟨⟨r9, t9, e9, hr0, hr1⟩, n9', t9', k9', e9'⟩ := hp9; subst e9; subst e9'; (try dsimp only at N9); (rcases split5 hr0 hr1 with e8 | e8 | e8 | e8 | e8 <;> subst e8); (try dsimp only); (try k_fold))))
theorem c_octets (w : World) (B : Addr) (n : Int) (t : Tok) (k : Nat) : Ct w 419 6 ([(B, one n t k)]) [.ref B] (fun v news' => (∃ b t' ks, v = .bytes b t' ∧ bInts b = ks ∧ goodO ks) ∧ ∃ n' t' k', news' = [(B, one n' t' k')]) := by
  walk_at "mine:fill"
  unfold Ct
  intro mean mg mb dp un gd cn cs a ccd cl outer A₀ base h₀ L m s Q E B F X N T hk hd hu ret
  refine wpAny_call ?_
  k_dflt (walk_at "mine:enterC")
  k_steps
  all_goals (first
    | ((with_reducible show Q (Value.bytes _ _) _)
       refine ret _ _ _ _ ⟨goodPack (ks := ?_) ?_, _, _, _, rfl⟩ (by k_asm) (News.single (by k_asm) (by k_mem))
       rotate_left 1
       first
       | with_reducible exact nil1 | with_reducible exact nil2 | with_reducible exact nil3 | with_reducible exact nil4 | with_reducible exact nil5
       | ((with_reducible refine goodR.good ?_); with_reducible assumption)
       | ((with_reducible refine row_good ?_ (fun k => u8_in _) ?_); (with_reducible assumption); (with_reducible refine PoolOk.no2 ?_); (with_reducible assumption)))
    | ((with_reducible show TurnEnd _ _ _ _ _ _ _ _)
       refine ⟨_, _, rfl, ⟨_, _, rfl, ?_⟩, by k_asm, ?_⟩
       · first | with_reducible exact PoolOk.all | exact PoolOk.lit (by decide +kernel) (by decide +kernel) (by decide +kernel)
       · (walk_at "mine:tail"))
    | trace_state)
end
end
section
/-! Contracts, calls and statements at clean contexts. -/
section
variable {prog : Program} {w : World} {A A₀ : Around} {s : Shared} {K : Frag} {L : Addr} {h₀ base : Heap} {m mg mb : Str → Option Value} {news : List (Addr × Obj)} {p : Program} {loose : List Str} {mean : ExcName → Option Value}
theorem codeP_def {env : Env} {outer : List Env} {R : Result → Shared → Prop} {name qual : Str} {params : Arguments} {body : List Stmt} {scope : Scope} {dV kV doc pm cdv ct oc : Value} {an od : Option Addr} {osl : Array (Option Value)} {f : Addr} {args : Args} {binds : List (Str × Value)}
    (B : Below A₀ base outer h₀) (F : Fr h₀ L s.heap m) (X₀ : K.In h₀) (N : News h₀ L s.heap news) (T : Top p loose mean mg mb h₀) (hA : A.frames = some (env :: outer)) (hf : env.frame = some L) (hke : env.scope.kind = .function)
    (ho : K.lookup f = some ⟨oc, od, .func (fnOf name qual params body scope dV kV doc pm an cdv ct), osl⟩) (hcd : codeIn K cdv qual = true) (hroom : A.depth < recursionLimit)
    (hbind : BindsTo s (fnOf name qual params body scope dV kV doc pm an cdv ct) args binds) (hloc : ∀ y ∈ binds, scope.names.lookup y.1 = some .local)
    (h : ∀ g L' h₁, Fr h₀ L g m → Fr g L' h₁ (fun y => binds.reverse.lookup y) → News g L' h₁ news → Below A base (env :: outer) g → K.In g → Top p loose mean mg mb g →
      wpP (model prog w) (A.deeper (envOf qual scope L' f cdv)) (execs body (envOf qual scope L' f cdv))
        (fun fl s' => LeaveK h₀ L m g R (match fl with | .ret v => v | _ => .none) s') { s with heap := h₁, toks := s.toks + binds.length })
    (hco : scope.isCoroutine = false) (hgen : scope.isGenerator = false) (hk : scope.kind = .function)
    (hcell : ∀ x ∈ scope.names, x.2 ≠ .cell) : codeP (model prog w) A (.call (.ref f) args) R s := by
  obtain ⟨FG, BG, st, lv⟩ := groundX (R := R) B F N hA hf hke
  refine codeP_call_function hroom ((X₀.keeps F.keep) _ _ ho) rfl hco hgen rfl (codeRec_of (X₀.keeps F.keep) hcd) (hbind _ _ _ _ ?_)
  refine wpAny_newFunctionEnv hcell hloc (fun h₁ hns hsb => ⟨(T.nolimit.keeps F.keep).fresh _ hsb, codeP_func ?_⟩) hk
  have hk₁ : ∀ b o, s.heap.get? b = some o → h₁.get? b = some o := fun b o e => hsb.extBut b o (Nat.ne_of_lt (Heap.lt_size e)) (Heap.get?_push_of_some _ e)
  exact P_mono (h _ s.heap.objs.size h₁ FG ⟨hns, fun b o e => hk₁ b o (of_hideAll _ e), Nat.le_of_eq (hideAll_size _ _)⟩
    (fun p hp => ⟨hk₁ _ _ (N p hp).1, Nat.ne_of_lt (Heap.lt_size (N p hp).1), hideAll_none _ (List.mem_map_of_mem hp)⟩) BG (X₀.keeps st) (T.keeps st)) fun fl s' hl => lv _ _ hl
theorem P_call2 {f : Value} {pos : List Value} {kw : List (Str × Value)} {Q : Value → Shared → Prop}
    (hc : codeP (model prog w) A (.call f ⟨pos, kw⟩) (fun r s' => match r with | .ok (.ret v) => Q v s' | .ok _ => False | .error _ => False) s) : wpP (model prog w) A (call f pos kw) Q s := P_runValue hc
end
/-- a contract of a def, at clean contexts -/
def CtP (w : World) (f : Addr) (D : Nat) (news : Led) (vs : List Value) (post : Value → Led → Prop) : Prop :=
  ∀ (mean : ExcName → Option Value) (mg mb : Str → Option Value) (dp un : Nat) (cn : Str) (cs : Scope) (a : Addr) (ccd : Value) (cl : List (Str × Addr)) (outer : List Env) (A₀ : Around) (base h₀ : Heap) (L : Addr) (m : Str → Option Value) (s : Shared) (Q : Value → Shared → Prop),
    Below A₀ base outer h₀ → Fr h₀ L s.heap m → (K w.params).In h₀ → News h₀ L s.heap news → TopM mean mg mb h₀ → cs.kind = .function → dp + D < recursionLimit → un + 8 * D < cLine →
    (∀ v news' h' tk', post v news' → Fr h₀ L h' m → News h₀ L h' news' → Q v { s with heap := h', toks := tk' }) →
    wpP (model pw_nz0308_01 w) (ktrTop dp un (some []) cn cs L a ccd cl outer) (call (.ref f) vs) Q s
theorem ctP_use {w : World} {f : Addr} {D : Nat} {news : Led} {vs : List Value} {post : Value → Led → Prop} {mean : ExcName → Option Value} {mg mb : Str → Option Value} {dp un : Nat} {cn : Str} {cs : Scope} {a : Addr} {ccd : Value} {cl : List (Str × Addr)} {outer : List Env} {A₀ : Around} {base h₀ : Heap} {L : Addr} {m : Str → Option Value} {s : Shared} {Q : Value → Shared → Prop}
    (C : CtP w f D news vs post) (B : Below A₀ base outer h₀) (F : Fr h₀ L s.heap m) (X : (K w.params).In h₀) (N : News h₀ L s.heap news) (T : TopM mean mg mb h₀) (hk : cs.kind = .function) (hd : dp + D < recursionLimit) (hu : un + 8 * D < cLine)
    (ret : ∀ v news' h' tk', post v news' → Fr h₀ L h' m → News h₀ L h' news' → Q v { s with heap := h', toks := tk' }) :
    wpP (model pw_nz0308_01 w) (ktrTop dp un (some []) cn cs L a ccd cl outer) (call (.ref f) vs) Q s := C _ _ _ _ _ _ _ _ _ _ _ _ _ _ _ _ _ _ B F X N T hk hd hu ret
theorem ctP_auto {w : World} {f : Addr} {D : Nat} {news : Led} {vs : List Value} {post : Value → Led → Prop} {mean : ExcName → Option Value} {mg mb : Str → Option Value} {dp un : Nat}  {cn : Str} {cs : Scope} {a : Addr} {ccd : Value} {cl : List (Str × Addr)} {outer : List Env} {A₀ : Around} {base h₀ : Heap} {L : Addr} {m : Str → Option Value} {s : Shared} {Q : Value → Shared → Prop}
    (B : Below A₀ base outer h₀ := by k_asm) (F : Fr h₀ L s.heap m := by k_asm) (X : (K w.params).In h₀ := by k_asm) (N : News h₀ L s.heap news := by k_asm) (T : TopM mean mg mb h₀ := by k_asm) (hk : cs.kind = .function := by first | exact rfl | assumption) (C : CtP w f D news vs post) (hd : dp + D < recursionLimit := by ktr_room) (hu : un + 8 * D < cLine := by ktr_units)
    (ret : ∀ v news' h' tk', post v news' → Fr h₀ L h' m → News h₀ L h' news' → Q v { s with heap := h', toks := tk' }) :
    wpP (model pw_nz0308_01 w) (ktrTop dp un (some []) cn cs L a ccd cl outer) (call (.ref f) vs) Q s := ctP_use C B F X N T hk hd hu ret
section
variable {prog : Program} {w : World} {A : Around} {s : Shared} {env : Env}
theorem P_Call {func : Expr} {args : List Expr} {pos : Pos} {Q : Value → Shared → Prop}
    (h : wpAny (model prog w) A (eval func env) (fun f s₁ => wpP (model prog w) A (callWith pos f [] (backTo pos (starEach args env)) []) Q s₁) (fun _ _ => False) s)
    (he : eval (.Call func args [] pos) env = (do callWith pos (← eval func env) [] (backTo pos (starEach args env)) (backToKw pos (keywordEach [] env))) := by rfl) :
    wpP (model prog w) A (eval (.Call func args [] pos) env) Q s := by
  rw [he]; exact P_then h
theorem P_MethodCall {o : Expr} {name : Str} {apos pos : Pos} {args : List Expr} {pl : Sem Bool} {Q : Value → Shared → Prop}
    (h : wpAny (model prog w) A (eval o env) (fun ov s₁ => wpAny (model prog w) A (getMethod ov name pl) (fun fx s₂ => wpP (model prog w) A (callWith pos fx.1 fx.2 (backTo pos (starEach args env)) []) Q s₂) (fun _ _ => False) s₁) (fun _ _ => False) s)
    (he : eval (.Call (.Attribute o name apos) args [] pos) env = (do
      let ov ← eval o env
      standAt apos.atName
      let (f, first) ← holding [ov] (getMethod ov name pl)
      callWith pos f first (backTo pos (starEach args env)) []) := by rfl) :
    wpP (model prog w) A (eval (.Call (.Attribute o name apos) args [] pos) env) Q s := by
  rw [he]
  refine P_then (wpAny_mono h (fun ov s₁ h₁ => P_then (wpAny_standAt (P_then (wpAny_holding (wpAny_mono h₁ (fun fx s₂ h₂ => ?_) fun _ _ x => x))))) fun _ _ x => x)
  exact h₂
theorem P_tail {t : Sem Value} {Q : Value → Shared → Prop} (ht : wpP (model prog w) A t Q s) : wpP (model prog w) A (t >>= fun r => holding [r] point >>= fun _ => pure r) Q s :=
  P_bind (P_mono ht fun r s₂ hr => P_then (wpAny_holding (wpAny_point (P_pure hr))))
theorem P_callWith_builtin {pos : Pos} {id : String} {first : List Value} {args : List (Bool × Sem Value)} {Q : Value → Shared → Prop} (hplain : args.any (·.1) = false)
    (h : wpAny (model prog w) A (evalArgs (.builtin id) true args []) (fun a s₁ => wpP (model prog w) A (call (.builtin id) (first ++ a.pos) a.kw) Q s₁) (fun _ _ => False) s) :
    wpP (model prog w) A (callWith pos (.builtin id) first args []) Q s := by
  unfold callWith
  refine P_then (wpAny_holding (wpAny_mono h (fun a s₁ h₁ => P_then (wpAny_standAt ?_)) fun _ _ x => x))
  simp only [hplain, List.any_nil, Bool.or_false]
  refine P_then (wpAny_pure ?_)
  exact P_tail h₁
theorem P_callWith_type {pos : Pos} {T : String} {first : List Value} {args : List (Bool × Sem Value)} {Q : Value → Shared → Prop} (hplain : args.any (·.1) = false)
    (h : wpAny (model prog w) A (evalArgs (.type T) true args []) (fun a s₁ => wpP (model prog w) A (call (.type T) (first ++ a.pos) a.kw) Q s₁) (fun _ _ => False) s) :
    wpP (model prog w) A (callWith pos (.type T) first args []) Q s := by
  unfold callWith
  refine P_then (wpAny_holding (wpAny_mono h (fun a s₁ h₁ => P_then (wpAny_standAt ?_)) fun _ _ x => x))
  simp only [hplain, List.any_nil, Bool.or_false]
  refine P_then (wpAny_pure ?_)
  exact P_tail h₁
theorem P_callWith_builtin1 {pos : Pos} {id : String} {first : List Value} {e : Expr} {rest : List Expr} {Q : Value → Shared → Prop}
    (h : wpAny (model prog w) A (spliced (backTo pos (starEach (e :: rest) env))) (fun vs s₁ => wpP (model prog w) A (call (.builtin id) (first ++ vs)) Q s₁) (fun _ _ => False) s)
    (he : starEach (e :: rest) env = (false, eval e env) :: starEach rest env := by rfl)
    (hplain : (backTo pos (starEach rest env)).any (·.1) = false := by rfl) :
    wpP (model prog w) A (callWith pos (.builtin id) first (backTo pos (starEach (e :: rest) env)) []) Q s := by
  rw [he] at h ⊢
  exact P_callWith_builtin (by show (false || (backTo pos (starEach rest env)).any (·.1)) = false; rw [hplain]; rfl) (evalArgs_plain h)
theorem P_callWith_type1 {pos : Pos} {T : String} {e : Expr} {rest : List Expr} {Q : Value → Shared → Prop}
    (h : wpAny (model prog w) A (spliced (backTo pos (starEach (e :: rest) env))) (fun vs s₁ => wpP (model prog w) A (call (.type T) vs) Q s₁) (fun _ _ => False) s)
    (he : starEach (e :: rest) env = (false, eval e env) :: starEach rest env := by rfl)
    (hplain : (backTo pos (starEach rest env)).any (·.1) = false := by rfl) :
    wpP (model prog w) A (callWith pos (.type T) [] (backTo pos (starEach (e :: rest) env)) []) Q s := by
  rw [he] at h ⊢
  exact P_callWith_type (by show (false || (backTo pos (starEach rest env)).any (·.1)) = false; rw [hplain]; rfl) (evalArgs_plain h)
theorem P_callWith_type0 {pos : Pos} {T : String} {Q : Value → Shared → Prop} (h : wpP (model prog w) A (call (.type T) []) Q s) :
    wpP (model prog w) A (callWith pos (.type T) [] (backTo pos (starEach [] env)) []) Q s := P_callWith_type rfl (evalArgs_nil3 h)
theorem P_Assign_Name {x : Str} {pos' pos : Pos} {value : Expr} {Q : Flow → Shared → Prop}
    (h : wpP (model prog w) A (eval value env) (fun v s₁ => wpAny (model prog w) A (storeName env x v) (fun _ => Q .next) (fun _ _ => False) s₁) s)
    (hs : swapsWith value (some (.Name x pos')) pos.line env = pure false := by rfl) : wpP (model prog w) A (exec (.Assign [.Name x pos'] value pos) env) Q s := fun Γ p hΓ hC => by
  simp only [exec_Assign_Name env x pos' value pos hs, Sem.wp_bind', Sem.wp_cmd_standAt, Sem.wp_bindName, Sem.wp_pure']
  exact Sem.wp_mono _ Γ _ (fun v _ s₁ h₁ => h₁ Γ _ hΓ) (fun _ _ _ h' => h') _ _ (h Γ _ hΓ hC)
end
section
variable {prog : Program} {w : World} {A : Around} {E : Value → Shared → Prop} {s : Shared}
theorem ba_getMethod {a : Addr} {b : Array UInt8} {pl : Sem Bool} {Q : Value × List Value → Shared → Prop} (ho : s.heap.get? a = some (baObj b))
    (h : Q (.builtin "bytearray.append", [.ref a]) s) : wpAny (model prog w) A (getMethod (.ref a) (Str.ofString "append") pl) Q E s :=
  getMethod_builtin ⟨_, ho, rfl⟩ ba_plainAttrs ba_slot_append ba_type_append (fun a' e => by cases e; exact ⟨_, ho, rfl⟩) h
end
end
section
open PySem.W.KBw (bInts)
/-! A for loop at clean contexts, over any source that walks. -/
theorem Fr.but {h₀ h h' : Heap} {L I : Addr} {m : Str → Option Value} (F : Fr h₀ L h m) (k : ∀ b o, b ∉ [I] → h.get? b = some o → h'.get? b = some o) (hI : h₀.get? I = none) (hL : I ≠ L) : Fr h₀ L h' m :=
  ⟨F.ns.at' fun o q => k L o (fun e => hL (List.mem_singleton.mp e).symm) q, fun b o q => k b o (fun e => by rw [List.mem_singleton.mp e, hI] at q; cases q) (F.keep b o q), F.above⟩
section
variable {prog : Program} {w : World} {A : Around} {s : Shared} {h₀ : Heap} {m₀ : Str → Option Value} {env : Env} {news : Led} {x : Str} {body : List Stmt} {Q : Flow → Shared → Prop} {src : Value}
theorem P_iter_any {α : Type} {mk : α → Tok → Value} {ks : List α} {px : Pos} (J : List α → (Str → Option Value) → Led → Prop)
    (S : SrcOk prog w A src s ks.length (Item mk ks)) (hx : env.kindOf x = some .local) (hp : (env.scope.kind == .class || (env.scope.kind == .module && env.locals != env.globals)) = false)
    (F : Fr h₀ env.locals s.heap m₀) (N : News h₀ env.locals s.heap news) (hJ : J [] m₀ news)
    (turn : ∀ pre k post t m₁ nx h tk I oI, ks = pre ++ k :: post → (∀ p ∈ nx, p.1 ≠ I) → J pre m₁ nx → Fr h₀ env.locals h (fun y => if y = x then some (mk k t) else m₁ y) → News h₀ env.locals h ((I, oI) :: nx) →
      wpP (model prog w) A (execs body env) (LoopPost h₀ env.locals s I oI (J (pre ++ [k])) Q) { s with heap := h, toks := tk })
    (done : ∀ m₁ nx h tk, J ks m₁ nx → Fr h₀ env.locals h m₁ → News h₀ env.locals h nx → Q .next { s with heap := h, toks := tk }) :
    wpAny (model prog w) A (pyIter src) (fun it s₂ => codeP (model prog w) A (.forLoop (.Name x px) it body [] env) (fun r s' => match r with | .ok f => Q f s' | .error _ => False) s₂) (fun _ _ => False) s := by
  refine S _ _ fun o St W hIo hst => ?_
  generalize hI : s.heap.objs.size = I at *
  have hnI : h₀.get? I = none := hI ▸ next_is_new F
  have hLI : I ≠ env.locals := fun e => absurd F.ns.lt (by rw [hI, e]; exact Nat.lt_irrefl _)
  refine codeP_forLoop (fun n s' => ∃ i h' tk m₁ nx oI, s' = { s with heap := h', toks := tk } ∧ i + n = ks.length ∧ St i h' ∧ Fr h₀ env.locals h' m₁ ∧ News h₀ env.locals h' ((I, oI) :: nx) ∧ (∀ p ∈ nx, p.1 ≠ I) ∧ J (ks.take i) m₁ nx) ?_ ks.length ?_
  · rintro n s' ⟨i, h', tk, m₁, nx, oI, rfl, hn, hst', F', N', off, hJ'⟩
    have moved : ∀ (h'' : Heap), (∀ b o, b ∉ [I] → h'.get? b = some o → h''.get? b = some o) → Fr h₀ env.locals h'' m₁ ∧ News h₀ env.locals h'' nx := fun h'' k =>
      ⟨Fr.but F' k hnI hLI, fun p hp => ⟨k _ _ (fun e => off p hp (List.mem_singleton.mp e)) (N' p (List.mem_cons_of_mem _ hp)).1, (N' p (List.mem_cons_of_mem _ hp)).2⟩⟩
    cases n with
    | zero =>
      have hi : i = ks.length := by omega
      subst hi
      rw [List.take_length] at hJ'
      refine W.done _ _ _ hst' fun h'' tk'' k => ?_
      obtain ⟨F'', N''⟩ := moved h'' k
      exact done m₁ nx h'' tk'' hJ' F'' N''
    | succ n =>
      have hi : i < ks.length := by omega
      refine W.item i _ _ _ hi hst' fun v h'' tk'' hP st'' k => ?_
      obtain ⟨F'', N''⟩ := moved h'' k
      obtain ⟨k, t, hk, rfl⟩ := hP
      obtain ⟨oI', hoI'⟩ := hIo _ _ st''
      have hsplit : ks = ks.take i ++ k :: ks.drop (i + 1) := by
        have h2 : ks[i] = k := by rw [List.getElem?_eq_getElem hi] at hk; exact Option.some.inj hk
        rw [← h2, List.getElem_cons_drop, List.take_append_drop]
      have hnext : ks.take (i + 1) = ks.take i ++ [k] := by rw [List.take_add_one, hk]; rfl
      show wpAny _ A (assign (.Name x px) env (mk k t)) _ _ _
      refine wpAny_assign_Name (wpAny_storeName_local hx F''.ns (fun h₂ hn₂ hs₂ => ?_) hp)
      have hL₀ : h₀.get? env.locals = none := Heap.get?_none_of_le F''.above
      have F₂ : Fr h₀ env.locals h₂ (fun y => if y = x then some (mk k t) else m₁ y) := ⟨hn₂, fun b o e => hs₂.extBut b o (fun q => by rw [q, hL₀] at e; cases e) (F''.keep b o e), F''.above⟩
      have hoI₂ : h₂.get? I = some oI' := hs₂.extBut _ _ hLI hoI'
      have st₂ : St (i + 1) h₂ := W.frame _ _ _ st'' fun b hb o e => by
        rw [List.mem_singleton.mp hb] at e ⊢
        rw [hoI'] at e; cases e; exact hoI₂
      refine P_mono (turn (ks.take i) k (ks.drop (i + 1)) t m₁ nx h₂ _ I oI' hsplit off hJ' F₂ (fun p hp => ?_)) fun f s₃ p => ?_
      · rcases List.mem_cons.mp hp with rfl | hp
        · exact ⟨hoI₂, hLI, hnI⟩
        · exact ⟨hs₂.extBut _ _ (N'' p hp).2.1 (N'' p hp).1, (N'' p hp).2⟩
      · have fin : LoopEnd h₀ env.locals s I oI' (J (ks.take i ++ [k])) s₃ → ∃ m, m < n + 1 ∧ ∃ i h' tk m₁ nx oI, s₃ = { s with heap := h', toks := tk } ∧ i + m = ks.length ∧ St i h' ∧ Fr h₀ env.locals h' m₁ ∧ News h₀ env.locals h' ((I, oI) :: nx) ∧ (∀ p ∈ nx, p.1 ≠ I) ∧ J (ks.take i) m₁ nx := by
          rintro ⟨h', tk, m', nx', e, F', N', ha, hm⟩
          refine ⟨n, Nat.lt_succ_self _, i + 1, h', tk, m', nx', oI', e, by omega, ?_, F', N', ha, by rw [hnext]; exact hm⟩
          refine W.frame _ _ _ st₂ fun b hb o e => ?_
          rw [List.mem_singleton.mp hb] at e ⊢
          rw [hoI₂] at e; cases e; exact (N' _ List.mem_cons_self).1
        cases f with
        | ret v => exact p
        | brk => exact p
        | next => exact fin p
        | cont => exact fin p
  · obtain ⟨oI, hoI⟩ := hIo _ _ hst
    refine ⟨0, _, _, m₀, news, oI, rfl, by omega, hst, F.push _, fun p hp => ?_, fun p hp => ?_, by simpa using hJ⟩
    · rcases List.mem_cons.mp hp with rfl | hp
      · exact ⟨hoI, hLI, hnI⟩
      · exact ⟨Heap.get?_push_of_some _ (N p hp).1, (N p hp).2⟩
    · exact hI ▸ Nat.ne_of_lt (Heap.lt_size (N p hp).1)
end
end
section
variable {prog : Program} {w : World} {A : Around} {s : Shared} {K : Frag} {h₀ : Heap} {f : Value} {first : List Value} {env : Env} {pos : Pos} {Q : Value → Shared → Prop}
theorem P_callWith_K {e : Expr} {rest : List Expr} (_X : K.In h₀) (hk : keepIn K f = true) (h : wpAny (model prog w) A (spliced (backTo pos (starEach (e :: rest) env))) (fun vs s₁ => K.In s₁.heap ∧ wpP (model prog w) A (call f (first ++ vs)) Q s₁) (fun _ _ => False) s)
    (he : starEach (e :: rest) env = (false, eval e env) :: starEach rest env := by rfl) (hplain : (backTo pos (starEach rest env)).any (·.1) = false := by rfl) :
    wpP (model prog w) A (callWith pos f first (backTo pos (starEach (e :: rest) env)) []) Q s := by
  rw [he] at h ⊢
  exact P_callWith (by show (false || (backTo pos (starEach rest env)).any (·.1)) = false; rw [hplain]; rfl) (keeps_K hk) (evalArgs_plain h)
theorem P_callWith_K0 (X : K.In s.heap) (hk : keepIn K f = true) (h : wpP (model prog w) A (call f (first ++ [])) Q s) : wpP (model prog w) A (callWith pos f first (backTo pos (starEach [] env)) []) Q s :=
  P_callWith rfl (keeps_K hk) (evalArgs_nil3 ⟨X, h⟩)
end
local macro_rules | `(tactic| walk_at "wpP") => `(tactic| first | ((with_reducible show wpP _ _ (call _ _) _ _); refine P_any ?_) | ((with_reducible show wpP _ _ (execs [] _) _ _); refine P_execs_nil ?_) | ((with_reducible show wpP _ _ (execs (Stmt.If _ _ _ _ :: _) _) _ _); refine P_execs_cons (P_If ?_)) | ((with_reducible show wpP _ _ (execs (Stmt.Return (some _) _ :: _) _) _ _); refine P_execs_cons (P_Return ?_)) | ((with_reducible show wpP _ _ (execs (Stmt.Expr _ _ :: _) _) _ _); k_dflt (refine P_execs_cons (P_Expr ?_))) | ((with_reducible show wpP _ _ (execs (Stmt.Assign [Expr.Name _ _] (Expr.Call _ _ _ _) _ :: _) _) _ _); k_dflt (refine P_execs_cons (P_Assign_Name ?_))) | ((with_reducible show wpP _ _ (execs (_ :: _) _) _ _); k_dflt (refine P_plain ?_)) | ((with_reducible show wpP _ _ (eval (Expr.IfExp _ _ _ _) _) _ _); refine P_IfExp ?_) | ((with_reducible show wpP _ _ (eval (Expr.Call (Expr.Attribute _ _ _) _ _ _) _) _ _); k_dflt (refine P_MethodCall ?_)) | ((with_reducible show wpP _ _ (eval (Expr.Call _ _ _ _) _) _ _); k_dflt (refine P_Call ?_)) | ((with_reducible show wpP _ _ (eval _ _) _ _); refine P_any ?_) | ((with_reducible show wpP _ _ (PySem.isTrue _ _ _) _ _); refine P_any ?_) | ((with_reducible show wpP _ _ (callWith _ _ _ _ _) _ _); k_dflt (first | (refine' P_callWith_K ?k1 ?k2 ?_; (case k1 => k_asm); (case k2 => k_is)) | (refine' P_callWith_K0 ?k1 ?k2 ?_; (case k1 => k_in); (case k2 => k_is)) | refine P_callWith_type1 ?_ | refine P_callWith_type0 ?_ | refine P_callWith_builtin1 ?_)))
local macro_rules | `(tactic| walk_at "mine:enterP") => `(tactic| (refine' codeP_def ?k1 ?k2 ?k3 ?k4 ?k5 ?kA ?kF ?kK ?k6 ?k7 ?k8 ?k9 ?kB ?_ ?c2 ?c3 ?c4 ?c5; (walk_at "mine:kA"); (case k9 => first | exact BindsTo.of_eq rfl | exact binds_K (by k_in) rfl (by k_is) rfl rfl rfl); (case c5 => decide); (case kB => exact locs rfl); (walk_at "mine:kC"); intro g' L' h' FG' F' N' B' X' T'; (try dsimp only)))
section
open PySem.W.KBw (bInts)
theorem off_lt {led : Led} {x : Addr} (h : ∀ p ∈ led, p.1 < x) : ∀ p ∈ led, p.1 ≠ x := fun p hp => Nat.ne_of_lt (h p hp)
theorem P_append_F {prog : Program} {w : World} {A : Around} {s : Shared} {h₀ : Heap} {L : Addr} {m : Str → Option Value} {x : Addr} {b : Array UInt8} {l : List Int} {c : Int} {t : Tok} {led : Led} {g : Obj → Led} {Q : Value → Shared → Prop} (hg : A.guards = some []) (F : Fr h₀ L s.heap m) (N : News h₀ L s.heap led)
    (U : UpdF x (baObj b) led g) (hb : bInts b = l) (c0 : 0 ≤ c) (c1 : c < 256) (hz : l.length ≤ 1000)
    (h : ∀ h' B', bInts B' = l ++ [c] → Fr h₀ L h' m → News h₀ L h' (g (baObj B')) → Q .none { s with heap := h' }) : wpP (model prog w) A (call (.builtin "bytearray.append") [.ref x, .int c t]) Q s := by
  obtain ⟨pre, post, rfl, hg', a, b'⟩ := U.split
  have hsz : b.size = l.length := by rw [← hb, KBw.ints_length]
  refine P_append_led hg F N a b' c0 c1 (by rw [sizeLine_eq]; omega) fun h' F' N' => h h' _ ?_ F' (by rw [hg']; exact N')
  unfold KBw.bInts at hb ⊢
  rw [Array.toList_push, List.map_append, hb]
  simp only [List.map_cons, List.map_nil]
  rw [toUInt8_toNat c0 c1]
theorem ba_led {prog : Program} {w : World} {A : Around} {E : Value → Shared → Prop} {s : Shared} {h₀ : Heap} {L : Addr} {a : Addr} {b : Array UInt8} {led : Led} {pl : Sem Bool} {Q : Value × List Value → Shared → Prop} (N : News h₀ L s.heap led) (hm : (a, baObj b) ∈ led)
    (h : Q (.builtin "bytearray.append", [.ref a]) s) : wpAny (model prog w) A (getMethod (.ref a) (Str.ofString "append") pl) Q E s := ba_getMethod (N _ hm).1 h
theorem P_iter_ba {prog : Program} {w : World} {A : Around} {s : Shared} {h₀ : Heap} {m₀ : Str → Option Value} {env : Env} {news : Led} {x : Str} {body : List Stmt} {Q : Flow → Shared → Prop} {b : Array UInt8} {t₀ : Tok} {ks : List Int} {px : Pos} {X : Addr} {B₀ : Array UInt8} {l₀ : List Int} (f : Int → List Int)
    (hh : A.handled = none) (hb : bInts b = ks) (hx : env.kindOf x = some .local) (hp : (env.scope.kind == .class || (env.scope.kind == .module && env.locals != env.globals)) = false)
    (F : Fr h₀ env.locals s.heap m₀) (N : News h₀ env.locals s.heap ((X, baObj B₀) :: news)) (hB₀ : bInts B₀ = l₀)
    (turn : ∀ pre k post t h tk I oI B', ks = pre ++ k :: post → bInts B' = l₀ ++ pre.flatMap f → X ≠ I → (∀ p ∈ news, p.1 ≠ I) → Fr h₀ env.locals h (fun y => if y = x then some (.int k t) else m₀ y) → News h₀ env.locals h ((I, oI) :: (X, baObj B') :: news) →
      wpP (model prog w) A (execs body env) (LoopPost h₀ env.locals s I oI (fun m' nx => (∃ B', nx = (X, baObj B') :: news ∧ bInts B' = l₀ ++ (pre ++ [k]).flatMap f) ∧ ∀ z, z ≠ x → m' z = m₀ z) Q) { s with heap := h, toks := tk })
    (done : ∀ (u : Str → Option Value) h tk B', bInts B' = l₀ ++ ks.flatMap f → Fr h₀ env.locals h (fun z => if z = x then u z else m₀ z) → News h₀ env.locals h ((X, baObj B') :: news) → Q .next { s with heap := h, toks := tk }) :
    wpAny (model prog w) A (pyIter (.bytes b t₀)) (fun it s₂ => codeP (model prog w) A (.forLoop (.Name x px) it body [] env) (fun r s' => match r with | .ok f => Q f s' | .error _ => False) s₂) (fun _ _ => False) s := by
  refine P_iter_any (fun pre m nx => (∃ B', nx = (X, baObj B') :: news ∧ bInts B' = l₀ ++ pre.flatMap f) ∧ ∀ z, z ≠ x → m z = m₀ z) (src_bytes hh hb) hx hp F N ⟨⟨_, rfl, by simpa using hB₀⟩, fun _ _ => rfl⟩ ?_ ?_
  · rintro pre k post t m₁ nx h tk I oI hks hoff ⟨⟨B', rfl, hB⟩, hm⟩ F₁ N₁
    have e : (fun y => if y = x then some (Value.int k t) else m₁ y) = fun y => if y = x then some (Value.int k t) else m₀ y := by
      funext z; by_cases h1 : z = x
      · simp [h1]
      · simp only [if_neg h1]; exact hm z h1
    rw [e] at F₁
    exact turn pre k post t h tk I oI B' hks hB (hoff _ List.mem_cons_self) (fun p hp => hoff p (List.mem_cons_of_mem _ hp)) F₁ N₁
  · rintro m₁ nx h tk ⟨⟨B', rfl, hB⟩, hm⟩ F₁ N₁
    refine done m₁ h tk B' hB ?_ N₁
    have e : (fun z => if z = x then m₁ z else m₀ z) = m₁ := by
      funext z; by_cases h1 : z = x
      · simp [h1]
      · simp only [if_neg h1]; exact (hm z h1).symm
    rw [e]; exact F₁
theorem pre_in2 {b : Array UInt8} {ks pre post : List Int} {k : Int} (hb : bInts b = ks) (h : ks = pre ++ k :: post) : 0 ≤ k ∧ k < 256 := pre_in hb h
theorem qo_size {ks pre post : List Int} {k : Int} (h : ks = pre ++ k :: post) (hz : ks.length ≤ 99) : ([34] ++ pre.flatMap esc).length ≤ 300 := by
  have := pre_size h hz
  simp only [List.length_append, List.length_cons, List.length_nil]; omega
theorem qo_size1 {ks : List Int} (hz : ks.length ≤ 99) : ([34] ++ ks.flatMap esc).length ≤ 300 := by
  have := escs_le ks
  simp only [List.length_append, List.length_cons, List.length_nil]; omega
theorem qo_end {h₀ h' : Heap} {L I X : Addr} {m' m₀ : Str → Option Value} {oI : Obj} {rest : Led} {s : Shared} {tk : Nat} {x : Str} {pre e : List Int} {k : Int} {B' : Array UInt8}
    (F : Fr h₀ L h' m') (N : News h₀ L h' ((I, oI) :: (X, baObj B') :: rest)) (hoff : ∀ p ∈ (X, baObj B') :: rest, p.1 ≠ I)
    (hI : bInts B' = [34] ++ pre.flatMap esc ++ e) (he : esc k = e) (hm : ∀ z, z ≠ x → m' z = m₀ z) :
    LoopEnd h₀ L s I oI (fun m' nx => (∃ B', nx = (X, baObj B') :: rest ∧ bInts B' = [34] ++ (pre ++ [k]).flatMap esc) ∧ ∀ z, z ≠ x → m' z = m₀ z) { s with heap := h', toks := tk } :=
  ⟨h', tk, m', _, rfl, F, N, hoff, ⟨B', rfl, by rw [List.flatMap_append, List.flatMap_singleton, he, hI, List.append_assoc]⟩, hm⟩
theorem qo_end1 {h₀ h' : Heap} {L I X : Addr} {m' m₀ : Str → Option Value} {oI : Obj} {rest : Led} {s : Shared} {tk : Nat} {x : Str} {pre : List Int} {k : Int} {B' : Array UInt8}
    (F : Fr h₀ L h' m') (N : News h₀ L h' ((I, oI) :: (X, baObj B') :: rest)) (hoff : ∀ p ∈ (X, baObj B') :: rest, p.1 ≠ I)
    (hI : bInts B' = [34] ++ pre.flatMap esc ++ [k]) (he : ¬(k = 34 ∨ k = 92)) (hm : ∀ z, z ≠ x → m' z = m₀ z) :
    LoopEnd h₀ L s I oI (fun m' nx => (∃ B', nx = (X, baObj B') :: rest ∧ bInts B' = [34] ++ (pre ++ [k]).flatMap esc) ∧ ∀ z, z ≠ x → m' z = m₀ z) { s with heap := h', toks := tk } :=
  qo_end F N hoff hI (esc_no he) hm
theorem qo_end2 {h₀ h' : Heap} {L I X : Addr} {m' m₀ : Str → Option Value} {oI : Obj} {rest : Led} {s : Shared} {tk : Nat} {x : Str} {pre : List Int} {k : Int} {B' : Array UInt8}
    (F : Fr h₀ L h' m') (N : News h₀ L h' ((I, oI) :: (X, baObj B') :: rest)) (hoff : ∀ p ∈ (X, baObj B') :: rest, p.1 ≠ I)
    (hI : bInts B' = [34] ++ pre.flatMap esc ++ [92] ++ [k]) (he : k = 34 ∨ k = 92) (hm : ∀ z, z ≠ x → m' z = m₀ z) :
    LoopEnd h₀ L s I oI (fun m' nx => (∃ B', nx = (X, baObj B') :: rest ∧ bInts B' = [34] ++ (pre ++ [k]).flatMap esc) ∧ ∀ z, z ≠ x → m' z = m₀ z) { s with heap := h', toks := tk } :=
  qo_end (e := [92, k]) F N hoff (by rw [hI, List.append_assoc]; rfl) (esc_yes he) hm
section
local macro_rules | `(tactic| k_all) => `(tactic| with_reducible assumption)
local macro_rules | `(tactic| k_ne) => `(tactic| ((try dsimp only); with_reducible (first | assumption | (refine Ne.symm ?_; assumption))))
local macro_rules | `(tactic| walk_at "getMethod ref") => `(tactic| ((with_reducible show wpAny _ _ (getMethod (Value.ref _) (Str.ofString "append") _) _ _ _); k_dflt (refine' ba_led ?N ?m ?_; (case N => k_asm); (case m => k_mem))))
local macro_rules | `(tactic| walk_at "wpP") => `(tactic| ((with_reducible show wpP _ _ (call (Value.type "bytearray") [Value.bytes _ _]) _ _); (k_dflt (refine' P_bytearray1 ?g ?F ?N ?z ?_; (case g => rfl); (case F => k_asm); (case N => k_asm); (case z => decide))); intro x9 h' F' N' l1; (have l2 := off_lt l1)))
local macro_rules | `(tactic| walk_at "wpP") => `(tactic| ((with_reducible show wpP _ _ (call (Value.builtin "bytearray.append") [Value.ref _, Value.int _ _]) _ _); (k_dflt (refine' P_append_F ?g ?F ?N ?U ?b ?a ?c ?z ?_; (case g => rfl); (case F => k_asm); (case N => k_asm); (case U => k_updF); (case b => with_reducible assumption); (case a => first | with_reducible assumption | decide); (case c => first | with_reducible assumption | decide); (case z => (first | (simp only [List.length_append, List.length_cons, List.length_nil] at *; omega) | decide)))); intro h' B9 hB9 F' N'; (try dsimp only at N')))
local macro_rules | `(tactic| walk_at "wpP") => `(tactic| ((with_reducible show wpP _ _ (execs (Stmt.For _ _ _ [] _ :: _) _) _ _); k_dflt (refine P_execs_cons (P_For ?_))))
local macro_rules | `(tactic| walk_at "pyIter bytes") => `(tactic| ((walk_at "mine:fn"); k_dflt (refine' P_iter_ba (l₀ := [34]) esc ?hh ?hb ?hx ?hp ?kF ?kN ?hB ?turn10 ?done10; (case kF => exact cF'); (case kN => exact cN'); (case hh => rfl); (case hb => kba_ints); (case hx => rfl); (case hp => rfl); (case hB => rfl); (case' turn10 => (clear cF' cN'; intro pre k post t h tk I oI B9 hks hB9 hXI hoff F N; (have hp9 := qo_size hks (by assumption)); (have hq9 := pre_in2 (by assumption) hks); obtain ⟨hq0, hq1⟩ := hq9)); (case' done10 => (clear cF' cN'; intro u h tk B9 hB9 F N; (have hs9 := qo_size1 (by assumption)))))))
theorem bytes_led {prog : Program} {w : World} {A : Around} {E : Value → Shared → Prop} {s : Shared} {h₀ : Heap} {L : Addr} {x : Addr} {b : Array UInt8} {l : List Int} {led : Led} {Q : Value → Shared → Prop} (N : News h₀ L s.heap led) (hm : (x, baObj b) ∈ led) (hb : bInts b = l) (hz : l.length ≤ 1000)
    (h : ∀ t k, Q (.bytes b t) { s with toks := k }) : wpAny (model prog w) A (call (.type "bytes") [.ref x]) Q E s :=
  bytes_of_ba (N _ hm).1 (by rw [← KBw.ints_length b, hb, sizeLine_eq]; omega) h
local macro_rules | `(tactic| walk_at "call type:bytes") => `(tactic| ((with_reducible show wpAny _ _ (call (Value.type "bytes") [Value.ref _]) _ _ _); k_dflt (refine' bytes_led ?N ?m ?b ?z ?_; (case N => k_asm); (case m => k_mem); (case b => with_reducible assumption); (case z => (first | (simp only [List.length_append, List.length_cons, List.length_nil] at *; omega) | decide))); intro t9 k9))
theorem c_qo (w : World) (b : Array UInt8) (t : Tok) (ks : List Int) (news : Led) (hb : bInts b = ks) (hz : ks.length ≤ 99) : CtP w 378 4 (news) [.bytes b t] (fun v news' => (∃ b' t', v = .bytes b' t' ∧ bInts b' = [34] ++ ks.flatMap esc ++ [34]) ∧ news' = news) := by
  walk_at "mine:fill"
  unfold CtP
  intro mean mg mb dp un cn cs a ccd cl outer A₀ base h₀ L m s Q B F X N T hk hd hu ret
  refine P_call2 ?_
  k_dflt (walk_at "mine:enterP")
  k_steps
  all_goals (first
    | ((with_reducible show LoopPost _ _ _ _ _ _ _ _ _)
       show LoopEnd _ _ _ _ _ _ _
       (with_reducible rename bInts _ = _ => hBx)
       first
       | refine qo_end2 (by k_asm) (by k_asm) ?_ hBx (Or.inl (by with_reducible assumption)) (by kba_same)
       | refine qo_end2 (by k_asm) (by k_asm) ?_ hBx (Or.inr (by with_reducible assumption)) (by kba_same)
       | refine qo_end1 (by k_asm) (by k_asm) ?_ hBx (fun h => h.elim (by with_reducible assumption) (by with_reducible assumption)) (by kba_same)
       exact List.forall_mem_cons.mpr ⟨by with_reducible assumption, by with_reducible assumption⟩)
    | ((with_reducible show Q (Value.bytes _ _) _)
       (with_reducible rename bInts _ = _ => hBx)
       refine ret _ _ _ _ ⟨⟨_, _, rfl, hBx⟩, rfl⟩ (by k_asm) ?_
       (walk_at "mine:tail"))
    | trace_state)
end
end
section
open PySem.W.KBw (bInts)
def quo (cs : List Int) : List Int := [34] ++ cs.flatMap esc ++ [34]
def PeekAt (ks : List Int) (z k : Int) : Prop := ∃ n : Nat, z = (n : Int) ∧ peekI ks n = k
theorem peek_drop {ks : List Int} {n : Nat} {x : Int} {r : List Int} (h : ks.drop n = x :: r) : peekI ks n = x := by
  have hl : n < ks.length := by
    have := congrArg List.length h
    simp only [List.length_drop, List.length_cons] at this; omega
  have : ks.getD n 0 = x := by
    have e := drop_getD ks n 0
    rw [h] at e; simpa using e.symm
  rw [peekI, if_pos hl, this]
theorem quo_drop {ks cs post : List Int} {n j : Nat} (hL : ks.drop n = quo cs ++ post) (hj : j ≤ cs.length) :
    ks.drop (n + 1 + ((cs.take j).flatMap esc).length) = (cs.drop j).flatMap esc ++ [34] ++ post := by
  have e : quo cs ++ post = ([34] ++ (cs.take j).flatMap esc) ++ ((cs.drop j).flatMap esc ++ [34] ++ post) := by
    have : cs.flatMap esc = (cs.take j).flatMap esc ++ (cs.drop j).flatMap esc := by rw [← List.flatMap_append, List.take_append_drop]
    simp only [quo, this, List.append_assoc]
  have hlen : n + 1 + ((cs.take j).flatMap esc).length = n + ([34] ++ (cs.take j).flatMap esc).length := by simp; omega
  rw [hlen, ← List.drop_drop, hL, e, List.drop_append_of_le_length (Nat.le_refl _), List.drop_length, List.nil_append]
theorem quo_turn {ks cs post : List Int} {n j : Nat} (hL : ks.drop n = quo cs ++ post) (hj : j ≤ cs.length) (hq : ∀ c ∈ cs, 32 ≤ c ∧ c ≤ 126) :
    (j = cs.length ∧ PeekAt ks ((n + 1 + ((cs.take j).flatMap esc).length : Nat) : Int) 34) ∨
    (∃ c, j < cs.length ∧ cs.take (j + 1) = cs.take j ++ [c] ∧ (c = 34 ∨ c = 92) ∧ PeekAt ks ((n + 1 + ((cs.take j).flatMap esc).length : Nat) : Int) 92 ∧ PeekAt ks (((n + 1 + ((cs.take j).flatMap esc).length : Nat) : Int) + 1) c ∧
      n + 1 + ((cs.take (j + 1)).flatMap esc).length = n + 1 + ((cs.take j).flatMap esc).length + 2) ∨
    (∃ c, j < cs.length ∧ cs.take (j + 1) = cs.take j ++ [c] ∧ c ≠ 34 ∧ c ≠ 92 ∧ 32 ≤ c ∧ c ≤ 126 ∧ PeekAt ks ((n + 1 + ((cs.take j).flatMap esc).length : Nat) : Int) c ∧
      n + 1 + ((cs.take (j + 1)).flatMap esc).length = n + 1 + ((cs.take j).flatMap esc).length + 1) := by
  have hd := quo_drop hL hj
  by_cases h : j = cs.length
  · refine .inl ⟨h, _, rfl, peek_drop (r := post) ?_⟩
    rw [hd, h, List.drop_length]; rfl
  · have hl : j < cs.length := by omega
    have hc : cs.drop j = cs[j] :: cs.drop (j + 1) := List.drop_eq_getElem_cons hl
    have ht : cs.take (j + 1) = cs.take j ++ [cs[j]] := by rw [List.take_add_one, List.getElem?_eq_getElem hl]; rfl
    have hb := hq cs[j] (List.getElem_mem hl)
    rw [hc, List.flatMap_cons] at hd
    by_cases hs : cs[j] = 34 ∨ cs[j] = 92
    · refine .inr (.inl ⟨cs[j], hl, ht, hs, ⟨_, rfl, ?_⟩, ⟨_, rfl, ?_⟩, ?_⟩)
      · rw [esc_yes hs] at hd
        exact peek_drop hd
      · rw [esc_yes hs] at hd
        refine peek_drop (r := (cs.drop (j + 1)).flatMap esc ++ [34] ++ post) ?_
        rw [← List.drop_drop, hd]; rfl
      · rw [ht, List.flatMap_append, List.flatMap_singleton, esc_yes hs]; simp; omega
    · refine .inr (.inr ⟨cs[j], hl, ht, fun e => hs (.inl e), fun e => hs (.inr e), hb.1, hb.2, ⟨_, rfl, ?_⟩, ?_⟩)
      · rw [esc_no hs] at hd
        exact peek_drop hd
      · rw [ht, List.flatMap_append, List.flatMap_singleton, esc_no hs]; simp; omega
theorem c_peekZ (w : World) (news : Led) (W d : Addr) (b : Array UInt8) (t tn k1 k2 : Tok) (z k : Int) (ks : List Int) (hb : bInts b = ks) (hz : ks.length ≤ 300) (hW : W ≠ d) (off : ∀ p ∈ news, p.1 ≠ d) (hp : PeekAt ks z k) :
    Ct w 206 2 ((W, instObj 362 d) :: (d, wd w b t z tn k1 k2) :: news) [.ref W] (fun v news' => (∃ t', v = .int k t') ∧ news' = (W, instObj 362 d) :: (d, wd w b t z tn k1 k2) :: news) := by
  obtain ⟨n, rfl, hk⟩ := hp
  exact (c_peek w news W d b t tn k1 k2 n ks hb hz hW off).mono fun v nw h => by rw [hk] at h; exact h
theorem off_cons {p : Addr × Obj} {d : Addr} {l : Led} (h : p.1 ≠ d) (hl : ∀ q ∈ l, q.1 ≠ d) : ∀ q ∈ p :: l, q.1 ≠ d := fun q hq => (List.mem_cons.mp hq).elim (fun e => e ▸ h) (hl q)
theorem rot3 {h₀ h : Heap} {L : Addr} {x a b : Addr × Obj} {l : Led} (N : News h₀ L h (x :: a :: b :: l)) : News h₀ L h (a :: b :: x :: l) := fun p hp => N p (by
  simp only [List.mem_cons] at hp ⊢
  rcases hp with h | h | h | h
  · exact .inr (.inl h)
  · exact .inr (.inr (.inl h))
  · exact .inl h
  · exact .inr (.inr (.inr h)))
theorem in_bytes_no {prog : Program} {w : World} {A : Around} {E : Value → Shared → Prop} {s : Shared} {b : Array UInt8} {c : Int} {t u : Tok} {Q : Value → Shared → Prop} (h0 : 0 ≤ c) (h1 : c < 256) (hn : ¬c ∈ bInts b) (h : Q (.bool false) s) : wpAny (model prog w) A (compareOp .In (.int c u) (.bytes b t)) Q E s :=
  in_bytes h0 h1 (by rw [decide_eq_false hn]; exact h)
theorem crlf_no {c : Int} (h : 32 ≤ c) : ¬c ∈ bInts #[13, 10] := by
  intro hc
  have : c ∈ ([13, 10] : List Int) := hc
  simp only [List.mem_cons, List.not_mem_nil, or_false] at this; omega
theorem off3 {p q : Addr × Obj} {l : Led} {x : Addr} (h : ∀ z ∈ p :: q :: l, z.1 < x) : x ≠ p.1 ∧ x ≠ q.1 ∧ ∀ z ∈ l, z.1 ≠ x :=
  ⟨Nat.ne_of_gt (h p (by simp)), Nat.ne_of_gt (h q (by simp)), fun z hz => Nat.ne_of_lt (h z (by simp [hz]))⟩
theorem two_on {a b : Nat} (h : b = a + 2) : (a : Int) + 1 + 1 = (b : Int) := by omega
theorem one_on {a b : Nat} (h : b = a + 1) : (a : Int) + 1 = (b : Int) := by omega
theorem ne_known {prog : Program} {w : World} {A : Around} {E : Value → Shared → Prop} {s : Shared} {a b : Int} {t u : Tok} {Q : Value → Shared → Prop} (h : a ≠ b) (hQ : Q (.bool true) s) : wpAny (model prog w) A (compareOp .NotEq (.int a t) (.int b u)) Q E s := ne_int (by rw [show (a != b) = true from bne_iff_ne.mpr h]; exact hQ)
theorem eq_known {prog : Program} {w : World} {A : Around} {E : Value → Shared → Prop} {s : Shared} {a b : Int} {t u : Tok} {Q : Value → Shared → Prop} (h : a ≠ b) (hQ : Q (.bool false) s) : wpAny (model prog w) A (compareOp .Eq (.int a t) (.int b u)) Q E s := eq_int (by rw [show (a == b) = false from beq_eq_false_iff_ne.mpr h]; exact hQ)
theorem drop_x {w : World} {h₀ h : Heap} {L W d x : Addr} {o ob : Obj} {b : Array UInt8} {t tn k1 k2 : Tok} {z z' : Int} {news : Led} (N : News h₀ L h ((W, o) :: (d, wd w b t z tn k1 k2) :: (x, ob) :: news)) (e : z = z') : News h₀ L h ((W, o) :: (d, wd w b t z' tn k1 k2) :: news) := fun p hp => N p (by
  subst e
  simp only [List.mem_cons] at hp ⊢
  rcases hp with h | h | h
  · exact .inl h
  · exact .inr (.inl h)
  · exact .inr (.inr (.inr h)))
theorem quo_len {n j : Nat} {xs : List Int} (h : j = xs.length) : ((n + 1 + ((xs.take j).flatMap esc).length : Nat) : Int) + 1 = ((n + (quo xs).length : Nat) : Int) := by
  subst h
  rw [List.take_length]
  simp only [quo, List.length_append, List.length_cons, List.length_nil]
  omega
/-- a while loop at clean contexts -/
def WEnd (h₀ : Heap) (L : Addr) (s : Shared) (J : Nat → (Str → Option Value) → Led → Prop) (k : Nat) (s' : Shared) : Prop :=
  ∃ h' tk' m' nx k', s' = { s with heap := h', toks := tk' } ∧ Fr h₀ L h' m' ∧ News h₀ L h' nx ∧ k' < k ∧ J k' m' nx
theorem quo_end {w : World} {h₀ h' : Heap} {L W d x : Addr} {m' : Str → Option Value} {b : Array UInt8} {t tj k1' k2' : Tok} {z c : Int} {news : Led} {B' : Array UInt8} {xs : List Int} {j n k tk : Nat} {s : Shared} (F : Fr h₀ L h' m') (N : News h₀ L h' ((W, instObj 362 d) :: (d, wd w b t z tj k1' k2') :: (x, baObj B') :: news))
    (hB : bInts B' = xs.take j ++ [c]) (e1 : j < xs.length) (e2 : xs.take (j + 1) = xs.take j ++ [c]) (hk : k = xs.length - j) (e6 : z = ((n + 1 + ((xs.take (j + 1)).flatMap esc).length : Nat) : Int)) :
    WEnd h₀ L s (fun k m'' nx => m'' = m' ∧ ∃ (j : Nat) (B9 : Array UInt8) (tj k1' k2' : Nat), k = xs.length - j ∧ j ≤ xs.length ∧ bInts B9 = xs.take j ∧ nx = (W, instObj 362 d) :: (d, wd w b t ((n + 1 + ((xs.take j).flatMap esc).length : Nat) : Int) tj k1' k2') :: (x, baObj B9) :: news) k { s with heap := h', toks := tk } :=
  ⟨h', tk, m', _, xs.length - (j + 1), rfl, F, N, by omega, rfl, j + 1, B', tj, k1', k2', rfl, e1, by rw [e2]; exact hB, by rw [e6]⟩
def WPost (h₀ : Heap) (L : Addr) (s : Shared) (J : Nat → (Str → Option Value) → Led → Prop) (k : Nat) (Q : Flow → Shared → Prop) (f : Flow) (s' : Shared) : Prop :=
  match f with
  | .ret v => Q (.ret v) s'
  | .brk => Q .next s'
  | _ => WEnd h₀ L s J k s'
theorem P_while_inv {prog : Program} {w : World} {A : Around} {s : Shared} {h₀ : Heap} {m₀ : Str → Option Value} {env : Env} {news : Led} {test : Expr} {body : List Stmt} {pos : Pos} {Q : Flow → Shared → Prop} {n₀ : Nat} (J : Nat → (Str → Option Value) → Led → Prop)
    (F : Fr h₀ env.locals s.heap m₀) (N : News h₀ env.locals s.heap news) (hJ : J n₀ m₀ news)
    (turn : ∀ k m₁ nx h tk, Fr h₀ env.locals h m₁ → News h₀ env.locals h nx → J k m₁ nx →
      wpP (model prog w) A (PySem.isTrue test env (eval test env)) (fun b s₂ => if b then wpP (model prog w) A (execs body env) (WPost h₀ env.locals s J k Q) s₂ else Q .next s₂) { s with heap := h, toks := tk }) :
    wpP (model prog w) A (exec (.While test body [] pos) env) Q s := by
  refine P_While (codeP_whileLoop (fun n s' => ∃ h' tk' m' nx, s' = { s with heap := h', toks := tk' } ∧ Fr h₀ env.locals h' m' ∧ News h₀ env.locals h' nx ∧ J n m' nx) ?_ n₀ ⟨s.heap, s.toks, m₀, news, rfl, F, N, hJ⟩)
  rintro n s' ⟨h', tk', m', nx, rfl, F', N', hJ'⟩
  refine P_mono (turn n m' nx h' tk' F' N' hJ') fun b s₂ hb => ?_
  cases b with
  | false => exact hb
  | true =>
    refine P_mono hb fun f s₃ p => ?_
    have fin : WEnd h₀ env.locals s J n s₃ → ∃ m, m < n ∧ ∃ h' tk' m' nx, s₃ = { s with heap := h', toks := tk' } ∧ Fr h₀ env.locals h' m' ∧ News h₀ env.locals h' nx ∧ J m m' nx := by
      rintro ⟨h', tk', m', nx, k', e, F', N', hk, hm⟩
      exact ⟨k', hk, h', tk', m', nx, e, F', N', hm⟩
    cases f with
    | next => exact fin p
    | cont => exact fin p
    | brk => exact p
    | ret v => exact p
local macro_rules | `(tactic| k_upd) => `(tactic| first | exact Upd.head (by assumption) | (refine' Upd.tail ?a ?b; (case a => first | assumption | k_ne); (case b => k_upd)))
section
local macro_rules | `(tactic| k_all) => `(tactic| with_reducible assumption)
local macro_rules | `(tactic| k_ne) => `(tactic| ((try dsimp only); with_reducible (first | assumption | (refine Ne.symm ?_; assumption))))
local macro_rules | `(tactic| walk_at "getMethod ref") => `(tactic| ((with_reducible show wpAny _ _ (getMethod (Value.ref _) (Str.ofString "append") _) _ _ _); k_dflt (refine' ba_led ?N ?m ?_; (case N => k_asm); (case m => k_mem))))
local macro_rules | `(tactic| walk_at "wpP") => `(tactic| ((with_reducible show wpP _ _ (call (Value.type "bytearray") [Value.bytes _ _]) _ _); (k_dflt (refine' P_bytearray1 ?g ?F ?N ?z ?_; (case g => rfl); (case F => k_asm); (case N => k_asm); (case z => decide))); intro x9 h' F' N' l1; (have l2 := off_lt l1)))
local macro_rules | `(tactic| walk_at "wpP") => `(tactic| ((with_reducible show wpP _ _ (call (Value.builtin "bytearray.append") _) _ _); (k_dflt (refine' P_append_F ?g ?F ?N ?U ?b ?a ?c ?z ?_; (case g => rfl); (case F => k_asm); (case N => k_asm); (case U => k_updF); (case b => with_reducible assumption); (case a => first | decide | omega); (case c => first | decide | omega); (case z => (simp only [List.length_take] at *; omega)))); intro h' B9 hB9 F' N'; (try dsimp only at N')))
local macro_rules | `(tactic| walk_at "wpP") => `(tactic| ((with_reducible show wpP _ _ (call (Value.type "bytearray") []) _ _); (k_dflt (refine' P_bytearray0 ?g ?F ?N ?_; (case g => rfl); (case F => k_asm); (case N => k_asm))); intro x9 h' F' N' l1; (obtain ⟨l2, l3, l4⟩ := off3 l1); (replace N' := rot3 N')))
local macro_rules | `(tactic| walk_at "call ref") => `(tactic| ((with_reducible show wpAny _ _ (call (Value.ref 206) _) _ _ _); k_dflt (refine ct_auto (C := by exact c_peekZ _ _ _ _ _ _ _ _ _ _ _ _ (by with_reducible assumption) (by with_reducible assumption) (by with_reducible assumption) (by with_reducible first | assumption | exact off_cons (by assumption) (by assumption)) (by with_reducible assumption)) (ret := ?_); walk_at "mine:oD")))
local macro_rules | `(tactic| walk_at "call ref") => `(tactic| ((with_reducible show wpAny _ _ (call (Value.ref 220) _) _ _ _); k_dflt (refine ct_auto (C := by exact c_need _ _ _ _ _ _ _ _ _ _ _ (by with_reducible assumption) (by with_reducible assumption) (by with_reducible assumption) (by with_reducible assumption) _ _ [34] rfl (by decide) _ _ (by with_reducible assumption)) (ret := ?_); walk_at "mine:oE")))
local macro_rules | `(tactic| walk_at "compareOp In int bytes") => `(tactic| (refine in_bytes_no (by omega) (by omega) (crlf_no (by omega)) ?_))
local macro_rules | `(tactic| walk_at "call type:bytes") => `(tactic| ((with_reducible show wpAny _ _ (call (Value.type "bytes") [Value.ref _]) _ _ _); k_dflt (refine' bytes_led ?N ?m ?b ?z ?_; (case N => k_asm); (case m => k_mem); (case b => with_reducible assumption); (case z => (simp only [List.length_take] at *; omega))); intro t9 k9))
local macro_rules | `(tactic| walk_at "compareOp NotEq int int") => `(tactic| (refine ne_known ?_ ?_; (with_reducible assumption)))
local macro_rules | `(tactic| walk_at "compareOp Eq int int") => `(tactic| (refine eq_known ?_ ?_; (with_reducible assumption)))
local macro_rules | `(tactic| walk_at "wpP") => `(tactic| ((with_reducible show wpP _ _ (execs (Stmt.While _ _ [] _ :: _) _) _ _); refine stop ?_))
theorem c_quotedW (w : World) (news : Led) (W d : Addr) (b : Array UInt8) (t tn k1 k2 : Tok) (n : Nat) (ks : List Int) (hb : bInts b = ks) (hz : ks.length ≤ 300) (hW : W ≠ d) (off : ∀ p ∈ news, p.1 ≠ d) (xs post : List Int) (hL : ks.drop n = quo xs ++ post) (hq : ∀ c ∈ xs, 32 ≤ c ∧ c ≤ 126) (hcz : xs.length ≤ 99) : CtP w 297 5 ((W, instObj 362 d) :: (d, wd w b t n tn k1 k2) :: news) [.ref W] (fun v news' => (∃ b' t', v = .bytes b' t' ∧ bInts b' = xs) ∧ ∃ tn k1 k2, news' = (W, instObj 362 d) :: (d, wd w b t ((n + (quo xs).length : Nat) : Int) tn k1 k2) :: news) := by
  walk_at "mine:fill"
  unfold CtP
  intro mean mg mb dp un cn cs a ccd cl outer A₀ base h₀ L m s Q B F X N T hk hd hu ret
  refine P_call2 ?_
  k_dflt (walk_at "mine:enterP")
  have hf0 : (ks.drop n).take ([34] : List Int).length = [34] := by rw [hL]; rfl
  k_steps
  unfold Stop
  refine P_execs_cons (P_while_inv (fun k m' nx => m' = _ ∧ ∃ (j : Nat) (B9 : Array UInt8) (tj k1' k2' : Nat), k = xs.length - j ∧ j ≤ xs.length ∧ bInts B9 = xs.take j ∧ nx = (W, instObj 362 d) :: (d, wd w b t ((n + 1 + ((xs.take j).flatMap esc).length : Nat) : Int) tj k1' k2') :: (_, baObj B9) :: news) (by k_asm) (by k_asm) ⟨rfl, 0, _, _, _, _, rfl, Nat.zero_le _, rfl, rfl⟩ ?_)
  rintro k m₁ nx h tk F1 N1 ⟨rfl, j, B9, tj, k1', k2', hk, hj, hB9, rfl⟩
  rcases quo_turn hL hj hq with ⟨e1, e2⟩ | ⟨c, e1, e2, rfl | rfl, e4, e5, e6⟩ | ⟨c, e1, e2, e3, e4, e5, e6, e7, e8⟩
  · k_steps
    all_goals (
      refine ret _ _ _ _ ⟨⟨_, _, rfl, ?_⟩, _, _, _, rfl⟩ (by k_asm) (drop_x (by k_asm) (quo_len e1))
      rw [hB9, e1, List.take_length])
  · k_steps
    all_goals (
      show WEnd _ _ _ _ _ _
      exact quo_end (by k_asm) (by k_asm) (by with_reducible assumption) e1 e2 hk (two_on e6))
  · k_steps
    all_goals (
      show WEnd _ _ _ _ _ _
      exact quo_end (by k_asm) (by k_asm) (by with_reducible assumption) e1 e2 hk (two_on e6))
  · k_steps
    all_goals (
      show WEnd _ _ _ _ _ _
      exact quo_end (by k_asm) (by k_asm) (by with_reducible assumption) e1 e2 hk (one_on e8))
end
end
section
open PySem.W.KBw (bInts)
def astrO (ks : List Int) (p : Bool) : List Int := if (decide (0 < ks.length) && decide (ks.length ≤ 72) && !decide (ks.map lowC = [110, 105, 108]) && ks.all isAstr) = true then ks else lawS ks p
theorem low_ne {ks : List Int} {x : Array UInt8} (hb : bInts x = ks.map lowC) (h : (x.toList != #[110, 105, 108].toList) = true) : decide (ks.map lowC = [110, 105, 108]) = false := by
  have e : bInts #[110, 105, 108] = [110, 105, 108] := rfl
  rw [same_ints hb e] at h
  simpa using h
theorem low_eq {ks : List Int} {x : Array UInt8} (hb : bInts x = ks.map lowC) (h : (x.toList != #[110, 105, 108].toList) = false) : decide (ks.map lowC = [110, 105, 108]) = true := by
  have e : bInts #[110, 105, 108] = [110, 105, 108] := rfl
  rw [same_ints hb e] at h
  simpa using h
theorem ao_bare {ks : List Int} {p : Bool} {x : Array UInt8} (h0 : 0 < (ks.length : Int)) (h1 : (ks.length : Int) ≤ 72) (hb : bInts x = ks.map lowC) (h2 : (x.toList != #[110, 105, 108].toList) = true) (h3 : (ks.all fun x => isAstr x) = true) : ks = astrO ks p := by
  have a : 0 < ks.length := by omega
  have b : ks.length ≤ 72 := by omega
  unfold astrO
  rw [if_pos]
  rw [low_ne hb h2, decide_eq_true a, decide_eq_true b]
  simpa using h3
theorem ao_1 {ks : List Int} {p : Bool} (h3 : (ks.all fun x => isAstr x) = false) : lawS ks p = astrO ks p := by
  unfold astrO
  rw [if_neg]
  have : ks.all isAstr = false := h3
  rw [this]; simp
theorem ao_2 {ks : List Int} {p : Bool} {x : Array UInt8} (hb : bInts x = ks.map lowC) (h2 : (x.toList != #[110, 105, 108].toList) = false) : lawS ks p = astrO ks p := by
  unfold astrO
  rw [if_neg]
  rw [low_eq hb h2]; simp
theorem ao_3 {ks : List Int} {p : Bool} (h : ¬(ks.length : Int) ≤ 72) : lawS ks p = astrO ks p := by
  have b : ¬ks.length ≤ 72 := by omega
  unfold astrO
  rw [if_neg]
  simp [b]
theorem ao_4 {ks : List Int} {p : Bool} (h : ¬0 < (ks.length : Int)) : lawS ks p = astrO ks p := by
  have b : ¬0 < ks.length := by omega
  unfold astrO
  rw [if_neg]
  simp [b]
theorem lawS_q {ks : List Int} {p : Bool} (h : quotable ks = true) : [34] ++ ks.flatMap esc ++ [34] = lawS ks p := by simp [lawS, h]
theorem lawS_l {ks : List Int} {p : Bool} (h : quotable ks = false) : litO ks p = lawS ks p := by simp [lawS, h]
theorem lawS_len (ks : List Int) (p : Bool) (hz : ks.length ≤ 99) : (lawS ks p).length ≤ 200 := by
  have h1 := escs_le ks
  have h2 := digs_le ks.length
  unfold lawS
  split
  · simp only [List.length_append, List.length_cons, List.length_nil]; omega
  · unfold litO
    cases p <;> simp <;> omega
section
local macro_rules | `(tactic| walk_at "call ref") => `(tactic| ((with_reducible show wpAny _ _ (call (Value.ref 371) _) _ _ _); k_dflt (refine ct_auto (C := by exact c_is_quotable _ _ _ _ _ (by with_reducible assumption) (by omega)) (ret := ?_); walk_at "mine:oA")))
local macro_rules | `(tactic| walk_at "call ref") => `(tactic| ((with_reducible show wpAny _ _ (call (Value.ref 386) _) _ _ _); k_dflt (refine ct_auto (C := by exact c_literal _ _ _ _ _ _ (by with_reducible assumption) (by omega)) (ret := ?_); walk_at "mine:oB")))
local macro_rules | `(tactic| walk_at "wpP") => `(tactic| ((with_reducible show wpP _ _ (call (Value.ref 378) _) _ _); (k_dflt (refine ctP_auto (C := by exact c_qo _ _ _ _ _ (by with_reducible assumption) (by omega)) (ret := ?_); walk_at "mine:oB"))))
theorem c_so (w : World) (b : Array UInt8) (t : Tok) (ks : List Int) (p : Bool) (news : Led) (hb : bInts b = ks) (hz : ks.length ≤ 99) : CtP w 394 8 (news) [.bytes b t, .bool p] (fun v news' => (∃ b' t', v = .bytes b' t' ∧ bInts b' = lawS ks p) ∧ news' = news) := by
  walk_at "mine:fill"
  unfold CtP
  intro mean mg mb dp un cn cs a ccd cl outer A₀ base h₀ L m s Q B F X N T hk hd hu ret
  refine P_call2 ?_
  k_dflt (walk_at "mine:enterP")
  k_steps
  all_goals (
    (with_reducible rename bInts _ = _ => hBx)
    first
    | exact ret _ _ _ _ ⟨⟨_, _, rfl, Eq.trans hBx (lawS_q (by with_reducible assumption))⟩, rfl⟩ (by k_asm) (by k_asm)
    | exact ret _ _ _ _ ⟨⟨_, _, rfl, Eq.trans hBx (lawS_l (by with_reducible assumption))⟩, rfl⟩ (by k_asm) (by k_asm))
end
section
local macro_rules | `(tactic| walk_at "call ref") => `(tactic| ((with_reducible show wpAny _ _ (call (Value.ref 85) _) _ _ _); k_dflt (refine ct_auto (C := by exact c_lower _ _ _ _ _ (by with_reducible assumption) (by omega)) (ret := ?_); walk_at "mine:oB")))
local macro_rules | `(tactic| walk_at "call ref") => `(tactic| ((with_reducible show wpAny _ _ (call (Value.ref 149) _) _ _ _); k_dflt (refine ct_auto (C := c_is_astring _ _ _ _ (by with_reducible assumption) (by with_reducible assumption)) (ret := ?_)); walk_at "mine:oA"))
local macro_rules | `(tactic| walk_at "wpP") => `(tactic| ((with_reducible show wpP _ _ (call (Value.ref 394) _) _ _); (k_dflt (refine ctP_auto (C := by exact c_so _ _ _ _ _ _ (by with_reducible assumption) (by omega)) (ret := ?_); walk_at "mine:oB"))))
local macro_rules | `(tactic| walk_at "eval ListComp") => `(tactic| (k_here; k_dflt (refine' ListComp_bytes (Y := fun k v => v = .bool (isAstr k)) ?kh ?kb ?kz ?cF ?cN ?kc ?kl ?kk ?kn ?kx ?hi ?turn11 ?hlist11 ?ks; (walk_at "mine:c3"); (case cF => k_asm); (case cN => k_asm); (walk_at "mine:kB"); (walk_at "mine:c1"); (walk_at "mine:c2"); (case' turn11 => (intro k t I oI C oC D m₂ h tk ys E' hmem hC hx F N; (have hbd := mem_in (by assumption) hmem); obtain ⟨hbd0, hbd1⟩ := hbd)); (case' hlist11 => (intro D ys h tk hr F N' _; (have kB := Rel2.bools hr); (have kL := News.isList N' List.mem_cons_self); (have N := News.rest N'); clear N'; clear hr)))))
local macro_rules | `(tactic| walk_at "call type:bytes") => `(tactic| (k_here; (with_reducible show wpAny _ _ (call (Value.type "bytes") [Value.bytes _ _]) _ _ _); k_dflt (refine bytes_of_bytes ?_)))
theorem c_ao (w : World) (b : Array UInt8) (t : Tok) (ks : List Int) (p : Bool) (news : Led) (hb : bInts b = ks) (hz : ks.length ≤ 99) : CtP w 400 10 (news) [.bytes b t, .bool p] (fun v news' => (∃ b' t', v = .bytes b' t' ∧ bInts b' = astrO ks p) ∧ news' = news) := by
  walk_at "mine:fill"
  unfold CtP
  intro mean mg mb dp un cn cs a ccd cl outer A₀ base h₀ L m s Q B F X N T hk hd hu ret
  refine P_call2 ?_
  k_dflt (walk_at "mine:enterP")
  k_steps
  all_goals (first
    | ((with_reducible show TurnEnd _ _ _ _ _ _ _ _); exact ⟨_, _, rfl, rfl, by k_asm, by k_asm⟩)
    | exact ret _ _ _ _ ⟨⟨_, _, rfl, Eq.trans hb (ao_bare (by with_reducible assumption) (by with_reducible assumption) (by with_reducible assumption) (by with_reducible assumption) (by with_reducible assumption))⟩, rfl⟩ (by k_asm) (by k_asm)
    | ((with_reducible rename bInts _ = lawS _ _ => hBx)
       first
       | exact ret _ _ _ _ ⟨⟨_, _, rfl, Eq.trans hBx (ao_1 (by with_reducible assumption))⟩, rfl⟩ (by k_asm) (by k_asm)
       | exact ret _ _ _ _ ⟨⟨_, _, rfl, Eq.trans hBx (ao_3 (by with_reducible assumption))⟩, rfl⟩ (by k_asm) (by k_asm)
       | exact ret _ _ _ _ ⟨⟨_, _, rfl, Eq.trans hBx (ao_4 (by with_reducible assumption))⟩, rfl⟩ (by k_asm) (by k_asm)
       | exact ret _ _ _ _ ⟨⟨_, _, rfl, Eq.trans hBx (ao_2 (by with_reducible assumption) (by with_reducible assumption))⟩, rfl⟩ (by k_asm) (by k_asm)))
end
end
section
open PySem.W.KBw (bInts)
theorem quotable_all {xs : List Int} (h : quotable xs = true) : ∀ c ∈ xs, 32 ≤ c ∧ c ≤ 126 := by
  unfold quotable at h
  simp only [Bool.and_eq_true, List.all_eq_true] at h
  intro c hc
  have := h.2 c hc
  unfold isPr at this
  simpa using this
theorem lawS_cases {ks xs post : List Int} {n : Nat} {p : Bool} (hL : ks.drop n = lawS xs p ++ post) :
    (lawS xs p = quo xs ∧ ks.drop n = quo xs ++ post ∧ (∀ c ∈ xs, 32 ≤ c ∧ c ≤ 126) ∧ PeekAt ks (n : Int) 34) ∨ (lawS xs p = litO xs p ∧ ks.drop n = litO xs p ++ post ∧ PeekAt ks (n : Int) 123) := by
  cases h : quotable xs
  · have e : lawS xs p = litO xs p := by simp [lawS, h]
    rw [e] at hL
    exact .inr ⟨e, hL, _, rfl, peek_drop hL⟩
  · have e : lawS xs p = quo xs := by simp [lawS, h, quo]
    rw [e] at hL
    exact .inl ⟨e, hL, quotable_all h, _, rfl, peek_drop hL⟩
theorem astr_not {c : Int} (h : isAstr c = true) : c ≠ 34 ∧ c ≠ 123 := by
  constructor
  · rintro rfl; revert h; decide
  · rintro rfl; revert h; decide
theorem bare_facts {ks xs post : List Int} {n : Nat} (hz : ks.length ≤ 300) (hL : ks.drop n = xs ++ post) (h0 : xs ≠ []) (ha : xs.all isAstr = true) (hp : ∀ c r, post = c :: r → isAstr c = false) :
    ∃ c, PeekAt ks (n : Int) c ∧ c ≠ 34 ∧ c ≠ 123 ∧ (ks.drop n).takeWhile isAstr = xs ∧ (xs.length : Int) ≠ 0 ∧ xs.length ≤ 300 := by
  have hlen : xs.length ≤ 300 := by
    have := congrArg List.length hL
    simp only [List.length_drop, List.length_append] at this; omega
  cases xs with
  | nil => exact absurd rfl h0
  | cons c r =>
    have hc : isAstr c = true := by simp only [List.all_cons, Bool.and_eq_true] at ha; exact ha.1
    refine ⟨c, ⟨_, rfl, peek_drop hL⟩, (astr_not hc).1, (astr_not hc).2, ?_, by simp only [List.length_cons]; omega, hlen⟩
    rw [hL, List.takeWhile_append_of_pos (fun a h => List.all_eq_true.mp ha a h)]
    have : post.takeWhile isAstr = [] := by
      cases post with
      | nil => rfl
      | cons d r' => rw [List.takeWhile_cons, hp d r' rfl]; rfl
    rw [this, List.append_nil]
local macro_rules | `(tactic| k_upd) => `(tactic| first | exact Upd.head (by assumption) | (refine' Upd.tail ?a ?b; (case a => first | assumption | k_ne); (case b => k_upd)))
section
local macro_rules | `(tactic| walk_at "compareOp NotEq int int") => `(tactic| (refine ne_known ?_ ?_; (with_reducible assumption)))
local macro_rules | `(tactic| walk_at "compareOp Eq int int") => `(tactic| (refine eq_known ?_ ?_; (with_reducible assumption)))
local macro_rules | `(tactic| walk_at "call ref") => `(tactic| ((with_reducible show wpAny _ _ (call (Value.ref 206) _) _ _ _); k_dflt (refine ct_auto (C := by exact c_peekZ _ _ _ _ _ _ _ _ _ _ _ _ (by with_reducible assumption) (by with_reducible assumption) (by with_reducible assumption) (by with_reducible assumption) (by with_reducible assumption)) (ret := ?_); walk_at "mine:oD")))
local macro_rules | `(tactic| walk_at "wpP") => `(tactic| ((with_reducible show wpP _ _ (call (Value.ref 297) _) _ _); (k_dflt (refine ctP_auto (C := by exact c_quotedW _ _ _ _ _ _ _ _ _ _ _ (by with_reducible assumption) (by with_reducible assumption) (by with_reducible assumption) (by with_reducible assumption) _ _ (by with_reducible assumption) (by with_reducible assumption) (by with_reducible assumption)) (ret := ?_); walk_at "mine:oC"))))
local macro_rules | `(tactic| walk_at "call ref") => `(tactic| ((with_reducible show wpAny _ _ (call (Value.ref 304) _) _ _ _); k_dflt (refine ct_auto (C := by exact c_litW _ _ _ _ _ _ _ _ _ _ _ (by with_reducible assumption) (by with_reducible assumption) (by with_reducible assumption) (by with_reducible assumption) _ _ _ (by with_reducible assumption) (by with_reducible assumption)) (ret := ?_); walk_at "mine:oC")))
local macro_rules | `(tactic| walk_at "mine:none1") => `(tactic| skip)
theorem c_stringW (w : World) (news : Led) (W d : Addr) (b : Array UInt8) (t tn k1 k2 : Tok) (n : Nat) (ks : List Int) (hb : bInts b = ks) (hz : ks.length ≤ 300) (hW : W ≠ d) (off : ∀ p ∈ news, p.1 ≠ d) (xs post : List Int) (p : Bool) (hL : ks.drop n = lawS xs p ++ post) (hcz : xs.length ≤ 99) : CtP w 311 9 ((W, instObj 362 d) :: (d, wd w b t n tn k1 k2) :: news) [.ref W] (fun v news' => (∃ b' t', v = .bytes b' t' ∧ bInts b' = xs) ∧ ∃ tn k1 k2, news' = (W, instObj 362 d) :: (d, wd w b t ((n + (lawS xs p).length : Nat) : Int) tn k1 k2) :: news) := by
  walk_at "mine:fill"
  unfold CtP
  intro mean mg mb dp un cn cs a ccd cl outer A₀ base h₀ L m s Q B F X N T hk hd hu ret
  refine P_call2 ?_
  k_dflt (walk_at "mine:enterP")
  rcases lawS_cases hL with ⟨e, hL1, hq, hp⟩ | ⟨e, hL2, hp⟩
  · k_steps
    all_goals exact ret _ _ _ _ ⟨⟨_, _, rfl, by with_reducible assumption⟩, _, _, _, by rw [e]⟩ (by k_asm) (by k_asm)
  · k_steps
    all_goals exact ret _ _ _ _ ⟨⟨_, _, rfl, by with_reducible assumption⟩, _, _, _, by rw [e]⟩ (by k_asm) (by k_asm)
end
section
local macro_rules | `(tactic| walk_at "compareOp NotEq int int") => `(tactic| (refine ne_known ?_ ?_; (with_reducible assumption)))
local macro_rules | `(tactic| walk_at "compareOp Eq int int") => `(tactic| (refine eq_known ?_ ?_; (with_reducible assumption)))
local macro_rules | `(tactic| walk_at "call ref") => `(tactic| ((with_reducible show wpAny _ _ (call (Value.ref 206) _) _ _ _); k_dflt (refine ct_auto (C := by exact c_peekZ _ _ _ _ _ _ _ _ _ _ _ _ (by with_reducible assumption) (by with_reducible assumption) (by with_reducible assumption) (by with_reducible assumption) (by with_reducible assumption)) (ret := ?_); walk_at "mine:oD")))
local macro_rules | `(tactic| walk_at "wpP") => `(tactic| ((with_reducible show wpP _ _ (call (Value.ref 311) _) _ _); (k_dflt (refine ctP_auto (C := by exact c_stringW _ _ _ _ _ _ _ _ _ _ _ (by with_reducible assumption) (by with_reducible assumption) (by with_reducible assumption) (by with_reducible assumption) _ _ _ (by with_reducible assumption) (by with_reducible assumption)) (ret := ?_); walk_at "mine:oC"))))
theorem c_orS (w : World) (news : Led) (W d : Addr) (b : Array UInt8) (t tn k1 k2 : Tok) (n : Nat) (ks : List Int) (hb : bInts b = ks) (hz : ks.length ≤ 300) (hW : W ≠ d) (off : ∀ p ∈ news, p.1 ≠ d) (xs post : List Int) (p : Bool) (hL : ks.drop n = lawS xs p ++ post) (hcz : xs.length ≤ 99) : CtP w 318 11 ((W, instObj 362 d) :: (d, wd w b t n tn k1 k2) :: news) [.ref W, .ref 149] (fun v news' => (∃ b' t', v = .bytes b' t' ∧ bInts b' = xs) ∧ ∃ tn k1 k2, news' = (W, instObj 362 d) :: (d, wd w b t ((n + (lawS xs p).length : Nat) : Int) tn k1 k2) :: news) := by
  walk_at "mine:fill"
  unfold CtP
  intro mean mg mb dp un cn cs a ccd cl outer A₀ base h₀ L m s Q B F X N T hk hd hu ret
  refine P_call2 ?_
  k_dflt (walk_at "mine:enterP")
  rcases lawS_cases hL with ⟨_, _, _, hp⟩ | ⟨_, _, hp⟩
  · k_steps
    all_goals exact ret _ _ _ _ ⟨⟨_, _, rfl, by with_reducible assumption⟩, _, _, _, rfl⟩ (by k_asm) (by k_asm)
  · k_steps
    all_goals exact ret _ _ _ _ ⟨⟨_, _, rfl, by with_reducible assumption⟩, _, _, _, rfl⟩ (by k_asm) (by k_asm)
theorem c_nstrW (w : World) (news : Led) (W d : Addr) (b : Array UInt8) (t tn k1 k2 : Tok) (n : Nat) (ks : List Int) (hb : bInts b = ks) (hz : ks.length ≤ 300) (hW : W ≠ d) (off : ∀ p ∈ news, p.1 ≠ d) (xs post : List Int) (p : Bool) (hL : ks.drop n = lawS xs p ++ post) (hcz : xs.length ≤ 99) : CtP w 339 11 ((W, instObj 362 d) :: (d, wd w b t n tn k1 k2) :: news) [.ref W] (fun v news' => (∃ b' t', v = .bytes b' t' ∧ bInts b' = xs) ∧ ∃ tn k1 k2, news' = (W, instObj 362 d) :: (d, wd w b t ((n + (lawS xs p).length : Nat) : Int) tn k1 k2) :: news) := by
  walk_at "mine:fill"
  unfold CtP
  intro mean mg mb dp un cn cs a ccd cl outer A₀ base h₀ L m s Q B F X N T hk hd hu ret
  refine P_call2 ?_
  k_dflt (walk_at "mine:enterP")
  rcases lawS_cases hL with ⟨_, _, _, hp⟩ | ⟨_, _, hp⟩
  · k_steps
    all_goals exact ret _ _ _ _ ⟨⟨_, _, rfl, by with_reducible assumption⟩, _, _, _, rfl⟩ (by k_asm) (by k_asm)
  · k_steps
    all_goals exact ret _ _ _ _ ⟨⟨_, _, rfl, by with_reducible assumption⟩, _, _, _, rfl⟩ (by k_asm) (by k_asm)
local macro_rules | `(tactic| walk_at "call ref") => `(tactic| ((with_reducible show wpAny _ _ (call (Value.ref 241) _) _ _ _); k_dflt (refine ct_auto (C := by exact c_run_astr _ _ _ _ _ _ _ _ _ _ _ (by with_reducible assumption) (by with_reducible assumption) (by with_reducible assumption) (by with_reducible assumption)) (ret := ?_); intro v9 n9 h9 tk9 hp9 F9 N9; obtain ⟨⟨b9, t9, e9, hb9⟩, tn9, k19, k29, e9'⟩ := hp9; (rename List.takeWhile isAstr _ = _ => hr9); rw [hr9] at hb9 e9'; subst e9; subst e9'; (try dsimp only); (try k_fold))))
local macro_rules | `(tactic| walk_at "call type:bytes") => `(tactic| (k_here; (with_reducible show wpAny _ _ (call (Value.type "bytes") [Value.bytes _ _]) _ _ _); k_dflt (refine bytes_of_bytes ?_)))
theorem c_orB (w : World) (news : Led) (W d : Addr) (b : Array UInt8) (t tn k1 k2 : Tok) (n : Nat) (ks : List Int) (hb : bInts b = ks) (hz : ks.length ≤ 300) (hW : W ≠ d) (off : ∀ p ∈ news, p.1 ≠ d) (xs post : List Int) (hL : ks.drop n = xs ++ post) (h0 : xs ≠ []) (ha : xs.all isAstr = true) (hpo : ∀ c r, post = c :: r → isAstr c = false) : CtP w 318 11 ((W, instObj 362 d) :: (d, wd w b t n tn k1 k2) :: news) [.ref W, .ref 149] (fun v news' => (∃ b' t', v = .bytes b' t' ∧ bInts b' = xs) ∧ ∃ tn k1 k2, news' = (W, instObj 362 d) :: (d, wd w b t ((n + (xs).length : Nat) : Int) tn k1 k2) :: news) := by
  walk_at "mine:fill"
  unfold CtP
  intro mean mg mb dp un cn cs a ccd cl outer A₀ base h₀ L m s Q B F X N T hk hd hu ret
  refine P_call2 ?_
  k_dflt (walk_at "mine:enterP")
  obtain ⟨c, hp, hc1, hc2, hr, h1, h2⟩ := bare_facts hz hL h0 ha hpo
  k_steps
  all_goals exact ret _ _ _ _ ⟨⟨_, _, rfl, by with_reducible assumption⟩, _, _, _, rfl⟩ (by k_asm) (by k_asm)
end
section
local macro_rules | `(tactic| walk_at "wpP") => `(tactic| ((with_reducible show wpP _ _ (call (Value.ref 318) _) _ _); (k_dflt (refine ctP_auto (C := by exact c_orS _ _ _ _ _ _ _ _ _ _ _ (by with_reducible assumption) (by with_reducible assumption) (by with_reducible assumption) (by with_reducible assumption) _ _ _ (by with_reducible assumption) (by with_reducible assumption)) (ret := ?_); walk_at "mine:oC"))))
theorem c_astrS (w : World) (news : Led) (W d : Addr) (b : Array UInt8) (t tn k1 k2 : Tok) (n : Nat) (ks : List Int) (hb : bInts b = ks) (hz : ks.length ≤ 300) (hW : W ≠ d) (off : ∀ p ∈ news, p.1 ≠ d) (xs post : List Int) (p : Bool) (hL : ks.drop n = lawS xs p ++ post) (hcz : xs.length ≤ 99) : CtP w 325 13 ((W, instObj 362 d) :: (d, wd w b t n tn k1 k2) :: news) [.ref W] (fun v news' => (∃ b' t', v = .bytes b' t' ∧ bInts b' = xs) ∧ ∃ tn k1 k2, news' = (W, instObj 362 d) :: (d, wd w b t ((n + (lawS xs p).length : Nat) : Int) tn k1 k2) :: news) := by
  walk_at "mine:fill"
  unfold CtP
  intro mean mg mb dp un cn cs a ccd cl outer A₀ base h₀ L m s Q B F X N T hk hd hu ret
  refine P_call2 ?_
  k_dflt (walk_at "mine:enterP")
  k_steps
  all_goals exact ret _ _ _ _ ⟨⟨_, _, rfl, by with_reducible assumption⟩, _, _, _, rfl⟩ (by k_asm) (by k_asm)
end
section
local macro_rules | `(tactic| walk_at "wpP") => `(tactic| ((with_reducible show wpP _ _ (call (Value.ref 318) _) _ _); (k_dflt (refine ctP_auto (C := by exact c_orB _ _ _ _ _ _ _ _ _ _ _ (by with_reducible assumption) (by with_reducible assumption) (by with_reducible assumption) (by with_reducible assumption) _ _ (by with_reducible assumption) (by with_reducible assumption) (by with_reducible assumption) (by with_reducible assumption)) (ret := ?_); walk_at "mine:oC"))))
local macro_rules | `(tactic| walk_at "mine:none2") => `(tactic| skip)
theorem c_astrB (w : World) (news : Led) (W d : Addr) (b : Array UInt8) (t tn k1 k2 : Tok) (n : Nat) (ks : List Int) (hb : bInts b = ks) (hz : ks.length ≤ 300) (hW : W ≠ d) (off : ∀ p ∈ news, p.1 ≠ d) (xs post : List Int) (hL : ks.drop n = xs ++ post) (h0 : xs ≠ []) (ha : xs.all isAstr = true) (hpo : ∀ c r, post = c :: r → isAstr c = false) : CtP w 325 13 ((W, instObj 362 d) :: (d, wd w b t n tn k1 k2) :: news) [.ref W] (fun v news' => (∃ b' t', v = .bytes b' t' ∧ bInts b' = xs) ∧ ∃ tn k1 k2, news' = (W, instObj 362 d) :: (d, wd w b t ((n + (xs).length : Nat) : Int) tn k1 k2) :: news) := by
  walk_at "mine:fill"
  unfold CtP
  intro mean mg mb dp un cn cs a ccd cl outer A₀ base h₀ L m s Q B F X N T hk hd hu ret
  refine P_call2 ?_
  k_dflt (walk_at "mine:enterP")
  k_steps
  all_goals exact ret _ _ _ _ ⟨⟨_, _, rfl, by with_reducible assumption⟩, _, _, _, rfl⟩ (by k_asm) (by k_asm)
end
end
section
open PySem.W.KBw (bInts)
/-! More rules at clean contexts: tests, comparisons, tuples. -/
section
variable {prog : Program} {w : World} {A : Around} {s : Shared} {env : Env}
theorem P_isTrue_or {x : Expr} {rest : List Expr} {pos : Pos} {whole : Sem Value} {Q : Bool → Shared → Prop}
    (h : wpP (model prog w) A (PySem.isTrue x env (eval x env)) (fun c s' => if c then Q true s' else wpP (model prog w) A (PySem.isTrue (.BoolOp .Or rest pos) env whole) Q s') s) :
    wpP (model prog w) A (PySem.isTrue (.BoolOp .Or (x :: rest) pos) env whole) Q s := by
  show wpP (model prog w) A (do
    match BoolOp.Or, ← PySem.isTrue x env (eval x env) with
    | .And, false => pure false
    | .Or, true => pure true
    | _, _ => allTrue .Or rest env) Q s
  refine P_bind (P_mono h fun c s' h' => ?_)
  cases c with
  | false => exact h'
  | true => exact P_pure h'
theorem P_BoolOp_and {e₁ e₂ : Expr} {rest : List Expr} {pos : Pos} {Q : Value → Shared → Prop}
    (h : wpP (model prog w) A (eval e₁ env) (fun v s₁ => wpAny (model prog w) A (truthy v) (fun c s₂ => if c then wpP (model prog w) A (eval (.BoolOp .And (e₂ :: rest) pos) env) Q s₂ else Q v s₂) (fun _ _ => False) s₁) s) :
    wpP (model prog w) A (eval (.BoolOp .And (e₁ :: e₂ :: rest) pos) env) Q s := by
  show wpP (model prog w) A (do
    let v ← eval e₁ env
    standAt pos
    let c ← holding [v] (truthy v)
    match BoolOp.And, c with
    | .And, false | .Or, true => pure v
    | _, _ => boolOp pos .And (eval e₂ env :: evalEach rest env)) Q s
  refine P_bind (P_mono h fun v s₁ h₁ => P_then (wpAny_standAt (P_then (wpAny_holding (wpAny_mono h₁ (fun c s₂ h₂ => ?_) fun _ _ x => x)))))
  cases c with
  | false => exact P_pure h₂
  | true => exact h₂
theorem P_Compare1 {l r : Expr} {op : CmpOp} {pos : Pos} {Q : Value → Shared → Prop}
    (h : wpP (model prog w) A (eval l env) (fun a s₁ => wpAny (model prog w) A (eval r env) (fun b s₂ => wpAny (model prog w) A (compareOp op a b) Q (fun _ _ => False) s₂) (fun _ _ => False) s₁) s)
    (hm : behindInMarks op r = false := by with_unfolding_all rfl) : wpP (model prog w) A (eval (.Compare l [op] [r] pos) env) Q s := fun Γ p hΓ hC => by
  simp only [eval_Compare1, markedBehindIn_of_false hm, Sem.wp_bind', Sem.wp_holding, Sem.wp_cmd_standAt, Sem.wp_operate]
  exact Sem.wp_mono _ Γ _ (fun a p₁ s₁ h₁ => Sem.wp_mono _ Γ _ (fun b _ s₂ h₂ => h₂ Γ _ hΓ) (fun _ _ _ h' => h') _ _ (h₁ Γ p₁ hΓ)) (fun _ _ _ h' => h') _ _ (h Γ p hΓ hC)
theorem P_isTrue_Compare1 {l r : Expr} {op : CmpOp} {pos : Pos} {whole : Sem Value} {Q : Bool → Shared → Prop}
    (h : wpP (model prog w) A (eval l env) (fun a s₁ => wpAny (model prog w) A (eval r env) (fun b s₂ => wpAny (model prog w) A (compareOp op a b) (fun c s₃ => wpAny (model prog w) A (truthy c) Q (fun _ _ => False) s₃) (fun _ _ => False) s₂) (fun _ _ => False) s₁) s)
    (hm : behindInMarks op r = false := by with_unfolding_all rfl) : wpP (model prog w) A (PySem.isTrue (.Compare l [op] [r] pos) env whole) Q s := fun Γ p hΓ hC => by
  simp only [isTrue_Compare1, markedBehindIn_of_false hm, Sem.wp_bind', Sem.wp_holding, Sem.wp_cmd_standAt, Sem.wp_operate]
  exact Sem.wp_mono _ Γ _ (fun a p₁ s₁ h₁ => Sem.wp_mono _ Γ _ (fun b _ s₂ h₂ => Sem.wp_mono _ Γ _ (fun c _ s₃ h₃ => h₃ Γ _ hΓ) (fun _ _ _ h' => h') _ _ (h₂ Γ _ hΓ)) (fun _ _ _ h' => h') _ _ (h₁ Γ p₁ hΓ)) (fun _ _ _ h' => h') _ _ (h Γ p hΓ hC)
theorem P_args_nil {pos : Pos} {Q : List Value → Shared → Prop} (h : Q [] s) : wpP (model prog w) A (spliced (backTo pos (starEach [] env))) Q s := P_any (args_nil h)
theorem P_args_cons {e : Expr} {rest : List Expr} {pos : Pos} {Q : List Value → Shared → Prop}
    (h : wpP (model prog w) A (eval e env) (fun v s₁ => wpP (model prog w) A (spliced (backTo pos (starEach rest env))) (fun vs s₂ => Q (v :: vs) s₂) s₁) s)
    (he : starEach (e :: rest) env = (false, eval e env) :: starEach rest env := by rfl) : wpP (model prog w) A (spliced (backTo pos (starEach (e :: rest) env))) Q s := by
  rw [he]
  have : ∀ {x : Sem Value} {r : List (Bool × Sem Value)}, wpP (model prog w) A x (fun v s₁ => wpP (model prog w) A (spliced r) (fun vs s₂ => Q (v :: vs) s₂) s₁) s → wpP (model prog w) A (spliced ((false, x) :: r)) Q s := by
    intro x r h
    rw [spliced]
    refine P_bind (P_mono h fun v s₁ h₁ => ?_)
    simp only [Bool.false_eq_true, if_false]
    exact P_then (wpAny_pure (P_bind (P_holding (P_mono h₁ fun vs s₂ h₂ => P_pure h₂))))
  exact this h
theorem P_Tuple {elts : List Expr} {k : Nat} {pos : Pos} {Q : Value → Shared → Prop}
    (h : wpP (model prog w) A (spliced (backTo pos (starEach elts env))) (fun vs s₁ => wpAny (model prog w) A (newTuple vs) Q (fun _ _ => False) s₁) s) : wpP (model prog w) A (eval (.Tuple elts k pos) env) Q s := by
  show wpP (model prog w) A (do standAt pos; newTuple (← spliced (backTo pos (starEach elts env)))) Q s
  exact P_then (wpAny_standAt (P_bind (P_mono h fun vs s₁ h₁ => P_any h₁)))
theorem P_Assign_Tuple_swapped {elts : List Expr} {k : Nat} {tpos pos : Pos} {value : Expr} {names : List Str} {Q : Flow → Shared → Prop}
    (h : wpP (model prog w) A (eval value env) (fun v s₁ => wpAny (model prog w) A (unpackItems v names.length none) (fun items s₂ =>
      wpAny (model prog w) A (assignInOrder (names.reverse.map fun n => bindName env n) items.reverse) (fun _ => Q .next) (fun _ _ => False) s₂) (fun _ _ => False) s₁) s)
    (hs : swapsWithSole [.Tuple elts k tpos] value pos.line env = pure false := by rfl)
    (hw : swappedStores [.Tuple elts k tpos] value env = pure (some names) := by rfl) :
    wpP (model prog w) A (exec (.Assign [.Tuple elts k tpos] value pos) env) Q s := by
  rw [exec_Assign]
  refine P_then (wpAny_standAt ?_)
  rw [hs]
  refine P_then (wpAny_pure ?_)
  rw [if_neg (by decide)]
  refine P_bind (P_mono h fun v s₁ h₁ => ?_)
  rw [hw]
  refine P_then (wpAny_pure ?_)
  show wpP (model prog w) A (do rule "assign.swapped-stores"; let items ← unpackItems v names.length none; assignInOrder (names.reverse.map fun n => bindName env n) items.reverse; pure .next) Q s₁
  exact P_then (wpAny_rule (P_then (wpAny_mono h₁ (fun items s₂ h₂ => P_then (wpAny_mono h₂ (fun _ _ x => P_pure x) fun _ _ x => x)) fun _ _ x => x)))
end
/-- the call of the law itself, at the caller's context -/
theorem codeP_top {prog : Program} {w : World} {s : Shared} {K : Frag} {mg mb : Str → Option Value} {p : Program} {loose : List Str} {mean : ExcName → Option Value} {R : Result → Shared → Prop} {name qual : Str} {params : Arguments} {body : List Stmt} {scope : Scope} {dV kV doc pm cdv ct oc : Value} {an od : Option Addr} {osl : Array (Option Value)} {f : Addr} {args : Args} {binds : List (Str × Value)}
    (X₀ : K.In s.heap) (T : Top p loose mean mg mb s.heap)
    (ho : K.lookup f = some ⟨oc, od, .func (fnOf name qual params body scope dV kV doc pm an cdv ct), osl⟩) (hcd : codeIn K cdv qual = true)
    (hbind : BindsTo s (fnOf name qual params body scope dV kV doc pm an cdv ct) args binds) (hloc : ∀ y ∈ binds, scope.names.lookup y.1 = some .local)
    (h : ∀ h₁, Fr s.heap s.heap.objs.size h₁ (fun y => binds.reverse.lookup y) →
      wpP (model prog w) (callerA.deeper (envOf qual scope s.heap.objs.size f cdv)) (execs body (envOf qual scope s.heap.objs.size f cdv))
        (fun fl s' => R (.ok (.ret (match fl with | .ret v => v | _ => .none))) s') { s with heap := h₁, toks := s.toks + binds.length })
    (hco : scope.isCoroutine = false) (hgen : scope.isGenerator = false) (hk : scope.kind = .function)
    (hcell : ∀ x ∈ scope.names, x.2 ≠ .cell) : codeP (model prog w) callerA (.call (.ref f) args) R s := by
  refine codeP_call_function (by decide) (X₀ _ _ ho) rfl hco hgen rfl (codeRec_of X₀ hcd) (hbind _ _ _ _ ?_)
  refine wpAny_newFunctionEnv hcell hloc (fun h₁ hns hsb => ⟨T.nolimit.fresh _ hsb, codeP_func ?_⟩) hk
  exact h h₁ ⟨hns, fun b o e => hsb.extBut b o (Nat.ne_of_lt (Heap.lt_size e)) (Heap.get?_push_of_some _ e), Nat.le_refl _⟩
theorem eqAt_bytes {A : Around} {s : Shared} {b c : Array UInt8} {t u : Tok} : SeqAt.EqAt A s (.bytes b t) (.bytes c u) (decide (b.toList = c.toList)) := fun _ _ _ _ h => eqBool_bytes h
end
section
open PySem.W.KBw (bInts)
theorem P_iter_tup {prog : Program} {w : World} {A : Around} {s : Shared} {h₀ : Heap} {m₀ : Str → Option Value} {env : Env} {news : Led} {x y : Str} {body : List Stmt} {Q : Flow → Shared → Prop} {px : Pos} {T : Addr} {items : Array Value} {n : Nat}
    (hh : A.handled = none) (hx : env.kindOf x = some .local) (hp : (env.scope.kind == .class || (env.scope.kind == .module && env.locals != env.globals)) = false)
    (F : Fr h₀ env.locals s.heap m₀) (N : News h₀ env.locals s.heap ((T, ⟨.type "tuple", none, .seq items n, #[]⟩) :: news))
    (turn : ∀ v (u : Str → Option Value) h tk I oI, v ∈ items.toList → (∀ p ∈ (T, (⟨.type "tuple", none, .seq items n, #[]⟩ : Obj)) :: news, p.1 ≠ I) → Fr h₀ env.locals h (fun z => if z = x then some v else if z = y then u z else m₀ z) → News h₀ env.locals h ((I, oI) :: (T, ⟨.type "tuple", none, .seq items n, #[]⟩) :: news) →
      wpP (model prog w) A (execs body env) (LoopPost h₀ env.locals s I oI (fun m' nx => nx = (T, ⟨.type "tuple", none, .seq items n, #[]⟩) :: news ∧ ∀ z, z ≠ x → z ≠ y → m' z = m₀ z) Q) { s with heap := h, toks := tk })
    (done : ∀ (u : Str → Option Value) h tk, Fr h₀ env.locals h (fun z => if z = x then u z else if z = y then u z else m₀ z) → News h₀ env.locals h ((T, ⟨.type "tuple", none, .seq items n, #[]⟩) :: news) → Q .next { s with heap := h, toks := tk }) :
    wpAny (model prog w) A (pyIter (.ref T)) (fun it s₂ => codeP (model prog w) A (.forLoop (.Name x px) it body [] env) (fun r s' => match r with | .ok f => Q f s' | .error _ => False) s₂) (fun _ _ => False) s := by
  have hT := N _ (List.mem_cons_self (l := news))
  have ht : s.heap.IsTuple T items := ⟨_, hT.1, rfl, _, rfl⟩
  refine wpAny_pyIter_tuple ht ?_
  have hlt : T < s.heap.objs.size := Heap.lt_size hT.1
  have W := Walks.tuple (prog := prog) (w := w) (A := A) hh s.heap.objs.size T (Nat.ne_of_lt hlt) items
  generalize hI : s.heap.objs.size = I at *
  have hnI : h₀.get? I = none := hI ▸ next_is_new F
  have hLI : I ≠ env.locals := fun e => absurd F.ns.lt (by rw [hI, e]; exact Nat.lt_irrefl _)
  have mk : ∀ (m₁ : Str → Option Value), (∀ z, z ≠ x → z ≠ y → m₁ z = m₀ z) → ∀ v : Str → Option Value, (fun z => if z = x then v z else m₁ z) = fun z => if z = x then v z else if z = y then m₁ z else m₀ z := by
    intro m₁ hm v
    funext z; by_cases h1 : z = x
    · simp [h1]
    · simp only [if_neg h1]
      by_cases h2 : z = y
      · simp [h2]
      · simp only [if_neg h2]; exact hm z h1 h2
  refine codeP_forLoop (fun k s' => ∃ i h' tk m₁ oI, s' = { s with heap := h', toks := tk } ∧ i + k = items.size ∧ (h'.IsTupleIter I T i ∧ h'.IsTuple T items) ∧ Fr h₀ env.locals h' m₁ ∧ News h₀ env.locals h' ((I, oI) :: (T, ⟨.type "tuple", none, .seq items n, #[]⟩) :: news) ∧ (∀ p ∈ (T, (⟨.type "tuple", none, .seq items n, #[]⟩ : Obj)) :: news, p.1 ≠ I) ∧ ∀ z, z ≠ x → z ≠ y → m₁ z = m₀ z) ?_ items.size ?_
  · rintro k s' ⟨i, h', tk, m₁, oI, rfl, hn, hst', F', N', off, hm⟩
    have moved : ∀ (h'' : Heap), (∀ b o, b ∉ [I] → h'.get? b = some o → h''.get? b = some o) → Fr h₀ env.locals h'' m₁ ∧ News h₀ env.locals h'' ((T, ⟨.type "tuple", none, .seq items n, #[]⟩) :: news) := fun h'' k =>
      ⟨Fr.but F' k hnI hLI, fun p hp => ⟨k _ _ (fun e => off p hp (List.mem_singleton.mp e)) (N' p (List.mem_cons_of_mem _ hp)).1, (N' p (List.mem_cons_of_mem _ hp)).2⟩⟩
    cases k with
    | zero =>
      have hi : i = items.size := by omega
      subst hi
      refine W.done _ _ _ hst' fun h'' tk'' k => ?_
      obtain ⟨F'', N''⟩ := moved h'' k
      have e := mk m₁ hm m₁
      have e2 : (fun z => if z = x then m₁ z else m₁ z) = m₁ := by funext z; split <;> rfl
      rw [e2] at e
      exact done m₁ h'' tk'' (e ▸ F'') N''
    | succ k =>
      have hi : i < items.size := by omega
      refine W.item i _ _ _ hi hst' fun v h'' tk'' hP st'' kk => ?_
      obtain ⟨F'', N''⟩ := moved h'' kk
      have hv : v ∈ items.toList := by
        obtain ⟨h1, h2⟩ := Array.getElem?_eq_some_iff.mp hP
        rw [← h2]; simp
      obtain ⟨oI', hoI', hcI, hdI⟩ := st''.1
      show wpAny _ A (assign (.Name x px) env v) _ _ _
      refine wpAny_assign_Name (wpAny_storeName_local hx F''.ns (fun h₂ hn₂ hs₂ => ?_) hp)
      have hL₀ : h₀.get? env.locals = none := Heap.get?_none_of_le F''.above
      have F₂ : Fr h₀ env.locals h₂ (fun z => if z = x then some v else m₁ z) := ⟨hn₂, fun b o e => hs₂.extBut b o (fun q => by rw [q, hL₀] at e; cases e) (F''.keep b o e), F''.above⟩
      rw [mk m₁ hm fun _ => some v] at F₂
      have hoI₂ : h₂.get? I = some oI' := hs₂.extBut _ _ hLI hoI'
      have N₂ : News h₀ env.locals h₂ ((I, oI') :: (T, ⟨.type "tuple", none, .seq items n, #[]⟩) :: news) := fun p hp => by
        rcases List.mem_cons.mp hp with rfl | hp
        · exact ⟨hoI₂, hLI, hnI⟩
        · exact ⟨hs₂.extBut _ _ (N'' p hp).2.1 (N'' p hp).1, (N'' p hp).2⟩
      refine P_mono (turn v m₁ h₂ _ I oI' hv off F₂ N₂) fun f s₃ p => ?_
      have fin : LoopEnd h₀ env.locals s I oI' (fun m' nx => nx = (T, ⟨.type "tuple", none, .seq items n, #[]⟩) :: news ∧ ∀ z, z ≠ x → z ≠ y → m' z = m₀ z) s₃ → ∃ m, m < k + 1 ∧ ∃ i h' tk m₁ oI, s₃ = { s with heap := h', toks := tk } ∧ i + m = items.size ∧ (h'.IsTupleIter I T i ∧ h'.IsTuple T items) ∧ Fr h₀ env.locals h' m₁ ∧ News h₀ env.locals h' ((I, oI) :: (T, ⟨.type "tuple", none, .seq items n, #[]⟩) :: news) ∧ (∀ p ∈ (T, (⟨.type "tuple", none, .seq items n, #[]⟩ : Obj)) :: news, p.1 ≠ I) ∧ ∀ z, z ≠ x → z ≠ y → m₁ z = m₀ z := by
        rintro ⟨h', tk, m', nx', e, F', N', ha, rfl, hm⟩
        exact ⟨k, Nat.lt_succ_self _, i + 1, h', tk, m', oI', e, by omega, ⟨⟨oI', (N' _ List.mem_cons_self).1, hcI, hdI⟩, ⟨_, (N' _ (List.mem_cons_of_mem _ List.mem_cons_self)).1, rfl, _, rfl⟩⟩, F', N', ha, hm⟩
      cases f with
      | ret v => exact p
      | brk => exact p
      | next => exact fin p
      | cont => exact fin p
  · have hpush : (s.heap.push { cls := .type "tuple_iterator", data := .fields #[.ref T, .int 0 0] }).get? I = some { cls := .type "tuple_iterator", data := .fields #[.ref T, .int 0 0] } := hI ▸ Heap.get?_push_size _ rfl
    refine ⟨0, _, _, m₀, { cls := .type "tuple_iterator", data := .fields #[.ref T, .int 0 0] }, rfl, by omega, ⟨⟨_, hpush, rfl, rfl⟩, ⟨_, Heap.get?_push_of_some _ hT.1, rfl, _, rfl⟩⟩, F.push _, fun p hp => ?_, fun p hp => ?_, fun _ _ _ => rfl⟩
    · rcases List.mem_cons.mp hp with rfl | hp
      · exact ⟨hpush, hLI, hnI⟩
      · exact ⟨Heap.get?_push_of_some _ (N p hp).1, (N p hp).2⟩
    · exact hI ▸ Nat.ne_of_lt (Heap.lt_size (N p hp).1)
def isOdd2 (c : Int) : Bool := decide (c < 33) || decide (126 < c) || ([40, 41, 123, 37, 42, 34, 92] : List Int).any (fun x => x == c)
def bareL (ks : List Int) : Bool := decide (0 < (ks.length : Int)) && decide ((ks.length : Int) ≤ 72) && decide (ks.filter isOdd2 = []) && !(decide (ks = [78, 73, 76]) || decide (ks = [110, 105, 108]) || decide (ks = [78, 105, 108]))
theorem odd_1 {c : Int} (h : c < 33) : true = isOdd2 c := by simp [isOdd2, h]
theorem odd_2 {c : Int} (h : 126 < c) : true = isOdd2 c := by simp [isOdd2, h]
theorem odd_3 {c : Int} (h : (([40, 41, 123, 37, 42, 34, 92] : List Int).any fun x => x == c) = true) : true = isOdd2 c := by unfold isOdd2; rw [h, Bool.or_true]
theorem odd_4 {c : Int} (h1 : ¬c < 33) (h2 : ¬126 < c) (h : (([40, 41, 123, 37, 42, 34, 92] : List Int).any fun x => x == c) = false) : false = isOdd2 c := by unfold isOdd2; rw [h, decide_eq_false h1, decide_eq_false h2]; rfl
theorem bare_1 {ks : List Int} (h : ¬0 < (ks.length : Int)) : decide (0 < (ks.length : Int)) = bareL ks := by unfold bareL; rw [decide_eq_false h]; rfl
theorem bare_2 {ks : List Int} (h : ¬(ks.length : Int) ≤ 72) : decide ((ks.length : Int) ≤ 72) = bareL ks := by unfold bareL; rw [decide_eq_false h, Bool.and_false]; rfl
theorem bare_3 {ks : List Int} (h : decide (ks.filter isOdd2 = []) = false) : decide (ks.filter isOdd2 = []) = bareL ks := by unfold bareL; rw [h, Bool.and_false]; rfl
theorem bare_4 {ks : List Int} (h1 : 0 < (ks.length : Int)) (h2 : (ks.length : Int) ≤ 72) (h : decide (ks.filter isOdd2 = []) = true) : (!(decide (ks = [78, 73, 76]) || decide (ks = [110, 105, 108]) || decide (ks = [78, 105, 108]))) = bareL ks := by
  unfold bareL; rw [h, decide_eq_true h1, decide_eq_true h2]; rfl
def dueL (ks : List Int) (p : Bool) : List Int := if bareL ks = true then ks else lawS ks p
theorem due_1 {b : Array UInt8} {ks : List Int} {p : Bool} (hb : bInts b = ks) (h : bareL ks = true) : bInts b = dueL ks p := by unfold dueL; rw [if_pos h]; exact hb
theorem due_2 {b : Array UInt8} {ks : List Int} {p : Bool} (hb : bInts b = lawS ks p) (h : bareL ks = false) : bInts b = dueL ks p := by unfold dueL; rw [h]; exact hb
def PlusIs (_ : Bool) : Prop := True
theorem odd_astr {c : Int} (h0 : 0 ≤ c ∧ c < 256) : isOdd2 c = !isAstr c := by
  have : ∀ n : Fin 256, isOdd2 (n.val : Int) = !isAstr (n.val : Int) := by decide +kernel
  have h := this ⟨c.toNat, by omega⟩
  have e : ((c.toNat : Nat) : Int) = c := by omega
  simpa [e] using h
theorem due_eq {b : Array UInt8} {ks : List Int} {p : Bool} (hb : bInts b = ks) (hg : goodO ks) : dueL ks p = astrO ks p := by
  have hin : ∀ c ∈ ks, 0 ≤ c ∧ c < 256 := fun c hc => mem_in hb hc
  have e1 : decide (ks.filter isOdd2 = []) = ks.all isAstr := by
    rw [Bool.eq_iff_iff, decide_eq_true_eq, List.filter_eq_nil_iff, List.all_eq_true]
    constructor
    · intro h c hc
      have := h c hc
      rw [odd_astr (hin c hc)] at this
      simpa using this
    · intro h c hc
      rw [odd_astr (hin c hc), h c hc]; simp
  have e2 : (decide (ks = [78, 73, 76]) || decide (ks = [110, 105, 108]) || decide (ks = [78, 105, 108])) = decide (ks.map lowC = [110, 105, 108]) := by
    rw [Bool.eq_iff_iff]
    simp only [Bool.or_eq_true, decide_eq_true_eq]
    constructor
    · rintro ((rfl | rfl) | rfl) <;> decide
    · intro h
      rcases hg.2 h with h | h | h
      · exact .inl (.inl h)
      · exact .inl (.inr h)
      · exact .inr h
  have e3 : bareL ks = (decide (0 < ks.length) && decide (ks.length ≤ 72) && !decide (ks.map lowC = [110, 105, 108]) && ks.all isAstr) := by
    unfold bareL
    rw [e1, e2]
    have a : decide (0 < (ks.length : Int)) = decide (0 < ks.length) := by rw [decide_eq_decide]; omega
    have b : decide ((ks.length : Int) ≤ 72) = decide (ks.length ≤ 72) := by rw [decide_eq_decide]; omega
    rw [a, b]
    cases decide (0 < ks.length) <;> cases decide (ks.length ≤ 72) <;> cases ks.all isAstr <;> cases decide (ks.map lowC = [110, 105, 108]) <;> rfl
  unfold dueL astrO
  rw [e3]
def Readable (l xs : List Int) : Prop := (∃ p, l = lawS xs p) ∨ (l = xs ∧ xs ≠ [] ∧ xs.all isAstr = true)
theorem read_so {xs : List Int} {p : Bool} : Readable (lawS xs p) xs := .inl ⟨p, rfl⟩
theorem read_ao {xs : List Int} {p : Bool} : Readable (astrO xs p) xs := by
  unfold astrO
  split
  · rename_i h
    simp only [Bool.and_eq_true, decide_eq_true_eq] at h
    exact .inr ⟨rfl, fun e => by rw [e] at h; simp at h, h.2⟩
  · exact read_so
theorem ao_len (ks : List Int) (p : Bool) (hz : ks.length ≤ 99) : (astrO ks p).length ≤ 200 := by
  unfold astrO
  split
  · omega
  · exact lawS_len ks p hz
theorem ao_lenB {b : Array UInt8} {ks : List Int} {p : Bool} (_ : bInts b = astrO ks p) (hz : ks.length ≤ 80) : (astrO ks p).length ≤ 200 := ao_len ks p (by omega)
theorem so_lenB {b : Array UInt8} {ks : List Int} {p : Bool} (_ : bInts b = lawS ks p) (hz : ks.length ≤ 80) : (lawS ks p).length ≤ 200 := lawS_len ks p (by omega)
theorem two_of {v : Value} {b1 b2 : Array UInt8} {t1 t2 : Tok} {ks : List Int} {p : Bool} (hv : v ∈ (#[Value.bytes b1 t1, .bytes b2 t2] : Array Value).toList) (h1 : bInts b1 = astrO ks p) (h2 : bInts b2 = lawS ks p) (hz : ks.length ≤ 80) :
    ∃ b t l, v = .bytes b t ∧ bInts b = l ∧ Readable l ks ∧ l.length ≤ 200 := by
  simp only [List.mem_cons, List.not_mem_nil, or_false] at hv
  rcases hv with rfl | rfl
  · exact ⟨_, _, _, rfl, h1, read_ao, ao_len ks p (by omega)⟩
  · exact ⟨_, _, _, rfl, h2, read_so, lawS_len ks p (by omega)⟩
theorem CtP.mono {w : World} {f : Addr} {D : Nat} {news : Led} {vs : List Value} {post post' : Value → Led → Prop} (C : CtP w f D news vs post) (h : ∀ v n, post v n → post' v n) : CtP w f D news vs post' :=
  fun mean mg mb dp un cn cs a ccd cl outer A₀ base h₀ L m s Q B F X N T hk hd hu ret => C mean mg mb dp un cn cs a ccd cl outer A₀ base h₀ L m s Q B F X N T hk hd hu fun v n h' tk hp => ret v n h' tk (h v n hp)
theorem c_lawA (w : World) (news : Led) (W d : Addr) (b : Array UInt8) (t tn k1 k2 : Tok) (ks l xs : List Int) (hb : bInts b = ks) (hz : l.length ≤ 200) (hW : W ≠ d) (off : ∀ p ∈ news, p.1 ≠ d) (hk : ks = [120, 32] ++ l ++ [32, 121]) (hr : Readable l xs) (hcz : xs.length ≤ 99) :
    CtP w 325 13 ((W, instObj 362 d) :: (d, wd w b t 2 tn k1 k2) :: news) [.ref W] (fun v news' => (∃ b' t', v = .bytes b' t' ∧ bInts b' = xs) ∧ ∃ tn k1 k2, news' = (W, instObj 362 d) :: (d, wd w b t ((2 + l.length : Nat) : Int) tn k1 k2) :: news) := by
  have hk2 : ks.drop 2 = l ++ [32, 121] := by rw [hk]; rfl
  have hz2 : ks.length ≤ 300 := by rw [hk]; simp; omega
  rcases hr with ⟨p, e⟩ | ⟨e, h0, ha⟩
  · rw [e] at hk2
    rw [e]
    exact c_astrS w news W d b t tn k1 k2 2 ks hb hz2 hW off xs [32, 121] p hk2 hcz
  · rw [e] at hk2
    rw [e]
    exact c_astrB w news W d b t tn k1 k2 2 ks hb hz2 hW off xs [32, 121] hk2 h0 ha (fun c r h => by cases h; decide)
theorem c_lawN (w : World) (news : Led) (W d : Addr) (b : Array UInt8) (t tn k1 k2 : Tok) (ks xs : List Int) (p : Bool) (hb : bInts b = ks) (hW : W ≠ d) (off : ∀ p ∈ news, p.1 ≠ d) (hk : ks = lawS xs p ++ [41]) (hcz : xs.length ≤ 99) :
    CtP w 339 11 ((W, instObj 362 d) :: (d, wd w b t 0 tn k1 k2) :: news) [.ref W] (fun v news' => (∃ b' t', v = .bytes b' t' ∧ bInts b' = xs) ∧ ∃ tn k1 k2, news' = (W, instObj 362 d) :: (d, wd w b t ((lawS xs p).length : Int) tn k1 k2) :: news) := by
  have hl := lawS_len xs p hcz
  have hz2 : ks.length ≤ 300 := by rw [hk]; simp; omega
  refine (c_nstrW w news W d b t tn k1 k2 0 ks hb hz2 hW off xs [41] p (by rw [hk]; rfl) hcz).mono fun v n h => ?_
  obtain ⟨h1, a, b', c, h2⟩ := h
  exact ⟨h1, a, b', c, by rw [h2, Nat.zero_add]⟩
section
variable {prog : Program} {w : World} {A : Around} {E : Value → Shared → Prop} {s : Shared} {h₀ : Heap} {L : Addr} {m : Str → Option Value} {env : Env} {e : Expr} {led : Led} {Q : Value → Shared → Prop}
theorem bare_here {ks : List Int} (_F : Fr h₀ L s.heap m) (_N : News h₀ L s.heap led) (_g : goodO ks) (walk : wpAny (model prog w) A (eval e env) (TurnEnd h₀ L m s (fun v => v = .bool (bareL ks)) led) E s)
    (next : ∀ h' tk', Fr h₀ L h' m → News h₀ L h' [] → Q (.bool (bareL ks)) { s with heap := h', toks := tk' }) : wpAny (model prog w) A (eval e env) Q E s :=
  wpAny_mono walk (fun v s' h => by
    obtain ⟨h', tk', rfl, rfl, F', _⟩ := h
    exact next h' tk' F' (fun _ hp => nomatch hp)) fun _ _ e => e
theorem due_here {ks : List Int} {b : Array UInt8} {p : Bool} (_F : Fr h₀ L s.heap m) (_N : News h₀ L s.heap led) (g : goodO ks) (hb : bInts b = ks) (_p : PlusIs p) (walk : wpAny (model prog w) A (eval e env) (TurnEnd h₀ L m s (fun v => ∃ b t, v = .bytes b t ∧ bInts b = dueL ks p) led) E s)
    (next : ∀ b t h' tk', bInts b = astrO ks p → Fr h₀ L h' m → News h₀ L h' led → Q (.bytes b t) { s with heap := h', toks := tk' }) : wpAny (model prog w) A (eval e env) Q E s :=
  wpAny_mono walk (fun v s' h => by
    obtain ⟨h', tk', rfl, ⟨b', t, rfl, hb'⟩, F', N'⟩ := h
    exact next b' t h' tk' (hb'.trans (due_eq hb g)) F' N') fun _ _ e => e
theorem bytes_same {b c : Array UInt8} {l : List Int} (h1 : bInts b = l) (h2 : bInts c = l) : b.toList = c.toList := by
  have := same_ints h1 h2
  simp only [decide_true, Bool.not_true, bne_eq_false_iff_eq] at this
  exact this
theorem ne_same {b c : Array UInt8} {t u : Tok} {l : List Int} (h1 : bInts b = l) (h2 : bInts c = l) (h : Q (.bool false) s) : wpAny (model prog w) A (compareOp .NotEq (.bytes b t) (.bytes c u)) Q E s :=
  ne_bytes (by rw [bytes_same h1 h2, bne_self_eq_false]; exact h)
theorem eq_same {b c : Array UInt8} {t u : Tok} {l : List Int} (h1 : bInts b = l) (h2 : bInts c = l) (h : Q (.bool true) s) : wpAny (model prog w) A (compareOp .Eq (.bytes b t) (.bytes c u)) Q E s :=
  eq_bytes (by rw [bytes_same h1 h2, beq_self_eq_true]; exact h)
theorem eqi_same {a b : Int} {t u : Tok} (h1 : a = b) (h : Q (.bool true) s) : wpAny (model prog w) A (compareOp .Eq (.int a t) (.int b u)) Q E s := eq_int (by rw [h1, beq_self_eq_true]; exact h)
theorem nei_same {a b : Int} {t u : Tok} (h1 : a = b) (h : Q (.bool false) s) : wpAny (model prog w) A (compareOp .NotEq (.int a t) (.int b u)) Q E s := ne_int (by rw [h1, bne_self_eq_false]; exact h)
/-- octets not in [b'NIL', b'nil', b'Nil'] -/
theorem notin_nil {l : Addr} {b : Array UInt8} {t t1 t2 t3 : Tok} {ks : List Int} (hl : s.heap.IsList l #[.bytes #[78, 73, 76] t1, .bytes #[110, 105, 108] t2, .bytes #[78, 105, 108] t3]) (hb : bInts b = ks)
    (h : Q (.bool (!(decide (ks = [78, 73, 76]) || decide (ks = [110, 105, 108]) || decide (ks = [78, 105, 108])))) s) : wpAny (model prog w) A (compareOp .NotIn (.bytes b t) (.ref l)) Q E s := by
  have key : ∀ (o : Array UInt8) (os : List Int), bInts o = os → decide (o.toList = b.toList) = decide (ks = os) := by
    intro o os ho
    have := same_ints hb ho
    have e : (b.toList != o.toList) = !decide (o.toList = b.toList) := by
      by_cases h : o.toList = b.toList
      · rw [h, bne_self_eq_false, decide_eq_true rfl]; rfl
      · rw [decide_eq_false h, bne_iff_ne.mpr (Ne.symm h)]; rfl
    rw [e] at this
    simpa using this
  refine SeqAt.notIn_listAt (fun v => match v with | .bytes o _ => decide (o.toList = b.toList) | _ => false) hl (fun y hy => ?_) ?_
  · simp only [List.mem_toArray, List.mem_cons, List.not_mem_nil, or_false] at hy
    rcases hy with rfl | rfl | rfl <;> exact eqAt_bytes
  · have e : (#[Value.bytes #[78, 73, 76] t1, .bytes #[110, 105, 108] t2, .bytes #[78, 105, 108] t3] : Array Value).any (fun v => match v with | .bytes o _ => decide (o.toList = b.toList) | _ => false) = (decide (ks = [78, 73, 76]) || decide (ks = [110, 105, 108]) || decide (ks = [78, 105, 108])) := by
      rw [← key #[78, 73, 76] [78, 73, 76] rfl, ← key #[110, 105, 108] [110, 105, 108] rfl, ← key #[78, 105, 108] [78, 105, 108] rfl]
      simp only [List.any_toArray, List.any_cons, List.any_nil, Bool.or_false, Bool.or_assoc]
    rw [e]; exact h
end
end
section
open PySem.W.KBw (bInts)
local macro_rules | `(tactic| walk_at "eval Call") => `(tactic| (k_here; k_dflt (refine Call_ ?_)))
local macro_rules | `(tactic| walk_at "eval Call Attribute") => `(tactic| (k_here; k_dflt (refine MethodCall_ ?_)))
theorem ctH_use {w : World} {f : Addr} {D : Nat} {pre : Heap → Prop} {news : Led} {vs : List Value} {post : Value → Led → Prop} {mean : ExcName → Option Value} {mg mb : Str → Option Value} {dp un : Nat} {gd : Option (List Code)} {cn : Str} {cs : Scope} {a : Addr} {ccd : Value} {cl : List (Str × Addr)} {outer : List Env} {A₀ : Around} {base h₀ : Heap} {L : Addr} {m : Str → Option Value} {s : Shared} {Q E : Value → Shared → Prop}
    (C : CtH w f D pre news vs post) (hp : pre h₀) (B : Below A₀ base outer h₀) (F : Fr h₀ L s.heap m) (X : (K w.params).In h₀) (N : News h₀ L s.heap news) (T : TopM mean mg mb h₀) (hk : cs.kind = .function) (hd : dp + D < recursionLimit) (hu : un + 8 * D < cLine)
    (ret : ∀ v news' h' tk', post v news' → Fr h₀ L h' m → News h₀ L h' news' → Q v { s with heap := h', toks := tk' }) :
    wpAny (model pw_nz0308_01 w) (ktrTop dp un gd cn cs L a ccd cl outer) (call (.ref f) vs) Q E s := C _ _ _ _ _ _ _ _ _ _ _ _ _ _ _ _ _ _ _ _ hp B F X N T hk hd hu ret
theorem news_nil {h₀ h : Heap} {L : Addr} : News h₀ L h [] := fun _ hp => nomatch hp
local macro_rules | `(tactic| k_upd) => `(tactic| first | exact Upd.head (by assumption) | (refine' Upd.tail ?a ?b; (case a => first | assumption | k_ne); (case b => k_upd)))
section
local macro_rules | `(tactic| walk_at "wpP") => `(tactic| ((with_reducible show wpP _ _ (execs (Stmt.Assign [Expr.Tuple _ _ _] _ _ :: _) _) _ _); k_dflt (first | refine P_execs_cons (P_Assign_Tuple ?_) | refine P_execs_cons (P_Assign_Tuple_swapped ?_))))
local macro_rules | `(tactic| walk_at "wpP") => `(tactic| ((with_reducible show wpP _ _ (eval (Expr.Tuple _ _ _) _) _ _); k_dflt (refine P_Tuple ?_)))
local macro_rules | `(tactic| walk_at "wpP") => `(tactic| ((with_reducible show wpP _ _ (spliced (backTo _ (starEach (_ :: _) _))) _ _); k_dflt (refine P_args_cons ?_)))
local macro_rules | `(tactic| walk_at "wpP") => `(tactic| ((with_reducible show wpP _ _ (spliced (backTo _ (starEach [] _))) _ _); k_dflt (refine P_args_nil ?_)))
local macro_rules | `(tactic| walk_at "wpP") => `(tactic| ((with_reducible show wpP _ _ (PySem.isTrue (Expr.BoolOp BoolOp.Or (_ :: _) _) _ _) _ _); k_dflt (refine P_isTrue_or ?_)))
local macro_rules | `(tactic| walk_at "wpP") => `(tactic| ((with_reducible show wpP _ _ (PySem.isTrue (Expr.BoolOp BoolOp.Or [] _) _ _) _ _); refine P_any ?_))
local macro_rules | `(tactic| walk_at "wpP") => `(tactic| ((with_reducible show wpP _ _ (PySem.isTrue (Expr.Compare (Expr.Call (Expr.Attribute _ (Str.ofString "astring") _) _ _ _) [_] [_] _) _ _) _ _); k_dflt (refine P_isTrue_Compare1 ?_)))
local macro_rules | `(tactic| walk_at "wpP") => `(tactic| ((with_reducible show wpP _ _ (eval (Expr.Compare (Expr.Call (Expr.Attribute _ (Str.ofString "astring") _) _ _ _) [_] [_] _) _) _ _); k_dflt (refine P_Compare1 ?_)))
local macro_rules | `(tactic| walk_at "wpP") => `(tactic| ((with_reducible show wpP _ _ (eval (Expr.Compare (Expr.Call (Expr.Attribute _ (Str.ofString "nstring") _) _ _ _) [_] [_] _) _) _ _); k_dflt (refine P_Compare1 ?_)))
local macro_rules | `(tactic| walk_at "wpP") => `(tactic| ((with_reducible show wpP _ _ (eval (Expr.BoolOp BoolOp.And (Expr.Compare (Expr.Call (Expr.Attribute _ (Str.ofString "nstring") _) _ _ _) _ _ _ :: _) _) _) _ _); k_dflt (refine P_BoolOp_and ?_)))
local macro_rules | `(tactic| walk_at "call ref") => `(tactic| ((with_reducible show wpAny _ _ (call (Value.ref 414) _) _ _ _); k_dflt (refine' ctH_use (c_bag _ _ _ _ _ (by with_reducible assumption) (by omega)) ?k0 ?k1 ?k2 ?k3 ?k4 ?k5 ?kK ?kd ?ku ?_; (case k0 => with_reducible assumption); (walk_at "mine:u1"); (walk_at "mine:u2"); intro v9 n9 h9 tk9 hp9 F9 N9; obtain ⟨B9, nn9, t9, k9, e9, hlt9, e9'⟩ := hp9; subst e9; subst e9'; (try dsimp only); (try k_fold))))
local macro_rules | `(tactic| walk_at "call ref") => `(tactic| ((with_reducible show wpAny _ _ (call (Value.ref 407) _) _ _ _); k_dflt (refine ct_auto (C := by exact c_takeF _ _ _ _ _ _ _ _ _ (by decide) (by decide) (by k_updF)) (ret := ?_); intro v9 n9 h9 tk9 hp9 F9 N9; obtain ⟨⟨r9, t9, e9, hr0, hr1⟩, n9', t9', k9', e9'⟩ := hp9; subst e9; subst e9'; (try dsimp only at N9); (have hP9 : PlusIs (r9 == (1 : Int)) := trivial); (try dsimp only); (try k_fold))))
local macro_rules | `(tactic| walk_at "call ref") => `(tactic| ((with_reducible show wpAny _ _ (call (Value.ref 419) _) _ _ _); k_dflt (refine ct_auto (C := by exact c_octets _ _ _ _ _) (ret := ?_); intro v9 n9 h9 tk9 hp9 F9 N9; obtain ⟨⟨b9, t9, ks9, e9, hb9, hg9⟩, n9', t9', k9', e9'⟩ := hp9; subst e9; subst e9'; (have hz9 := hg9.1); (try dsimp only); (try k_fold))))
local macro_rules | `(tactic| walk_at "exec Assign cons ListComp") => `(tactic| (k_here; k_dflt (refine' Assign_ListComp_T (mk := Value.int) (fun k v => ∃ t, v = .int k t) isOdd2 ?hz ?hLe ?hsw ?hclos ?hcell ?hkind ?hnames ?hx ?hy ?hp ?hi ?test12 ?turn12 ?h12 ?hs; (case hi => (walk1; exact ⟨_, _, rfl, by k_asm, by k_asm, src_bytes rfl (by with_reducible assumption)⟩)); (case hz => (rw [sizeLine_eq]; omega)); (case hLe => exact rfl); (case hsw => with_unfolding_all rfl); (case hclos => with_unfolding_all rfl); (case hcell => decide); (case hkind => with_unfolding_all rfl); (case hnames => decide); (case hx => with_unfolding_all rfl); (case hy => rfl); (case hp => rfl); (case hs => (intro _; with_unfolding_all rfl)); (case' test12 => (intro k t I oI C oC D m₂ h tk ys E' hmem hC hx F N; (have hbd := mem_in (by with_reducible assumption) hmem); obtain ⟨hbd0, hbd1⟩ := hbd)); (case' turn12 => (intro k t I oI C oC D m₂ h tk ys E' hmem hq hC hx F N)); (case' h12 => (intro D ys h tk hr F N' hoff; (have kI := RelA.ints (f := fun k => k) hr); (simp only [List.map_id'] at kI); clear hr)))))
local macro_rules | `(tactic| walk_at "compareOp Eq ref ref") => `(tactic| (k_here; k_dflt (refine' eq_intsK ?k1 ?k2 ?k3 ?k4 ?k5 ?_; (case k1 => exact News.isList (by k_asm) (by k_mem)); (case k2 => assumption); (case k3 => exact News.isList (by k_asm) (by k_mem)); (case k4 => exact IntsAre.nil); (case k5 => ktr_units))))
local macro_rules | `(tactic| walk_at "compareOp NotIn bytes ref") => `(tactic| (k_here; k_dflt (refine' notin_nil ?k1 ?k2 ?_; (case k1 => exact News.isList (by k_asm) (by k_mem)); (case k2 => with_reducible assumption))))
local macro_rules | `(tactic| walk_at "eval BoolOp") => `(tactic| (k_here; (with_reducible show wpAny _ _ (eval (Expr.BoolOp BoolOp.And [_, _, _] _) _) _ _ _); k_dflt (refine' bare_here ?cF ?cN ?cg ?walk13 ?next13; (case cF => k_asm); (case cN => k_asm); (case cg => with_reducible assumption); (case' walk13 => refine BoolOp_and ?_); (case' next13 => intro h9 tk9 F9 N9))))
local macro_rules | `(tactic| walk_at "eval IfExp") => `(tactic| (k_here; k_dflt (refine' due_here ?cF ?cN ?cg ?cb ?cp ?walk14 ?next14; (case cF => k_asm); (case cN => k_asm); (case cg => with_reducible assumption); (case cb => with_reducible assumption); (case cp => with_reducible assumption); (case' walk14 => refine IfExp_ ?_); (case' next14 => intro b9 t9 h9 tk9 hb9 F9 N9))))
local macro_rules | `(tactic| walk_at "call ref") => `(tactic| ((with_reducible show wpAny _ _ (call (Value.ref 424) _) _ _ _); k_dflt (refine ct_auto (C := by exact c_lawstr _ _ _ _ _ _ (by with_reducible assumption) (by omega)) (ret := ?_); walk_at "mine:oB")))
local macro_rules | `(tactic| walk_at "wpP") => `(tactic| ((with_reducible show wpP _ _ (call (Value.ref 400) _) _ _); (k_dflt (refine ctP_auto (C := by exact c_ao _ _ _ _ _ _ (by with_reducible assumption) (by omega)) (ret := ?_); intro v9 n9 h9 tk9 hp9 F9 N9; obtain ⟨⟨b9, t9, e9, hb9⟩, e9'⟩ := hp9; subst e9; subst e9'; (have hl9 := ao_lenB hb9 (by with_reducible assumption)); (try dsimp only)))))
local macro_rules | `(tactic| walk_at "wpP") => `(tactic| ((with_reducible show wpP _ _ (call (Value.ref 394) _) _ _); (k_dflt (refine ctP_auto (C := by exact c_so _ _ _ _ _ _ (by with_reducible assumption) (by omega)) (ret := ?_); intro v9 n9 h9 tk9 hp9 F9 N9; obtain ⟨⟨b9, t9, e9, hb9⟩, e9'⟩ := hp9; subst e9; subst e9'; (have hl9 := so_lenB hb9 (by with_reducible assumption)); (try dsimp only)))))
local macro_rules | `(tactic| walk_at "call ref") => `(tactic| ((with_reducible show wpAny _ _ (call (Value.ref 362) [_, _]) _ _ _); k_dflt (refine ct_auto (C := by exact c_wire _ _ _ _ _ _) (ret := ?_); intro v9 n9 h9 tk9 hp9 F9 N9; obtain ⟨W9, d9, tn9, k19, k29, e9, hWd, hoffd, hlt1, hlt2, e9'⟩ := hp9; subst e9; subst e9'; (try dsimp only); (try k_fold))))
local macro_rules | `(tactic| walk_at "call ref") => `(tactic| ((with_reducible show wpAny _ _ (call (Value.ref 362) [_]) _ _ _); k_dflt (refine ct_auto (C := by exact c_wire0 _ _ _ _) (ret := ?_); intro v9 n9 h9 tk9 hp9 F9 N9; obtain ⟨W9, d9, tn9, k19, k29, e9, hWd, hoffd, hlt1, hlt2, e9'⟩ := hp9; subst e9; subst e9'; (try dsimp only); (try k_fold))))
local macro_rules | `(tactic| walk_at "wpP") => `(tactic| ((with_reducible show wpP _ _ (call (Value.ref 325) _) _ _); (k_dflt (refine ctP_auto (C := by exact c_lawA _ _ _ _ _ _ _ _ _ _ _ _ (by with_reducible assumption) (by with_reducible assumption) (by with_reducible assumption) (by with_reducible assumption) (by exact rfl) (by with_reducible assumption) (by omega)) (ret := ?_); walk_at "mine:oC"))))
local macro_rules | `(tactic| walk_at "wpP") => `(tactic| ((with_reducible show wpP _ _ (call (Value.ref 339) _) _ _); (k_dflt (refine ctP_auto (C := by exact c_lawN _ _ _ _ _ _ _ _ _ _ _ _ (by with_reducible assumption) (by with_reducible assumption) (by with_reducible assumption) (by exact rfl) (by omega)) (ret := ?_); walk_at "mine:oC"))))
local macro_rules | `(tactic| walk_at "wpP") => `(tactic| ((with_reducible show wpP _ _ (execs (Stmt.For _ _ _ [] _ :: _) _) _ _); k_dflt (refine P_execs_cons (P_For ?_))))
local macro_rules | `(tactic| walk_at "compareOp NotEq bytes bytes") => `(tactic| (refine ne_same (by with_reducible assumption) (by with_reducible assumption) ?_))
local macro_rules | `(tactic| walk_at "compareOp Eq bytes bytes") => `(tactic| (refine eq_same (by with_reducible assumption) (by with_reducible assumption) ?_))
local macro_rules | `(tactic| walk_at "compareOp NotEq int int") => `(tactic| (refine nei_same (by k_dflt omega) ?_))
local macro_rules | `(tactic| walk_at "compareOp Eq int int") => `(tactic| (refine eqi_same (by k_dflt omega) ?_))
local macro_rules | `(tactic| walk_at "pyIter ref") => `(tactic| (k_dflt (refine' P_iter_tup (y := Str.ofString "wire") ?hh ?hx ?hp ?kF ?kN ?turn15 ?done15; (case kF => k_asm); (case kN => k_asm); (case hh => rfl); (case hx => rfl); (case hp => rfl); (case' turn15 => (intro v u h tk I oI hv hoff F N; (have hv9 := two_of hv (by with_reducible assumption) (by with_reducible assumption) (by with_reducible assumption)); obtain ⟨b9, t9, l9, e9, hb9, hr9, hl9⟩ := hv9; subst e9)); (case' done15 => (intro u h tk F N)))))
theorem law_walk (w : World) {mean : ExcName → Option Value} {mg mb : Str → Option Value} {s : Shared} {S : Addr} {vs : List Value} {ns : List Int} {Q : Value → Shared → Prop} (X : (K w.params).In s.heap) (T : TopM mean mg mb s.heap) (hl : s.heap.IsList S vs.toArray) (hi : IntsAre vs ns) (hz : ns.length ≤ 63)
    (ret : ∀ h' tk' m L, Fr s.heap L h' m → Q (.bool true) { s with heap := h', toks := tk' }) : wpP (model pw_nz0308_01 w) callerA (call (.ref 429) [.ref S]) Q s := by
  walk_at "mine:fill"
  refine P_call2 ?_
  have B := below_caller s.heap
  k_dflt (refine' codeP_top X T ?k6 ?k7 ?k9 ?kB ?_ ?c2 ?c3 ?c4 ?c5)
  case k6 => k_is
  case k7 => k_is
  case k9 => exact BindsTo.of_eq rfl
  case c5 => decide
  case kB => exact locs rfl
  case c2 => exact rfl
  case c3 => exact rfl
  case c4 => exact rfl
  intro h' F'
  have N' : News s.heap s.heap.objs.size h' [] := news_nil
  try dsimp only
  k_steps
  all_goals (first
    | ((with_reducible show Q (Value.bool true) _); exact ret _ _ _ _ (by k_asm))
    | ((with_reducible show LoopPost _ _ _ _ _ _ _ _ _)
       show LoopEnd _ _ _ _ _ _ _
       refine ⟨_, _, _, _, rfl, by k_asm, ?_, by with_reducible assumption, rfl, ?_⟩
       · (walk_at "mine:tail")
       · intro z h1 h2; simp only [if_neg h1, if_neg h2])
    | ((with_reducible show TestEnd _ _ _ _ _ _ _ _)
       refine ⟨_, _, rfl, ?_, by k_asm, ?_⟩
       · first
         | with_reducible exact odd_1 (by with_reducible assumption)
         | with_reducible exact odd_2 (by with_reducible assumption)
         | with_reducible exact odd_3 (by with_reducible assumption)
         | with_reducible exact odd_4 (by with_reducible assumption) (by with_reducible assumption) (by with_reducible assumption)
       · first | with_reducible assumption | (walk_at "mine:tail"))
    | ((with_reducible show TurnEnd _ _ _ _ _ _ _ _)
       refine ⟨_, _, rfl, ?_, by k_asm, ?_⟩
       · (try dsimp only)
         first
         | with_reducible exact ⟨_, rfl⟩
         | with_reducible exact congrArg Value.bool (bare_1 (by with_reducible assumption))
         | with_reducible exact congrArg Value.bool (bare_2 (by with_reducible assumption))
         | with_reducible exact congrArg Value.bool (bare_3 (by with_reducible assumption))
         | with_reducible exact congrArg Value.bool (bare_4 (by with_reducible assumption) (by with_reducible assumption) (by with_reducible assumption))
         | with_reducible exact ⟨_, _, rfl, due_1 (by with_reducible assumption) (by with_reducible assumption)⟩
         | with_reducible exact ⟨_, _, rfl, due_2 (by with_reducible assumption) (by with_reducible assumption)⟩
       · first | with_reducible assumption | (walk_at "mine:tail"))
    | trace_state)
end
end
end Mine
open PySem PySem.W PyProof.Rows PySem.Calls PySem.Spec
open PySem.Sem (wp)
set_option Elab.async false
set_option maxRecDepth 100000
set_option maxHeartbeats 4000000
set_option compiler.extract_closed false
set_option hygiene false
namespace Mine
open PySem.Challenge
/-! The head, for the logic at clean contexts. -/
theorem caller_clean : Cl ⟨.builtin "claim.caller" {}, none, none, [], none⟩ := ⟨by show (!Builtin.Bytes.decodersThatHold.contains "claim.caller") = true; decide +kernel, fun _ hx => nomatch hx⟩
theorem thread_P {prog : Program} {w : World} {t : Sem Fin} {s : Shared} {R : Result → Shared → Prop} (hreg : s.asleep)
    (h : wpP (model prog w) callerA t (fun fin s' => ∃ f, fin = .done f ∧ (R (.ok f) s' ∧ leftWithCleanup s'.gens = false)) s) :
    ∃ n r s' s'', runN (denote table) prog w n s ⟨t, .builtin "claim.caller" {}, default, []⟩ = .halted (outcomeOf r) s' ∧
      schedN (denote table) prog w n (.single s ⟨t, .builtin "claim.caller" {}, default, []⟩) = .halted (outcomeOf r) s' ∧ s'.forget = s''.forget ∧ R r s'' := by
  obtain ⟨n, r, s₁, s₂, hs, hn, hfo, hR⟩ := wp_halts_full (M := model prog w) (R := R) hreg (Sem.wp_mono _ _ t (fun fin p' s' h' => by
    obtain ⟨f, rfl, hf⟩ := h'
    exact hf) (fun _ _ _ x => x.elim) default s (h _ default caller_in caller_clean))
  exact ⟨n, r, s₂, s₁, hn, hs, hfo, hR⟩
theorem callFrom_P {c : ClaimW} {tree : List Value → Sem Fin} {w : World} {s : Shared} {free : Addr → Prop} {gens : Prop} {kept : Heap → Prop} (hz : s.asleep) (hgens : s.gens = #[])
    (hspec : ∀ args, c.pre args = true → WData.layableAll args = true → ∀ ord : List DictEntry → List DictEntry, (∀ l, (ord l).Perm l) →
      ∃ vs s₁, layAllW c.records (classAt s.heap) w.params ord args s = some (vs, s₁) ∧
        wpP (model c.prog w) callerA (tree vs) (fun fin s' => ∃ f, fin = .done f ∧ (c.Ends s args vs s₁ (.ok f) s' ∧ s'.os = s.os ∧ AllBare s'.gens ∧ kept s'.heap)) s₁) :
    c.CallFrom (fun vs => ⟨tree vs, .builtin "claim.caller" {}, default, []⟩) w free gens kept s := by
  intro args hpre hlay ord hord
  obtain ⟨vs, s₁, hlaid, hcode⟩ := hspec args hpre hlay ord hord
  have hal := layAllW_rest _ _ _ hlaid
  obtain ⟨k, r, s', s'', hrun, hsched, hfo, hcase, hos, hkp⟩ := thread_P (prog := c.prog) (w := w) (t := tree vs) (s := s₁) (R := fun r s' => c.Ends s args vs s₁ r s' ∧ s'.os = s.os ∧ kept s'.heap) (Shared.asleep_of_life hal.2.2.2 hz)
    (P_mono hcode (by
      rintro fin s' ⟨f, e, h1, h2, h3, h4⟩
      exact ⟨f, e, ⟨h1, h2, h4⟩, leftWithCleanup_false_of_bare h3⟩))
  obtain ⟨eh, _, _, eo, _⟩ := Shared.forget_eq hfo
  have hcase' := hcase.congr eh
  have hkp' : kept s'.heap := by rw [eh]; exact hkp
  rw [← eo] at hos
  have hlife : s'.heap.life = s.heap.life := (runN_life _ _ _ hrun).trans hal.2.2.2
  refine ⟨vs, s₁, hlaid, k, _, s', hsched, ?_, (fun _ i x hx => by rw [hgens] at hx; simp at hx), hkp', by rw [hlife], Shared.rest_eq hos⟩
  rcases hcase' with ⟨v, rfl, d1, d2, d3, d4, d5⟩ | ⟨e, ob, cls, rfl, d1, d2, d3, d4, d5⟩
  · exact .inl ⟨v, rfl, d1, d2, d3, fun b o y _ => d4 b o y, d5⟩
  · exact .inr ⟨e, ob, cls, rfl, d1, d2, d3, d4, fun b o y _ => d5 b o y⟩
abbrev theRow : RowW := rw_nz0308_01.row.toRowW
abbrev WalkP : Prop := ∀ (w : World) (s₀ s₁ : Shared) (mg mb : Str → Option Value), Ground q lo theRow.records (XL q []) w s₀ mg mb s₁.heap → (K w.params).In s₁.heap → s₁.gens = #[] →
  ∀ (args : List WData) (vals : List Value) (as : List Addr), theRow.claim.pre args = true → WData.layableAll args = true → ReadsAllW theRow.records (classAt s₀.heap) s₁.heap vals args as → WellAll w.params s₁.heap vals args → (∀ a ∈ as, (a == sysModules) = false) →
    wpP (model pw_nz0308_01 w) callerA (call (.ref 429) vals) (fun v s' => GoodWG theRow.claim (classAt s₀.heap) (ExcName.means s₀.heap) args s₁ (.ok (.ret v)) s') s₁
theorem law_is (P : Params) : nsIn (K P) mainGlobals (Str.ofString "law") = some (some (.ref 429)) := by kernel_rfl
theorem head_P {d : DefRec} {kwd : List (Str × Expr)} (said : rw_nz0308_01.row.wellSaid = true) (ok : (chainsOk q && opensWell theRow.prog && (frees theRow && theRow.within.isEmpty)) = true) (hb : theRow.prog.bare) (hw : theRow.promised) (hdef : defOf q rw_nz0308_01.row.name = some (d, kwd))
    (hp : theRow.prog.theDef rw_nz0308_01.row.name = some (d.params, d.body, d.scope)) (hk : kwWritten? d.params.kwonlyargs d.params.kw_defaults = some kwd) (walk : WalkP) : rw_nz0308_01.row.Holds := by
  obtain ⟨ok, k5⟩ := Bool.and_eq_true_iff.mp ok
  obtain ⟨hch, o1⟩ := Bool.and_eq_true_iff.mp ok
  obtain ⟨k5, k6⟩ := Bool.and_eq_true_iff.mp k5
  obtain ⟨hsame, hu, ha, hap, hm⟩ := frees_parts k5
  have hX : ∀ s, Xt s = true → XL q [] (s.heap.nsMap mainGlobals) s.heap := fun s e => xl_of s (Bool.and_eq_true_iff.mp e).1
  refine ⟨said, hw, ⟨hb, o1, rfl⟩, hw.witness, fun w => ⟨(left.behind hX hch w).1, fun s' hs' => ?_⟩⟩
  obtain ⟨s₀, hf, hg0, s, hT, hz, hgens, hg, G, y⟩ := (left.behind hX hch w).2 s' hs'
  refine ⟨s₀, hf, hg0, s, hT, fun n hn => ?_, (fun x hx => nomatch hx), (fun x hx => nomatch hx), ?_⟩
  · obtain rfl : n = rw_nz0308_01.row.name := by
      have hn' : n ∈ [rw_nz0308_01.row.name] := hn
      exact List.mem_singleton.mp hn'
    exact pinned_of_view hg G hdef hp hk
  have hgens : s.gens = #[] := Array.eq_empty_of_size_eq_zero (beq_iff_eq.mp hgens)
  refine callFrom_P (c := theRow.claim) hz hgens fun args hpre hlay ord hord => ?_
  obtain ⟨⟨vs, s₁⟩, hlaid⟩ := Option.isSome_iff_exists.mp (layAllW_isSome (P := w.params) (ord := ord) G.has args theRow.args s (pre_splitW hpre).1)
  have keeps := layAllW_keeps _ _ _ hlaid
  have hal := layAllW_rest _ _ _ hlaid
  obtain ⟨bs, hrd, hin, hold⟩ := reads_layAllW hord _ _ _ hlaid hlay s₁.heap (fun _ _ e => e)
  have L : Laid theRow.records w s s₁ args vs bs := ⟨⟨ord, hord, hlaid⟩, hrd, hin, hold, keeps, hal.1.trans hgens, hal.2.2.1⟩
  have G₁ := G.keeps XL.keeps keeps
  have hK : (K w.params).In s₁.heap := (kHook K as eK).keeps _ _ _ ((kHook K as eK).of w s y) keeps
  have hf := mg_of hK G₁.T.g (law_is w.params)
  have hi := ident_freeW hu ha hap
  have hwi : theRow.claim.within = [] := List.isEmpty_iff.mp k6
  have h := walk w s s₁ _ _ G₁ hK L.gens args vs bs hpre hlay L.reads L.well (L.low G.low)
  refine ⟨vs, s₁, hlaid, ?_⟩
  show wpP _ callerA (do
    match ← nsGet mainNs (Str.ofString "law") with
      | some f => do ret (← call f vs)
      | none => unsupported "claim.caller:no-such-global") _ s₁
  refine P_then (wpAny_nsGet G₁.T.g ?_)
  rw [hf]
  refine P_bind (P_mono h fun v s' g => P_pure ⟨.ret v, rfl, ?_⟩)
  have z := g.laid (c := theRow.claim) hsame hwi hi L
  exact ⟨z.1, z.2.1, z.2.2, fun q => absurd q (by decide)⟩
theorem walk_P : WalkP := by
  intro w s₀ s₁ mg mb G hK hgens args vals bs hpre hlay hrd hwl hlo
  refine Ground.open G ?_
  intro T B D TE TW
  wrow_args hpre hlay hrd hwl hlo
  refine law_walk w hK T (by assumption) (by assumption) (by omega) fun h' tk' m L F' => ?_
  refine ⟨.inl ⟨.bool true, .bool true, [], rfl, fun _ => rfl, ReadsW.bool _, ?_, fun _ => ⟨List.nodup_nil, fun a h => nomatch h⟩⟩, .of_keep F'.keep, rfl, .of_eq hgens⟩
  first | rfl | kernel_rfl | decide
end Mine
set_option maxHeartbeats 8000000 in
theorem PySem.Challenge.cw_nz0308_01_holds : PySem.Challenge.rw_nz0308_01.Holds := by
  w_on
  o_law
  rename_i said
  refine' Mine.head_P said ?ok ?hb ?hw ?hdef ?hp ?hk Mine.walk_P
  case hdef => exact rfl
  case hw => w_witness2
  case ok => decide +kernel
  case hb => exact ⟨rfl, rfl, rfl, rfl, rfl, by decide +kernel⟩
  case hp => rfl
  case hk => rfl
