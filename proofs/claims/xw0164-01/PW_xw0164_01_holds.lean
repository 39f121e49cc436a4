import PyProof.Rows.All
import Wide.All
import OpenK.AllK
import Wide.FinOn
import Lean
import PySem.Challenge.RW_xw0164_01
set_option maxRecDepth 100000
set_option maxHeartbeats 8000000
set_option Elab.async false
set_option linter.all false
namespace Mine
section
open PySem PySem.W PySem.Calls PyProof.Rows
noncomputable abbrev pB : List Stmt := PySem.Challenge.pw_xw0164_01.main.body
noncomputable abbrev inCls (s : Option Stmt) (j : Nat) : Option Stmt := match s with
  | some (.ClassDef _ _ _ b _ _ _ _ _ _ _) => b[j]?
  | _ => none
noncomputable abbrev fnO (s : Option Stmt) (q : Str) (d m c : Value) : Obj := match s with
  | some (.FunctionDef n ps body _ _ _ scope _ _ _) => { cls := .type "function", data := .func { name := n, qualname := q, params := ps, body := .stmts body, scope := scope, globals := 3, closure := [], defaults := d, kwdefaults := .none, pyModule := m, code := c } }
  | _ => default
noncomputable abbrev kS (s : Str) (t : Tok) : Value := .str s t
noncomputable abbrev kE (P : Params) (s : Str) (t : Tok) (v : Value) : DictEntry := ⟨PyData.keyHash P s, .str s t, v⟩
noncomputable def KK : Params → Frag := fun P =>
  (nat_lit 2, { cls := .none, data := .dict #[kE P "type.__subclasses__.Exception.0" 224 (.int 39 0), kE P "type.__subclasses__.Exception.n" 225 (.int 1 0)] 2 }) ::
  (nat_lit 3, { cls := (.type "dict"), data := .dict #[kE P "__name__" 165 (kS "law_xw0164_01" 620), kE P "__doc__" 166 .none, kE P "__package__" 167 .none, kE P "__loader__" 168 (.builtin "__main__.__loader__#opaque"), kE P "__spec__" 169 .none, kE P "__annotations__" 170 (.ref 6), kE P "__builtins__" 171 (.ref 4), kE P "__file__" 173 (kS "/claim/cut.py" 172), kE P "__cached__" 174 .none, kE P "_wall" 193 (.ref 21), kE P "LendError" 227 (.ref 39), kE P "NameFault" 243 (.ref 52), kE P "VisibilityFault" 259 (.ref 64), kE P "INT_KINDS" 269 (.ref 67), kE P "PRELUDE_NAMES" 285 (.ref 68), kE P "MOST_USES" 287 (.int 30 286), kE P "WAYS" 291 (.ref 69), kE P "PLAIN_NAMES" 294 (.ref 71), kE P "joined" 302 (.ref 78), kE P "parent_of" 310 (.ref 85), kE P "is_within" 318 (.ref 92), kE P "Use" 351 (.ref 109), kE P "Table" 395 (.ref 142), kE P "Modules" 619 (.ref 275), kE P "_law_pool" 630 (.ref 286), kE P "_law_take" 639 (.ref 293), kE P "_law_one" 647 (.ref 300), kE P "_law_heard" 655 (.ref 307), kE P "_law_modules" 661 (.ref 314), kE P "_law_path" 669 (.ref 321), kE P "_law_book" 676 (.ref 328), kE P "_law_is_alike" 694 (.ref 335), kE P "_law_refusal" 700 (.ref 340), kE P "_law_type_right" 706 (.ref 345), kE P "_law_variants_right" 712 (.ref 350), kE P "_law_use_right" 732 (.ref 357), kE P "_law_item" 743 (.ref 364), kE P "_law_deed_right" 749 (.ref 369), kE P "_law_chain_right" 755 (.ref 374), kE P "_law_told_right" 766 (.ref 381), kE P "law" 778 (.ref 388)] 41 }) ::
  (nat_lit 15, { cls := (.type "tuple"), data := .seq #[] }) ::
  (nat_lit 17, { cls := (.type "tuple"), data := .seq #[(kS "k" 190)] }) ::
  (nat_lit 18, { cls := (.type "tuple"), data := .seq #[] }) ::
  (nat_lit 20, { cls := (.type "code"), data := .fields #[(kS "_wall" 187), (kS "_wall" 188), (kS "/claim/cut.py" 189), (.int 1 0), (.int 1 0), (.int 0 0), (.int 0 0), (.int 3 0), (.ref 15), (.bool true), (.int 181 0), (.ref 16), .none, (.ref 17), (.ref 18), (.ref 19), (.int 191 0), (.int 1 0), (kS "/claim/cut.py" 192)] }) ::
  (nat_lit 21, fnO (pB[0]?) "_wall" .none (kS "__main__" 164) (.ref 20)) ::
  (nat_lit 22, { cls := (.type "tuple"), data := .seq #[(.type "Exception")] }) ::
  (nat_lit 29, { cls := (.type "tuple"), data := .seq #[(.int 0 208)] }) ::
  (nat_lit 30, { cls := (.type "tuple"), data := .seq #[] }) ::
  (nat_lit 32, { cls := (.type "tuple"), data := .seq #[(kS "self" 212), (kS "message" 213), (kS "spot" 214)] }) ::
  (nat_lit 33, { cls := (.type "tuple"), data := .seq #[] }) ::
  (nat_lit 35, { cls := (.type "code"), data := .fields #[(kS "__init__" 209), (kS "LendError.__init__" 210), (kS "/claim/cut.py" 211), (.int 7 0), (.int 3 0), (.int 0 0), (.int 0 0), (.int 3 0), (.ref 30), (.bool true), (.int 181 0), (.ref 31), .none, (.ref 32), (.ref 33), (.ref 34), (.int 215 0), (.int 7 0), (kS "/claim/cut.py" 216)] }) ::
  (nat_lit 36, fnO (inCls (pB[2]?) 0) "LendError.__init__" (.ref 29) (kS "lendcore.errors" 194) (.ref 35)) ::
  (nat_lit 37, { cls := (.type "tuple"), data := .seq #[(kS "message" 218), (kS "spot" 219)] }) ::
  (nat_lit 38, { cls := (.type "dict"), data := .dict #[kE P "__module__" 203 (kS "lendcore.errors" 194), kE P "__firstlineno__" 207 (.int 5 206), kE P "__init__" 217 (.ref 36), kE P "__static_attributes__" 220 (.ref 37), kE P "__weakref__" 222 (.ref 40), kE P "__doc__" 223 .none] 3 }) ::
  (nat_lit 39, { cls := (.type "type"), data := .cls { name := ("LendError" : Str), bases := [(.type "Exception")], mro := [(.ref 39), (.type "Exception"), (.type "BaseException"), (.type "object")], ns := 38, qualname := ("LendError" : Str), subclasses := [(.ref 52), (.ref 64)] }, slots := #[some ((.ref 22)), none, some ((kS "LendError" 196)), some ((kS "LendError" 204)), some ((.builtin "Exception.__new__")), some ((.bool true))] }) ::
  (nat_lit 40, { cls := (.type "getset_descriptor"), data := .fields #[(kS "__weakref__" 221), (.ref 39), (.builtin "ExceptionGroup.__weakref__"), .none] }) ::
  (nat_lit 43, { cls := (.type "tuple"), data := .seq #[(.ref 39)] }) ::
  (nat_lit 50, { cls := (.type "tuple"), data := .seq #[] }) ::
  (nat_lit 51, { cls := (.type "dict"), data := .dict #[kE P "__module__" 235 (kS "lendcore.errors" 194), kE P "__firstlineno__" 239 (.int 11 238), kE P "__static_attributes__" 240 (.ref 50), kE P "__doc__" 241 .none] 2 }) ::
  (nat_lit 52, { cls := (.type "type"), data := .cls { name := ("NameFault" : Str), bases := [(.ref 39)], mro := [(.ref 52), (.ref 39), (.type "Exception"), (.type "BaseException"), (.type "object")], ns := 51, qualname := ("NameFault" : Str) }, slots := #[some ((.ref 43)), none, some ((kS "NameFault" 228)), some ((kS "NameFault" 236)), some ((.builtin "Exception.__new__")), some ((.bool true))] }) ::
  (nat_lit 55, { cls := (.type "tuple"), data := .seq #[(.ref 39)] }) ::
  (nat_lit 62, { cls := (.type "tuple"), data := .seq #[] }) ::
  (nat_lit 63, { cls := (.type "dict"), data := .dict #[kE P "__module__" 251 (kS "lendcore.errors" 194), kE P "__firstlineno__" 255 (.int 13 254), kE P "__static_attributes__" 256 (.ref 62), kE P "__doc__" 257 .none] 2 }) ::
  (nat_lit 64, { cls := (.type "type"), data := .cls { name := ("VisibilityFault" : Str), bases := [(.ref 39)], mro := [(.ref 64), (.ref 39), (.type "Exception"), (.type "BaseException"), (.type "object")], ns := 63, qualname := ("VisibilityFault" : Str) }, slots := #[some ((.ref 55)), none, some ((kS "VisibilityFault" 244)), some ((kS "VisibilityFault" 252)), some ((.builtin "Exception.__new__")), some ((.bool true))] }) ::
  (nat_lit 68, { cls := (.type "tuple"), data := .seq #[(kS "Clone" 272), (kS "Copy" 273), (kS "Default" 274), (kS "Drop" 275), (kS "Err" 276), (kS "None" 277), (kS "Ok" 278), (kS "Option" 279), (kS "Range8" 280), (kS "Result" 281), (kS "Some" 282), (kS "Vec8" 283), (kS "swapped" 284)] }) ::
  (nat_lit 69, { cls := (.type "tuple"), data := .seq #[(kS "crate" 288), (kS "self" 289), (kS "super" 290)] }) ::
  (nat_lit 71, { cls := (.type "tuple"), data := .seq #[(kS "i8" 260), (kS "i16" 261), (kS "i32" 262), (kS "i64" 263), (kS "u8" 264), (kS "u16" 265), (kS "u32" 266), (kS "u64" 267), (kS "usize" 268), (kS "bool" 292), (kS "Box" 293)] }) ::
  (nat_lit 72, { cls := (.type "tuple"), data := .seq #[] }) ::
  (nat_lit 74, { cls := (.type "tuple"), data := .seq #[(kS "module" 298), (kS "name" 299)] }) ::
  (nat_lit 75, { cls := (.type "tuple"), data := .seq #[] }) ::
  (nat_lit 77, { cls := (.type "code"), data := .fields #[(kS "joined" 295), (kS "joined" 296), (kS "/claim/cut.py" 297), (.int 21 0), (.int 2 0), (.int 0 0), (.int 0 0), (.int 3 0), (.ref 72), (.bool true), (.int 181 0), (.ref 73), .none, (.ref 74), (.ref 75), (.ref 76), (.int 300 0), (.int 21 0), (kS "/claim/cut.py" 301)] }) ::
  (nat_lit 78, fnO (pB[11]?) "joined" .none (kS "lendcore.modules" 270) (.ref 77)) ::
  (nat_lit 79, { cls := (.type "tuple"), data := .seq #[] }) ::
  (nat_lit 81, { cls := (.type "tuple"), data := .seq #[(kS "path" 306), (kS "at" 307)] }) ::
  (nat_lit 82, { cls := (.type "tuple"), data := .seq #[] }) ::
  (nat_lit 84, { cls := (.type "code"), data := .fields #[(kS "parent_of" 303), (kS "parent_of" 304), (kS "/claim/cut.py" 305), (.int 23 0), (.int 1 0), (.int 0 0), (.int 0 0), (.int 3 0), (.ref 79), (.bool true), (.int 181 0), (.ref 80), .none, (.ref 81), (.ref 82), (.ref 83), (.int 308 0), (.int 23 0), (kS "/claim/cut.py" 309)] }) ::
  (nat_lit 85, fnO (pB[12]?) "parent_of" .none (kS "lendcore.modules" 270) (.ref 84)) ::
  (nat_lit 86, { cls := (.type "tuple"), data := .seq #[] }) ::
  (nat_lit 88, { cls := (.type "tuple"), data := .seq #[(kS "module" 314), (kS "owner" 315)] }) ::
  (nat_lit 89, { cls := (.type "tuple"), data := .seq #[] }) ::
  (nat_lit 91, { cls := (.type "code"), data := .fields #[(kS "is_within" 311), (kS "is_within" 312), (kS "/claim/cut.py" 313), (.int 26 0), (.int 2 0), (.int 0 0), (.int 0 0), (.int 3 0), (.ref 86), (.bool true), (.int 181 0), (.ref 87), .none, (.ref 88), (.ref 89), (.ref 90), (.int 316 0), (.int 26 0), (kS "/claim/cut.py" 317)] }) ::
  (nat_lit 92, fnO (pB[13]?) "is_within" .none (kS "lendcore.modules" 270) (.ref 91)) ::
  (nat_lit 100, { cls := (.type "tuple"), data := .seq #[] }) ::
  (nat_lit 102, { cls := (.type "tuple"), data := .seq #[(kS "self" 334), (kS "names" 335), (kS "is_pub" 336), (kS "spot" 337)] }) ::
  (nat_lit 103, { cls := (.type "tuple"), data := .seq #[] }) ::
  (nat_lit 105, { cls := (.type "code"), data := .fields #[(kS "__init__" 331), (kS "Use.__init__" 332), (kS "/claim/cut.py" 333), (.int 30 0), (.int 4 0), (.int 0 0), (.int 0 0), (.int 3 0), (.ref 100), (.bool true), (.int 181 0), (.ref 101), .none, (.ref 102), (.ref 103), (.ref 104), (.int 338 0), (.int 30 0), (kS "/claim/cut.py" 339)] }) ::
  (nat_lit 106, fnO (inCls (pB[14]?) 0) "Use.__init__" .none (kS "lendcore.modules" 270) (.ref 105)) ::
  (nat_lit 107, { cls := (.type "tuple"), data := .seq #[(kS "is_pub" 341), (kS "names" 342), (kS "spot" 343)] }) ::
  (nat_lit 108, { cls := (.type "dict"), data := .dict #[kE P "__module__" 326 (kS "lendcore.modules" 270), kE P "__firstlineno__" 330 (.int 28 329), kE P "__init__" 340 (.ref 106), kE P "__static_attributes__" 344 (.ref 107), kE P "__dict__" 346 (.ref 110), kE P "__weakref__" 348 (.ref 111), kE P "__doc__" 349 .none] 4 }) ::
  (nat_lit 109, { cls := (.type "type"), data := .cls { name := ("Use" : Str), bases := [(.type "object")], mro := [(.ref 109), (.type "object")], ns := 108, qualname := ("Use" : Str) }, slots := #[none, none, some ((kS "Use" 319)), some ((kS "Use" 327)), some ((.builtin "object.__new__")), some ((.bool true))] }) ::
  (nat_lit 110, { cls := (.type "getset_descriptor"), data := .fields #[(kS "__dict__" 345), (.ref 109), (.builtin "function.__dict__"), (.builtin "function.__dict__#set")] }) ::
  (nat_lit 111, { cls := (.type "getset_descriptor"), data := .fields #[(kS "__weakref__" 347), (.ref 109), (.builtin "ExceptionGroup.__weakref__"), .none] }) ::
  (nat_lit 121, { cls := (.type "tuple"), data := .seq #[] }) ::
  (nat_lit 123, { cls := (.type "tuple"), data := .seq #[(kS "self" 367)] }) ::
  (nat_lit 124, { cls := (.type "tuple"), data := .seq #[] }) ::
  (nat_lit 126, { cls := (.type "code"), data := .fields #[(kS "__init__" 364), (kS "Table.__init__" 365), (kS "/claim/cut.py" 366), (.int 36 0), (.int 1 0), (.int 0 0), (.int 0 0), (.int 3 0), (.ref 121), (.bool true), (.int 181 0), (.ref 122), .none, (.ref 123), (.ref 124), (.ref 125), (.int 368 0), (.int 36 0), (kS "/claim/cut.py" 369)] }) ::
  (nat_lit 127, fnO (inCls (pB[15]?) 0) "Table.__init__" .none (kS "lendcore.modules" 270) (.ref 126)) ::
  (nat_lit 128, { cls := (.type "tuple"), data := .seq #[] }) ::
  (nat_lit 130, { cls := (.type "tuple"), data := .seq #[(kS "self" 374), (kS "space" 375)] }) ::
  (nat_lit 131, { cls := (.type "tuple"), data := .seq #[] }) ::
  (nat_lit 133, { cls := (.type "code"), data := .fields #[(kS "space" 371), (kS "Table.space" 372), (kS "/claim/cut.py" 373), (.int 41 0), (.int 2 0), (.int 0 0), (.int 0 0), (.int 3 0), (.ref 128), (.bool true), (.int 181 0), (.ref 129), .none, (.ref 130), (.ref 131), (.ref 132), (.int 376 0), (.int 41 0), (kS "/claim/cut.py" 377)] }) ::
  (nat_lit 134, fnO (inCls (pB[15]?) 1) "Table.space" .none (kS "lendcore.modules" 270) (.ref 133)) ::
  (nat_lit 135, { cls := (.type "tuple"), data := .seq #[] }) ::
  (nat_lit 138, { cls := (.type "code"), data := .fields #[(kS "is_taken" 379), (kS "Table.is_taken" 380), (kS "/claim/cut.py" 381), (.int 44 0), (.int 3 0), (.int 0 0), (.int 0 0), (.int 3 0), (.ref 135), (.bool true), (.int 181 0), (.ref 136), .none, .none, .none, (.ref 137), (.int 382 0), (.int 44 0), (kS "/claim/cut.py" 383)] }) ::
  (nat_lit 139, fnO (inCls (pB[15]?) 2) "Table.is_taken" .none (kS "lendcore.modules" 270) (.ref 138)) ::
  (nat_lit 140, { cls := (.type "tuple"), data := .seq #[(kS "types" 385), (kS "uses" 386), (kS "values" 387)] }) ::
  (nat_lit 141, { cls := (.type "dict"), data := .dict #[kE P "__module__" 359 (kS "lendcore.modules" 270), kE P "__firstlineno__" 363 (.int 34 362), kE P "__init__" 370 (.ref 127), kE P "space" 378 (.ref 134), kE P "is_taken" 384 (.ref 139), kE P "__static_attributes__" 388 (.ref 140), kE P "__dict__" 390 (.ref 143), kE P "__weakref__" 392 (.ref 144), kE P "__doc__" 393 .none] 4 }) ::
  (nat_lit 142, { cls := (.type "type"), data := .cls { name := ("Table" : Str), bases := [(.type "object")], mro := [(.ref 142), (.type "object")], ns := 141, qualname := ("Table" : Str) }, slots := #[none, none, some ((kS "Table" 352)), some ((kS "Table" 360)), some ((.builtin "object.__new__")), some ((.bool true))] }) ::
  (nat_lit 143, { cls := (.type "getset_descriptor"), data := .fields #[(kS "__dict__" 389), (.ref 142), (.builtin "function.__dict__"), (.builtin "function.__dict__#set")] }) ::
  (nat_lit 144, { cls := (.type "getset_descriptor"), data := .fields #[(kS "__weakref__" 391), (.ref 142), (.builtin "ExceptionGroup.__weakref__"), .none] }) ::
  (nat_lit 154, { cls := (.type "tuple"), data := .seq #[] }) ::
  (nat_lit 156, { cls := (.type "tuple"), data := .seq #[(kS "self" 411), (kS "items" 412), (kS "left" 413), (kS "module" 414), (kS "inner" 415), (kS "item" 416)] }) ::
  (nat_lit 157, { cls := (.type "tuple"), data := .seq #[] }) ::
  (nat_lit 159, { cls := (.type "code"), data := .fields #[(kS "__init__" 408), (kS "Modules.__init__" 409), (kS "/claim/cut.py" 410), (.int 48 0), (.int 2 0), (.int 0 0), (.int 0 0), (.int 3 0), (.ref 154), (.bool true), (.int 181 0), (.ref 155), .none, (.ref 156), (.ref 157), (.ref 158), (.int 417 0), (.int 48 0), (kS "/claim/cut.py" 418)] }) ::
  (nat_lit 160, fnO (inCls (pB[16]?) 0) "Modules.__init__" .none (kS "lendcore.modules" 270) (.ref 159)) ::
  (nat_lit 161, { cls := (.type "tuple"), data := .seq #[] }) ::
  (nat_lit 163, { cls := (.type "tuple"), data := .seq #[(kS "self" 423), (kS "module" 424), (kS "item" 425), (kS "kind" 426), (kS "spot" 427), (kS "spaces" 428)] }) ::
  (nat_lit 164, { cls := (.type "tuple"), data := .seq #[] }) ::
  (nat_lit 166, { cls := (.type "code"), data := .fields #[(kS "enter" 420), (kS "Modules.enter" 421), (kS "/claim/cut.py" 422), (.int 63 0), (.int 3 0), (.int 0 0), (.int 0 0), (.int 3 0), (.ref 161), (.bool true), (.int 181 0), (.ref 162), .none, (.ref 163), (.ref 164), (.ref 165), (.int 429 0), (.int 63 0), (kS "/claim/cut.py" 430)] }) ::
  (nat_lit 167, fnO (inCls (pB[16]?) 1) "Modules.enter" .none (kS "lendcore.modules" 270) (.ref 166)) ::
  (nat_lit 168, { cls := (.type "tuple"), data := .seq #[] }) ::
  (nat_lit 170, { cls := (.type "tuple"), data := .seq #[(kS "self" 435), (kS "module" 436), (kS "name" 437), (kS "kind" 438), (kS "spaces" 439), (kS "is_pub" 440), (kS "spot" 441), (kS "table" 442), (kS "path" 443), (kS "space" 444)] }) ::
  (nat_lit 171, { cls := (.type "tuple"), data := .seq #[] }) ::
  (nat_lit 173, { cls := (.type "code"), data := .fields #[(kS "declare" 432), (kS "Modules.declare" 433), (kS "/claim/cut.py" 434), (.int 82 0), (.int 7 0), (.int 0 0), (.int 0 0), (.int 3 0), (.ref 168), (.bool true), (.int 181 0), (.ref 169), .none, (.ref 170), (.ref 171), (.ref 172), (.int 445 0), (.int 82 0), (kS "/claim/cut.py" 446)] }) ::
  (nat_lit 174, fnO (inCls (pB[16]?) 2) "Modules.declare" .none (kS "lendcore.modules" 270) (.ref 173)) ::
  (nat_lit 175, { cls := (.type "tuple"), data := .seq #[] }) ::
  (nat_lit 178, { cls := (.type "code"), data := .fields #[(kS "declare_type" 448), (kS "Modules.declare_type" 449), (kS "/claim/cut.py" 450), (.int 93 0), (.int 5 0), (.int 0 0), (.int 0 0), (.int 3 0), (.ref 175), (.bool true), (.int 181 0), (.ref 176), .none, .none, .none, (.ref 177), (.int 451 0), (.int 93 0), (kS "/claim/cut.py" 452)] }) ::
  (nat_lit 179, fnO (inCls (pB[16]?) 3) "Modules.declare_type" .none (kS "lendcore.modules" 270) (.ref 178)) ::
  (nat_lit 180, { cls := (.type "tuple"), data := .seq #[] }) ::
  (nat_lit 182, { cls := (.type "tuple"), data := .seq #[(kS "self" 457), (kS "path" 458), (kS "item" 459), (kS "row" 460)] }) ::
  (nat_lit 183, { cls := (.type "tuple"), data := .seq #[] }) ::
  (nat_lit 185, { cls := (.type "code"), data := .fields #[(kS "enter_variants" 454), (kS "Modules.enter_variants" 455), (kS "/claim/cut.py" 456), (.int 100 0), (.int 3 0), (.int 0 0), (.int 0 0), (.int 3 0), (.ref 180), (.bool true), (.int 181 0), (.ref 181), .none, (.ref 182), (.ref 183), (.ref 184), (.int 461 0), (.int 100 0), (kS "/claim/cut.py" 462)] }) ::
  (nat_lit 186, fnO (inCls (pB[16]?) 4) "Modules.enter_variants" .none (kS "lendcore.modules" 270) (.ref 185)) ::
  (nat_lit 187, { cls := (.type "tuple"), data := .seq #[] }) ::
  (nat_lit 189, { cls := (.type "tuple"), data := .seq #[(kS "self" 467), (kS "module" 468), (kS "item" 469), (kS "spot" 470), (kS "names" 471), (kS "alias" 472), (kS "is_pub" 473), (kS "name" 474), (kS "table" 475)] }) ::
  (nat_lit 190, { cls := (.type "tuple"), data := .seq #[] }) ::
  (nat_lit 192, { cls := (.type "code"), data := .fields #[(kS "enter_use" 464), (kS "Modules.enter_use" 465), (kS "/claim/cut.py" 466), (.int 106 0), (.int 3 0), (.int 0 0), (.int 0 0), (.int 3 0), (.ref 187), (.bool true), (.int 181 0), (.ref 188), .none, (.ref 189), (.ref 190), (.ref 191), (.int 476 0), (.int 106 0), (kS "/claim/cut.py" 477)] }) ::
  (nat_lit 193, fnO (inCls (pB[16]?) 5) "Modules.enter_use" .none (kS "lendcore.modules" 270) (.ref 192)) ::
  (nat_lit 194, { cls := (.type "tuple"), data := .seq #[] }) ::
  (nat_lit 196, { cls := (.type "tuple"), data := .seq #[(kS "self" 482), (kS "asker" 483), (kS "owner" 484), (kS "is_pub" 485)] }) ::
  (nat_lit 197, { cls := (.type "tuple"), data := .seq #[] }) ::
  (nat_lit 199, { cls := (.type "code"), data := .fields #[(kS "can_see" 479), (kS "Modules.can_see" 480), (kS "/claim/cut.py" 481), (.int 116 0), (.int 4 0), (.int 0 0), (.int 0 0), (.int 3 0), (.ref 194), (.bool true), (.int 181 0), (.ref 195), .none, (.ref 196), (.ref 197), (.ref 198), (.int 486 0), (.int 116 0), (kS "/claim/cut.py" 487)] }) ::
  (nat_lit 200, fnO (inCls (pB[16]?) 6) "Modules.can_see" .none (kS "lendcore.modules" 270) (.ref 199)) ::
  (nat_lit 201, { cls := (.type "tuple"), data := .seq #[(.int 0 489)] }) ::
  (nat_lit 202, { cls := (.type "tuple"), data := .seq #[] }) ::
  (nat_lit 204, { cls := (.type "tuple"), data := .seq #[(kS "self" 493), (kS "module" 494), (kS "names" 495), (kS "space" 496), (kS "spot" 497)] }) ::
  (nat_lit 205, { cls := (.type "tuple"), data := .seq #[] }) ::
  (nat_lit 207, { cls := (.type "code"), data := .fields #[(kS "find" 490), (kS "Modules.find" 491), (kS "/claim/cut.py" 492), (.int 119 0), (.int 5 0), (.int 0 0), (.int 0 0), (.int 3 0), (.ref 202), (.bool true), (.int 181 0), (.ref 203), .none, (.ref 204), (.ref 205), (.ref 206), (.int 498 0), (.int 119 0), (kS "/claim/cut.py" 499)] }) ::
  (nat_lit 208, fnO (inCls (pB[16]?) 7) "Modules.find" (.ref 201) (kS "lendcore.modules" 270) (.ref 207)) ::
  (nat_lit 209, { cls := (.type "tuple"), data := .seq #[] }) ::
  (nat_lit 211, { cls := (.type "tuple"), data := .seq #[(kS "self" 504), (kS "module" 505), (kS "names" 506), (kS "space" 507), (kS "spot" 508), (kS "seen" 509), (kS "here" 510), (kS "at" 511), (kS "wanted" 512), (kS "found" 513)] }) ::
  (nat_lit 212, { cls := (.type "tuple"), data := .seq #[] }) ::
  (nat_lit 214, { cls := (.type "code"), data := .fields #[(kS "walk" 501), (kS "Modules.walk" 502), (kS "/claim/cut.py" 503), (.int 122 0), (.int 6 0), (.int 0 0), (.int 0 0), (.int 3 0), (.ref 209), (.bool true), (.int 181 0), (.ref 210), .none, (.ref 211), (.ref 212), (.ref 213), (.int 514 0), (.int 122 0), (kS "/claim/cut.py" 515)] }) ::
  (nat_lit 215, fnO (inCls (pB[16]?) 8) "Modules.walk" .none (kS "lendcore.modules" 270) (.ref 214)) ::
  (nat_lit 216, { cls := (.type "tuple"), data := .seq #[] }) ::
  (nat_lit 218, { cls := (.type "tuple"), data := .seq #[(kS "self" 520), (kS "module" 521), (kS "names" 522), (kS "spot" 523), (kS "here" 524), (kS "at" 525)] }) ::
  (nat_lit 219, { cls := (.type "tuple"), data := .seq #[] }) ::
  (nat_lit 221, { cls := (.type "code"), data := .fields #[(kS "begin" 517), (kS "Modules.begin" 518), (kS "/claim/cut.py" 519), (.int 134 0), (.int 4 0), (.int 0 0), (.int 0 0), (.int 3 0), (.ref 216), (.bool true), (.int 181 0), (.ref 217), .none, (.ref 218), (.ref 219), (.ref 220), (.int 526 0), (.int 134 0), (kS "/claim/cut.py" 527)] }) ::
  (nat_lit 222, fnO (inCls (pB[16]?) 9) "Modules.begin" .none (kS "lendcore.modules" 270) (.ref 221)) ::
  (nat_lit 223, { cls := (.type "tuple"), data := .seq #[] }) ::
  (nat_lit 225, { cls := (.type "tuple"), data := .seq #[(kS "self" 532), (kS "module" 533), (kS "here" 534), (kS "name" 535), (kS "space" 536), (kS "spot" 537), (kS "seen" 538), (kS "found" 539)] }) ::
  (nat_lit 226, { cls := (.type "tuple"), data := .seq #[] }) ::
  (nat_lit 228, { cls := (.type "code"), data := .fields #[(kS "step" 529), (kS "Modules.step" 530), (kS "/claim/cut.py" 531), (.int 148 0), (.int 7 0), (.int 0 0), (.int 0 0), (.int 3 0), (.ref 223), (.bool true), (.int 181 0), (.ref 224), .none, (.ref 225), (.ref 226), (.ref 227), (.int 540 0), (.int 148 0), (kS "/claim/cut.py" 541)] }) ::
  (nat_lit 229, fnO (inCls (pB[16]?) 10) "Modules.step" .none (kS "lendcore.modules" 270) (.ref 228)) ::
  (nat_lit 230, { cls := (.type "tuple"), data := .seq #[] }) ::
  (nat_lit 232, { cls := (.type "tuple"), data := .seq #[(kS "self" 546), (kS "asker" 547), (kS "owner" 548), (kS "name" 549), (kS "space" 550), (kS "spot" 551), (kS "seen" 552), (kS "path" 553), (kS "table" 554), (kS "use" 555)] }) ::
  (nat_lit 233, { cls := (.type "tuple"), data := .seq #[] }) ::
  (nat_lit 235, { cls := (.type "code"), data := .fields #[(kS "look" 543), (kS "Modules.look" 544), (kS "/claim/cut.py" 545), (.int 156 0), (.int 7 0), (.int 0 0), (.int 0 0), (.int 3 0), (.ref 230), (.bool true), (.int 181 0), (.ref 231), .none, (.ref 232), (.ref 233), (.ref 234), (.int 556 0), (.int 156 0), (kS "/claim/cut.py" 557)] }) ::
  (nat_lit 236, fnO (inCls (pB[16]?) 11) "Modules.look" .none (kS "lendcore.modules" 270) (.ref 235)) ::
  (nat_lit 237, { cls := (.type "tuple"), data := .seq #[] }) ::
  (nat_lit 239, { cls := (.type "tuple"), data := .seq #[(kS "self" 562), (kS "owner" 563), (kS "name" 564), (kS "use" 565), (kS "space" 566), (kS "seen" 567), (kS "found" 568)] }) ::
  (nat_lit 240, { cls := (.type "tuple"), data := .seq #[] }) ::
  (nat_lit 242, { cls := (.type "code"), data := .fields #[(kS "follow" 559), (kS "Modules.follow" 560), (kS "/claim/cut.py" 561), (.int 175 0), (.int 6 0), (.int 0 0), (.int 0 0), (.int 3 0), (.ref 237), (.bool true), (.int 181 0), (.ref 238), .none, (.ref 239), (.ref 240), (.ref 241), (.int 569 0), (.int 175 0), (kS "/claim/cut.py" 570)] }) ::
  (nat_lit 243, fnO (inCls (pB[16]?) 12) "Modules.follow" .none (kS "lendcore.modules" 270) (.ref 242)) ::
  (nat_lit 244, { cls := (.type "tuple"), data := .seq #[(.int 0 572)] }) ::
  (nat_lit 245, { cls := (.type "tuple"), data := .seq #[] }) ::
  (nat_lit 247, { cls := (.type "tuple"), data := .seq #[(kS "self" 576), (kS "module" 577), (kS "names" 578), (kS "spot" 579)] }) ::
  (nat_lit 248, { cls := (.type "tuple"), data := .seq #[] }) ::
  (nat_lit 250, { cls := (.type "code"), data := .fields #[(kS "find_prefix" 573), (kS "Modules.find_prefix" 574), (kS "/claim/cut.py" 575), (.int 184 0), (.int 4 0), (.int 0 0), (.int 0 0), (.int 3 0), (.ref 245), (.bool true), (.int 181 0), (.ref 246), .none, (.ref 247), (.ref 248), (.ref 249), (.int 580 0), (.int 184 0), (kS "/claim/cut.py" 581)] }) ::
  (nat_lit 251, fnO (inCls (pB[16]?) 13) "Modules.find_prefix" (.ref 244) (kS "lendcore.modules" 270) (.ref 250)) ::
  (nat_lit 252, { cls := (.type "tuple"), data := .seq #[] }) ::
  (nat_lit 254, { cls := (.type "tuple"), data := .seq #[(kS "self" 586)] }) ::
  (nat_lit 255, { cls := (.type "tuple"), data := .seq #[] }) ::
  (nat_lit 257, { cls := (.type "code"), data := .fields #[(kS "checked_uses" 583), (kS "Modules.checked_uses" 584), (kS "/claim/cut.py" 585), (.int 187 0), (.int 1 0), (.int 0 0), (.int 0 0), (.int 3 0), (.ref 252), (.bool true), (.int 181 0), (.ref 253), .none, (.ref 254), (.ref 255), (.ref 256), (.int 587 0), (.int 187 0), (kS "/claim/cut.py" 588)] }) ::
  (nat_lit 258, fnO (inCls (pB[16]?) 14) "Modules.checked_uses" .none (kS "lendcore.modules" 270) (.ref 257)) ::
  (nat_lit 259, { cls := (.type "tuple"), data := .seq #[] }) ::
  (nat_lit 261, { cls := (.type "tuple"), data := .seq #[(kS "self" 593)] }) ::
  (nat_lit 262, { cls := (.type "tuple"), data := .seq #[] }) ::
  (nat_lit 264, { cls := (.type "code"), data := .fields #[(kS "checked_publics" 590), (kS "Modules.checked_publics" 591), (kS "/claim/cut.py" 592), (.int 190 0), (.int 1 0), (.int 0 0), (.int 0 0), (.int 3 0), (.ref 259), (.bool true), (.int 181 0), (.ref 260), .none, (.ref 261), (.ref 262), (.ref 263), (.int 594 0), (.int 190 0), (kS "/claim/cut.py" 595)] }) ::
  (nat_lit 265, fnO (inCls (pB[16]?) 15) "Modules.checked_publics" .none (kS "lendcore.modules" 270) (.ref 264)) ::
  (nat_lit 266, { cls := (.type "tuple"), data := .seq #[] }) ::
  (nat_lit 268, { cls := (.type "tuple"), data := .seq #[(kS "self" 600), (kS "module" 601), (kS "use" 602)] }) ::
  (nat_lit 269, { cls := (.type "tuple"), data := .seq #[] }) ::
  (nat_lit 271, { cls := (.type "code"), data := .fields #[(kS "may_tell_on" 597), (kS "Modules.may_tell_on" 598), (kS "/claim/cut.py" 599), (.int 193 0), (.int 3 0), (.int 0 0), (.int 0 0), (.int 3 0), (.ref 266), (.bool true), (.int 181 0), (.ref 267), .none, (.ref 268), (.ref 269), (.ref 270), (.int 603 0), (.int 193 0), (kS "/claim/cut.py" 604)] }) ::
  (nat_lit 272, fnO (inCls (pB[16]?) 16) "Modules.may_tell_on" .none (kS "lendcore.modules" 270) (.ref 271)) ::
  (nat_lit 273, { cls := (.type "tuple"), data := .seq #[(kS "generics" 606), (kS "items" 607), (kS "kept" 608), (kS "kinds" 609), (kS "publics" 610), (kS "tables" 611)] }) ::
  (nat_lit 274, { cls := (.type "dict"), data := .dict #[kE P "__module__" 403 (kS "lendcore.modules" 270), kE P "__firstlineno__" 407 (.int 46 406), kE P "__init__" 419 (.ref 160), kE P "enter" 431 (.ref 167), kE P "declare" 447 (.ref 174), kE P "declare_type" 453 (.ref 179), kE P "enter_variants" 463 (.ref 186), kE P "enter_use" 478 (.ref 193), kE P "can_see" 488 (.ref 200), kE P "find" 500 (.ref 208), kE P "walk" 516 (.ref 215), kE P "begin" 528 (.ref 222), kE P "step" 542 (.ref 229), kE P "look" 558 (.ref 236), kE P "follow" 571 (.ref 243), kE P "find_prefix" 582 (.ref 251), kE P "checked_uses" 589 (.ref 258), kE P "checked_publics" 596 (.ref 265), kE P "may_tell_on" 605 (.ref 272), kE P "__static_attributes__" 612 (.ref 273), kE P "__dict__" 614 (.ref 276), kE P "__weakref__" 616 (.ref 277), kE P "__doc__" 617 .none] 4 }) ::
  (nat_lit 275, { cls := (.type "type"), data := .cls { name := ("Modules" : Str), bases := [(.type "object")], mro := [(.ref 275), (.type "object")], ns := 274, qualname := ("Modules" : Str) }, slots := #[none, none, some ((kS "Modules" 396)), some ((kS "Modules" 404)), some ((.builtin "object.__new__")), some ((.bool true))] }) ::
  (nat_lit 276, { cls := (.type "getset_descriptor"), data := .fields #[(kS "__dict__" 613), (.ref 275), (.builtin "function.__dict__"), (.builtin "function.__dict__#set")] }) ::
  (nat_lit 277, { cls := (.type "getset_descriptor"), data := .fields #[(kS "__weakref__" 615), (.ref 275), (.builtin "ExceptionGroup.__weakref__"), .none] }) ::
  (nat_lit 280, { cls := (.type "tuple"), data := .seq #[] }) ::
  (nat_lit 282, { cls := (.type "tuple"), data := .seq #[(kS "script" 625), (kS "cell" 626), (kS "great" 627)] }) ::
  (nat_lit 283, { cls := (.type "tuple"), data := .seq #[] }) ::
  (nat_lit 285, { cls := (.type "code"), data := .fields #[(kS "_law_pool" 622), (kS "_law_pool" 623), (kS "/claim/cut.py" 624), (.int 196 0), (.int 1 0), (.int 0 0), (.int 0 0), (.int 3 0), (.ref 280), (.bool true), (.int 181 0), (.ref 281), .none, (.ref 282), (.ref 283), (.ref 284), (.int 628 0), (.int 196 0), (kS "/claim/cut.py" 629)] }) ::
  (nat_lit 286, fnO (pB[18]?) "_law_pool" .none (kS "law_xw0164_01" 620) (.ref 285)) ::
  (nat_lit 287, { cls := (.type "tuple"), data := .seq #[] }) ::
  (nat_lit 289, { cls := (.type "tuple"), data := .seq #[(kS "source" 634), (kS "top" 635), (kS "drawn" 636)] }) ::
  (nat_lit 290, { cls := (.type "tuple"), data := .seq #[] }) ::
  (nat_lit 292, { cls := (.type "code"), data := .fields #[(kS "_law_take" 631), (kS "_law_take" 632), (kS "/claim/cut.py" 633), (.int 200 0), (.int 2 0), (.int 0 0), (.int 0 0), (.int 3 0), (.ref 287), (.bool true), (.int 181 0), (.ref 288), .none, (.ref 289), (.ref 290), (.ref 291), (.int 637 0), (.int 200 0), (kS "/claim/cut.py" 638)] }) ::
  (nat_lit 293, fnO (pB[19]?) "_law_take" .none (kS "law_xw0164_01" 620) (.ref 292)) ::
  (nat_lit 294, { cls := (.type "tuple"), data := .seq #[] }) ::
  (nat_lit 296, { cls := (.type "tuple"), data := .seq #[(kS "source" 643), (kS "things" 644)] }) ::
  (nat_lit 297, { cls := (.type "tuple"), data := .seq #[] }) ::
  (nat_lit 299, { cls := (.type "code"), data := .fields #[(kS "_law_one" 640), (kS "_law_one" 641), (kS "/claim/cut.py" 642), (.int 207 0), (.int 2 0), (.int 0 0), (.int 0 0), (.int 3 0), (.ref 294), (.bool true), (.int 181 0), (.ref 295), .none, (.ref 296), (.ref 297), (.ref 298), (.int 645 0), (.int 207 0), (kS "/claim/cut.py" 646)] }) ::
  (nat_lit 300, fnO (pB[20]?) "_law_one" .none (kS "law_xw0164_01" 620) (.ref 299)) ::
  (nat_lit 301, { cls := (.type "tuple"), data := .seq #[] }) ::
  (nat_lit 303, { cls := (.type "tuple"), data := .seq #[(kS "call" 651), (kS "fault" 652)] }) ::
  (nat_lit 304, { cls := (.type "tuple"), data := .seq #[] }) ::
  (nat_lit 306, { cls := (.type "code"), data := .fields #[(kS "_law_heard" 648), (kS "_law_heard" 649), (kS "/claim/cut.py" 650), (.int 209 0), (.int 1 0), (.int 0 0), (.int 0 0), (.int 3 0), (.ref 301), (.bool true), (.int 181 0), (.ref 302), .none, (.ref 303), (.ref 304), (.ref 305), (.int 653 0), (.int 209 0), (kS "/claim/cut.py" 654)] }) ::
  (nat_lit 307, fnO (pB[21]?) "_law_heard" .none (kS "law_xw0164_01" 620) (.ref 306)) ::
  (nat_lit 308, { cls := (.type "tuple"), data := .seq #[] }) ::
  (nat_lit 310, { cls := (.type "tuple"), data := .seq #[] }) ::
  (nat_lit 311, { cls := (.type "tuple"), data := .seq #[] }) ::
  (nat_lit 313, { cls := (.type "code"), data := .fields #[(kS "_law_modules" 656), (kS "_law_modules" 657), (kS "/claim/cut.py" 658), (.int 215 0), (.int 0 0), (.int 0 0), (.int 0 0), (.int 3 0), (.ref 308), (.bool true), (.int 181 0), (.ref 309), .none, (.ref 310), (.ref 311), (.ref 312), (.int 659 0), (.int 215 0), (kS "/claim/cut.py" 660)] }) ::
  (nat_lit 314, fnO (pB[22]?) "_law_modules" .none (kS "law_xw0164_01" 620) (.ref 313)) ::
  (nat_lit 315, { cls := (.type "tuple"), data := .seq #[] }) ::
  (nat_lit 317, { cls := (.type "tuple"), data := .seq #[(kS "module" 665), (kS "name" 666)] }) ::
  (nat_lit 318, { cls := (.type "tuple"), data := .seq #[] }) ::
  (nat_lit 320, { cls := (.type "code"), data := .fields #[(kS "_law_path" 662), (kS "_law_path" 663), (kS "/claim/cut.py" 664), (.int 217 0), (.int 2 0), (.int 0 0), (.int 0 0), (.int 3 0), (.ref 315), (.bool true), (.int 181 0), (.ref 316), .none, (.ref 317), (.ref 318), (.ref 319), (.int 667 0), (.int 217 0), (kS "/claim/cut.py" 668)] }) ::
  (nat_lit 321, fnO (pB[23]?) "_law_path" .none (kS "law_xw0164_01" 620) (.ref 320)) ::
  (nat_lit 322, { cls := (.type "tuple"), data := .seq #[] }) ::
  (nat_lit 324, { cls := (.type "tuple"), data := .seq #[(kS "book" 673)] }) ::
  (nat_lit 325, { cls := (.type "tuple"), data := .seq #[] }) ::
  (nat_lit 327, { cls := (.type "code"), data := .fields #[(kS "_law_book" 670), (kS "_law_book" 671), (kS "/claim/cut.py" 672), (.int 219 0), (.int 0 0), (.int 0 0), (.int 0 0), (.int 3 0), (.ref 322), (.bool true), (.int 181 0), (.ref 323), .none, (.ref 324), (.ref 325), (.ref 326), (.int 674 0), (.int 219 0), (kS "/claim/cut.py" 675)] }) ::
  (nat_lit 328, fnO (pB[24]?) "_law_book" .none (kS "law_xw0164_01" 620) (.ref 327)) ::
  (nat_lit 329, { cls := (.type "tuple"), data := .seq #[] }) ::
  (nat_lit 331, { cls := (.type "tuple"), data := .seq #[(kS "modules" 680), (kS "whole" 681), (kS "book" 682), (kS "kinds" 683), (kS "generics" 684), (kS "publics" 685), (kS "items" 686), (kS "module" 687), (kS "table" 688), (kS "own" 689), (kS "name" 690), (kS "use" 691)] }) ::
  (nat_lit 332, { cls := (.type "tuple"), data := .seq #[] }) ::
  (nat_lit 334, { cls := (.type "code"), data := .fields #[(kS "_law_is_alike" 677), (kS "_law_is_alike" 678), (kS "/claim/cut.py" 679), (.int 222 0), (.int 2 0), (.int 0 0), (.int 0 0), (.int 3 0), (.ref 329), (.bool true), (.int 181 0), (.ref 330), .none, (.ref 331), (.ref 332), (.ref 333), (.int 692 0), (.int 222 0), (kS "/claim/cut.py" 693)] }) ::
  (nat_lit 335, fnO (pB[25]?) "_law_is_alike" .none (kS "law_xw0164_01" 620) (.ref 334)) ::
  (nat_lit 336, { cls := (.type "tuple"), data := .seq #[] }) ::
  (nat_lit 339, { cls := (.type "code"), data := .fields #[(kS "_law_refusal" 695), (kS "_law_refusal" 696), (kS "/claim/cut.py" 697), (.int 235 0), (.int 6 0), (.int 0 0), (.int 0 0), (.int 3 0), (.ref 336), (.bool true), (.int 181 0), (.ref 337), .none, .none, .none, (.ref 338), (.int 698 0), (.int 235 0), (kS "/claim/cut.py" 699)] }) ::
  (nat_lit 340, fnO (pB[26]?) "_law_refusal" .none (kS "law_xw0164_01" 620) (.ref 339)) ::
  (nat_lit 341, { cls := (.type "tuple"), data := .seq #[] }) ::
  (nat_lit 344, { cls := (.type "code"), data := .fields #[(kS "_law_type_right" 701), (kS "_law_type_right" 702), (kS "/claim/cut.py" 703), (.int 243 0), (.int 6 0), (.int 0 0), (.int 0 0), (.int 3 0), (.ref 341), (.bool true), (.int 181 0), (.ref 342), .none, .none, .none, (.ref 343), (.int 704 0), (.int 243 0), (kS "/claim/cut.py" 705)] }) ::
  (nat_lit 345, fnO (pB[27]?) "_law_type_right" .none (kS "law_xw0164_01" 620) (.ref 344)) ::
  (nat_lit 346, { cls := (.type "tuple"), data := .seq #[] }) ::
  (nat_lit 349, { cls := (.type "code"), data := .fields #[(kS "_law_variants_right" 707), (kS "_law_variants_right" 708), (kS "/claim/cut.py" 709), (.int 256 0), (.int 5 0), (.int 0 0), (.int 0 0), (.int 3 0), (.ref 346), (.bool true), (.int 181 0), (.ref 347), .none, .none, .none, (.ref 348), (.int 710 0), (.int 256 0), (kS "/claim/cut.py" 711)] }) ::
  (nat_lit 350, fnO (pB[28]?) "_law_variants_right" .none (kS "law_xw0164_01" 620) (.ref 349)) ::
  (nat_lit 351, { cls := (.type "tuple"), data := .seq #[] }) ::
  (nat_lit 353, { cls := (.type "tuple"), data := .seq #[(kS "modules" 716), (kS "whole" 717), (kS "module" 718), (kS "use" 719), (kS "names" 720), (kS "alias" 721), (kS "is_pub" 722), (kS "spot" 723), (kS "own" 724), (kS "name" 725), (kS "due" 726)] }) ::
  (nat_lit 354, { cls := (.type "tuple"), data := .seq #[(kS "modules" 727), (kS "module" 728), (kS "item" 729)] }) ::
  (nat_lit 356, { cls := (.type "code"), data := .fields #[(kS "_law_use_right" 713), (kS "_law_use_right" 714), (kS "/claim/cut.py" 715), (.int 265 0), (.int 4 0), (.int 0 0), (.int 0 0), (.int 3 0), (.ref 351), (.bool true), (.int 181 0), (.ref 352), .none, (.ref 353), (.ref 354), (.ref 355), (.int 730 0), (.int 265 0), (kS "/claim/cut.py" 731)] }) ::
  (nat_lit 357, fnO (pB[29]?) "_law_use_right" .none (kS "law_xw0164_01" 620) (.ref 356)) ::
  (nat_lit 358, { cls := (.type "tuple"), data := .seq #[] }) ::
  (nat_lit 360, { cls := (.type "tuple"), data := .seq #[(kS "source" 736), (kS "name" 737), (kS "spot" 738), (kS "kind" 739), (kS "generics" 740)] }) ::
  (nat_lit 361, { cls := (.type "tuple"), data := .seq #[] }) ::
  (nat_lit 363, { cls := (.type "code"), data := .fields #[(kS "_law_item" 733), (kS "_law_item" 734), (kS "/claim/cut.py" 735), (.int 277 0), (.int 3 0), (.int 0 0), (.int 0 0), (.int 3 0), (.ref 358), (.bool true), (.int 181 0), (.ref 359), .none, (.ref 360), (.ref 361), (.ref 362), (.int 741 0), (.int 277 0), (kS "/claim/cut.py" 742)] }) ::
  (nat_lit 364, fnO (pB[30]?) "_law_item" .none (kS "law_xw0164_01" 620) (.ref 363)) ::
  (nat_lit 365, { cls := (.type "tuple"), data := .seq #[] }) ::
  (nat_lit 368, { cls := (.type "code"), data := .fields #[(kS "_law_deed_right" 744), (kS "_law_deed_right" 745), (kS "/claim/cut.py" 746), (.int 281 0), (.int 3 0), (.int 0 0), (.int 0 0), (.int 3 0), (.ref 365), (.bool true), (.int 181 0), (.ref 366), .none, .none, .none, (.ref 367), (.int 747 0), (.int 281 0), (kS "/claim/cut.py" 748)] }) ::
  (nat_lit 369, fnO (pB[31]?) "_law_deed_right" .none (kS "law_xw0164_01" 620) (.ref 368)) ::
  (nat_lit 370, { cls := (.type "tuple"), data := .seq #[] }) ::
  (nat_lit 373, { cls := (.type "code"), data := .fields #[(kS "_law_chain_right" 750), (kS "_law_chain_right" 751), (kS "/claim/cut.py" 752), (.int 292 0), (.int 4 0), (.int 0 0), (.int 0 0), (.int 3 0), (.ref 370), (.bool true), (.int 181 0), (.ref 371), .none, .none, .none, (.ref 372), (.int 753 0), (.int 292 0), (kS "/claim/cut.py" 754)] }) ::
  (nat_lit 374, fnO (pB[32]?) "_law_chain_right" .none (kS "law_xw0164_01" 620) (.ref 373)) ::
  (nat_lit 375, { cls := (.type "tuple"), data := .seq #[] }) ::
  (nat_lit 377, { cls := (.type "tuple"), data := .seq #[(kS "modules" 759), (kS "whole" 760), (kS "item" 761), (kS "uses" 762), (kS "use" 763)] }) ::
  (nat_lit 378, { cls := (.type "tuple"), data := .seq #[] }) ::
  (nat_lit 380, { cls := (.type "code"), data := .fields #[(kS "_law_told_right" 756), (kS "_law_told_right" 757), (kS "/claim/cut.py" 758), (.int 312 0), (.int 0 0), (.int 0 0), (.int 0 0), (.int 3 0), (.ref 375), (.bool true), (.int 181 0), (.ref 376), .none, (.ref 377), (.ref 378), (.ref 379), (.int 764 0), (.int 312 0), (kS "/claim/cut.py" 765)] }) ::
  (nat_lit 381, fnO (pB[33]?) "_law_told_right" .none (kS "law_xw0164_01" 620) (.ref 380)) ::
  (nat_lit 382, { cls := (.type "tuple"), data := .seq #[] }) ::
  (nat_lit 384, { cls := (.type "tuple"), data := .seq #[(kS "script" 770), (kS "source" 771), (kS "modules" 772), (kS "whole" 773), (kS "turn" 774), (kS "ahead" 775)] }) ::
  (nat_lit 385, { cls := (.type "tuple"), data := .seq #[] }) ::
  (nat_lit 387, { cls := (.type "code"), data := .fields #[(kS "law" 767), (kS "law" 768), (kS "/claim/cut.py" 769), (.int 330 0), (.int 1 0), (.int 0 0), (.int 0 0), (.int 3 0), (.ref 382), (.bool true), (.int 181 0), (.ref 383), .none, (.ref 384), (.ref 385), (.ref 386), (.int 776 0), (.int 330 0), (kS "/claim/cut.py" 777)] }) ::
  (nat_lit 388, fnO (pB[34]?) "law" .none (kS "law_xw0164_01" 620) (.ref 387)) :: []
end

section
open PySem PySem.W PySem.Calls PyProof.Rows
structure Fly (base : Heap) (l : List Env) (e : Addr) (c : Value) (dd : Option Addr) (fl : Value) (h : Heap) : Prop where
  stay : base.StaysIn h
  new : base.get? e = none
  frames : h.FunFrames base l
  tb : ∃ oe vs T oT ts, h.get? e = some oe ∧ oe.cls = c ∧ oe.dict = dd ∧ oe.data = .fields vs ∧ vs[1]? = some (.ref T) ∧ base.get? T = none ∧ T ≠ e ∧ h.get? T = some oT ∧ oT.data = .fields ts ∧ ts[3]? = some fl
theorem dict_mapFields (o : Obj) (f) : (o.mapFields f).dict = o.dict := by
  obtain ⟨c, d, dt, sl⟩ := o; cases dt <;> rfl
section
variable {M : Model} {A : Around} {E : Value → Shared → Prop} {s : Shared} {base : Heap} {env : Env} {outer l : List Env} {L e : Addr} {c : Value} {dd : Option Addr} {fl : Value}
theorem Fly.there {h : Heap} (x : Fly base l e c dd fl h) : ∃ oe, h.get? e = some oe ∧ oe.cls = c ∧ oe.dict = dd := by
  obtain ⟨oe, _, _, _, _, h1, h2, h3, _⟩ := x.tb
  exact ⟨oe, h1, h2, h3⟩
theorem entry_fly {oe : Obj} {vs : Array Value} {head : Value} {hadNext : Bool} {Q : Unit → Shared → Prop}
    (hfr : A.frames = some (env :: outer)) (hf : env.frame = some L) (st : base.StaysIn s.heap) (hl : s.heap.FunFrames base (env :: outer)) (hen : base.get? e = none)
    (he : s.heap.get? e = some oe) (hd : oe.data = .fields vs) (hsz : 1 < vs.size)
    (k : ∀ h', Fly base (env :: outer) e oe.cls oe.dict (rawInt L) h' → s.heap.UpToSlots h' → Q () { s with heap := h' }) :
    wpAny M A (do let a ← frameOf env; let pl ← entryPlaceOf L hadNext; let b ← EntryCells.newEntry head a .none (rawInt L) .none pl; setField (.ref e) 1 b) Q E s := by
  have off : e ∉ (env :: outer).filterMap (·.frame) := fun hm => by
    obtain ⟨_, o, ho, hnf⟩ := hl.mem hm
    cases he.symm.trans ho
    exact hnf vs hd
  refine wpAny_bind (wpAny_frameOf_fun hfr hl hf fun h₁ sl₁ => ?_)
  refine wpAny_bind (wpAny_entryPlaceOf fun pl hpl => ?_)
  unfold EntryCells.newEntry newFields
  refine wpAny_bind (wpAny_newObj_type ?_ (hpl.sizeOk5 _ _ _ _ _))
  generalize hT : ({ cls := .type "traceback", dict := none, data := .fields ([head, .ref L, .none, rawInt L, .none] ++ (if pl.isEmpty then List.replicate 6 Value.none else pl)).toArray } : Obj) = oT
  have he₁ : h₁.get? e = some oe := (sl₁.2.1 e off).trans he
  have st₁ : base.StaysIn h₁ := fun b o hb => (sl₁.2.1 b fun hm => by rw [(hl.mem hm).1] at hb; cases hb).trans (st b o hb)
  refine wpAny_setField (Heap.get?_push_of_some oT he₁) hd hsz (k _ ?_ ?_)
  · have ne : h₁.objs.size ≠ e := Nat.ne_of_gt (Heap.lt_size he₁)
    have dat := Obj.data_mapFields hd (·.setIfInBounds 1 (Value.ref h₁.objs.size))
    have old : ∀ b o, b ≠ e → h₁.get? b = some o → ((h₁.push oT).update e (Obj.mapFields (·.setIfInBounds 1 (Value.ref h₁.objs.size)))).get? b = some o := fun b o hb ho => by
      rw [Heap.get?_update_other _ _ (Ne.symm hb)]
      exact Heap.get?_push_of_some _ ho
    refine ⟨fun b o hb => old b o (fun q => by rw [q, hen] at hb; cases hb) (st₁ b o hb), hen, hl.of_keeps fun b o hb hnf => ?_, ?_⟩
    · obtain ⟨sl, hs⟩ := sl₁.2.2 b o hb
      exact ⟨_, old b _ (fun q => by rw [q, he] at hb; cases hb; exact hnf _ hd) hs, rfl⟩
    · refine ⟨_, _, h₁.objs.size, oT, _, Heap.get?_update_self _ (Heap.get?_push_of_some oT he₁) (Obj.isFreed_of_fields dat), Obj.cls_mapFields _ _, dict_mapFields _ _, dat, by simp [hsz], st₁.fresh, ne, ?_, by rw [← hT], ?_⟩
      · rw [Heap.get?_update_other _ _ (Ne.symm ne)]
        exact Heap.get?_push_size h₁ (by rw [← hT]; rfl)
      · rcases hpl with rfl | ⟨_, _, _, _, _, _, _, rfl⟩ <;> simp
  · intro b o hb hnf
    obtain ⟨sl, hs⟩ := sl₁.2.2 b o hb
    refine ⟨sl, ?_⟩
    rw [Heap.get?_update_other _ _ (fun q : e = b => by rw [← q, he] at hb; cases hb; exact hnf _ hd)]
    exact Heap.get?_push_of_some _ hs
theorem flight_set {fr : Option Addr} {Q : Unit → Shared → Prop} (x : Fly base l e c dd fl s.heap)
    (k : ∀ h', Fly base l e c dd (fr.elim .none fun f => rawInt f) h' → s.heap.UpToSlots h' → Q () { s with heap := h' }) : wpAny M A (setFlight (.ref e) fr) Q E s := by
  obtain ⟨st, hen, hl, oe, vs, T, oT, ts, he, hc, hdd, hd, h1, hnT, hTe, hT, hdT, h3⟩ := x
  have other : ∀ b, b ≠ T → (s.heap.update T (Obj.mapFields (·.setIfInBounds 3 (fr.elim Value.none fun f => rawInt f)))).get? b = s.heap.get? b := fun b hb => Heap.get?_update_other _ _ (Ne.symm hb)
  have noRec : ∀ b o, s.heap.get? b = some o → (∀ vs, o.data ≠ .fields vs) → b ≠ T := fun b o hb hnf q => by
    rw [q, hT] at hb; cases hb; exact hnf ts hdT
  unfold setFlight
  refine wpAny_bind (wpAny_field he hd h1 ?_)
  rw [if_pos (show (Value.ref T != Value.none) = true from by simp)]
  have hs3 := (Array.getElem?_eq_some_iff.mp h3).1
  refine wpAny_setField hT hdT hs3 (k _ ⟨fun b o hb => (other b fun q => by rw [q, hnT] at hb; cases hb).trans (st b o hb), hen, hl.of_keeps fun b o hb hnf => ⟨o, (other b (noRec b o hb hnf)).trans hb, rfl⟩, ?_⟩
    fun b o hb hnf => ⟨o.slots, (other b (noRec b o hb hnf)).trans hb⟩)
  exact ⟨oe, vs, T, _, _, (other e (Ne.symm hTe)).trans he, hc, hdd, hd, h1, hnT, hTe, Heap.get?_update_self _ hT (Obj.isFreed_of_fields (Obj.data_mapFields hdT _)), Obj.data_mapFields hdT _, by simp [hs3]⟩
theorem note_first {oe : Obj} {vs : Array Value} {Q : Unit → Shared → Prop}
    (hfr : A.frames = some (env :: outer)) (hf : env.frame = some L) (st : base.StaysIn s.heap) (hl : s.heap.FunFrames base (env :: outer)) (hen : base.get? e = none)
    (he : s.heap.get? e = some oe) (hd : oe.data = .fields vs) (h1 : vs[1]? = some .none)
    (k : ∀ h', Fly base (env :: outer) e oe.cls oe.dict (rawInt L) h' → s.heap.UpToSlots h' → Q () { s with heap := h' }) :
    wpAny M A (noteFrame (.ref e) env) Q E s := by
  unfold noteFrame
  simp only [hf]
  refine wpAny_bind (wpAny_field he hd h1 ?_)
  rw [if_neg (by decide)]
  exact entry_fly hfr hf st hl hen he hd (Array.getElem?_eq_some_iff.mp h1).1 k
theorem note_next {Q : Unit → Shared → Prop} (hfr : A.frames = some (env :: outer)) (hf : env.frame = some L) (x : Fly base (env :: outer) e c dd .none s.heap)
    (k : ∀ h', Fly base (env :: outer) e c dd (rawInt L) h' → s.heap.UpToSlots h' → Q () { s with heap := h' }) : wpAny M A (noteFrame (.ref e) env) Q E s := by
  obtain ⟨st, hen, hl, oe, vs, T, oT, ts, he, hc, hdd, hd, h1, hnT, hTe, hT, hdT, h3⟩ := x
  subst hc hdd
  have other : ∀ b, b ≠ T → (s.heap.update T (Obj.mapFields (·.setIfInBounds 3 Value.none))).get? b = s.heap.get? b := fun b hb => Heap.get?_update_other _ _ (Ne.symm hb)
  have noRec : ∀ b o, s.heap.get? b = some o → (∀ vs, o.data ≠ .fields vs) → b ≠ T := fun b o hb hnf q => by
    rw [q, hT] at hb; cases hb; exact hnf ts hdT
  unfold noteFrame
  simp only [hf]
  refine wpAny_bind (wpAny_field he hd h1 ?_)
  rw [if_pos (show (Value.ref T != Value.none) = true from by simp)]
  refine wpAny_bind (wpAny_field hT hdT h3 ?_)
  rw [if_neg (show ¬ ((Value.none == rawInt L) = true) from by simp [rawInt])]
  refine wpAny_bind (wpAny_setField hT hdT (Array.getElem?_eq_some_iff.mp h3).1 ?_)
  refine entry_fly hfr hf (fun b o hb => (other b fun q => by rw [q, hnT] at hb; cases hb).trans (st b o hb)) (hl.of_keeps fun b o hb hnf => ⟨o, (other b (noRec b o hb hnf)).trans hb, rfl⟩) hen
    ((other e (Ne.symm hTe)).trans he) hd (Array.getElem?_eq_some_iff.mp h1).1 fun h' y u => k h' y fun b o hb hnf => ?_
  exact u b o ((other b (noRec b o hb hnf)).trans hb) hnf
theorem Fly.pop {h : Heap} (x : Fly base (env :: outer) e c dd fl h) : Fly base outer e c dd fl h := ⟨x.stay, x.new, x.frames.2.2, x.tb⟩
theorem leave_first {oe : Obj} {vs : Array Value} {Q : Unit → Shared → Prop}
    (hfr : A.frames = some (env :: outer)) (hf : env.frame = some L) (st : base.StaysIn s.heap) (hl : s.heap.FunFrames base (env :: outer)) (hen : base.get? e = none)
    (he : s.heap.get? e = some oe) (hd : oe.data = .fields vs) (h1 : vs[1]? = some .none)
    (k : ∀ h', Fly base outer e oe.cls oe.dict .none h' → s.heap.UpToSlots h' → Q () { s with heap := h' }) :
    wpAny M A (leaving env (.ref e)) Q E s := by
  unfold leaving
  exact wpAny_bind (note_first hfr hf st hl hen he hd h1 fun h₁ x u => flight_set (s := { s with heap := h₁ }) (fr := none) x fun h₂ y v => k h₂ y.pop (u.trans v))
theorem leave_next {Q : Unit → Shared → Prop} (hfr : A.frames = some (env :: outer)) (hf : env.frame = some L) (x : Fly base (env :: outer) e c dd .none s.heap)
    (k : ∀ h', Fly base outer e c dd .none h' → s.heap.UpToSlots h' → Q () { s with heap := h' }) : wpAny M A (leaving env (.ref e)) Q E s := by
  unfold leaving
  exact wpAny_bind (note_next hfr hf x fun h₁ y u => flight_set (s := { s with heap := h₁ }) (fr := none) y fun h₂ z v => k h₂ z.pop (u.trans v))
end
end

section
open PySem PySem.W PySem.Calls PyProof.Rows
noncomputable abbrev prog : Program := PySem.Challenge.rw_xw0164_01.row.toRowW.1
noncomputable abbrev loose : List Str := [Str.ofString "LendError", Str.ofString "PLAIN_NAMES"]
noncomputable abbrev Led := List (Addr × Obj)
noncomputable abbrev adr (l : Led) : List Addr := l.map (·.1)
noncomputable abbrev frs (l : List Env) : List Addr := l.filterMap (·.frame)
noncomputable def Slip (fs : List Addr) (g h : Heap) : Prop := ∀ b o, g.get? b = some o → (b ∉ fs → h.get? b = some o) ∧ ∃ sl, h.get? b = some { o with slots := sl }
theorem Slip.refl {fs : List Addr} {g : Heap} : Slip fs g g := fun _ o e => ⟨fun _ => e, o.slots, e⟩
theorem Slip.trans {fs : List Addr} {g₁ g₂ g₃ : Heap} (x : Slip fs g₁ g₂) (y : Slip fs g₂ g₃) : Slip fs g₁ g₃ := fun b o e => by
  obtain ⟨x1, sl, x2⟩ := x b o e
  obtain ⟨_, sl', y2⟩ := y b _ x2
  exact ⟨fun m => (y b o (x1 m)).1 m, sl', y2⟩
theorem Slip.of_keeps {fs : List Addr} {g h : Heap} (k : ∀ b o, g.get? b = some o → h.get? b = some o) : Slip fs g h := fun b o e => ⟨fun _ => k b o e, o.slots, k b o e⟩
theorem Slip.of_turn {fs : List Addr} {g h : Heap} (k : KtsTurn fs g h) : Slip fs g h := fun b o e => ⟨fun m => k.other b o e m, k.up e⟩
theorem add_short {prog : Program} {w : World} {A : Around} {E : Value → Shared → Prop} {s : Shared} {x y : Str} {t u : Tok} {i j : Nat} {Q : Value → Shared → Prop} (h : ∀ t' tk, Q (.str (x ++ y) t') { s with toks := tk }) (hx : x.length ≤ i) (hy : y.length ≤ j) (hk : i + j ≤ 16777216) :
    wpAny (model prog w) A (binaryOp .Add (.str x t) (.str y u)) Q E s := PyProof.Rows.add_str h (by rw [sizeLine_eq]; omega)
structure Raised (base G : Heap) (l : List Env) (e d : Addr) (led : Led) (h : Heap) : Prop where
  ex : ∃ B, base.StaysIn B ∧ (∀ b o, G.get? b = some o → b ∉ frs l → B.get? b = some o) ∧ (∀ q ∈ led, B.get? q.1 = some q.2 ∧ G.get? q.1 = none) ∧ Fly B l e (.ref 52) (some d) .none h
  up : G.UpToSlots h
structure Turned (A₀ : Around) (base : Heap) (outer : List Env) (h₀ : Heap) (L : Addr) (m : Str → Option Value) (led : Led) (h h' : Heap) (led' : Led) (h₀' : Heap) : Prop where
  turn : KtsTurn (frs outer) h₀ h₀'
  below : Below A₀ base outer h₀'
  fr : Fr h₀' L h' m
  news : News h₀' L h' led'
  keep : ∀ b o, b ∉ adr led → b ∉ L :: frs outer → h.get? b = some o → h'.get? b = some o
  fresh : ∀ p ∈ led', p.1 ∈ adr led ∨ h.get? p.1 = none
noncomputable def looseX : List Str := ["_wall", "LendError", "NameFault", "VisibilityFault", "INT_KINDS", "PRELUDE_NAMES", "MOST_USES", "WAYS", "PLAIN_NAMES", "joined", "parent_of", "is_within", "Use", "Table", "Modules", "_law_pool", "_law_take", "_law_one", "_law_heard", "_law_modules", "_law_path", "_law_book", "_law_is_alike", "_law_refusal", "_law_type_right", "_law_variants_right", "_law_use_right", "_law_item", "_law_deed_right", "_law_chain_right", "_law_told_right", "law"]
noncomputable abbrev TopX (mean : ExcName → Option Value) (mg mb : Str → Option Value) (h : Heap) : Prop := Top topProg looseX mean mg mb h
structure Back (h₀ : Heap) (L : Addr) (m : Str → Option Value) (led : Led) (h h' : Heap) (led' : Led) : Prop where
  fr : Fr h₀ L h' m
  news : News h₀ L h' led'
  keep : ∀ b o, b ∉ adr led → h.get? b = some o → h'.get? b = some o
  fresh : ∀ p ∈ led', p.1 ∈ adr led ∨ h.get? p.1 = none
noncomputable def Spec (w : World) (mean : ExcName → Option Value) (mg mb : Str → Option Value) (f : Addr) (n : Nat) (vs : List Value) (led : Led) (G : Heap → Prop) (P : Value → Led → Prop) (X : Addr → Led → Prop) : Prop :=
  ∀ (dp un : Nat) (gd : Option (List Code)) (cn : Str) (cs : Scope) (a : Addr) (ccd : Value) (cl : List (Str × Addr)) (outer : List Env) (A₀ : Around) (base h₀ : Heap) (L : Addr) (m : Str → Option Value) (s : Shared) (Q E : Value → Shared → Prop),
    Below A₀ base outer h₀ → Fr h₀ L s.heap m → (KK w.params).In base → TopX mean mg mb base → News h₀ L s.heap led → cs.kind = .function → dp + n < recursionLimit → un + 16 * n < cLine → G (hideAll s.heap (adr led)) →
    (∀ v h' tk' led', Back h₀ L m led s.heap h' led' → P v led' → Q v { s with heap := h', toks := tk' }) →
    (∀ e d h' tk' led', Raised base (hideAll s.heap (adr led)) (envX cn cs L a ccd cl :: outer) e d led' h' → X d led' → E (.ref e) { s with heap := h', toks := tk' }) →
    wpAny (model prog w) (ktrTop dp un gd cn cs L a ccd cl outer) (call (.ref f) vs) Q E s
noncomputable def SpecT (w : World) (mean : ExcName → Option Value) (mg mb : Str → Option Value) (f : Addr) (n : Nat) (vs : List Value) (led : Led) (G : Heap → Prop) (P : Value → Led → Prop) (X : Addr → Led → Prop) : Prop :=
  ∀ (dp un : Nat) (gd : Option (List Code)) (cn : Str) (cs : Scope) (a : Addr) (ccd : Value) (cl : List (Str × Addr)) (outer : List Env) (A₀ : Around) (base h₀ : Heap) (L : Addr) (m : Str → Option Value) (s : Shared) (Q E : Value → Shared → Prop),
    Below A₀ base outer h₀ → Fr h₀ L s.heap m → (KK w.params).In base → TopX mean mg mb base → News h₀ L s.heap led → cs.kind = .function → dp + n < recursionLimit → un + 16 * n < cLine → G (hideAll s.heap (adr led)) →
    (∀ v h' tk' led' h₀', Turned A₀ base outer h₀ L m led s.heap h' led' h₀' → P v led' → Q v { s with heap := h', toks := tk' }) →
    (∀ e d h' tk' led', Raised base (hideAll s.heap (adr led)) (envX cn cs L a ccd cl :: outer) e d led' h' → X d led' → E (.ref e) { s with heap := h', toks := tk' }) →
    wpAny (model prog w) (ktrTop dp un gd cn cs L a ccd cl outer) (call (.ref f) vs) Q E s
section
variable {A₀ A : Around} {base h₀ : Heap} {outer : List Env} {L : Addr} {m : Str → Option Value} {env : Env} {led led' : Led} {h h' : Heap}
theorem hide_get {h : Heap} {l : List Addr} {b : Addr} {o : Obj} (e : (hideAll h l).get? b = some o) : h.get? b = some o ∧ b ∉ l := by
  refine ⟨of_hideAll l e, fun q => ?_⟩
  rw [hideAll_none l q] at e; cases e
theorem not_led {b : Addr} {o : Obj} (N : News h₀ L h led) (e : h₀.get? b = some o) : b ∉ adr led := fun q => by
  obtain ⟨p, hp, rfl⟩ := List.mem_map.mp q
  rw [(N p hp).2.2] at e; cases e
theorem self_none (F : Fr h₀ L h m) : h₀.get? L = none := kts_self F
theorem ground {s : Shared} (B : Below A₀ base outer h₀) (F : Fr h₀ L s.heap m) (N : News h₀ L s.heap led) (hA : A.frames = some (env :: outer)) (hf : env.frame = some L) (hke : env.scope.kind = .function) :
    Fr h₀ L (hideAll s.heap (adr led)) m ∧ Below A base (env :: outer) (hideAll s.heap (adr led)) ∧ h₀.StaysIn (hideAll s.heap (adr led)) := by
  have r := groundX (R := fun _ _ => True) B F N hA hf hke
  exact ⟨r.1, r.2.1, r.2.2.1⟩
theorem frames_old (B : Below A₀ base outer h₀) {b : Addr} (hb : b ∈ frs outer) : base.get? b = none ∧ ∃ o, h₀.get? b = some o ∧ ∀ vs, o.data ≠ .fields vs := B.frames.mem hb
theorem back_of (B : Below A₀ base outer h₀) (F : Fr h₀ L h m) (N : News h₀ L h led) (S : Slip (L :: frs outer) (hideAll h (adr led)) h')
    (D : ∀ p ∈ led', h'.get? p.1 = some p.2 ∧ (hideAll h (adr led)).get? p.1 = none) : ∃ h₀', Turned A₀ base outer h₀ L m led h h' led' h₀' := by
  have st : h₀.StaysIn (hideAll h (adr led)) := fun b o e => hideAll_get _ (F.keep b o e) (not_led N e)
  have nL : L ∉ adr led := fun q => by
    obtain ⟨p, hp, e⟩ := List.mem_map.mp q
    exact (N p hp).2.1 e
  have S₀ : Slip (frs outer) h₀ h' := fun b o e => by
    obtain ⟨x, y⟩ := S b o (st b o e)
    refine ⟨fun m => x fun q => ?_, y⟩
    rcases List.mem_cons.mp q with q | q
    · rw [q, self_none F] at e; cases e
    · exact m q
  obtain ⟨T, K⟩ := kts_turn_at (h := h') (fs := frs outer) (g := h₀) (fun b hb => by
    obtain ⟨_, o, ho, _⟩ := frames_old B hb
    exact ⟨o, ho⟩) (fun b o e hm => (S₀ b o e).1 hm) (fun b o e _ => (S₀ b o e).2)
  refine ⟨_, T, ⟨B.stack, fun b o e => T.other b o (B.stays b o e) (fun q => by rw [(frames_old B q).1] at e; cases e), B.frames.of_keeps fun b o e _ => ?_⟩, ⟨?_, K, by rw [T.size]; exact F.above⟩, fun p hp => ⟨(D p hp).1, fun q => ?_, T.none_ _ ?_⟩, fun b o hb hn e => ?_, fun p hp => ?_⟩
  · obtain ⟨sl, hs⟩ := T.up e
    exact ⟨_, hs, rfl⟩
  · obtain ⟨oL, es, ep, hL, hLd, hLk, hLf⟩ := F.ns
    obtain ⟨sl, hs⟩ := (S L oL (hideAll_get _ hL nL)).2
    exact ⟨_, es, ep, hs, hLd, hLk, hLf⟩
  · obtain ⟨oL, es, ep, hL, _⟩ := F.ns
    have := (D p hp).2
    rw [q, hideAll_get _ hL nL] at this; cases this
  · cases q : h₀.get? p.1 with
    | none => rfl
    | some o => have := (D p hp).2; rw [st _ _ q] at this; cases this
  · exact (S b o (hideAll_get _ e hb)).1 hn
  · by_cases q : p.1 ∈ adr led
    · exact .inl q
    · refine .inr ?_
      cases r : h.get? p.1 with
      | none => rfl
      | some o => have := (D p hp).2; rw [hideAll_get _ r q] at this; cases this
end
theorem back_quiet {A₀ : Around} {base h₀ h h' : Heap} {outer : List Env} {L : Addr} {m : Str → Option Value} {led led' : Led} (F : Fr h₀ L h m) (N : News h₀ L h led) (S : ∀ b o, (hideAll h (adr led)).get? b = some o → h'.get? b = some o)
    (D : ∀ p ∈ led', h'.get? p.1 = some p.2 ∧ (hideAll h (adr led)).get? p.1 = none) : Back h₀ L m led h h' led' := by
  have st : h₀.StaysIn (hideAll h (adr led)) := fun b o e => hideAll_get _ (F.keep b o e) (not_led N e)
  obtain ⟨oL, es, ep, hL, hLd, hLk, hLf⟩ := F.ns
  have nL : L ∉ adr led := fun q => by
    obtain ⟨p, hp, e⟩ := List.mem_map.mp q
    exact (N p hp).2.1 e
  refine ⟨⟨⟨oL, es, ep, S L oL (hideAll_get _ hL nL), hLd, hLk, hLf⟩, fun b o e => S b o (st b o e), F.above⟩, fun p hp => ⟨(D p hp).1, fun q => ?_, ?_⟩, fun b o hb e => S b o (hideAll_get _ e hb), fun p hp => ?_⟩
  · have := (D p hp).2
    rw [q, hideAll_get _ hL nL] at this; cases this
  · cases q : h₀.get? p.1 with
    | none => rfl
    | some o => have := (D p hp).2; rw [st _ _ q] at this; cases this
  · by_cases q : p.1 ∈ adr led
    · exact .inl q
    · refine .inr ?_
      cases r : h.get? p.1 with
      | none => rfl
      | some o => have := (D p hp).2; rw [hideAll_get _ r q] at this; cases this
section
variable {w : World} {A₀ A : Around} {s : Shared} {base h₀ : Heap} {outer : List Env} {L : Addr} {m : Str → Option Value} {env : Env} {led : Led} {mean : ExcName → Option Value} {mg mb : Str → Option Value}
  {R : Result → Shared → Prop} {name qual : Str} {params : Arguments} {body : List Stmt} {scope : Scope} {dV kV doc pm cdv ct oc : Value} {an od : Option Addr} {osl : Array (Option Value)} {f : Addr} {args : Args} {binds : List (Str × Value)}
theorem enter_def (B : Below A₀ base outer h₀) (F : Fr h₀ L s.heap m) (XB : (KK w.params).In base) (TB : TopX mean mg mb base) (N : News h₀ L s.heap led) (hA : A.frames = some (env :: outer)) (hf : env.frame = some L) (hke : env.scope.kind = .function)
    (ho : (KK w.params).lookup f = some ⟨oc, od, .func (fnOf name qual params body scope dV kV doc pm an cdv ct), osl⟩) (hcd : codeIn (KK w.params) cdv qual = true) (hroom : A.depth < recursionLimit)
    (hbind : BindsTo s (fnOf name qual params body scope dV kV doc pm an cdv ct) args binds) (hloc : ∀ y ∈ binds, scope.names.lookup y.1 = some .local)
    (k : ∀ g L' h₁, g = hideAll s.heap (adr led) → Slip (L :: frs outer) (hideAll s.heap (adr led)) g → Fr g L' h₁ (fun y => binds.reverse.lookup y) → News g L' h₁ led → Below A base (env :: outer) g → (KK w.params).In g → TopX mean mg mb g →
      wpAny (model prog w) (A.deeper (envX qual scope L' f cdv [])) (execs body (envX qual scope L' f cdv []))
        (fun fl s' => R (.ok (.ret (match fl with | .ret v => v | _ => .none))) s')
        (fun e s' => wpAny (model prog w) (A.deeper (envX qual scope L' f cdv [])) (leaving (envX qual scope L' f cdv []) e) (fun _ s'' => R (.error e) s'') (fun e' s'' => R (.error e') s'') s')
        { s with heap := h₁, toks := s.toks + binds.length })
    (hco : scope.isCoroutine = false) (hgen : scope.isGenerator = false) (hk : scope.kind = .function) (hcell : ∀ x ∈ scope.names, x.2 ≠ .cell) :
    codeAny (model prog w) A (.call (.ref f) args) R s := by
  obtain ⟨FG, BG, st⟩ := ground B F N hA hf hke
  have X : (KK w.params).In (hideAll s.heap (adr led)) := XB.keeps BG.stays
  have T : TopX mean mg mb (hideAll s.heap (adr led)) := TB.keeps BG.stays
  have X' : (KK w.params).In s.heap := fun a o e => of_hideAll _ (X a o e)
  refine codeAny_call_def (fd := fnOf name qual params body scope dV kV doc pm an cdv ct) (body := body) (binds := binds) hroom (X' _ _ ho) rfl (T.nolimit.keeps fun b o e => of_hideAll _ e) (codeRec_of X' hcd) rfl hbind hcell hloc (fun h₁ hns hk₁ => ?_) hco hgen hk
  exact k _ s.heap.objs.size h₁ rfl Slip.refl ⟨hns, fun b o e => hk₁ b o (of_hideAll _ e), Nat.le_of_eq (hideAll_size _ _)⟩
    (fun p hp => ⟨hk₁ _ _ (N p hp).1, Nat.ne_of_lt (Heap.lt_size (N p hp).1), hideAll_none _ (List.mem_map_of_mem hp)⟩) BG X T
end
section
variable {w : World} {A₀ A : Around} {s : Shared} {base h₀ : Heap} {outer : List Env} {L : Addr} {m : Str → Option Value} {env : Env} {led : Led} {mean : ExcName → Option Value} {mg mb : Str → Option Value}
  {R : Result → Shared → Prop} {name qual : Str} {params : Arguments} {body : List Stmt} {scope : Scope} {dV kV doc pm cdv ct oc : Value} {an od : Option Addr} {osl : Array (Option Value)} {f : Addr} {args : Args} {binds : List (Str × Value)}
theorem enter_defC (B : Below A₀ base outer h₀) (F : Fr h₀ L s.heap m) (XB : (KK w.params).In base) (TB : TopX mean mg mb base) (N : News h₀ L s.heap led) (hA : A.frames = some (env :: outer)) (hf : env.frame = some L) (hke : env.scope.kind = .function)
    (ho : (KK w.params).lookup f = some ⟨oc, od, .func (fnOf name qual params body scope dV kV doc pm an cdv ct), osl⟩) (hcd : codeIn (KK w.params) cdv qual = true) (hroom : A.depth < recursionLimit)
    (hbind : BindsTo s (fnOf name qual params body scope dV kV doc pm an cdv ct) args binds) (hkind : (binds.all fun y => scope.names.lookup y.1 == some .local || scope.names.lookup y.1 == some .cell) = true) (hnd : ((cellsFrom 0 scope.names []).map (·.1)).Nodup)
    (k : ∀ g L' h₁ tk cells, g = hideAll s.heap (adr led) → Slip (L :: frs outer) (hideAll s.heap (adr led)) g → Fr g L' h₁ (bindL (envOfC qual scope L' f cdv).kindOf binds fun _ => none) → News g L' h₁ (cells ++ led) →
      CellsAre (bindC (envOfC qual scope L' f cdv).kindOf binds fun _ => none) (cellsFrom (L' + 1) scope.names []) cells → Below A base (env :: outer) g → (KK w.params).In g → TopX mean mg mb g → (∀ p ∈ led, p.1 < L') →
      wpAny (model prog w) (A.deeper (envOfC qual scope L' f cdv)) (execs body (envOfC qual scope L' f cdv))
        (fun fl s' => R (.ok (.ret (match fl with | .ret v => v | _ => .none))) s')
        (fun e s' => wpAny (model prog w) (A.deeper (envOfC qual scope L' f cdv)) (leaving (envOfC qual scope L' f cdv) e) (fun _ s'' => R (.error e) s'') (fun e' s'' => R (.error e') s'') s')
        { s with heap := h₁, toks := tk })
    (hco : scope.isCoroutine = false) (hgen : scope.isGenerator = false) (hk : scope.kind = .function) :
    codeAny (model prog w) A (.call (.ref f) args) R s := by
  obtain ⟨FG, BG, st⟩ := ground B F N hA hf hke
  have X : (KK w.params).In (hideAll s.heap (adr led)) := XB.keeps BG.stays
  have T : TopX mean mg mb (hideAll s.heap (adr led)) := TB.keeps BG.stays
  have X' : (KK w.params).In s.heap := fun a o e => of_hideAll _ (X a o e)
  refine codeAny_call_function hroom (X' _ _ ho) rfl hco hgen rfl (codeRec_of X' hcd) (hbind _ _ _ _ ?_)
  refine wpAny_newFunctionEnv_cells hk (kindsX hkind _) fun env' he s' x => ?_
  subst he
  refine ⟨((T.nolimit.keeps fun b o e => of_hideAll _ e) : s.heap.NoLimit).keeps x.toInCall.keep, codeAny_func ?_⟩
  obtain ⟨h₁, tk, rfl, _⟩ := x.done
  have hk₁ := x.toInCall.keep
  obtain ⟨cells, NC, Y⟩ := Cl.news (h₀ := s.heap) (Nat.le_refl _) fun n c hm => ⟨x.cell n c (lookup_of_mem_nodup (cellsFrom_names scope.names 0 (s.heap.objs.size + 1) [] [] rfl ▸ hnd) hm), x.above n c hm⟩
  refine k _ s.heap.objs.size h₁ tk cells rfl Slip.refl ⟨x.toInCall.ns, fun b o e => hk₁ b o (of_hideAll _ e), Nat.le_of_eq (hideAll_size _ _)⟩ (fun p hp => ?_) Y BG X T (fun p hp => Heap.lt_size (N p hp).1)
  rcases List.mem_append.mp hp with hp | hp
  · refine ⟨(NC p hp).1, (NC p hp).2.1, ?_⟩
    cases q : (hideAll s.heap (adr led)).get? p.1 with
    | none => rfl
    | some o => have := of_hideAll _ q; rw [(NC p hp).2.2] at this; cases this
  · exact ⟨hk₁ _ _ (N p hp).1, Nat.ne_of_lt (Heap.lt_size (N p hp).1), hideAll_none _ (List.mem_map_of_mem hp)⟩
end
theorem Spec.use {w : World} {mean : ExcName → Option Value} {mg mb : Str → Option Value} {f : Addr} {n : Nat} {vs : List Value} {led full rest : Led} {G : Heap → Prop} {P : Value → Led → Prop} {X : Addr → Led → Prop}
    {dp un : Nat} {gd : Option (List Code)} {cn : Str} {cs : Scope} {a : Addr} {ccd : Value} {cl : List (Str × Addr)} {outer : List Env} {A₀ : Around} {base h₀ : Heap} {L : Addr} {m : Str → Option Value} {s : Shared} {Q E : Value → Shared → Prop}
    (C : Spec w mean mg mb f n vs led G P X) (B : Below A₀ base outer h₀) (F : Fr h₀ L s.heap m) (XB : (KK w.params).In base) (TB : TopX mean mg mb base) (N : News h₀ L s.heap full) (hk : cs.kind = .function)
    (hd : dp + n < recursionLimit) (hu : un + 16 * n < cLine) (hsub : ∀ p ∈ led, p ∈ full) (hrest : ∀ p ∈ rest, p ∈ full ∧ p.1 ∉ adr led) (hG : G (hideAll s.heap (adr led)))
    (ok : ∀ v h' tk' led', Fr h₀ L h' m → News h₀ L h' (led' ++ rest) → (∀ p ∈ led', p.1 ∉ adr led → ∀ q ∈ full, q.1 ≠ p.1) → P v led' → Q v { s with heap := h', toks := tk' })
    (err : ∀ e d h' tk' led', Raised base (hideAll s.heap (adr led)) (envX cn cs L a ccd cl :: outer) e d led' h' → X d led' → E (.ref e) { s with heap := h', toks := tk' }) :
    wpAny (model prog w) (ktrTop dp un gd cn cs L a ccd cl outer) (call (.ref f) vs) Q E s := by
  refine C dp un gd cn cs a ccd cl outer A₀ base h₀ L m s Q E B F XB TB (cb_drop N hsub) hk hd hu hG (fun v h' tk' led' T hP => ?_) err
  refine ok v h' tk' led' T.fr (fun p hp => ?_) (fun p hp hn q hq e => ?_) hP
  · rcases List.mem_append.mp hp with hp | hp
    · exact T.news p hp
    · obtain ⟨h1, h2⟩ := hrest p hp
      obtain ⟨n1, n2, n3⟩ := N p h1
      exact ⟨T.keep _ _ h2 n1, n2, n3⟩
  · rcases T.fresh p hp with z | z
    · exact hn z
    · have := (N q hq).1
      rw [e, z] at this; cases this
theorem SpecT.use {w : World} {mean : ExcName → Option Value} {mg mb : Str → Option Value} {f : Addr} {n : Nat} {vs : List Value} {led full rest : Led} {G : Heap → Prop} {P : Value → Led → Prop} {X : Addr → Led → Prop}
    {dp un : Nat} {gd : Option (List Code)} {cn : Str} {cs : Scope} {a : Addr} {ccd : Value} {cl : List (Str × Addr)} {outer : List Env} {A₀ : Around} {base h₀ : Heap} {L : Addr} {m : Str → Option Value} {s : Shared} {Q E : Value → Shared → Prop} {fs : List Addr} {g : Heap}
    (C : SpecT w mean mg mb f n vs led G P X) (B : Below A₀ base outer h₀) (F : Fr h₀ L s.heap m) (XB : (KK w.params).In base) (TB : TopX mean mg mb base) (N : News h₀ L s.heap full) (hk : cs.kind = .function)
    (S : Slip fs g h₀) (hfs : fs = frs outer)
    (hd : dp + n < recursionLimit) (hu : un + 16 * n < cLine) (hsub : ∀ p ∈ led, p ∈ full) (hrest : ∀ p ∈ rest, p ∈ full ∧ p.1 ∉ adr led) (hG : G (hideAll s.heap (adr led)))
    (ok : ∀ v h' tk' led' h₀', Slip fs g h₀' → Below A₀ base outer h₀' → Fr h₀' L h' m → News h₀' L h' (led' ++ rest) → ((KK w.params).In h₀') → TopX mean mg mb h₀' →
      (∀ p ∈ led', p.1 ∉ adr led → ∀ q ∈ full, q.1 ≠ p.1) → P v led' → Q v { s with heap := h', toks := tk' })
    (err : ∀ e d h' tk' led', Raised base (hideAll s.heap (adr led)) (envX cn cs L a ccd cl :: outer) e d led' h' → X d led' → E (.ref e) { s with heap := h', toks := tk' }) :
    wpAny (model prog w) (ktrTop dp un gd cn cs L a ccd cl outer) (call (.ref f) vs) Q E s := by
  subst hfs
  refine C dp un gd cn cs a ccd cl outer A₀ base h₀ L m s Q E B F XB TB (cb_drop N hsub) hk hd hu hG (fun v h' tk' led' h₀' T hP => ?_) err
  refine ok v h' tk' led' h₀' (S.trans (Slip.of_turn T.turn)) T.below T.fr (fun p hp => ?_) (XB.keeps T.below.stays) (TB.keeps T.below.stays) (fun p hp hn q hq e => ?_) hP
  · rcases List.mem_append.mp hp with hp | hp
    · exact T.news p hp
    · obtain ⟨h1, h2⟩ := hrest p hp
      obtain ⟨n1, n2, n3⟩ := N p h1
      refine ⟨T.keep _ _ h2 (fun q => ?_) n1, n2, T.turn.none_ _ n3⟩
      rcases List.mem_cons.mp q with q | q
      · exact n2 q
      · obtain ⟨_, o, ho, _⟩ := frames_old B q
        rw [n3] at ho; cases ho
  · rcases T.fresh p hp with z | z
    · exact hn z
    · have := (N q hq).1
      rw [e, z] at this; cases this
theorem fin {h₀ gc : Heap} {L L' : Addr} {m m' : Str → Option Value} {led led' : Led} {s s' : Shared} {v : Value} {P : Value → Led → Prop} {Q : Value → Shared → Prop}
    (ok : ∀ v h' tk' led', Back h₀ L m led s.heap h' led' → P v led' → Q v { s with heap := h', toks := tk' })
    (F : Fr h₀ L s.heap m) (N : News h₀ L s.heap led) (hs : s' = { s with heap := s'.heap, toks := s'.toks })
    (F' : Fr gc L' s'.heap m') (hg : gc = hideAll s.heap (adr led)) (N' : News gc L' s'.heap led') (hP : P v led') : Q v s' := by
  have T := back_quiet (A₀ := callerA) (base := h₀) (outer := []) (led' := led') F N (fun b o e => F'.keep b o (hg ▸ e)) fun p hp => ⟨(N' p hp).1, hg ▸ (N' p hp).2.2⟩
  rw [hs]
  exact ok _ _ _ _ T hP
theorem finT {A₀ : Around} {base h₀ gc : Heap} {outer : List Env} {L L' : Addr} {m m' : Str → Option Value} {led led' : Led} {s s' : Shared} {v : Value} {P : Value → Led → Prop} {Q : Value → Shared → Prop}
    (ok : ∀ v h' tk' led' h₀', Turned A₀ base outer h₀ L m led s.heap h' led' h₀' → P v led' → Q v { s with heap := h', toks := tk' })
    (B : Below A₀ base outer h₀) (F : Fr h₀ L s.heap m) (N : News h₀ L s.heap led) (hs : s' = { s with heap := s'.heap, toks := s'.toks })
    (F' : Fr gc L' s'.heap m') (S : Slip (L :: frs outer) (hideAll s.heap (adr led)) gc) (N' : News gc L' s'.heap led') (hP : P v led') : Q v s' := by
  obtain ⟨h₀', T⟩ := back_of (led' := led') B F N (S.trans (Slip.of_keeps F'.keep)) fun p hp => ⟨(N' p hp).1, by
    cases q : (hideAll s.heap (adr led)).get? p.1 with
    | none => rfl
    | some o =>
      obtain ⟨_, sl, hs⟩ := S _ _ q
      rw [(N' p hp).2.2] at hs; cases hs⟩
  rw [hs]
  exact ok _ _ _ _ _ T hP
end

section
open PySem PySem.W PySem.Calls PyProof.Rows
noncomputable abbrev tupO (vs : List Value) : Obj := { cls := .type "tuple", data := .seq vs.toArray }
noncomputable abbrev ent (w : World) (x : Str) (k : Tok) (v : Value) : DictEntry := ⟨PyData.keyHash w.params x, .str x k, v⟩
section
variable {w : World} {mean : ExcName → Option Value} {mg mb : Str → Option Value}
end
end

section
open PySem PySem.W PySem.Calls PyProof.Rows PySem.Spec
noncomputable abbrev Tx := List Nat
noncomputable abbrev tr (s : Tx) : Str := ⟨⟨s⟩⟩
inductive V
  | none | bool (b : Bool) | int (i : Int) | str (s : Tx) | tup (vs : List V) | lst (vs : List V) | use (n p q : V) | ref (k : Nat) | rng (k : Nat)
inductive O
  | dict (es : List (Tx × V)) | list (vs : List V) | inst (c d : Nat) | fld (fs : List (Tx × V)) | kept (es : List (List Tx × Tx))
noncomputable abbrev Hp := List O
inductive Out (α : Type)
  | ok (a : α) (H : Hp) | fault (m : Tx) (i : Int) (H : Hp) | stuck
noncomputable abbrev Rho := List (Option V)
noncomputable def txEq : Tx → Tx → Bool
  | [], [] => true
  | a :: as, b :: bs => Nat.beq a b && txEq as bs
  | _, _ => false
theorem txEq_iff : ∀ {a b : Tx}, txEq a b = true ↔ a = b
  | [], [] => ⟨fun _ => rfl, fun _ => rfl⟩
  | [], _ :: _ => ⟨fun h => Bool.noConfusion (show false = true from h), fun h => absurd h.symm (List.cons_ne_nil _ _)⟩
  | _ :: _, [] => ⟨fun h => Bool.noConfusion (show false = true from h), fun h => absurd h (List.cons_ne_nil _ _)⟩
  | a :: as, b :: bs => by
    show (Nat.beq a b && txEq as bs) = true ↔ _
    rw [Bool.and_eq_true, Nat.beq_eq, txEq_iff (a := as) (b := bs), List.cons.injEq]
theorem txEq_self (a : Tx) : txEq a a = true := txEq_iff.mpr rfl
theorem txEq_false {a b : Tx} (h : txEq a b = false) : a ≠ b := fun e => by rw [txEq_iff.mpr e] at h; cases h
theorem tr_inj {a b : Tx} (h : tr a = tr b) : a = b := by injection h with h; injection h
theorem tr_app (a b : Tx) : tr a ++ tr b = tr (a ++ b) := by
  show (⟨(⟨a⟩ : Array Nat) ++ (⟨b⟩ : Array Nat)⟩ : Str) = _
  rw [List.append_toArray]
noncomputable def vsEq (p : V → V → Bool) : List V → List V → Bool
  | [], [] => true
  | a :: as, b :: bs => p a b && vsEq p as bs
  | _, _ => false
noncomputable def vEq : Nat → V → V → Bool
  | 0, _, _ => false
  | d + 1, a, b => match a, b with
    | .none, .none => true
    | .bool a, .bool b => a == b
    | .int a, .int b => decide (a = b)
    | .str a, .str b => txEq a b
    | .tup a, .tup b => vsEq (vEq d) a b
    | .lst a, .lst b => vsEq (vEq d) a b
    | _, _ => false
mutual
inductive VR (w : World) (al : List Addr) (fz : Led) : V → Value → Prop
  | none : VR w al fz .none .none
  | bool (b : Bool) : VR w al fz (.bool b) (.bool b)
  | int (i : Int) (t : Tok) : VR w al fz (.int i) (.int i t)
  | str (s : Tx) (t : Tok) : VR w al fz (.str s) (.str (tr s) t)
  | tup {vs : List V} {a : Addr} {rs : List Value} : (a, tupO rs) ∈ fz → VRs w al fz vs rs → VR w al fz (.tup vs) (.ref a)
  | lst {vs : List V} {a : Addr} {rs : List Value} {n : Nat} : (a, listOf rs.toArray n) ∈ fz → VRs w al fz vs rs → VR w al fz (.lst vs) (.ref a)
  | use {n p q : V} {a d : Addr} {rn rp rq : Value} {u1 u2 u3 : Tok} : (a, instObj 109 d) ∈ fz → (d, dictOf [ent w "names" u1 rn, ent w "is_pub" u2 rp, ent w "spot" u3 rq] 3) ∈ fz → VR w al fz n rn → VR w al fz p rp → VR w al fz q rq → VR w al fz (.use n p q) (.ref a)
  | ref {k : Nat} {a : Addr} : al[k]? = some a → VR w al fz (.ref k) (.ref a)
  | rng {k : Nat} {a : Addr} {t u v : Tok} : (a, ({ cls := .type "range", data := .fields #[.int 0 t, .int (k : Int) u, .int 1 v] } : Obj)) ∈ fz → VR w al fz (.rng k) (.ref a)
inductive VRs (w : World) (al : List Addr) (fz : Led) : List V → List Value → Prop
  | nil : VRs w al fz [] []
  | cons {v : V} {r : Value} {vs : List V} {rs : List Value} : VR w al fz v r → VRs w al fz vs rs → VRs w al fz (v :: vs) (r :: rs)
end
structure Ext (al : List Addr) (fz : Led) (al' : List Addr) (fz' : Led) : Prop where
  al : ∃ t, al' = al ++ t
  fz : ∀ p ∈ fz, p ∈ fz'
theorem Ext.refl {al : List Addr} {fz : Led} : Ext al fz al fz := ⟨⟨[], by simp⟩, fun _ h => h⟩
theorem Ext.trans {a b c : List Addr} {x y z : Led} (h : Ext a x b y) (k : Ext b y c z) : Ext a x c z := by
  obtain ⟨⟨t, rfl⟩, h2⟩ := h
  obtain ⟨⟨u, rfl⟩, k2⟩ := k
  exact ⟨⟨t ++ u, by rw [List.append_assoc]⟩, fun p hp => k2 p (h2 p hp)⟩
theorem Ext.at {al al' : List Addr} {fz fz' : Led} (h : Ext al fz al' fz') {k : Nat} {a : Addr} (e : al[k]? = some a) : al'[k]? = some a := by
  obtain ⟨⟨t, rfl⟩, _⟩ := h
  rw [List.getElem?_append_left (List.getElem?_eq_some_iff.mp e).1]; exact e
section
variable {w : World} {al al' : List Addr} {fz fz' : Led}
theorem VR.mono (E : Ext al fz al' fz') {v : V} {r : Value} (h : VR w al fz v r) : VR w al' fz' v r := VR.rec (motive_1 := fun v r _ => VR w al' fz' v r) (motive_2 := fun v r _ => VRs w al' fz' v r) .none (fun b => .bool b) (fun i t => .int i t) (fun s t => .str s t) (fun h _ k => .tup (E.fz _ h) k) (fun h _ k => .lst (E.fz _ h) k) (fun h d _ _ _ a b c => .use (E.fz _ h) (E.fz _ d) a b c) (fun e => .ref (E.at e)) (fun h => .rng (E.fz _ h)) .nil (fun _ _ a b => .cons a b) h
theorem VRs.mono (E : Ext al fz al' fz') {v : List V} {r : List Value} (h : VRs w al fz v r) : VRs w al' fz' v r := VRs.rec (motive_1 := fun v r _ => VR w al' fz' v r) (motive_2 := fun v r _ => VRs w al' fz' v r) .none (fun b => .bool b) (fun i t => .int i t) (fun s t => .str s t) (fun h _ k => .tup (E.fz _ h) k) (fun h _ k => .lst (E.fz _ h) k) (fun h d _ _ _ a b c => .use (E.fz _ h) (E.fz _ d) a b c) (fun e => .ref (E.at e)) (fun h => .rng (E.fz _ h)) .nil (fun _ _ a b => .cons a b) h
theorem VRs.len : ∀ {vs : List V} {rs : List Value}, VRs w al fz vs rs → vs.length = rs.length
  | _, _, .nil => rfl
  | _, _, .cons _ b => by simp [VRs.len b]
theorem VRs.at : ∀ {vs : List V} {rs : List Value}, VRs w al fz vs rs → ∀ {i : Nat} {v : V}, vs[i]? = some v → ∃ r, rs[i]? = some r ∧ VR w al fz v r
  | _, _, .nil, i, v, e => by simp at e
  | _, _, .cons a b, 0, v, e => by simp at e; subst e; exact ⟨_, rfl, a⟩
  | _, _, .cons a b, i + 1, v, e => by
    rw [List.getElem?_cons_succ] at e
    obtain ⟨r, h1, h2⟩ := VRs.at b e
    exact ⟨r, by rw [List.getElem?_cons_succ]; exact h1, h2⟩
theorem VRs.app : ∀ {vs us : List V} {rs qs : List Value}, VRs w al fz vs rs → VRs w al fz us qs → VRs w al fz (vs ++ us) (rs ++ qs)
  | _, _, _, _, .nil, h => h
  | _, _, _, _, .cons a b, h => .cons a (VRs.app b h)
theorem VR.handed {v : V} {r : Value} (h : VR w al fz v r) : handedIn r = true := by cases h <;> rfl
end
section
variable {w : World} {al : List Addr} {fz : Led} {r : Value}
theorem VR.toInt {i : Int} : VR w al fz (.int i) r → ∃ t, r = .int i t
  | .int _ t => ⟨t, rfl⟩
theorem VR.toBool {b : Bool} : VR w al fz (.bool b) r → r = .bool b
  | .bool _ => rfl
theorem VR.toNone : VR w al fz .none r → r = .none
  | .none => rfl
theorem VR.toStr {x : Tx} : VR w al fz (.str x) r → ∃ t, r = .str (tr x) t
  | .str _ t => ⟨t, rfl⟩
theorem VR.toRef {k : Nat} : VR w al fz (.ref k) r → ∃ a, r = .ref a ∧ al[k]? = some a
  | .ref h => ⟨_, rfl, h⟩
theorem VR.toTup {vs : List V} : VR w al fz (.tup vs) r → ∃ a rs, r = .ref a ∧ (a, tupO rs) ∈ fz ∧ VRs w al fz vs rs
  | .tup h k => ⟨_, _, rfl, h, k⟩
theorem VR.toLst {vs : List V} : VR w al fz (.lst vs) r → ∃ a rs n, r = .ref a ∧ (a, listOf rs.toArray n) ∈ fz ∧ VRs w al fz vs rs
  | .lst h k => ⟨_, _, _, rfl, h, k⟩
theorem VR.toRng {k : Nat} : VR w al fz (.rng k) r → ∃ a t u v, r = .ref a ∧ (a, ({ cls := .type "range", data := .fields #[.int 0 t, .int (k : Int) u, .int 1 v] } : Obj)) ∈ fz
  | .rng h => ⟨_, _, _, _, rfl, h⟩
end
inductive KVs (w : World) (al : List Addr) (fz : Led) : List (Tx × V) → List (Str × Value) → Prop
  | nil : KVs w al fz [] []
  | cons {k : Tx} {v : V} {r : Value} {es : List (Tx × V)} {rs : List (Str × Value)} : VR w al fz v r → KVs w al fz es rs → KVs w al fz ((k, v) :: es) ((tr k, r) :: rs)
noncomputable def dget : List (Tx × V) → Tx → Option V
  | [], _ => Option.none
  | (k, v) :: es, x => if txEq k x then some v else dget es x
noncomputable def dput : List (Tx × V) → Tx → V → List (Tx × V)
  | [], x, v => [(x, v)]
  | (k, u) :: es, x, v => if txEq k x then (k, v) :: es else (k, u) :: dput es x v
section
variable {w : World} {al al' : List Addr} {fz fz' : Led}
theorem KVs.mono (E : Ext al fz al' fz') : ∀ {es : List (Tx × V)} {rs : List (Str × Value)}, KVs w al fz es rs → KVs w al' fz' es rs
  | _, _, .nil => .nil
  | _, _, .cons a b => .cons (a.mono E) (b.mono E)
theorem KVs.len : ∀ {es : List (Tx × V)} {rs : List (Str × Value)}, KVs w al fz es rs → es.length = rs.length
  | _, _, .nil => rfl
  | _, _, .cons _ b => by simp [KVs.len b]
theorem KVs.get (x : Tx) : ∀ {es : List (Tx × V)} {rs : List (Str × Value)}, KVs w al fz es rs → (∀ v, dget es x = some v → ∃ r, valueAt rs (tr x) = some r ∧ VR w al fz v r) ∧ (dget es x = Option.none → valueAt rs (tr x) = Option.none)
  | _, _, .nil => ⟨fun v e => by simp [dget] at e, fun _ => rfl⟩
  | _, _, .cons (k := k) (v := u) (r := r) (rs := rs) a b => by
    have ih := KVs.get x b
    by_cases h : txEq k x = true
    · have e := txEq_iff.mp h
      subst e
      refine ⟨fun v e => ⟨r, by simp [valueAt], ?_⟩, fun e => by simp [dget, txEq_self] at e⟩
      simp only [dget, txEq_self, if_true, Option.some.injEq] at e
      exact e ▸ a
    · have hn : tr k ≠ tr x := fun e => h (txEq_iff.mpr (tr_inj e))
      have e1 : valueAt ((tr k, r) :: rs) (tr x) = valueAt rs (tr x) := by simp [valueAt, hn]
      simp only [dget, h, e1]
      exact ih
theorem KVs.has {es : List (Tx × V)} {rs : List (Str × Value)} (h : KVs w al fz es rs) (x : Tx) : (valueAt rs (tr x)).isSome = (dget es x).isSome := by
  cases e : dget es x with
  | none => rw [(h.get x).2 e]; rfl
  | some v => obtain ⟨r, e', _⟩ := (h.get x).1 v e; rw [e']; rfl
theorem stored_cons_hit {k : Str} {u v : Value} {rs : List (Str × Value)} (hn : k ∉ rs.map (·.1)) : stored ((k, u) :: rs) k v = (k, v) :: rs := by
  unfold stored
  simp only [List.any_cons, decide_true, Bool.true_or, if_true, List.map_cons]
  congr 1
  refine (List.map_congr_left fun q hq => ?_).trans (List.map_id _)
  rw [if_neg]; · rfl
  intro e; exact hn (e ▸ List.mem_map_of_mem hq)
theorem stored_cons_miss {k x : Str} {u v : Value} {rs : List (Str × Value)} (hn : k ≠ x) : stored ((k, u) :: rs) x v = (k, u) :: stored rs x v := by
  unfold stored
  simp only [List.any_cons, hn, decide_false, Bool.false_or, List.map_cons, if_false]
  split <;> rfl
theorem KVs.put (x : Tx) {v : V} {r : Value} (hv : VR w al fz v r) : ∀ {es : List (Tx × V)} {rs : List (Str × Value)}, KVs w al fz es rs → (rs.map (·.1)).Nodup → KVs w al fz (dput es x v) (stored rs (tr x) r)
  | _, _, .nil, _ => .cons hv .nil
  | _, _, .cons (k := k) (v := u) (r := q) (rs := rs) a b, hn => by
    rw [List.map_cons, List.nodup_cons] at hn
    by_cases h : txEq k x = true
    · have e := txEq_iff.mp h
      subst e
      simp only [dput, txEq_self, if_true]
      rw [stored_cons_hit hn.1]
      exact .cons hv b
    · have hne : tr k ≠ tr x := fun e => h (txEq_iff.mpr (tr_inj e))
      simp only [dput, h]
      rw [stored_cons_miss hne]
      exact .cons a (KVs.put x hv b hn.2)
end
end

section
open PySem PySem.W PySem.Calls PyProof.Rows
noncomputable abbrev excIs : ExcBaseFacts "Exception" "Exception.__new__" "Exception.__init__" [.type "Exception", .type "BaseException", .type "object"] := PySem.F.excBase_Exception
noncomputable abbrev oFault : Obj := excClassObj (Str.ofString "NameFault") (Str.ofString "NameFault") 52 51 [.ref 39] [.ref 39, .type "Exception", .type "BaseException", .type "object"] true [] [] false none none (some (.ref 43)) none (some (.str (Str.ofString "NameFault") 228)) (some (.str (Str.ofString "NameFault") 236)) (some (.bool true)) "Exception.__new__"
noncomputable abbrev excAt (t : Addr) : Obj := { cls := .ref 52, data := .fields #[.ref t, .none, .none, .none, .bool false, .none] }
noncomputable abbrev tupAt (vs : List Value) : Obj := { cls := .type "tuple", data := .seq vs.toArray }
section
variable {prog : Program} {w : World} {A : Around} {h : Heap} {g : Array GenState} {d : Drawn} {t : Nat} {os : OsState}
theorem hasExc : (Value.ref 52 :: [.ref 39, .type "Exception", .type "BaseException", .type "object"]).contains (.type "Exception") = true := by decide +kernel
theorem hasBase : (Value.ref 52 :: [.ref 39, .type "Exception", .type "BaseException", .type "object"]).contains (.type "BaseException") = true := by decide +kernel
theorem noAttr : (Value.ref 52 :: [.ref 39, .type "Exception", .type "BaseException", .type "object"]).contains (.type "AttributeError") = false := by decide +kernel
theorem noName : (Value.ref 52 :: [.ref 39, .type "Exception", .type "BaseException", .type "object"]).contains (.type "NameError") = false := by decide +kernel
theorem isOwn : (Value.ref 52 :: [.ref 39, .type "Exception", .type "BaseException", .type "object"]).contains (.ref 52) = true := by decide +kernel
theorem fault_checkNew {M : Model} {E : Value → Shared → Prop} {rest : List Value} {Q : Unit → Shared → Prop} (hC : h.get? 52 = some oFault) (hq : Q () ⟨h, g, d, t, os⟩) :
    wpAny M A (checkBuiltinCall "Exception.__new__" ⟨.ref 52 :: rest, []⟩) Q E ⟨h, g, d, t, os⟩ := by
  have F := excIs
  have c1 := hasExc
  have hstar := F.noStar
  simp only [checkBuiltinCall, F.newKind, F.newSplit, F.newRow]
  repeat (first | refine wpAny_loadPart_at hC ?_ | (refine wpAny_isSubtype_exc hC ?_; rw [c1]) | refine wpAny_staticBase_exc hC ?_ | refine wpAny_madeBy_exc hC ?_ | simp only [bne_self_eq_false, Bool.false_eq_true, if_false] | wp_step)
  exact hq
theorem fault_new {R : Result → Shared → Prop} {rest : List Value} (hC : h.get? 52 = some oFault)
    (hq : R (.ok (.ret (.ref (h.objs.size + 1)))) ⟨(h.push (tupAt rest)).push (excAt h.objs.size), g, d, t, os⟩) (hrest : rest.length ≤ sizeLine) :
    codeAny (model prog w) A (.builtin "Exception.__new__" ⟨.ref 52 :: rest, []⟩) R ⟨h, g, d, t, os⟩ := by
  have F := excIs
  have hends := F.ends
  have c1 := hasExc
  have c2 := noAttr
  have c3 := noName
  refine codeAny_builtinAt F.entry ?_
  unfold Builtin.«BaseException.__new__»
  refine PySem.wpAt_bind ?_
  show PySem.wpAt _ _ _ (stack >>= _) _ _ _
  refine PySem.wpAt_bind (PySem.wpAt_stack fun p below => PySem.wpAt_of_wpAny ?_)
  wp_walk
  refine PySem.wpAt_of_wpAny ?_
  rw [F.owner]
  repeat (first | with_reducible refine wpAny_madeHere_exc F.canon hC ?_ | with_reducible refine wpAny_loadPart_at hC ?_ | (with_reducible refine wpAny_isSubtype_exc hC ?_; first | rw [c1] | rw [c2] | rw [c3]) | wp_step)
  show R _ _
  rw [Heap.size_push]
  exact hq
theorem fault_type {E : Value → Shared → Prop} {rest : List Value} {fI : Addr} {oI : Obj} {Q : PySem.Fin → Shared → Prop}
    (hC : h.get? 52 = some oFault) (hi : Looks (model prog w) h (typeLookup (.ref 52) "__init__") (some (.ref fI))) (hfI : h.get? fI = some oI) (hfc : oI.cls = .type "function") (hrest : rest.length ≤ sizeLine)
    (hq : wpAny (model prog w) A (call (.ref fI) (.ref (h.objs.size + 1) :: rest)) (fun r s' => r = .none ∧ Q (.done (.ret (.ref (h.objs.size + 1)))) s') E ⟨(h.push (tupAt rest)).push (excAt h.objs.size), g, d, t, os⟩) :
    wpAny (model prog w) A (Builtin.«type.__call__» ⟨.ref 52 :: rest, []⟩) Q E ⟨h, g, d, t, os⟩ := by
  have F := excIs
  repeat (first | with_reducible refine wpAny_loadPart_at hC ?_ | with_reducible refine wpAny_madeBy_exc hC ?_ | wp_step)
  refine codeAny_call_builtin_code (Code.quiet_builtin _ F.quiet) (fault_checkNew hC ?_)
  refine fault_new hC ?_ hrest
  show wpAny _ _ _ _ _ _
  have k : ∀ b o, h.get? b = some o → ((h.push (tupAt rest)).push (excAt h.objs.size)).get? b = some o := fun b o e => Heap.get?_push_of_some _ (Heap.get?_push_of_some _ e)
  have hC₁ := k _ _ hC
  have hfI₁ := k _ _ hfI
  have hget : ((h.push (tupAt rest)).push (excAt h.objs.size)).get? (h.objs.size + 1) = some (excAt h.objs.size) := by heap_get
  have c4 := isOwn
  unfold isInstance
  repeat (first | with_reducible refine wpAny_loadPart_at hget ?_ | (with_reducible refine wpAny_isSubtype_exc hC₁ ?_; rw [c4]) | wp_step)
  show wpAny _ _ (typeLookup (.ref 52) _) _ _ _
  refine (hi.keeps k).at ?_
  refine wpAny_holding (wpAny_bind ?_)
  unfold bindSpecial
  refine wpAny_bind (wpAny_typeOf (T := "function") ⟨_, hfI₁, hfc⟩ ?_)
  rw [if_pos (by decide)]
  refine wpAny_pure (wpAny_bind (wpAny_mono hq (fun r s' hr => ?_) fun _ _ x => x))
  obtain ⟨rfl, hQ⟩ := hr
  wp_walk
  exact hQ
theorem fault_call {E : Value → Shared → Prop} {rest : List Value} {fI : Addr} {oI : Obj} {Q : Value → Shared → Prop}
    (hC : h.get? 52 = some oFault) (hi : Looks (model prog w) h (typeLookup (.ref 52) "__init__") (some (.ref fI))) (hfI : h.get? fI = some oI) (hfc : oI.cls = .type "function") (hrest : rest.length ≤ sizeLine)
    (hq : wpAny (model prog w) (A.under (.builtin "type.__call__" ⟨.ref 52 :: rest, []⟩)) (call (.ref fI) (.ref (h.objs.size + 1) :: rest)) (fun r s' => r = .none ∧ Q (.ref (h.objs.size + 1)) s') E ⟨(h.push (tupAt rest)).push (excAt h.objs.size), g, d, t, os⟩) :
    wpAny (model prog w) A (call (.ref 52) rest) Q E ⟨h, g, d, t, os⟩ := by
  have f1 := tc_lookup
  have f2 := tc_bind (.ref 52)
  have hT : (⟨h, g, d, t, os⟩ : Shared).TypeIs (.ref 52) "type" := ⟨_, hC, rfl⟩
  refine wpAny_call (codeAny_of_tree ?_)
  show wpAny _ _ (callAny (.ref 52) _) _ _ _
  repeat (any_goals (first | assumption | with_reducible refine wpAny_loadPart_at hC ?_ | wp_step))
  refine ⟨rfl, ?_⟩
  exact codeAny_call_builtin_at (Code.quiet_builtin _ (by decide +kernel)) entry_typeCall (wpAny_check_type_call_sub hC (fault_type hC hi hfI hfc hrest hq))
noncomputable def MadeExc (E : Value → Shared → Prop) (v : Value) (s₁ : Shared) : Prop := ∃ e oe vs, v = .ref e ∧ s₁.heap.get? 52 = some oFault ∧ s₁.heap.get? e = some oe ∧ oe.cls = .ref 52 ∧ oe.data = .fields vs ∧ vs[1]? = some .none ∧ E (.ref e) s₁
theorem raise_made {M : Model} {E : Value → Shared → Prop} {s : Shared} {env : Env} {x : PySem.Expr} {pos : Pos} {Q : Flow → Shared → Prop} (hh : A.handled = none)
    (k : wpAny M A (eval x env) (MadeExc E) E s) :
    wpAny M A (exec (.Raise (some x) none pos) env) Q E s := by
  rw [arm_exec_Raise]
  have c1 := hasBase
  first
    | refine wpAny_bind (wpAny_standAt ?_)
    | (simp only [evalOpt, Option.map]; refine wpAny_bind (wpAny_standAt ?_))
  unfold raiseStmt
  refine wpAny_bind (wpAny_mono (wpAny_bind (wpAny_mono k (fun v s₁ h₁ => wpAny_bind (wpAny_standAt (wpAny_pure h₁))) fun _ _ x => x)) (fun v s₁ h₁ => ?_) fun _ _ x => x)
  obtain ⟨e, oe, vs, rfl, hC, he, hc, hd, h1, hE⟩ := h₁
  obtain ⟨hp, g, d, tk, os⟩ := s₁
  repeat (first | (with_reducible refine wpAny_loadPart_at he ?_; rw [hc]) | with_reducible refine wpAny_loadPart_at hC ?_ | (with_reducible refine wpAny_isSubtype_exc hC ?_; rw [c1]) | wp_step)
  rw [hd]
  refine wpAny_pure ?_
  rw [h1]
  refine wpAny_pure ?_
  rw [if_neg (by decide)]
  exact wpAny_pure (wpAny_raiseNew_none hh hE)
end
end

section
open PySem PySem.W PySem.Calls PyProof.Rows
theorem dummy_FaultB : (KK = KK ∧ PySem.Challenge.rw_xw0164_01.Holds) → True := fun _ => by
  first
  | (have : KK = KK ∧ PySem.Challenge.rw_xw0164_01.Holds := by (k_fill; fail)
     trivial)
  | trivial
local macro_rules | `(tactic| ktr_enter) => `(tactic| (refine' enter_def ?k1 ?k2 ?kXB ?kTB ?k4 ?kA ?kF ?kK ?k6 ?k7 ?k8 ?k9 ?kB ?_ ?c2 ?c3 ?c4 ?c5; (case kA => exact rfl); (case kF => exact rfl); (case kK => assumption); (case k1 => k_asm); (case k2 => k_asm); (case kXB => with_reducible assumption); (case kTB => with_reducible assumption); (case k4 => k_asm); (case k6 => k_is); (case k7 => k_is); (case k8 => ktr_room); (case k9 => first | exact BindsTo.of_eq rfl | exact binds_K (by k_in) rfl (by k_is) rfl rfl rfl); (case c5 => decide); (case kB => exact locs rfl); (case c2 => exact rfl); (case c3 => exact rfl); (case c4 => exact rfl); k_whole; intro g' L' h' hG' S' F' N' B' X' T'; (try dsimp only); (try k_fold)))
local macro_rules | `(tactic| ktr_unf) => `(tactic| (refine' fin ?kok ?kF0 ?kN0 ?ks ?kF ?kS ?kN ?kP; (case kok => assumption); (case kF0 => assumption); (case kN0 => assumption); (case ks => exact rfl); (case kF => assumption); (case kS => assumption); (case kN => assumption); (try dsimp only)))
noncomputable abbrev excD (t d : Addr) : Obj := { cls := .ref 52, dict := some d, data := .fields #[.ref t, .none, .none, .none, .bool false, .none] }
noncomputable abbrev oSaid (w : World) (v1 v2 : Value) (u1 u2 : Tok) : Obj := dictOf [⟨PyData.keyHash w.params "message", .str "message" u1, v1⟩, ⟨PyData.keyHash w.params "spot", .str "spot" u2, v2⟩] 2
section
variable {w : World} {A : Around} {E : Value → Shared → Prop} {s : Shared} {h₀ : Heap} {L e t : Addr} {m : Str → Option Value}
theorem exc_init {v : Value} {Q : Value → Shared → Prop} (F : Fr h₀ L s.heap m) (N : News h₀ L s.heap [(e, excAt t)]) (hC : s.heap.get? 52 = some oFault)
    (k : ∀ h' t', Fr h₀ L h' m → News h₀ L h' [(e, excAt t'), (t', tupAt [v])] → e < t' → Q .none { s with heap := h' }) :
    wpAny (model prog w) A (call (.builtin "Exception.__init__") [.ref e, v]) Q E s := by
  have FB := excIs
  have c1 := hasExc
  have he := (N _ (.head _)).1
  obtain ⟨hp, g, d, tk, os⟩ := s
  have chk : ∀ (M : Model) (A' : Around) (E' : Value → Shared → Prop) (Q' : Unit → Shared → Prop), Q' () ⟨hp, g, d, tk, os⟩ → wpAny M A' (checkBuiltinCall "Exception.__init__" ⟨[.ref e, v], []⟩) Q' E' ⟨hp, g, d, tk, os⟩ := by
    intro M A' E' Q' hq
    have hshort := FB.noStar
    simp only [checkBuiltinCall, FB.initKind, FB.initSplit, FB.initRow]
    repeat (first | (with_reducible refine wpAny_loadPart_at he ?_) | with_reducible refine wpAny_loadPart_at hC ?_ | (with_reducible refine wpAny_isSubtype_exc hC ?_; rw [c1]) | wp_step)
    exact hq
  refine wpAny_call (codeAny_call_builtin FB.init.plain FB.initEntry (chk _ _ _ _ ?_))
  wp_walk
  have N1 := N.push F (tupAt [v])
  have F1 := F.push (tupAt [v])
  have lt : e < hp.objs.size := Heap.lt_size he
  obtain ⟨F2, N2⟩ := news_upd (f := Obj.mapFields (·.setIfInBounds 0 (Value.ref hp.objs.size))) (pre := [(hp.objs.size, tupAt [v])]) (post := []) (d := e) (o := excAt t) (o' := excAt hp.objs.size) F1 N1
    (fun p hp' => by rcases List.mem_singleton.mp hp' with rfl; exact Nat.ne_of_gt lt) (fun p hp' => nomatch hp') rfl rfl
  refine k _ hp.objs.size F2 (fun p hp' => N2 p ?_) lt
  rcases List.mem_cons.mp hp' with rfl | hp'
  · exact .tail _ (.head _)
  · rcases List.mem_singleton.mp hp' with rfl
    exact .head _
open Builtin Builtin.ObjectAttr Builtin.Getset_descriptor in
theorem osa_exc {x : Addr} {ox : Obj} {od : Option Obj} {name : Str} {tk : Tok} {v : Value} {r : Option Value} {R : Result → Shared → Prop} (X : (KK w.params).In s.heap) (hC : s.heap.get? 52 = some oFault) (I : InstAt s.heap x ox 52 od) (ht : takerIn (KK w.params) 52 name = some r)
    (h : ∀ b, wpAny (model prog w) A.in1 (match r with | some a => setByDescriptor a (.ref x) v | none => storeInOwnDict (.ref x) (.ref 52) (.str name tk) name v b)
      (fun fin s' => match fin with | .done f => R (.ok f) s' | .again c' => c'.quiet = true ∧ codeAny (model prog w) A c' R s') (fun e s' => R (.error e) s') s) :
    codeAny (model prog w) A (.call (.builtin "object.__setattr__") ⟨[.ref x, .str name tk, v], []⟩) R s := by
  have SF := PySem.F.store_Exception
  have hm : Looks (model prog w) s.heap (mroOf (.ref 52)) [.ref 52, .ref 39, .type "Exception", .type "BaseException", .type "object"] := ((Looks.ld (part := none) hC).andThen .now).andThen .now
  have ho : Looks (model prog w) s.heap (isSubtype (.ref 52) (.type "object")) true := hm.andThen .now
  have sub : Looks (model prog w) s.heap (isInstance (.ref x) (.type "object")) true := I.type.andThen ho
  refine codeAny_call_builtin SF.slot.plain SF.entry (@check_slot (model prog w) _ _ s "object.__setattr__" "object" "__setattr__" (.ref x) [.str name tk, v] [] _ SF.kind SF.split sub (SF.args (.ref x) (.str name tk) v) ?_)
  obtain ⟨attr, ha, hr⟩ := Option.bind_eq_some_iff.mp ht
  have L3 : Looks (model prog w) s.heap (storeTaker? attr) r := by
    cases attr with
    | none => cases hr; exact .now
    | some a =>
      obtain ⟨b, hb, rfl⟩ := Option.map_eq_some_iff.mp hr
      refine (looks_takesIn X hb).andThen ?_
      cases b <;> exact .now
  rw [osa_eq, refuse_eq]
  refine wpAny_bind (wpAny_bind (I.type.here (wpAny_bind (hm.here ?_))))
  rw [refuseLoop_ref, refuseLoop_ref, SF.passes]
  refine wpAny_pure (wpAny_bind (I.type.here (wpAny_bind ((looks_findIn X ha).here (wpAny_bind (L3.here ?_))))))
  exact h _
theorem exc_attr {name : Str} {v : Value} {Q : Unit → Shared → Prop} {rest : Led} (F : Fr h₀ L s.heap m) (X₀ : (KK w.params).In h₀) (N : News h₀ L s.heap ((e, excAt t) :: rest))
    (hs : findIn (KK w.params) (.ref 52) "__setattr__" = some (some (.builtin "object.__setattr__"))) (hC : s.heap.get? 52 = some oFault) (ht : takerIn (KK w.params) 52 name = some none)
    (hh : hasDictIn (KK w.params) 52 = true) (hr : ∀ p ∈ rest, p.1 ≠ e)
    (k : ∀ h' d u, Fr h₀ L h' m → News h₀ L h' ((e, excD t d) :: (d, dictOf [⟨PyData.keyHash w.params name, .str name u, v⟩] 1) :: rest) → e < d → (∀ p ∈ rest, p.1 < d) → Q () { s with heap := h', toks := s.toks + 2 }) :
    wpAny (model prog w) A (setAttr (.ref e) name v) Q E s := by
  obtain ⟨hp', g, dr, tk, os⟩ := s
  have X := X₀.keeps F.keep
  have he := (N _ (.head _)).1
  have I : InstAt hp' e (excAt t) 52 none := ⟨he, rfl, rfl, trivial⟩
  refine set_plain X I hs (osa_exc X hC I ht fun b => ?_)
  obtain ⟨cd, hc, hd'⟩ := any_some hh
  have F1 := F.push emptyDict
  have N1 := N.push F emptyDict
  have lt : e < hp'.objs.size := Heap.lt_size he
  have k1 : ∀ p ∈ [((hp'.objs.size, emptyDict) : Addr × Obj)], p.1 ≠ e := fun p hq => by rcases List.mem_singleton.mp hq with rfl; exact Nat.ne_of_gt lt
  obtain ⟨F2, N2⟩ := news_upd (f := fun o => { o with dict := some hp'.objs.size }) (pre := [(hp'.objs.size, emptyDict)]) (post := rest) (d := e) (o := excAt t) (o' := excD t hp'.objs.size) F1 N1 k1 hr rfl rfl
  have k2 : ∀ p ∈ ((e, excD t hp'.objs.size) :: rest : Led), p.1 ≠ hp'.objs.size := fun p hq => by
    rcases List.mem_cons.mp hq with rfl | hq
    · exact Nat.ne_of_lt lt
    · exact Nat.ne_of_lt (Heap.lt_size (N p (.tail _ hq)).1)
  obtain ⟨F3, N3⟩ := news_upd (f := Obj.putName name (PyData.keyHash w.params name) (.str name (tk + 1)) v) (pre := []) (post := (e, excD t hp'.objs.size) :: rest) (d := hp'.objs.size) (o := emptyDict)
    (o' := dictOf [⟨PyData.keyHash w.params name, .str name (tk + 1), v⟩] 1) F2 N2 (fun p hq => nomatch hq) k2 (putName_dict name _ _ _ [] 0) rfl
  have D := (N2 _ (.head _)).1
  have D' := (N3 _ (.head _)).1
  refine wpAny_bind (wpAny_pure (wpAny_bind (wpAny_bind (wpAny_loadPart he (wpAny_bind ((looks_clsIn X hc).at ?_))))))
  rw [hd']
  refine wpAny_bind (wpAny_alloc ?_)
  refine wpAny_bind (wpAny_update (Heap.get?_push_of_some _ he) ?_)
  refine wpAny_bind (wpAny_pure (wpAny_pure (a := some hp'.objs.size) (wpAny_bind ?_)))
  unfold nsSet
  refine wpAny_pure (wpAny_bind ?_)
  refine wpAny_bind (wpAny_bind (wpAny_askSetting ?_))
  refine wpAny_pure ?_
  refine wpAny_bind (wpAny_mkText ?_)
  refine wpAny_bind (wpAny_loadPart D ?_)
  dsimp only
  rw [show aRefKeyMayBeTheName name #[] = false from by rw [aRefKeyMayBeTheName_at]; simp]
  refine wpAny_updatePart D ?_
  refine wpAny_bind (wpAny_lookBehind D' (pastItsLine_dict (by rw [List.size_toArray, sizeLine_eq]; exact Nat.le_of_ble_eq_true rfl)) ?_)
  have z := k _ hp'.objs.size (tk + 1) F3 (fun p hq => N3 p (by
    rcases List.mem_cons.mp hq with rfl | hq
    · exact .tail _ (.head _)
    · rcases List.mem_cons.mp hq with rfl | hq
      · exact .head _
      · exact .tail _ (.tail _ hq))) lt fun p hq => Heap.lt_size (N p (.tail _ hq)).1
  exact wpAny_pure z
theorem exc_attr2 {name : Str} {v : Value} {Q : Unit → Shared → Prop} {rest : Led} {d n : Nat} {es : List DictEntry} (F : Fr h₀ L s.heap m) (X₀ : (KK w.params).In h₀) (N : News h₀ L s.heap ((e, excD t d) :: (d, dictOf es n) :: rest))
    (hs : findIn (KK w.params) (.ref 52) "__setattr__" = some (some (.builtin "object.__setattr__"))) (hC : s.heap.get? 52 = some oFault) (ht : takerIn (KK w.params) 52 name = some none)
    (hh : hasDictIn (KK w.params) 52 = true) (hr : ∀ p ∈ rest, p.1 ≠ d) (hne : e ≠ d) (hl : (lookIn name (dictOf es n)).isSome = true) (hz : (putL name (PyData.keyHash w.params name) (.str name (s.toks + 1)) v es).length ≤ 1000)
    (k : ∀ h', Fr h₀ L h' m → News h₀ L h' ((e, excD t d) :: (d, dictOf (putL name (PyData.keyHash w.params name) (.str name (s.toks + 1)) v es) (putN name es n)) :: rest) → Q () { s with heap := h', toks := s.toks + 2 }) :
    wpAny (model prog w) A (setAttr (.ref e) name v) Q E s := by
  obtain ⟨hp', g, dr, tk, os⟩ := s
  have X := X₀.keeps F.keep
  have he := (N _ (.head _)).1
  have D := (N _ (.tail _ (.head _))).1
  have I : InstAt hp' e (excD t d) 52 (some (dictOf es n)) := ⟨he, rfl, rfl, D⟩
  refine set_plain X I hs (osa_exc X hC I ht fun b => ?_)
  obtain ⟨cd, hc, hd'⟩ := any_some hh
  obtain ⟨U1, U2⟩ := news_upd (f := Obj.putName name (PyData.keyHash w.params name) (.str name (tk + 1)) v) (pre := [(e, excD t d)]) (post := rest) F N (fun p hq => by rcases List.mem_singleton.mp hq with rfl; exact hne) hr (putName_dict name _ _ _ es n) rfl
  have D' := (U2 _ (.tail _ (.head _))).1
  refine wpAny_bind (wpAny_pure (wpAny_bind (wpAny_bind (wpAny_loadPart he (wpAny_bind ((looks_clsIn X hc).at ?_))))))
  rw [hd']
  refine wpAny_pure (a := some d) (wpAny_bind (wpAny_pure (wpAny_bind ?_)))
  unfold nsSet
  refine wpAny_bind (wpAny_bind (wpAny_askSetting (wpAny_pure (wpAny_bind (wpAny_mkText (wpAny_bind (wpAny_loadPart D ?_)))))))
  dsimp only
  have c : (!es.toArray.any (·.key.isStr name) && es.toArray.any (·.refKey)) = false := by
    unfold lookIn at hl
    dsimp only at hl
    rw [← Array.any_toList, ← Array.any_toList]
    split at hl
    · rename_i en he
      rw [List.any_eq_true.mpr ⟨en, List.mem_of_find?_eq_some he, List.find?_some he⟩]; rfl
    · split at hl
      · cases hl
      · rename_i z; rw [Bool.not_eq_true] at z; rw [z, Bool.and_false]
  rw [aRefKeyMayBeTheName_at, c]
  refine wpAny_updatePart D ?_
  have hz' : (putL name (PyData.keyHash w.params name) (.str name (tk + 1)) v es).length ≤ 1000 := hz
  refine wpAny_bind (wpAny_lookBehind D' (pastItsLine_dict (by rw [List.size_toArray, sizeLine_eq]; omega)) ?_)
  have z := k _ U1 U2
  exact wpAny_pure z
end
section
variable {w : World} {mean : ExcName → Option Value} {mg mb : Str → Option Value}
local macro_rules | `(tactic| walk_at "getMethod type:Exception") => `(tactic| (k_here; refine' method_type ?F ?X ?m (by decide +kernel) ?e ?h ?_; (case F => k_asm); (case X => k_asm); (case m => exact kitMeta_of (by decide +kernel)); (case e => k_dflt k_is); (case h => k_handed)))
local macro_rules | `(tactic| walk_at "call builtin:Exception.__init__") => `(tactic| (k_here; k_dflt (refine' exc_init ?F ?N ?C ?_; (case F => k_asm); (case N => k_asm); (case C => exact Frag.In.keeps (by assumption) (Fr.keep (by assumption)) _ _ (by k_is))); intro h' t' F' N' l'; (have m' := ltN l')))
local macro_rules | `(tactic| walk_at "setAttr") => `(tactic| (k_here; k_dflt (refine' exc_attr ?F ?X ?N ?a ?b ?c ?d ?r ?_; (case F => k_asm); (case X => k_asm); (case N => k_asm); (case a => k_is); (case b => exact Frag.In.keeps (by assumption) (Fr.keep (by assumption)) _ _ (by k_is)); (case c => k_is); (case d => k_is); (case r => k_all); k_whole); intro h' d' u' F' N' l' l''; (have m' := ltN l'); k_lt l''))
local macro_rules | `(tactic| walk_at "setAttr") => `(tactic| (k_here; k_dflt (refine' exc_attr2 ?F ?X ?N ?a ?b ?c ?d ?r ?e ?l ?z ?_; (case F => k_asm); (case X => k_asm); (case N => k_asm); (case a => k_is); (case b => exact Frag.In.keeps (by assumption) (Fr.keep (by assumption)) _ _ (by k_is)); (case c => k_is); (case d => k_is); (case r => k_all); (case e => k_ne); (case l => exact rfl); (case z => exact Nat.le_of_ble_eq_true rfl); k_whole); intro h' F' N'))
theorem init_spec {e t : Nat} {v1 v2 : Value} :
    Spec w mean mg mb 36 1 [.ref e, v1, v2] [(e, excAt t)] (fun _ => True)
      (fun v led' => ∃ d t2 u1 u2, v = .none ∧ led' = [(e, excD t2 d), (d, oSaid w v1 v2 u1 u2), (t2, tupAt [v1])] ∧ e < t2 ∧ t2 < d) (fun _ _ => False) := by
  intro dp un gd cn cs a ccd cl outer A₀ base h₀ L m s Q E B F XB TB N hK hd hu hG ok err
  have X := XB.keeps B.stays
  refine wpAny_call ?_
  k_dflt ktr_enter
  k_steps
  ktr_unf
  exact ⟨_, _, _, _, rfl, rfl, by assumption, by assumption⟩
end
section
variable {w : World} {mean : ExcName → Option Value} {mg mb : Str → Option Value}
theorem fault_spec {v1 v2 : Value} :
    Spec w mean mg mb 52 3 [v1, v2] [] (fun _ => True)
      (fun v led' => ∃ e d t2 u1 u2, v = .ref e ∧ led' = [(e, excD t2 d), (d, oSaid w v1 v2 u1 u2), (t2, tupAt [v1])] ∧ e < t2 ∧ t2 < d) (fun _ _ => False) := by
  intro dp un gd cn cs a ccd cl outer A₀ base h₀ L m s Q E B F XB TB N hK hd hu hG ok err
  have X := XB.keeps B.stays
  have X' := X.keeps F.keep
  obtain ⟨hp, g, d, tk, os⟩ := s
  refine fault_call (fI := 36) (X' _ _ (by k_is)) (looks_findIn X' (by k_is)) (X' _ _ (by k_is)) rfl (by rw [sizeLine_eq]; exact Nat.le_of_ble_eq_true rfl) ?_
  have N1 := (N.push F (tupAt [v1, v2])).push (F.push _) (excAt hp.objs.size)
  rw [Heap.size_push] at N1
  have hp2 : ∀ b o, hp.get? b = some o → ((hp.push (tupAt [v1, v2])).push (excAt hp.objs.size)).get? b = some o := fun b o e => Heap.get?_push_of_some _ (Heap.get?_push_of_some _ e)
  have hno : ∀ b, ((hp.push (tupAt [v1, v2])).push (excAt hp.objs.size)).get? b = none → hp.get? b = none := fun b hb => by
    cases q : hp.get? b with
    | none => rfl
    | some o => rw [hp2 b o q] at hb; cases hb
  have N2 : News h₀ L ((hp.push (tupAt [v1, v2])).push (excAt hp.objs.size)) [(hp.objs.size + 1, excAt hp.objs.size)] := fun p hq => by
    rcases List.mem_singleton.mp hq with rfl
    exact N1 _ (.head _)
  have enew : hp.get? (hp.objs.size + 1) = none := Heap.get?_none_of_le (Nat.le_succ _)
  refine init_spec (e := hp.objs.size + 1) (t := hp.objs.size) (v1 := v1) (v2 := v2) _ _ _ _ _ _ _ _ outer A₀ base h₀ L m _ _ _ B ((F.push _).push _) XB TB N2 hK ?_ ?_ trivial (fun v h' tk' led' T hP => ?_) (fun _ _ _ _ _ _ x => x.elim)
  · exact Nat.lt_of_le_of_lt (show dp + 1 + 1 ≤ dp + 3 by omega) hd
  · exact Nat.lt_of_le_of_lt (show un + 1 + 16 * 1 ≤ un + 16 * 3 by omega) hu
  obtain ⟨d', t2, u1, u2, rfl, rfl, l1, l2⟩ := hP
  refine ⟨rfl, ok _ _ _ _ ⟨T.fr, T.news, fun b o _ e => T.keep b o (fun q => ?_) (hp2 b o e), fun p hq => .inr ?_⟩ ⟨_, _, _, _, _, rfl, rfl, l1, l2⟩⟩
  · rcases List.mem_singleton.mp q with rfl
    rw [enew] at e; cases e
  · rcases T.fresh p hq with z | z
    · rw [List.mem_singleton.mp z]; exact enew
    · exact hno _ z
end
end

section
open PySem PySem.W PySem.Calls PyProof.Rows
theorem mem_frs {name : Str} {scope : Scope} {L a b : Addr} {cd : Value} {cl : List (Str × Addr)} {outer : List Env} (hm : b ∈ frs (envX name scope L a cd cl :: outer)) : b = L ∨ b ∈ frs outer := by
  obtain ⟨env, he, hf⟩ := List.mem_filterMap.mp hm
  rcases List.mem_cons.mp he with rfl | he
  · exact .inl (Option.some.inj hf).symm
  · exact .inr (List.mem_filterMap.mpr ⟨env, he, hf⟩)
theorem Raised.slip {base g g' h : Heap} {l : List Env} {e d : Addr} {led : Led} (S : Slip (frs l) g g') (R : Raised base g' l e d led h) : Raised base g l e d led h := by
  obtain ⟨⟨B, h1, h2, h3, h4⟩, up⟩ := R
  refine ⟨⟨B, h1, fun b o e m => h2 b o ((S b o e).1 m) m, fun q hq => ⟨(h3 q hq).1, ?_⟩, h4⟩, fun b o e hn => ?_⟩
  · cases r : g.get? q.1 with
    | none => rfl
    | some o =>
      obtain ⟨_, sl, hs⟩ := S _ _ r
      rw [(h3 q hq).2] at hs; cases hs
  · obtain ⟨sl, hs⟩ := (S b o e).2
    obtain ⟨sl', hs'⟩ := up b _ hs hn
    exact ⟨sl', hs'⟩
section
variable {M : Model} {A : Around} {E : Value → Shared → Prop} {s s' : Shared} {base g : Heap} {outer : List Env} {L a e d t : Addr} {m : Str → Option Value} {name : Str} {scope : Scope} {cd : Value} {cl : List (Str × Addr)} {Q : Unit → Shared → Prop} {led led₀ rest : Led}
theorem raise_leave (K : Below A base outer g) (F : Fr g L s'.heap m) (N : News g L s'.heap led₀) (he : (e, excD t d) ∈ led₀) (hs : ∀ q ∈ led, q ∈ led₀ ∧ q.1 ≠ e)
    (k : ∀ h', Raised base g outer e d led h' → Q () { s' with heap := h' }) (hk : scope.kind = .function := by rfl) :
    wpAny M (A.deeper (envX name scope L a cd cl)) (leaving (envX name scope L a cd cl) (.ref e)) Q E s' := by
  have K' := pushX (env := envX name scope L a cd cl) K F rfl hk
  have hge : g.get? e = none := (N _ he).2.2
  have old : ∀ b o, g.get? b = some o → b ∉ frs outer → (hideAll s'.heap (e :: frs (envX name scope L a cd cl :: outer))).get? b = some o := fun b o q nm => hideAll_get _ (F.keep b o q) fun hm => by
    rcases List.mem_cons.mp hm with z | z
    · rw [z, hge] at q; cases q
    · rcases mem_frs z with z | z
      · rw [z, self_none F] at q; cases q
      · exact nm z
  refine leave_first (base := hideAll s'.heap (e :: frs (envX name scope L a cd cl :: outer))) K'.stack rfl (fun b o q => of_hideAll _ q) (funFrames_hide K'.frames fun env he b hb => .tail _ (List.mem_filterMap.mpr ⟨env, he, hb⟩)) (hideAll_none _ (.head _)) (N _ he).1 rfl rfl fun h' x u => ?_
  refine k h' ⟨⟨_, fun b o q => old b o (K.stays b o q) fun hm => ?_, old, fun q hq => ?_, x⟩, (Heap.UpToSlots.of_keeps F.keep).trans u⟩
  · rw [(frames_old K hm).1] at q; cases q
  · obtain ⟨h1, h2⟩ := hs q hq
    obtain ⟨n1, n2, n3⟩ := N q h1
    refine ⟨hideAll_get _ n1 fun hm => ?_, n3⟩
    rcases List.mem_cons.mp hm with z | z
    · exact h2 z
    · rcases mem_frs z with z | z
      · exact n2 z
      · obtain ⟨_, o, ho, _⟩ := frames_old K z
        rw [n3] at ho; cases ho
theorem on_leave (K : Below A base outer g) (F : Fr g L s.heap m) (N : News g L s.heap led₀) (R : Raised base (hideAll s.heap (adr led₀)) (envX name scope L a cd cl :: outer) e d led s'.heap)
    (hr : ∀ q ∈ rest, s.heap.get? q.1 = some q.2 ∧ q.1 ∉ adr led₀ ∧ q.1 ≠ L ∧ g.get? q.1 = none)
    (k : ∀ h', Raised base g outer e d (led ++ rest) h' → Q () { s' with heap := h' }) :
    wpAny M (A.deeper (envX name scope L a cd cl)) (leaving (envX name scope L a cd cl) (.ref e)) Q E s' := by
  obtain ⟨⟨B, h1, h2, h3, h4⟩, up⟩ := R
  have st : ∀ b o, g.get? b = some o → (hideAll s.heap (adr led₀)).get? b = some o := fun b o q => hideAll_get _ (F.keep b o q) (not_led N q)
  refine leave_next (Around.frames_deeper K.stack) rfl h4 fun h' x u => k h' ⟨⟨B, h1, fun b o q nm => h2 b o (st b o q) fun hm => ?_, fun q hq => ?_, x⟩, fun b o q hn => ?_⟩
  · rcases mem_frs hm with z | z
    · rw [z, self_none F] at q; cases q
    · exact nm z
  · rcases List.mem_append.mp hq with hq | hq
    · refine ⟨(h3 q hq).1, ?_⟩
      cases r : g.get? q.1 with
      | none => rfl
      | some o => have := (h3 q hq).2; rw [st _ _ r] at this; cases this
    · obtain ⟨r1, r2, r3, r4⟩ := hr q hq
      refine ⟨h2 _ _ (hideAll_get _ r1 r2) fun hm => ?_, r4⟩
      rcases mem_frs hm with z | z
      · exact r3 z
      · obtain ⟨_, o, ho, _⟩ := frames_old K z
        rw [r4] at ho; cases ho
  · exact (up.trans u) b o (st b o q) hn
theorem raise_end {t : Addr} {od ot : Obj} {full : Led} (K : Below A base outer g) (F : Fr g L s'.heap m) (N : News g L s'.heap ((e, excD t d) :: (d, od) :: (t, ot) :: full))
    (hn : ∀ p ∈ ([(e, excD t d), (d, od), (t, ot)] : Led), p.1 ∉ adr [] → ∀ q ∈ full, q.1 ≠ p.1) (h1 : e < t) (h2 : t < d)
    (k : ∀ h', Raised base g outer e d ((d, od) :: full) h' → Q () { s' with heap := h' }) (hk : scope.kind = .function := by rfl) :
    wpAny M (A.deeper (envX name scope L a cd cl)) (leaving (envX name scope L a cd cl) (.ref e)) Q E s' := by
  refine raise_leave K F N (.head _) (fun q hq => ?_) k hk
  rcases List.mem_cons.mp hq with rfl | hq
  · exact ⟨.tail _ (.head _), Nat.ne_of_gt (Nat.lt_trans h1 h2)⟩
  · exact ⟨.tail _ (.tail _ (.tail _ hq)), hn _ (.head _) (fun z => nomatch z) q hq⟩
end
end

section
open PySem PySem.W PySem.Spec PySem.Calls PyProof.Rows
theorem code_type {w : World} {h : Heap} (X : (KK w.params).In h) : CodeHd h 344 342 := ⟨_, _, _, _, _, _, _, _, _, X _ _ (by k_is), rfl, rfl, rfl, rfl, rfl, rfl, rfl, rfl, by decide⟩
theorem code_vars {w : World} {h : Heap} (X : (KK w.params).In h) : CodeHd h 349 347 := ⟨_, _, _, _, _, _, _, _, _, X _ _ (by k_is), rfl, rfl, rfl, rfl, rfl, rfl, rfl, rfl, by decide⟩
theorem code_use {w : World} {h : Heap} (X : (KK w.params).In h) : CodeHd h 356 352 := ⟨_, _, _, _, _, _, _, _, _, X _ _ (by k_is), rfl, rfl, rfl, rfl, rfl, rfl, rfl, rfl, by decide⟩
theorem code_chain {w : World} {h : Heap} (X : (KK w.params).In h) : CodeHd h 373 371 := ⟨_, _, _, _, _, _, _, _, _, X _ _ (by k_is), rfl, rfl, rfl, rfl, rfl, rfl, rfl, rfl, by decide⟩
noncomputable def LamCode (oc : Obj) (qual : Str) : Prop := ∃ vs t, oc.data = .fields vs ∧ vs[1]? = some (.str qual t)
noncomputable def TabOk (blk : Led) (line col : Nat) (qual : Str) (ps : Array Value) : Prop := ps = #[] ∨ ∃ c' oc, ps = #[rawInt line, rawInt col, .ref c'] ∧ (c', oc) ∈ blk ∧ LamCode oc qual
section
variable {M : Model} {A : Around} {E : Value → Shared → Prop} {s : Shared} {h₀ : Heap} {L a c P : Addr} {m mg mb : Str → Option Value} {cn : Str} {cs : Scope} {ccd : Value} {cl : List (Str × Addr)} {news blk : Led} {g : Obj → Led}
  {p : Program} {loose : List Str} {mean : ExcName → Option Value} {name qual : Str} {params : Arguments} {body : PySem.Expr} {scope : Scope} {ps : Array Value} {pos : Pos} {firstLine : Nat} {clos : List (Str × Addr)}
theorem UpdF.self {d : Addr} {o : Obj} (U : UpdF d o news g) : g o = news := by
  obtain ⟨own, rest, rfl, hg, _, _⟩ := U.split
  exact hg o
end
section
variable {w : World} {A₀ A : Around} {s : Shared} {base h₀ : Heap} {outer : List Env} {L : Addr} {m : Str → Option Value} {env : Env} {led : Led} {mean : ExcName → Option Value} {mg mb : Str → Option Value}
  {R : Result → Shared → Prop} {name qual : Str} {params : Arguments} {body : PySem.Expr} {scope : Scope} {cl : List (Str × Addr)} {pm ctv : Value} {c' f : Addr} {oc : Obj} {args : Args} {binds : List (Str × Value)}
theorem enter_lam (B : Below A₀ base outer h₀) (F : Fr h₀ L s.heap m) (XB : (KK w.params).In base) (TB : TopX mean mg mb base) (N : News h₀ L s.heap led) (hA : A.frames = some (env :: outer)) (hf : env.frame = some L) (hke : env.scope.kind = .function)
    (ho : (f, kla_obj name qual params body scope cl pm c' ctv) ∈ led) (hoc : (c', oc) ∈ led) (hcd : LamCode oc qual) (hroom : A.depth < recursionLimit)
    (hbind : bindArgs (kla_fn name qual params body scope cl pm (.ref c') ctv) args = pure binds) (hloc : ∀ y ∈ binds, scope.names.lookup y.1 = some .local)
    (k : ∀ g L' h₁, g = hideAll s.heap (adr led) → Slip (L :: frs outer) (hideAll s.heap (adr led)) g → Fr g L' h₁ (fun y => binds.reverse.lookup y) → News g L' h₁ led → Below A base (env :: outer) g → (KK w.params).In g → TopX mean mg mb g →
      wpAny (model prog w) (A.deeper (envX qual scope L' f (.ref c') cl)) (eval body (envX qual scope L' f (.ref c') cl))
        (fun v s' => R (.ok (.ret v)) s')
        (fun e s' => wpAny (model prog w) (A.deeper (envX qual scope L' f (.ref c') cl)) (leaving (envX qual scope L' f (.ref c') cl) e) (fun _ s'' => R (.error e) s'') (fun e' s'' => R (.error e') s'') s')
        { s with heap := h₁, toks := s.toks + binds.length })
    (hco : scope.isCoroutine = false) (hgen : scope.isGenerator = false) (hk : scope.kind = .function) (hcell : ∀ x ∈ scope.names, x.2 ≠ .cell) :
    codeAny (model prog w) A (.call (.ref f) args) R s := by
  obtain ⟨FG, BG, st⟩ := ground B F N hA hf hke
  have X : (KK w.params).In (hideAll s.heap (adr led)) := XB.keeps BG.stays
  have T : TopX mean mg mb (hideAll s.heap (adr led)) := TB.keeps BG.stays
  obtain ⟨vs, t, hd', hv⟩ := hcd
  have hrec : s.heap.CodeRec (.ref c') qual := ⟨c', oc, vs, t, rfl, (N _ hoc).1, hd', hv⟩
  refine kla_callFunE hroom (N _ ho).1 rfl hco hgen rfl hrec ?_
  rw [hbind]
  refine wpAny_pure (wpAny_newFunctionEnv hcell hloc (fun h₁ hns hsb => ⟨((TB.nolimit).keeps fun b o e => F.keep b o (B.stays b o e)).fresh _ hsb, ?_⟩) hk)
  show codeAny _ _ (.expr body (envX qual scope s.heap.objs.size f (.ref c') cl)) _ _
  have hk₁ : ∀ b o, s.heap.get? b = some o → h₁.get? b = some o := fun b o e => hsb.extBut b o (Nat.ne_of_lt (Heap.lt_size e)) (Heap.get?_push_of_some _ e)
  exact kla_codeExpr (k _ s.heap.objs.size h₁ rfl Slip.refl ⟨hns, fun b o e => hk₁ b o (of_hideAll _ e), Nat.le_of_eq (hideAll_size _ _)⟩
    (fun p hp => ⟨hk₁ _ _ (N p hp).1, Nat.ne_of_lt (Heap.lt_size (N p hp).1), hideAll_none _ (List.mem_map_of_mem hp)⟩) BG X T)
end
end

section
open PySem PySem.W PySem.Calls PyProof.Rows PySem.Spec
inductive FLs (w : World) (al : List Addr) (fz : Led) : List (Tx × V) → List DictEntry → Prop
  | nil : FLs w al fz [] []
  | cons {x : Tx} {v : V} {t : Tok} {r : Value} {fs : List (Tx × V)} {es : List DictEntry} : VR w al fz v r → FLs w al fz fs es → FLs w al fz ((x, v) :: fs) (ent w (tr x) t r :: es)
noncomputable def keptD (es : List (List Tx × Tx)) : List (PyData × PyData) := es.map fun p => (.tuple (p.1.map fun x => .str (tr x)), .str (tr p.2))
inductive OR (w : World) (al : List Addr) (fz : Led) (a : Addr) : O → Obj → Prop
  | dict {es : List (Tx × V)} {rs : List (Str × Value)} {ro : Obj} : KVs w al fz es rs → ro.IsDictOf (strKind prog w) rs → (a == sysModules) = false → OR w al fz a (.dict es) ro
  | list {vs : List V} {rs : List Value} {n : Nat} : VRs w al fz vs rs → OR w al fz a (.list vs) (listOf rs.toArray n)
  | inst {c d : Nat} {da : Addr} : al[d]? = some da → OR w al fz a (.inst c d) (instObj c da)
  | fld {fs : List (Tx × V)} {es : List DictEntry} {n : Nat} : FLs w al fz fs es → OR w al fz a (.fld fs) (dictOf es n)
  | kept {es : List (List Tx × Tx)} {ro : Obj} {ds : Array DictEntry} {ep : Nat} {xs : List (List Str × Addr × Value)} : (a == sysModules) = false → ro.ExactDict → ro.data = .dict ds ep → ds.toList = xs.map (entryOfKey (tupleKind (PySem.strKind prog w))) → (xs.map (·.1)).Nodup →
      (∀ x ∈ xs, ∃ ok, (x.2.1, ok) ∈ fz ∧ TupKeyObj (PySem.strKind prog w) x.1 ok) → PyProof.V.FlatPairs (encTuple PyData.str) (kvsOf xs) (keptD es) → OR w al fz a (.kept es) ro
inductive Objs (w : World) (al : List Addr) (fz : Led) : Hp → Led → Prop
  | nil : Objs w al fz [] []
  | cons {o : O} {a : Addr} {ro : Obj} {H : Hp} {mu : Led} : OR w al fz a o ro → Objs w al fz H mu → Objs w al fz (o :: H) ((a, ro) :: mu)
section
variable {w : World} {al al' : List Addr} {fz fz' : Led}
theorem FLs.mono (E : Ext al fz al' fz') : ∀ {fs : List (Tx × V)} {es : List DictEntry}, FLs w al fz fs es → FLs w al' fz' fs es
  | _, _, .nil => .nil
  | _, _, .cons a b => .cons (a.mono E) (b.mono E)
theorem OR.mono (E : Ext al fz al' fz') {a : Addr} {o : O} {ro : Obj} (h : OR w al fz a o ro) : OR w al' fz' a o ro := by
  cases h with
  | dict k d s => exact .dict (k.mono E) d s
  | list k => exact .list (k.mono E)
  | inst e => exact .inst (E.at e)
  | fld k => exact .fld (k.mono E)
  | kept h1 h2 h3 h4 h5 h6 h7 => exact .kept h1 h2 h3 h4 h5 (fun x hx => let ⟨ok, q, r⟩ := h6 x hx; ⟨ok, E.fz _ q, r⟩) h7
theorem Objs.mono (E : Ext al fz al' fz') : ∀ {H : Hp} {mu : Led}, Objs w al fz H mu → Objs w al' fz' H mu
  | _, _, .nil => .nil
  | _, _, .cons a b => .cons (a.mono E) (b.mono E)
theorem Objs.len : ∀ {H : Hp} {mu : Led}, Objs w al fz H mu → H.length = mu.length
  | _, _, .nil => rfl
  | _, _, .cons _ b => by simp [b.len]
theorem Objs.app : ∀ {H G : Hp} {mu nu : Led}, Objs w al fz H mu → Objs w al fz G nu → Objs w al fz (H ++ G) (mu ++ nu)
  | _, _, _, _, .nil, k => k
  | _, _, _, _, .cons a b, k => .cons a (b.app k)
theorem Objs.at : ∀ {H : Hp} {mu : Led}, Objs w al fz H mu → ∀ {k : Nat} {o : O}, H[k]? = some o → ∃ pre a ro post, mu = pre ++ (a, ro) :: post ∧ pre.length = k ∧ OR w al fz a o ro ∧
    ∀ o' ro', OR w al fz a o' ro' → Objs w al fz (H.set k o') (pre ++ (a, ro') :: post)
  | _, _, .nil, k, o, e => by simp at e
  | _, _, .cons (o := o) (a := a) (ro := ro) (mu := mu) x b, 0, o', e => by
    simp at e; subst e
    exact ⟨[], a, ro, mu, rfl, rfl, x, fun o' ro' h => .cons h b⟩
  | _, _, .cons (a := a) (ro := ro) x b, k + 1, o', e => by
    rw [List.getElem?_cons_succ] at e
    obtain ⟨pre, a', ro', post, rfl, rfl, h, g⟩ := b.at e
    exact ⟨(a, ro) :: pre, a', ro', post, rfl, rfl, h, fun o2 r2 h2 => .cons x (g o2 r2 h2)⟩
end
theorem addr_at {pre post : Led} {a : Addr} {ro : Obj} : (adr (pre ++ (a, ro) :: post))[pre.length]? = some a := by simp [adr]
inductive TabsOk (fz : Led) : Led → Prop
  | mk {p0 p1 p2 p3 : Array Value} : TabOk fz 307 26 "_law_chain_right.<locals>.<lambda>" p0 → TabOk fz 276 22 "_law_use_right.<locals>.<lambda>" p1 → TabOk fz 264 22 "_law_variants_right.<locals>.<lambda>" p2 → TabOk fz 247 18 "_law_type_right.<locals>.<lambda>" p3 →
      TabsOk fz [(371, tabObj p0), (352, tabObj p1), (347, tabObj p2), (342, tabObj p3)]
theorem TabOk.mono {fz fz' : Led} {l c : Nat} {q : Str} {p : Array Value} (h : TabOk fz l c q p) (k : ∀ x ∈ fz, x ∈ fz') : TabOk fz' l c q p := by
  rcases h with h | ⟨c', oc, h1, h2, h3⟩
  · exact .inl h
  · exact .inr ⟨c', oc, h1, k _ h2, h3⟩
theorem TabsOk.mono {fz fz' tb : Led} (h : TabsOk fz tb) (k : ∀ x ∈ fz, x ∈ fz') : TabsOk fz' tb := by
  cases h with
  | mk a b c d => exact .mk (a.mono k) (b.mono k) (c.mono k) (d.mono k)
structure HOk (w : World) (H : Hp) (mu tb fz : Led) : Prop where
  objs : Objs w (adr mu) fz H mu
  tabs : TabsOk fz tb
  nd : (adr (mu ++ tb)).Nodup
  off : ∀ p ∈ fz, p.1 ∉ adr (mu ++ tb)
structure Fm where
  (w : World) (mean : ExcName → Option Value) (mg mb : Str → Option Value)
  (dp un : Nat) (gd : Option (List Code)) (cn : Str) (cs : Scope) (L a : Addr) (ccd : Value) (cl : List (Str × Addr)) (outer : List Env)
  (A₀ : Around) (base g₀ : Heap) (q ro : Bool)
noncomputable abbrev Fm.A (f : Fm) : Around := ktrTop f.dp f.un f.gd f.cn f.cs f.L f.a f.ccd f.cl f.outer
noncomputable abbrev Fm.env (f : Fm) : Env := envX f.cn f.cs f.L f.a f.ccd f.cl
noncomputable def CellsOk (f : Fm) (cs : Led) : Prop := ∀ y c, f.cl.lookup y = some c → ∃ o v₀, (c, o) ∈ cs ∧ o.data = .cell v₀
structure Fm.Ok (f : Fm) (n : Nat) : Prop where
  hA : f.A = f.A₀.deeper f.env
  has : ∀ y, f.cs.names.lookup y = some .cell → ∃ c, f.cl.lookup y = some c
  inj : ∀ y z c, f.cl.lookup y = some c → f.cl.lookup z = some c → y = z
  kind : f.cs.kind = .function
  room : f.dp + n < recursionLimit
  units : f.un + 16 * n < cLine
  XB : (KK f.w.params).In f.base
  TB : TopX f.mean f.mg f.mb f.base
theorem Fm.Ok.less {f : Fm} {n n' : Nat} (h : f.Ok n) (k : n' ≤ n) : f.Ok n' := ⟨h.hA, h.has, h.inj, h.kind, by have := h.room; omega, by have := h.units; omega, h.XB, h.TB⟩
structure St where
  (gc : Heap) (m : Str → Option Value) (mu tb cs fz : Led)
noncomputable abbrev St.al (x : St) : List Addr := adr x.mu
noncomputable abbrev St.led (x : St) : Led := x.mu ++ (x.tb ++ (x.cs ++ x.fz))
structure Std (f : Fm) (h : Heap) (H : Hp) (x : St) : Prop where
  below : Below f.A₀ f.base f.outer x.gc
  slip : Slip (frs f.outer) f.g₀ x.gc
  quiet : f.q = true → x.gc = f.g₀
  fr : Fr x.gc f.L h x.m
  news : News x.gc f.L h x.led
  objs : Objs f.w x.al x.fz H x.mu
  tabs : TabsOk x.fz x.tb
  nd : (adr (x.mu ++ (x.tb ++ x.cs))).Nodup
  off : ∀ p ∈ x.fz, p.1 ∉ adr (x.mu ++ (x.tb ++ x.cs))
  cells : CellsOk f x.cs
structure Info where
  (vn : List Str) (cs : Scope) (q ro : Bool) (own : Option (Str × Value))
structure EnvIs (I : Info) (f : Fm) (env : Env) : Prop where
  scope : env.scope = I.cs
  kind : env.scope.kind = .function
  glob : env.globals = mainGlobals
  blt : env.builtins = builtinsNs
  frame : env.frame = some f.L
  own : ∀ p, I.own = some p → env = f.env ∧ f.cn = p.1 ∧ f.ccd = p.2
inductive Loc (f : Fm) (env : Env) (x : St) (y : Str) (rv : Value) : Prop
  | own : env.kindOf y = some .local → env.locals = f.L → x.m y = some rv → Loc f env x y rv
  | cell {c : Addr} {o : Obj} : env.kindOf y = some .cell → env.cells.lookup y = some c → (c, o) ∈ x.cs → o.data = .cell (some rv) → Loc f env x y rv
  | free {c : Addr} {o : Obj} : env.kindOf y = some .free → env.cells.lookup y = some c → (c, o) ∈ x.cs → o.data = .cell (some rv) → (y == ("__classdict__" : Str)) = false → Loc f env x y rv
  | comp {o : Obj} {m₂ : Str → Option Value} : env.kindOf y = some .local → (env.locals, o) ∈ x.cs → LCg.NsObj o m₂ → m₂ y = some rv → Loc f env x y rv
noncomputable def Vars (I : Info) (f : Fm) (env : Env) (x : St) (ρ : Rho) : Prop := ∀ (i : Nat) (v : V), ρ[i]? = some (some v) → ∃ y rv, I.vn[i]? = some y ∧ (y == ("__debug__" : Str)) = false ∧ VR f.w x.al x.fz v rv ∧ Loc f env x y rv
structure ExtE (f : Fm) (x x' : St) : Prop where
  ext : Ext x.al x.fz x'.al x'.fz
  m : x'.m = x.m
  cs : x'.cs = x.cs
  ro : f.ro = true → x'.mu = x.mu
theorem ExtE.refl {f : Fm} {x : St} : ExtE f x x := ⟨.refl, rfl, rfl, fun _ => rfl⟩
theorem ExtE.trans {f : Fm} {x y z : St} (a : ExtE f x y) (b : ExtE f y z) : ExtE f x z := ⟨a.ext.trans b.ext, b.m.trans a.m, b.cs.trans a.cs, fun h => (b.ro h).trans (a.ro h)⟩
theorem Loc.mono {f : Fm} {env : Env} {x x' : St} {y : Str} {rv : Value} (h : Loc f env x y rv) (hm : x'.m = x.m) (hc : x'.cs = x.cs) : Loc f env x' y rv := by
  cases h with
  | own a b c => exact .own a b (hm ▸ c)
  | cell a b c d => exact .cell a b (hc ▸ c) d
  | free a b c d e => exact .free a b (hc ▸ c) d e
  | comp a b c d => exact .comp a (hc ▸ b) c d
theorem Vars.mono {I : Info} {f : Fm} {env : Env} {x x' : St} {ρ : Rho} (h : Vars I f env x ρ) (e : ExtE f x x') : Vars I f env x' ρ := fun i v hv => by
  obtain ⟨y, rv, h1, h2, h3, h4⟩ := h i v hv
  exact ⟨y, rv, h1, h2, h3.mono e.ext, h4.mono e.m e.cs⟩
noncomputable def Flt (f : Fm) (m : Tx) (i : Int) (H' : Hp) (x : St) (e : Addr) (s' : Shared) : Prop :=
  ∀ (Q' : Unit → Shared → Prop) (E' : Value → Shared → Prop), (∀ d h'' mu tb fz tm ti u1 u2, Raised f.base f.g₀ f.outer e d ((d, oSaid f.w (.str (tr m) tm) (.int i ti) u1 u2) :: (mu ++ (tb ++ fz))) h'' → HOk f.w H' mu tb fz → Ext x.al x.fz (adr mu) fz → Q' () { s' with heap := h'' }) →
    wpAny (model prog f.w) f.A (leaving f.env (.ref e)) Q' E' s'
theorem Flt.mono {f : Fm} {m : Tx} {i : Int} {H' : Hp} {x x' : St} {e : Addr} {s' : Shared} (E : Ext x.al x.fz x'.al x'.fz) (h : Flt f m i H' x' e s') : Flt f m i H' x e s' :=
  fun Q' E' k => h Q' E' fun d h'' mu tb fz tm ti u1 u2 R ok X => k d h'' mu tb fz tm ti u1 u2 R ok (E.trans X)
noncomputable abbrev REL (β γ : Type) := Fm → St → St → β → γ → Prop
noncomputable def PE {β γ : Type} (R : REL β γ) (f : Fm) (x : St) (s : Shared) (r : Out β) (Q : γ → Shared → Prop) (E : Value → Shared → Prop) : Prop := match r with
  | .ok v H' => ∀ rv h' tk x', Std f h' H' x' → Ext x.al x.fz x'.al x'.fz → R f x x' v rv → Q rv { s with heap := h', toks := tk }
  | .fault m i H' => ∀ e h' tk, Flt f m i H' x e { s with heap := h', toks := tk } → E (.ref e) { s with heap := h', toks := tk }
  | .stuck => False
noncomputable def RX {β γ : Type} (R : Fm → St → β → γ → Prop) : REL β γ := fun f x x' v rv => x'.m = x.m ∧ x'.cs = x.cs ∧ (f.ro = true → x'.mu = x.mu) ∧ R f x' v rv
structure Pre {β γ : Type} (R : REL β γ) : Prop where
  pre : ∀ {f x y z v rv}, ExtE f x y → R f y z v rv → R f x z v rv
theorem preX {β γ : Type} (R : Fm → St → β → γ → Prop) : Pre (RX R) := ⟨fun e h => ⟨h.1.trans e.m, h.2.1.trans e.cs, fun r => (h.2.2.1 r).trans (e.ro r), h.2.2.2⟩⟩
noncomputable abbrev RV : REL V Value := RX fun f x v rv => VR f.w x.al x.fz v rv
noncomputable abbrev RVs : REL (List V) (List Value) := RX fun f x v rv => VRs f.w x.al x.fz v rv
noncomputable abbrev RB : REL Bool Bool := RX fun _ _ v rv => rv = v
noncomputable abbrev RU : REL Unit Unit := RX fun _ _ _ _ => True
noncomputable def SG {β γ : Type} (R : REL β γ) (I : Info) (n : Nat) (t : Env → Sem γ) (e : Rho → Hp → Out β) : Prop :=
  ∀ (f : Fm) (env : Env) (s : Shared) (ρ : Rho) (H : Hp) (x : St) (Q : γ → Shared → Prop) (E : Value → Shared → Prop), f.Ok n → (f.q = I.q ∧ f.ro = I.ro) → EnvIs I f env → Std f s.heap H x → Vars I f env x ρ → PE R f x s (e ρ H) Q E → wpAny (model prog f.w) f.A (t env) Q E s
noncomputable abbrev Ex := Rho → Hp → Out V
noncomputable abbrev SE := SG RV
noncomputable def Out.bind {α β : Type} (r : Out α) (k : α → Hp → Out β) : Out β := match r with
  | .ok a H => k a H
  | .fault m i H => .fault m i H
  | .stuck => .stuck
theorem Out.bind_assoc {α β δ : Type} (r : Out α) (k : α → Hp → Out β) (k2 : β → Hp → Out δ) : (r.bind k).bind k2 = r.bind fun a H => (k a H).bind k2 := by cases r <;> rfl
theorem PE.on {β γ : Type} {R : REL β γ} (hR : Pre R) {f : Fm} {x x' : St} {s s' : Shared} {r : Out β} {Q : γ → Shared → Prop} {E : Value → Shared → Prop} (X : ExtE f x x') (e : s' = { s with heap := s'.heap, toks := s'.toks }) (h : PE R f x s r Q E) : PE R f x' s' r Q E := by
  rw [e]
  revert h
  cases r with
  | ok u G => exact fun h rv2 h2 tk2 x2 S2 X2 R2 => h rv2 h2 tk2 x2 S2 (X.ext.trans X2) (hR.pre X R2)
  | fault m i G => exact fun h e h2 tk2 F => h e h2 tk2 (F.mono X.ext)
  | stuck => exact fun h => h
theorem SG.less {β γ : Type} {R : REL β γ} {I : Info} {n n' : Nat} {t : Env → Sem γ} {e : Rho → Hp → Out β} (h : SG R I n t e) (k : n ≤ n') : SG R I n' t e := fun f env s ρ H x Q E ok => h f env s ρ H x Q E (ok.less k)
theorem SG.go {β γ β' γ' : Type} {R0 : Fm → St → β → γ → Prop} {R : REL β' γ'} {I : Info} {n : Nat} {t : Env → Sem γ} {e : Rho → Hp → Out β} (h : SG (RX R0) I n t e) {f : Fm} {env : Env} {s : Shared} {ρ : Rho} {H : Hp} {x : St}
    (ok : f.Ok n) (q : f.q = I.q ∧ f.ro = I.ro) (ei : EnvIs I f env) (S : Std f s.heap H x) (V : Vars I f env x ρ) {k : β → Hp → Out β'} {Q : γ' → Shared → Prop} {E : Value → Shared → Prop} (P : PE R f x s ((e ρ H).bind k) Q E) (hR : Pre R) {Q' : γ → Shared → Prop}
    (next : ∀ v H' x' rv h' tk, Std f h' H' x' → ExtE f x x' → R0 f x' v rv → Vars I f env x' ρ → PE R f x' { s with heap := h', toks := tk } (k v H') Q E → Q' rv { s with heap := h', toks := tk }) :
    wpAny (model prog f.w) f.A (t env) Q' E s := by
  refine h f env s ρ H x Q' E ok q ei S V ?_
  revert P
  cases e ρ H with
  | ok v H' =>
    intro P rv h' tk x' S' X' R'
    have X : ExtE f x x' := ⟨X', R'.1, R'.2.1, R'.2.2.1⟩
    exact next v H' x' rv h' tk S' X R'.2.2.2 (V.mono X) (PE.on hR X rfl P)
  | fault m i H' => exact fun P => P
  | stuck => exact fun P => P.elim
end

section
open PySem PySem.W PySem.Calls PyProof.Rows PySem.Spec
section
variable {I : Info} {n : Nat}
theorem Std.here {f : Fm} {h : Heap} {H : Hp} {x : St} (S : Std f h H x) {p : Addr × Obj} (hp : p ∈ x.cs) : h.get? p.1 = some p.2 := (S.news p (List.mem_append_right _ (List.mem_append_right _ (List.mem_append_left _ hp)))).1
theorem Std.fzAt {f : Fm} {h : Heap} {H : Hp} {x : St} (S : Std f h H x) {p : Addr × Obj} (hp : p ∈ x.fz) : h.get? p.1 = some p.2 := (S.news p (List.mem_append_right _ (List.mem_append_right _ (List.mem_append_right _ hp)))).1
theorem Std.muAt {f : Fm} {h : Heap} {H : Hp} {x : St} (S : Std f h H x) {p : Addr × Obj} (hp : p ∈ x.mu) : h.get? p.1 = some p.2 := (S.news p (List.mem_append_left _ hp)).1
theorem PE.done {β γ : Type} {R0 : Fm → St → β → γ → Prop} {f : Fm} {x : St} {s : Shared} {v : β} {H : Hp} {Q : γ → Shared → Prop} {E : Value → Shared → Prop} (P : PE (RX R0) f x s (.ok v H) Q E) (S : Std f s.heap H x) {rv : γ} (R : R0 f x v rv) (tk : Nat) : Q rv { s with toks := tk } := P rv s.heap tk x S .refl ⟨rfl, rfl, fun _ => rfl, R⟩
noncomputable def bVar (i : Nat) : Ex := fun ρ H => match ρ[i]? with | some (some v) => .ok v H | _ => .stuck
theorem se_var {i : Nat} {y : Str} {pos : Pos} (hy : I.vn[i]? = some y) : SE I n (eval (.Name y pos)) (bVar i) := by
  intro f env s ρ H x Q E ok q ei S V P
  unfold bVar at P
  split at P
  · rename_i v e
    obtain ⟨y', rv, h1, h2, h3, h4⟩ := V i v e
    obtain rfl : y' = y := by rw [hy] at h1; exact (Option.some.inj h1).symm
    have hQ : Q rv s := P.done S h3 s.toks
    cases h4 with
    | own a b c => exact wpAny_Name (wpAny_loadName_local ei.kind a (b ▸ S.fr.ns) c hQ) h2
    | cell a b c d => exact wpAny_Name (wpAny_loadName_cell ei.kind a b ⟨_, S.here c, d⟩ hQ) h2
    | free a b c d e => exact wpAny_Name (wpAny_loadName_free ei.kind a b ⟨_, S.here c, d⟩ hQ e) h2
    | comp a b c d => exact wpAny_Name (wpAny_loadName_local ei.kind a (c.ns (S.here b)) d hQ) h2
  · exact P.elim
noncomputable def bVal (v : V) : Ex := fun _ H => .ok v H
theorem se_val {t : Env → Sem Value} {v : V} (h : ∀ {M : Model} {A : Around} {env : Env} {s : Shared} {Q E : Value → Shared → Prop}, (∀ rv tk, (∀ w al fz, VR w al fz v rv) → Q rv { s with toks := tk }) → wpAny M A (t env) Q E s) : SE I n t (bVal v) := by
  intro f env s ρ H x Q E ok q ei S V P
  exact h fun rv tk R => P.done S (R _ _ _) tk
theorem se_str {l : Tx} {y : Str} {k : Nat} {pos : Pos} (hy : y = tr l) : SE I n (eval (.Constant (.str y) k pos)) (bVal (.str l)) :=
  se_val fun h => Constant_str (h _ _ fun w al fz => hy ▸ VR.str l _)
theorem se_int {i : Int} {k : Nat} {pos : Pos} : SE I n (eval (.Constant (.int i) k pos)) (bVal (.int i)) := se_val fun h => wpAny_Constant_int (h _ _ fun w al fz => VR.int i _)
theorem se_bool {b : Bool} {k : Nat} {pos : Pos} : SE I n (eval (.Constant (.bool b) k pos)) (bVal (.bool b)) := se_val fun {_ _ _ s _ _} h => Constant_bool (h _ s.toks fun w al fz => VR.bool b)
theorem se_none {k : Nat} {pos : Pos} : SE I n (eval (.Constant .none k pos)) (bVal .none) := se_val fun {_ _ _ s _ _} h => wpAny_Constant_none (h _ s.toks fun w al fz => VR.none)
noncomputable def Op1 {β γ : Type} (R : REL β γ) (I : Info) (n : Nat) (t : Value → Sem γ) (g : V → Hp → Out β) : Prop :=
  ∀ (f : Fm) (s : Shared) (H : Hp) (x : St) (Q : γ → Shared → Prop) (E : Value → Shared → Prop) (v : V) (rv : Value), f.Ok n → (f.q = I.q ∧ f.ro = I.ro) → Std f s.heap H x → VR f.w x.al x.fz v rv → PE R f x s (g v H) Q E → wpAny (model prog f.w) f.A (t rv) Q E s
noncomputable def Op2 {β γ : Type} (R : REL β γ) (I : Info) (n : Nat) (t : Value → Value → Sem γ) (g : V → V → Hp → Out β) : Prop :=
  ∀ (f : Fm) (s : Shared) (H : Hp) (x : St) (Q : γ → Shared → Prop) (E : Value → Shared → Prop) (a b : V) (ra rb : Value), f.Ok n → (f.q = I.q ∧ f.ro = I.ro) → Std f s.heap H x → VR f.w x.al x.fz a ra → VR f.w x.al x.fz b rb → PE R f x s (g a b H) Q E → wpAny (model prog f.w) f.A (t ra rb) Q E s
noncomputable def bOp1 {β : Type} (g : V → Hp → Out β) (e : Ex) : Rho → Hp → Out β := fun ρ H => (e ρ H).bind g
noncomputable def bOp2 {β : Type} (g : V → V → Hp → Out β) (e1 e2 : Ex) : Rho → Hp → Out β := fun ρ H => (e1 ρ H).bind fun a H1 => (e2 ρ H1).bind fun b H2 => g a b H2
theorem se_one {β γ : Type} {R : REL β γ} (hR : Pre R) {t1 : Env → Sem Value} {T : Env → Sem γ} {t : Value → Sem γ} {e : Ex} {g : V → Hp → Out β} (h1 : SE I n t1 e) (ht : Op1 R I n t g)
    (hT : ∀ {w : World} {A : Around} {env : Env} {s : Shared} {Q : γ → Shared → Prop} {E : Value → Shared → Prop}, wpAny (model prog w) A (t1 env) (fun a s1 => wpAny (model prog w) A (t a) Q E s1) E s → wpAny (model prog w) A (T env) Q E s) : SG R I n T (bOp1 g e) := by
  intro f env s ρ H x Q E ok q ei S V P
  exact hT (h1.go ok q ei S V P hR fun v H' x' rv h' tk S' X' R' V' P' => ht f _ _ _ _ _ v rv ok q S' R' P')
theorem se_two {β γ : Type} {R : REL β γ} (hR : Pre R) {t1 t2 : Env → Sem Value} {T : Env → Sem γ} {t : Value → Value → Sem γ} {e1 e2 : Ex} {g : V → V → Hp → Out β} (h1 : SE I n t1 e1) (h2 : SE I n t2 e2) (ht : Op2 R I n t g)
    (hT : ∀ {w : World} {A : Around} {env : Env} {s : Shared} {Q : γ → Shared → Prop} {E : Value → Shared → Prop}, wpAny (model prog w) A (t1 env) (fun a s1 => wpAny (model prog w) A (t2 env) (fun b s2 => wpAny (model prog w) A (t a b) Q E s2) E s1) E s → wpAny (model prog w) A (T env) Q E s) : SG R I n T (bOp2 g e1 e2) := by
  intro f env s ρ H x Q E ok q ei S V P
  refine hT (h1.go ok q ei S V P hR fun v H' x' rv h' tk S' X' R' V' P' => ?_)
  exact h2.go ok q ei S' V' P' hR fun u H2 x2 ru h2 tk2 S2 X2 R2 V2 P2 => ht f _ _ _ _ _ v u rv ru ok q S2 (R'.mono X2.ext) R2 P2
theorem se_bin {op : Operator} {l r : Expr} {pos : Pos} {e1 e2 : Ex} {g : V → V → Hp → Out V} (h1 : SE I n (eval l) e1) (h2 : SE I n (eval r) e2) (ht : Op2 RV I n (binaryOp op) g) : SE I n (eval (.BinOp l op r pos)) (bOp2 g e1 e2) :=
  se_two (preX _) h1 h2 ht wpAny_BinOp
theorem se_cmp {op : CmpOp} {l r : Expr} {pos : Pos} {e1 e2 : Ex} {g : V → V → Hp → Out V} (h1 : SE I n (eval l) e1) (h2 : SE I n (eval r) e2) (ht : Op2 RV I n (compareOp op) g) (hm : behindInMarks op r = false := by with_unfolding_all rfl) : SE I n (eval (.Compare l [op] [r] pos)) (bOp2 g e1 e2) :=
  se_two (preX _) h1 h2 ht fun h => wpAny_Compare1 h hm
theorem se_un {op : UnaryOp} {l : Expr} {pos : Pos} {e : Ex} {g : V → Hp → Out V} (h1 : SE I n (eval l) e) (ht : Op1 RV I n (unaryOp op) g) : SE I n (eval (.UnaryOp op l pos)) (bOp1 g e) :=
  se_one (preX _) h1 ht wpAny_UnaryOp
noncomputable abbrev Bx := Rho → Hp → Out Bool
noncomputable abbrev SB (I : Info) (n : Nat) (e : Expr) (b : Bx) : Prop := SG RB I n (fun env => isTrue e env (eval e env)) b
noncomputable def boolG (g : V → V → Hp → Out V) : V → V → Hp → Out Bool := fun a b H => (g a b H).bind fun v H' => match v with | .bool b => .ok b H' | _ => .stuck
theorem truthy_on {t : Sem Value} {f : Fm} {s : Shared} {x : St} {r : Out V} {Q : Bool → Shared → Prop} {E : Value → Shared → Prop} (ht : ∀ Q' : Value → Shared → Prop, PE RV f x s r Q' E → wpAny (model prog f.w) f.A t Q' E s)
    (P : PE RB f x s (r.bind fun v H' => match v with | .bool b => .ok b H' | _ => .stuck) Q E) : wpAny (model prog f.w) f.A t (fun c s3 => wpAny (model prog f.w) f.A (truthy c) Q E s3) E s := by
  refine ht _ ?_
  revert P
  cases r with
  | ok v H' =>
    intro P rv h' tk x' S' X' R'
    cases R'.2.2.2 with
    | bool c => exact wpAny_truthy_bool (P c h' tk x' S' X' ⟨R'.1, R'.2.1, R'.2.2.1, rfl⟩)
    | _ => exact P.elim
  | fault m i H' => exact fun P => P
  | stuck => exact fun P => P.elim
theorem sb_cmp {op : CmpOp} {l r : Expr} {pos : Pos} {e1 e2 : Ex} {g : V → V → Hp → Out V} (h1 : SE I n (eval l) e1) (h2 : SE I n (eval r) e2) (ht : Op2 RV I n (compareOp op) g) (hm : behindInMarks op r = false := by with_unfolding_all rfl) : SB I n (.Compare l [op] [r] pos) (bOp2 (boolG g) e1 e2) := by
  intro f env s ρ H x Q E ok q ei S V P
  refine wpAny_isTrue_Compare1 ?_ hm
  refine h1.go ok q ei S V P (preX _) fun v H' x' rv h' tk S' X' R' V' P' => ?_
  refine h2.go ok q ei S' V' P' (preX _) fun u H2 x2 ru h2 tk2 S2 X2 R2 V2 P2 => ?_
  exact truthy_on (fun Q' P => ht f _ _ _ _ _ v u rv ru ok q S2 (R'.mono X2.ext) R2 P) P2
noncomputable def bTest (e : Ex) : Bx := fun ρ H => (e ρ H).bind fun v H' => match v with | .bool b => .ok b H' | _ => .stuck
theorem sb_plain {e : Expr} {b : Ex} (h1 : SE I n (eval e) b) (he : ∀ env, isTrue e env (eval e env) = (do let v ← eval e env; standAt e.pos; holding [v] (truthy v))) : SB I n e (bTest b) := by
  intro f env s ρ H x Q E ok q ei S V P
  show wpAny _ _ (isTrue e env (eval e env)) Q E s
  rw [he]
  refine wpAny_bind (wpAny_mono (truthy_on (fun Q' P => h1 f env s ρ H x Q' E ok q ei S V P) P) (fun v s1 h => wpAny_bind (wpAny_standAt (wpAny_holding h))) fun _ _ e => e)
noncomputable def bNotT (b : Bx) : Bx := fun ρ H => (b ρ H).bind fun v H' => .ok (!v) H'
theorem sb_not {e : Expr} {pos : Pos} {b : Bx} (h1 : SB I n e b) : SB I n (.UnaryOp .Not e pos) (bNotT b) := by
  intro f env s ρ H x Q E ok q ei S V P
  show wpAny _ _ (do return !(← isTrue e env (eval e env))) Q E s
  refine wpAny_bind (SG.go (k := fun v H' => .ok (!v) H') h1 ok q ei S V P (preX _) fun v H' x' rv h' tk S' X' R' V' P' => ?_)
  subst R'
  exact wpAny_pure (PE.done (R0 := fun _ _ v rv => rv = v) P' S' rfl tk)
noncomputable def bAnd (a b : Bx) : Bx := fun ρ H => (a ρ H).bind fun v H' => if v then b ρ H' else .ok false H'
noncomputable def bOr (a b : Bx) : Bx := fun ρ H => (a ρ H).bind fun v H' => if v then .ok true H' else b ρ H'
noncomputable abbrev SA (I : Info) (n : Nat) (op : BoolOp) (es : List Expr) (b : Bx) : Prop := SG RB I n (allTrue op es) b
theorem sa_bool {op : BoolOp} {es : List Expr} {pos : Pos} {b : Bx} (h : SA I n op es b) : SB I n (.BoolOp op es pos) b := h
theorem sa_and {e : Expr} {es : List Expr} {a b : Bx} (h1 : SB I n e a) (h2 : SA I n .And es b) : SA I n .And (e :: es) (bAnd a b) := by
  intro f env s ρ H x Q E ok q ei S V P
  show wpAny _ _ (do match BoolOp.And, ← isTrue e env (eval e env) with
    | .And, false => pure false
    | .Or, true => pure true
    | _, _ => allTrue .And es env) Q E s
  refine wpAny_bind (SG.go (k := fun v H' => if v then b ρ H' else .ok false H') h1 ok q ei S V P (preX _) fun v H' x' rv h' tk S' X' R' V' P' => ?_)
  subst R'
  cases rv with
  | true => exact h2 f env _ ρ _ x' Q E ok q ei S' V' P'
  | false => exact wpAny_pure (PE.done (R0 := fun _ _ v rv => rv = v) P' S' rfl tk)
theorem sa_or {e : Expr} {es : List Expr} {a b : Bx} (h1 : SB I n e a) (h2 : SA I n .Or es b) : SA I n .Or (e :: es) (bOr a b) := by
  intro f env s ρ H x Q E ok q ei S V P
  show wpAny _ _ (do match BoolOp.Or, ← isTrue e env (eval e env) with
    | .And, false => pure false
    | .Or, true => pure true
    | _, _ => allTrue .Or es env) Q E s
  refine wpAny_bind (SG.go (k := fun v H' => if v then .ok true H' else b ρ H') h1 ok q ei S V P (preX _) fun v H' x' rv h' tk S' X' R' V' P' => ?_)
  subst R'
  cases rv with
  | false => exact h2 f env _ ρ _ x' Q E ok q ei S' V' P'
  | true => exact wpAny_pure (PE.done (R0 := fun _ _ v rv => rv = v) P' S' rfl tk)
noncomputable def bB (c : Bool) : Bx := fun _ H => .ok c H
theorem sa_nil {op : BoolOp} : SA I n op [] (bB (op == .And)) := by
  intro f env s ρ H x Q E ok q ei S V P
  exact wpAny_pure (PE.done (R0 := fun _ _ v rv => rv = v) P S rfl s.toks)
noncomputable def bIf {β : Type} (c : Bx) (a b : Rho → Hp → Out β) : Rho → Hp → Out β := fun ρ H => (c ρ H).bind fun v H' => if v then a ρ H' else b ρ H'
theorem se_ifExp {c a b : Expr} {pos : Pos} {bc : Bx} {ea eb : Ex} (hc : SB I n c bc) (ha : SE I n (eval a) ea) (hb : SE I n (eval b) eb) : SE I n (eval (.IfExp c a b pos)) (bIf bc ea eb) := by
  intro f env s ρ H x Q E ok q ei S V P
  refine wpAny_IfExp (SG.go (k := fun v H' => if v then ea ρ H' else eb ρ H') hc ok q ei S V P (preX _) fun v H' x' rv h' tk S' X' R' V' P' => ?_)
  subst R'
  cases rv with
  | true => exact ha f env _ ρ _ x' Q E ok q ei S' V' P'
  | false => exact hb f env _ ρ _ x' Q E ok q ei S' V' P'
noncomputable abbrev Exs := Rho → Hp → Out (List V)
noncomputable abbrev SEs (I : Info) (n : Nat) (es : List Expr) (b : Exs) : Prop := ∀ pos, SG RVs I n (fun env => spliced (backTo pos (starEach es env))) b
noncomputable def bNil : Exs := fun _ H => .ok [] H
noncomputable def bCons (e : Ex) (es : Exs) : Exs := fun ρ H => (e ρ H).bind fun v H' => (es ρ H').bind fun vs H2 => .ok (v :: vs) H2
theorem ses_nil : SEs I n [] bNil := by
  intro pos f env s ρ H x Q E ok q ei S V P
  exact spliced_none (PE.done (R0 := fun f x v rv => VRs f.w x.al x.fz v rv) P S .nil s.toks)
theorem ses_cons {e : Expr} {es : List Expr} {b : Ex} {bs : Exs} (h1 : SE I n (eval e) b) (h2 : SEs I n es bs) (he : ∀ env, starEach (e :: es) env = (false, eval e env) :: starEach es env := by intro _; rfl) : SEs I n (e :: es) (bCons b bs) := by
  intro pos f env s ρ H x Q E ok q ei S V P
  refine spliced_more ?_ (he env)
  refine h1.go ok q ei S V P (preX _) fun v H' x' rv h' tk S' X' R' V' P' => ?_
  refine SG.go (h2 pos) ok q ei S' V' P' (preX _) fun vs H2 x2 rvs h2 tk2 S2 X2 R2 V2 P2 => ?_
  exact PE.done (R0 := fun f x v rv => VRs f.w x.al x.fz v rv) P2 S2 (.cons (R'.mono X2.ext) R2) tk2
end
end

section
open PySem PySem.W PySem.Calls PyProof.Rows PySem.Spec
noncomputable def LeS (a b : Str) : Prop := a.cps.toList ≤ b.cps.toList
theorem leS_trans {a b c : Str} (x : LeS a b) (y : LeS b c) : LeS a c := List.le_trans x y
theorem leS_anti {a b : Str} (x : LeS a b) (y : LeS b a) : a = b := by
  have := List.le_antisymm x y
  obtain ⟨⟨a⟩⟩ := a; obtain ⟨⟨b⟩⟩ := b
  simp only at this
  rw [this]
theorem rising_pair : ∀ (l : List Str) (x : Str), risingS x l = true → (∀ y ∈ l, LeS x y) ∧ l.Pairwise LeS
  | [], _, _ => ⟨(fun _ h => nomatch h), List.Pairwise.nil⟩
  | y :: r, x, h => by
    simp only [risingS, Bool.and_eq_true, Bool.not_eq_true'] at h
    obtain ⟨h1, h2⟩ := rising_pair r y h.2
    have hxy : LeS x y := by
      have := h.1
      rw [ltCps_eq] at this
      simpa [LeS] using this
    refine ⟨fun z hz => ?_, .cons h1 h2⟩
    rcases List.mem_cons.mp hz with rfl | hz
    · exact hxy
    · exact leS_trans hxy (h1 z hz)
theorem sorted_pair : ∀ {l : List Str}, sortedS l = true → l.Pairwise LeS
  | [], _ => .nil
  | x :: r, h => .cons (rising_pair r x h).1 (rising_pair r x h).2
theorem sort_uniq : ∀ {a b : List Str}, a.Perm b → a.Pairwise LeS → b.Pairwise LeS → a = b
  | [], _, p, _, _ => p.nil_eq
  | x :: r, b, p, ha, hb => by
    cases b with
    | nil => exact absurd p.length_eq (by simp)
    | cons y t =>
      have hx : x ∈ y :: t := p.mem_iff.mp (.head _)
      have hy : y ∈ x :: r := p.mem_iff.mpr (.head _)
      have e : x = y := by
        rcases List.mem_cons.mp hx with h | h
        · exact h
        · rcases List.mem_cons.mp hy with h' | h'
          · exact h'.symm
          · exact leS_anti ((List.pairwise_cons.mp ha).1 y h') ((List.pairwise_cons.mp hb).1 x h)
      subst e
      rw [sort_uniq (List.Perm.cons_inv p) (List.pairwise_cons.mp ha).2 (List.pairwise_cons.mp hb).2]
theorem strs_of : ∀ {vs : List Value} {kvs : List (Str × Value)}, vs.length = kvs.length → (∀ (j : Nat) (u : Value), vs[j]? = some u → ∃ k x t, kvs[j]? = some (k, x) ∧ u = .str k t) → StrsAre vs (kvs.map (·.1))
    := by
  intro vs
  induction vs with
  | nil =>
    intro kvs hl _
    cases kvs with
    | nil => exact .nil
    | cons _ _ => cases hl
  | cons v vs ih =>
    intro kvs hl h
    cases kvs with
    | nil => cases hl
    | cons p kvs =>
      obtain ⟨k', x', t, e, rfl⟩ := h 0 v rfl
      cases e
      exact .cons _ t (ih (Nat.succ.inj hl) fun j u hu => h (j + 1) u hu)
section
variable {prog : Program} {w : World} {A : Around} {E : Value → Shared → Prop} {s : Shared} {h₀ : Heap} {L d : Addr} {m : Str → Option Value} {news : Led} {o : Obj} {kvs : List (Str × Value)} {Q : Value → Shared → Prop}
theorem sorted_dict (hh : A.handled = none) (F : Fr h₀ L s.heap m) (N : News h₀ L s.heap news) (hm : (d, o) ∈ news) (hd : o.IsDictOf (PySem.strKind prog w) kvs) (lo : (d == sysModules) = false) (h64 : kvs.length < 64)
    (k : ∀ D h' tk vs ss e, Fr h₀ L h' m → News h₀ L h' ((D, listOf (List.toArray vs) e) :: news) → (∀ q ∈ news, q.1 < D) → StrsAre vs ss → ss.Perm (kvs.map (·.1)) → sortedS ss = true → Q (.ref D) { s with heap := h', toks := tk }) :
    wpAny (model prog w) A (call (.builtin "sorted") [.ref d]) Q E s := by
  obtain ⟨ep, hat⟩ := (kda_dict N hm hd).dictAt
  refine kdu_sorted (kdl_dict (knd := PySem.strKind prog w) (kvs := kvs) (ep := ep) lo) hh F N hat (by rw [sizeLine_eq]; omega) fun D h' tk vs F' N' l1 hl hv => ?_
  have hS : StrsAre vs (kvs.map (·.1)) := strs_of hl fun j u hu => by
    obtain ⟨k', x, hx, hk⟩ := hv j u hu
    obtain ⟨t, rfl⟩ := Value.isStrOf_shape hk
    exact ⟨k', x, t, hx, rfl⟩
  have ho : h'.get? D = some (seqObj "list" vs.toArray 0) := (N' _ (.head _)).1
  refine wpAny_call_entry PyProof.Rows.slot_list_sort ⟨_, ho, rfl⟩ PyProof.Rows.entry_list_sort (list_sort_treeK strKind_oneLt (s := { s with heap := h', toks := tk }) (n := 0) ho hS.keysOf (fun v₁ v₂ rest e => keyKind_strs (by rw [← e]; exact hS)) (by rw [hl]; exact h64) fun st' hp hs => ⟨.none, rfl, ?_⟩) (PyProof.Rows.args_list_sort _)
  obtain ⟨ss', h1, h2, h3⟩ := sorted_out_str hS hp hs
  obtain ⟨e, he⟩ := sortedHeap_at (out := (arrOf st').map (·.2)) ho
  have old : ∀ b o, b ≠ D → h'.get? b = some o → (sortedHeap h' D vs ((arrOf st').map (·.2))).get? b = some o := fun b o hb e => by
    rw [sortedHeap_old hb (Heap.lt_size e)]; exact e
  have hDL : D ≠ L := (N' _ (.head _)).2.1
  have hD0 : h₀.get? D = none := (N' _ (.head _)).2.2
  obtain ⟨oL, es, epL, hL, hLd, hLk, hLf⟩ := F'.ns
  refine k D _ tk ((arrOf st').map (·.2)).toList ss' e ⟨⟨oL, es, epL, old _ _ (Ne.symm hDL) hL, hLd, hLk, hLf⟩, fun b o q => old b o (fun z => by rw [z, hD0] at q; cases q) (F'.keep b o q), F'.above⟩ (fun p hp => ?_) l1 h1 h2 h3
  rcases List.mem_cons.mp hp with rfl | hp
  · exact ⟨by rw [Array.toArray_toList]; exact he, hDL, hD0⟩
  · have n := N' p (.tail _ hp)
    exact ⟨old _ _ (Nat.ne_of_lt (l1 p hp)) n.1, n.2⟩
end
end

section
open PySem PySem.W PySem.Calls PyProof.Rows PySem.Spec
theorem item_any {prog : Program} {w : World} {A : Around} {E : Value → Shared → Prop} {s : Shared} {h₀ : Heap} {L d : Addr} {news : Led} {o : Obj} {kvs : List (Str × Value)} {k : Str} {t : Tok} {v : Value} {value slice : PySem.Expr} {Q : Value → Shared → Prop} (N : News h₀ L s.heap news) (hp : (d, o) ∈ news) (hd : o.IsDictOf (strKind prog w) kvs) (hl : valueAt kvs k = some v) (h : Q v { s with toks := s.toks + 1 })
    (hs : subscripted slice false (.ref d) (.str k t) = operate [.ref d, .str k t] (getItem (.ref d) (.str k t))) :
    wpAny (model prog w) A (subscriptTail value slice (.ref d) (.str k t)) Q E s :=
  have hD := kda_dict N hp hd
  tail_any hD.typeIs slot_dict_getitem.lookup (wpAny_getItem_of (strKind_is _ _ _ _) hD.mapOf hl h) hs
noncomputable abbrev has (kvs : List (Str × Value)) (n : Str) : Bool := (valueAt kvs n).isSome
end

section
open PySem PySem.W PySem.Calls PyProof.Rows PySem.Spec
inductive Both {α β : Type} (R : α → β → Prop) : List α → List β → Prop
  | nil : Both R [] []
  | cons {a : α} {b : β} {as : List α} {bs : List β} : R a b → Both R as bs → Both R (a :: as) (b :: bs)
namespace Both
variable {α β : Type} {R R' : α → β → Prop}
theorem len {as : List α} {bs : List β} (h : Both R as bs) : as.length = bs.length := by
  induction h with
  | nil => rfl
  | cons _ _ ih => simp [ih]
theorem at_ {as : List α} {bs : List β} (h : Both R as bs) : ∀ {i : Nat} {a : α} {b : β}, as[i]? = some a → bs[i]? = some b → R a b := by
  induction h with
  | nil => intro i a b h; cases h
  | cons r _ ih =>
    intro i a b h1 h2
    cases i with
    | zero => cases h1; cases h2; exact r
    | succ i => exact ih h1 h2
theorem mono {as : List α} {bs : List β} (h : Both R as bs) (k : ∀ a b, R a b → R' a b) : Both R' as bs := by
  induction h with
  | nil => exact .nil
  | cons r _ ih => exact .cons (k _ _ r) ih
theorem refl {R : α → α → Prop} (h : ∀ a, R a a) : ∀ as : List α, Both R as as
  | [] => .nil
  | _ :: r => .cons (h _) (refl h r)
end Both
theorem all_true (n : Nat) : (List.range n).all (fun _ => true) = true := by simp
inductive VS0 : Value → Value → Prop
  | same (v : Value) : VS0 v v
  | str (s : Str) (t u : Tok) : VS0 (.str s t) (.str s u)
section
variable {A : Around} {s : Shared} {blk : Led}
theorem VS0.eq {v v' : Value} (h : VS0 v v') : SeqAt.EqAt A s v v' true := by
  cases h with
  | same => exact SeqAt.EqAt.same _
  | str x t u =>
    have := (eqGives_str x x t u).at A s
    rwa [beq_self_eq_true] at this
theorem tup_eq {A : Around} {a b : Addr} {xs ys : List Value} (h1 : s.heap.get? a = some (tupO xs)) (h2 : s.heap.get? b = some (tupO ys)) (hu : A.units < cLine) (hl : xs.length = ys.length) (he : ∀ (i : Nat) (v v' : Value), xs[i]? = some v → ys[i]? = some v' → SeqAt.EqAt A.in1 s v v' true) : SeqAt.EqAt A s (.ref a) (.ref b) true := by
  by_cases hab : a = b
  · subst hab; exact SeqAt.EqAt.same _
  · refine SeqAt.EqAt.of_refs hab ?_
    have := SeqAt.RcAt.tuples (A := A) (s := s) (l := a) (b := b) (items := xs.toArray) (items2 := ys.toArray) (e := fun _ => true) ⟨_, h1, rfl, _, rfl⟩ ⟨_, h2, rfl, _, rfl⟩ hu (fun j j1 j2 => he j _ _ (by simp) (by simp))
    rw [all_true] at this
    simpa [hl] using this
theorem both_eqs {R : Value → Value → Prop} {xs ys : List Value} (h : Both R xs ys) (he : ∀ v v', R v v' → SeqAt.EqAt A s v v' true) : ∀ (i : Nat) (v v' : Value), xs[i]? = some v → ys[i]? = some v' → SeqAt.EqAt A s v v' true := fun _ _ _ e1 e2 => he _ _ (h.at_ e1 e2)
end
section
variable {prog : Program} {w : World} {A : Around} {E : Value → Shared → Prop} {s : Shared} {h₀ : Heap} {L a b : Addr} {news blk : Led} {oa ob : Obj} {ka kb : List (Str × Value)} {Q : Value → Shared → Prop}
end
end

section
open PySem PySem.W PySem.Calls PyProof.Rows PySem.Spec
theorem adr_app (l r : Led) : adr (l ++ r) = adr l ++ adr r := List.map_append
section
variable {f : Fm} {h h' : Heap} {H : Hp} {x : St}
noncomputable abbrev St.ch (x : St) : Led := x.mu ++ (x.tb ++ x.cs)
theorem St.led_eq (x : St) : x.led = x.ch ++ x.fz := by simp [St.ch, List.append_assoc]
theorem mem_led {x : St} {p : Addr × Obj} : p ∈ x.led ↔ p ∈ x.ch ∨ p ∈ x.fz := by rw [St.led_eq, List.mem_append]
theorem Std.frz {D : Addr} {o : Obj} (S : Std f h H x) (F : Fr x.gc f.L h' x.m) (N : News x.gc f.L h' ((D, o) :: x.led)) (l : ∀ p ∈ x.led, p.1 < D) :
    Std f h' H { x with fz := (D, o) :: x.fz } ∧ ExtE f x { x with fz := (D, o) :: x.fz } := by
  have X : Ext x.al x.fz x.al ((D, o) :: x.fz) := ⟨⟨[], by simp⟩, fun p hp => .tail _ hp⟩
  refine ⟨⟨S.below, S.slip, S.quiet, F, fun p hp => ?_, S.objs.mono X, S.tabs.mono X.fz, S.nd, fun p hp => ?_, S.cells⟩, X, rfl, rfl, fun _ => rfl⟩
  · refine N p ?_
    rw [mem_led] at hp
    rcases hp with hp | hp
    · exact .tail _ (mem_led.mpr (.inl hp))
    · rcases List.mem_cons.mp hp with rfl | hp
      · exact .head _
      · exact .tail _ (mem_led.mpr (.inr hp))
  · rcases List.mem_cons.mp hp with rfl | hp
    · intro q
      obtain ⟨p', hp', e⟩ := List.mem_map.mp q
      exact absurd e (Nat.ne_of_lt (l p' (mem_led.mpr (.inl hp'))))
    · exact S.off p hp
theorem Std.more {D : Addr} {o : O} {ro : Obj} (hro : f.ro = false) (S : Std f h H x) (F : Fr x.gc f.L h' x.m) (N : News x.gc f.L h' ((D, ro) :: x.led)) (l : ∀ p ∈ x.led, p.1 < D) (R : OR f.w (x.al ++ [D]) x.fz D o ro) :
    Std f h' (H ++ [o]) { x with mu := x.mu ++ [(D, ro)] } ∧ ExtE f x { x with mu := x.mu ++ [(D, ro)] } ∧ adr (x.mu ++ [(D, ro)]) = x.al ++ [D] := by
  have e : adr (x.mu ++ [(D, ro)]) = x.al ++ [D] := adr_app _ _
  have X : Ext x.al x.fz (adr (x.mu ++ [(D, ro)])) x.fz := ⟨⟨[D], e⟩, fun p hp => hp⟩
  have nD : ∀ p ∈ x.led, p.1 ≠ D := fun p hp => Nat.ne_of_lt (l p hp)
  refine ⟨⟨S.below, S.slip, S.quiet, F, fun p hp => N p ?_, (S.objs.mono X).app (.cons (by rw [e]; exact R) .nil), S.tabs, ?_, fun p hp q => ?_, S.cells⟩, ⟨X, rfl, rfl, fun h => by rw [hro] at h; cases h⟩, e⟩
  · simp only [St.led, List.mem_append, List.mem_cons, List.not_mem_nil, or_false] at hp ⊢
    rcases hp with (hp | hp) | hp
    · exact .inr (.inl hp)
    · exact .inl hp
    · exact .inr (.inr hp)
  · have nd := S.nd
    simp only [adr, List.map_append, List.map_cons, List.map_nil] at nd ⊢
    rw [List.append_assoc, List.singleton_append]
    rw [List.nodup_append] at *
    obtain ⟨n1, n2, n3⟩ := nd
    refine ⟨n1, List.nodup_cons.mpr ⟨fun q => ?_, n2⟩, fun a ha b hb => ?_⟩
    · rcases List.mem_append.mp q with q | q <;> (obtain ⟨p', hp', e'⟩ := List.mem_map.mp q)
      · exact nD p' (by simp [St.led, hp']) e'
      · exact nD p' (by simp [St.led, hp']) e'
    · rcases List.mem_cons.mp hb with rfl | hb
      · obtain ⟨p', hp', e'⟩ := List.mem_map.mp ha
        exact fun e2 => nD p' (by simp [St.led, hp']) (e'.trans e2)
      · exact n3 a ha b hb
  · refine S.off p hp ?_
    simp only [adr, List.map_append, List.map_cons, List.map_nil, List.mem_append, List.mem_cons, List.not_mem_nil, or_false] at q ⊢
    rcases q with (q | q) | q
    · exact .inl q
    · exact absurd q (nD p (mem_led.mpr (.inr hp)))
    · exact .inr q
theorem Std.place {k : Nat} {o : O} (S : Std f h H x) (e : H[k]? = some o) : ∃ a ro, (a, ro) ∈ x.mu ∧ (a, ro) ∈ x.led ∧ x.al[k]? = some a ∧ OR f.w x.al x.fz a o ro ∧ ∃ g : Obj → Led,
    UpdF a ro x.led (fun ro' => g ro' ++ (x.tb ++ (x.cs ++ x.fz))) ∧ (∃ pre post, (∀ ro', g ro' = pre ++ (a, ro') :: post) ∧ x.mu = pre ++ (a, ro) :: post) ∧ ∀ ro', adr (g ro') = x.al ∧
      ∀ h' o', Fr x.gc f.L h' x.m → News x.gc f.L h' (g ro' ++ (x.tb ++ (x.cs ++ x.fz))) → OR f.w x.al x.fz a o' ro' → Std f h' (H.set k o') { x with mu := g ro' } ∧ (f.ro = false → ExtE f x { x with mu := g ro' }) := by
  obtain ⟨pre, a, ro, post, hmu, hk, R, upd⟩ := S.objs.at e
  have nd := S.nd
  have hal : ∀ ro', adr (pre ++ (a, ro') :: post) = x.al := fun ro' => by show _ = adr x.mu; rw [hmu]; simp [adr]
  have hmem : (a, ro) ∈ x.mu := by rw [hmu]; simp
  have mk : ∀ (l : Led) (r : Led), (∀ p ∈ l, p.1 ≠ a) → (∀ p ∈ r, p.1 ≠ a) → UpdF a ro (l ++ (a, ro) :: r) (fun ro' => l ++ (a, ro') :: r) := by
    intro l r h1 h2
    induction l with
    | nil => exact .head h2
    | cons p l ih => exact .tail (h1 p (.head _)) (ih fun q hq => h1 q (.tail _ hq))
  rw [hmu] at nd
  simp only [adr, List.map_append, List.map_cons, List.append_assoc, List.cons_append] at nd
  rw [List.nodup_append, List.nodup_cons] at nd
  obtain ⟨n1, ⟨n2, n3⟩, n4⟩ := nd
  have hpre : ∀ p ∈ pre, p.1 ≠ a := fun p hp => n4 p.1 (List.mem_map_of_mem hp) a (.head _)
  have hpost : ∀ p ∈ post ++ (x.tb ++ (x.cs ++ x.fz)), p.1 ≠ a := fun p hp e => by
    simp only [List.mem_append] at hp
    have inN : p ∈ post ∨ p ∈ x.tb ∨ p ∈ x.cs → False := fun q => n2 (e ▸ by
      simp only [List.mem_append]
      rcases q with q | q | q
      · exact .inl (List.mem_map_of_mem q)
      · exact .inr (.inl (List.mem_map_of_mem q))
      · exact .inr (.inr (List.mem_map_of_mem q)))
    rcases hp with hp | hp | hp | hp
    · exact inN (.inl hp)
    · exact inN (.inr (.inl hp))
    · exact inN (.inr (.inr hp))
    · exact S.off p hp (e ▸ List.mem_map_of_mem (List.mem_append_left _ hmem))
  refine ⟨a, ro, hmem, mem_led.mpr (.inl (List.mem_append_left _ hmem)), ?_, R, fun ro' => pre ++ (a, ro') :: post, ?_, ⟨pre, post, fun _ => rfl, hmu⟩, fun ro' => ⟨hal ro', fun h' o' F N R' => ?_⟩⟩
  · show (adr x.mu)[k]? = some a
    rw [hmu, ← hk]; exact addr_at
  · have := mk pre (post ++ (x.tb ++ (x.cs ++ x.fz))) hpre hpost
    simpa only [St.led, hmu, List.append_assoc, List.cons_append] using this
  · refine ⟨⟨S.below, S.slip, S.quiet, F, N, ?_, S.tabs, ?_, ?_, S.cells⟩, fun hro => ⟨⟨⟨[], by rw [List.append_nil]; exact hal ro'⟩, fun _ h => h⟩, rfl, rfl, fun h => by rw [hro] at h; cases h⟩⟩
    · show Objs f.w (adr (pre ++ (a, ro') :: post)) x.fz _ _
      rw [hal]
      exact upd o' ro' R'
    · show (adr ((pre ++ (a, ro') :: post) ++ (x.tb ++ x.cs))).Nodup
      rw [adr_app, hal, ← adr_app]
      exact S.nd
    · intro p hp
      show p.1 ∉ adr ((pre ++ (a, ro') :: post) ++ (x.tb ++ x.cs))
      rw [adr_app, hal, ← adr_app]
      exact S.off p hp
structure To (f : Fm) (x : St) (h' : Heap) (H' : Hp) (x' : St) : Prop where
  std : Std f h' H' x'
  ext : ExtE f x x'
theorem PE.to {β γ : Type} {R0 : Fm → St → β → γ → Prop} {f : Fm} {x x' : St} {s : Shared} {v : β} {h' : Heap} {H' : Hp} {Q : γ → Shared → Prop} {E : Value → Shared → Prop} (P : PE (RX R0) f x s (.ok v H') Q E) (T : To f x h' H' x') {rv : γ} (R : R0 f x' v rv) (tk : Nat) : Q rv { s with heap := h', toks := tk } :=
  P rv h' tk x' T.std T.ext.ext ⟨T.ext.m, T.ext.cs, T.ext.ro, R⟩
inductive Place (f : Fm) (h : Heap) (H : Hp) (x : St) (k : Nat) (o : O) (a : Addr) : Prop
  | mk (ro : Obj) (g : Obj → Led) (mu : (a, ro) ∈ x.mu) (led : (a, ro) ∈ x.led) (R : OR f.w x.al x.fz a o ro) (U : UpdF a ro x.led (fun ro' => g ro' ++ (x.tb ++ (x.cs ++ x.fz))))
    (upd : f.ro = false → ∀ ro' h' o', Fr x.gc f.L h' x.m → News x.gc f.L h' (g ro' ++ (x.tb ++ (x.cs ++ x.fz))) → OR f.w x.al x.fz a o' ro' → To f x h' (H.set k o') { x with mu := g ro' }) : Place f h H x k o a
theorem Std.at_ {k : Nat} {o : O} {a : Addr} (S : Std f h H x) (e : H[k]? = some o) (ha : x.al[k]? = some a) : Place f h H x k o a := by
  obtain ⟨a', ro, hm, hl, ha', R, g, U, _, upd⟩ := S.place e
  rw [ha] at ha'
  cases ha'
  exact ⟨ro, g, hm, hl, R, U, fun hro ro' h' o' F N R' => let ⟨A, B⟩ := (upd ro').2 h' o' F N R'; ⟨A, B hro⟩⟩
theorem OR.toDict {w : World} {al : List Addr} {fz : Led} {a : Addr} {es : List (Tx × V)} {ro : Obj} : OR w al fz a (.dict es) ro → ∃ rs, KVs w al fz es rs ∧ ro.IsDictOf (strKind prog w) rs ∧ (a == sysModules) = false
  | .dict k d l => ⟨_, k, d, l⟩
theorem OR.toList {w : World} {al : List Addr} {fz : Led} {a : Addr} {vs : List V} {ro : Obj} : OR w al fz a (.list vs) ro → ∃ rs n, ro = listOf rs.toArray n ∧ VRs w al fz vs rs
  | .list k => ⟨_, _, rfl, k⟩
theorem OR.toInst {w : World} {al : List Addr} {fz : Led} {a : Addr} {c d : Nat} {ro : Obj} : OR w al fz a (.inst c d) ro → ∃ da, ro = instObj c da ∧ al[d]? = some da
  | .inst k => ⟨_, rfl, k⟩
theorem OR.toFld {w : World} {al : List Addr} {fz : Led} {a : Addr} {fs : List (Tx × V)} {ro : Obj} : OR w al fz a (.fld fs) ro → ∃ es n, ro = dictOf es n ∧ FLs w al fz fs es
  | .fld k => ⟨_, _, rfl, k⟩
inductive DictAt (f : Fm) (x : St) (a : Addr) (es : List (Tx × V)) : Prop
  | mk (ro : Obj) (rs : List (Str × Value)) (led : (a, ro) ∈ x.led) (kvs : KVs f.w x.al x.fz es rs) (d : ro.IsDictOf (strKind prog f.w) rs) (sys : (a == sysModules) = false) : DictAt f x a es
theorem Std.dictAt {i : Nat} {a : Addr} {es : List (Tx × V)} (S : Std f h H x) (e : H[i]? = some (.dict es)) (ha : x.al[i]? = some a) : DictAt f x a es := by
  cases S.at_ e ha with
  | mk ro g mu led R U upd =>
    obtain ⟨rs, k, d, l⟩ := R.toDict
    exact ⟨ro, rs, led, k, d, l⟩
inductive ListAt (f : Fm) (h : Heap) (x : St) (a : Addr) (vs : List V) : Prop
  | mk (rs : List Value) (n : Nat) (at_ : h.get? a = some (listOf rs.toArray n)) (led : (a, listOf rs.toArray n) ∈ x.led) (vrs : VRs f.w x.al x.fz vs rs) : ListAt f h x a vs
theorem Std.listAt {i : Nat} {a : Addr} {vs : List V} (S : Std f h H x) (e : H[i]? = some (.list vs)) (ha : x.al[i]? = some a) : ListAt f h x a vs := by
  cases S.at_ e ha with
  | mk ro g mu led R U upd =>
    obtain ⟨rs, n, rfl, k⟩ := R.toList
    exact ⟨rs, n, S.muAt mu, led, k⟩
end
end

section
open PySem PySem.W PySem.Calls PyProof.Rows PySem.Spec
theorem PE.guard {β γ : Type} {R : REL β γ} {f : Fm} {x : St} {s : Shared} {b : Bool} {r : Out β} {Q : γ → Shared → Prop} {E : Value → Shared → Prop} (h : PE R f x s (if b then r else .stuck) Q E) : b = true ∧ PE R f x s r Q E := by
  cases b with
  | true => exact ⟨rfl, h⟩
  | false => exact h.elim
theorem lt_less {u a b c : Nat} (h : u + a < c) (k : b ≤ a) : u + b < c := Nat.lt_of_le_of_lt (Nat.add_le_add_left k u) h
theorem fits {n : Nat} (h : Nat.ble n 16384 = true) : n ≤ sizeLine := by rw [sizeLine_eq]; exact Nat.le_trans (Nat.le_of_ble_eq_true h) (by decide)
theorem Std.low {f : Fm} {h : Heap} {H : Hp} {x : St} (S : Std f h H x) : ∀ p ∈ x.led, p.1 < h.objs.size := fun p hp => Heap.lt_size (S.news p hp).1
section
variable {I : Info} {n : Nat}
noncomputable def bTup (es : Exs) : Ex := fun ρ H => (es ρ H).bind fun vs H' => if Nat.ble vs.length 16384 then .ok (.tup vs) H' else .stuck
theorem se_tup {elts : List Expr} {k : Nat} {pos : Pos} {es : Exs} (h : SEs I n elts es) : SE I n (eval (.Tuple elts k pos)) (bTup es) := by
  intro f env s ρ H x Q E ok q ei S V P
  refine Tuple_ (SG.go (h pos) ok q ei S V P (preX _) fun vs H' x' rvs h' tk S' X' R' V' P' => ?_)
  obtain ⟨g, P'⟩ := P'.guard
  refine kup_newTuple S'.fr S'.news (fun D h2 F N l => ?_) (by rw [← R'.len]; exact fits g)
  obtain ⟨S2, X2⟩ := S'.frz F N l
  exact P' (.ref D) h2 tk _ S2 X2.ext ⟨rfl, rfl, X2.ro, .tup (.head _) (R'.mono X2.ext)⟩
noncomputable def bLst (es : Exs) : Ex := fun ρ H => (es ρ H).bind fun vs H' => if Nat.ble vs.length 16384 then .ok (.lst vs) H' else .stuck
theorem se_lst {elts : List Expr} {pos : Pos} {es : Exs} (h : SEs I n elts es) : SE I n (eval (.List elts pos)) (bLst es) := by
  intro f env s ρ H x Q E ok q ei S V P
  refine List_ (SG.go (h pos) ok q ei S V P (preX _) fun vs H' x' rvs h' tk S' X' R' V' P' => ?_)
  obtain ⟨g, P'⟩ := P'.guard
  refine newList_K S'.fr S'.news (fun D h2 F N l => ?_) (by rw [← R'.len]; exact fits g)
  obtain ⟨S2, X2⟩ := S'.frz F N l
  exact P' (.ref D) h2 tk _ S2 X2.ext ⟨rfl, rfl, X2.ro, .lst (.head _) (R'.mono X2.ext)⟩
noncomputable def bLstM (es : Exs) : Ex := fun ρ H => (es ρ H).bind fun vs H' => if Nat.ble vs.length 16384 then .ok (.ref H'.length) (H' ++ [.list vs]) else .stuck
theorem se_lstM (hro : I.ro = false) {elts : List Expr} {pos : Pos} {es : Exs} (h : SEs I n elts es) : SE I n (eval (.List elts pos)) (bLstM es) := by
  intro f env s ρ H x Q E ok q ei S V P
  refine List_ (SG.go (h pos) ok q ei S V P (preX _) fun vs H' x' rvs h' tk S' X' R' V' P' => ?_)
  obtain ⟨g, P'⟩ := P'.guard
  refine newList_K S'.fr S'.news (fun D h2 F N l => ?_) (by rw [← R'.len]; exact fits g)
  have E1 : Ext x'.al x'.fz (x'.al ++ [D]) x'.fz := ⟨⟨[D], rfl⟩, fun _ h => h⟩
  obtain ⟨S2, X2, e⟩ := S'.more (o := .list vs) (q.2.trans hro) F N l (.list (R'.mono E1))
  refine P' (.ref D) h2 tk _ S2 X2.ext ⟨rfl, rfl, X2.ro, .ref ?_⟩
  show (adr (x'.mu ++ [(D, _)]))[H'.length]? = some D
  rw [e, S'.objs.len]
  simp [St.al, adr]
noncomputable def vAdd : V → V → Hp → Out V
  | .int a, .int b, H => .ok (.int (a + b)) H
  | .str a, .str b, H => if Nat.ble (a.length + b.length) 16384 then .ok (.str (a ++ b)) H else .stuck
  | .lst a, .lst b, H => if Nat.ble (a.length + b.length) 16384 then .ok (.lst (a ++ b)) H else .stuck
  | _, _, _ => .stuck
theorem PE.ns {β γ : Type} {R : REL β γ} {f : Fm} {x : St} {s : Shared} {r : Out β} {Q : γ → Shared → Prop} {E : Value → Shared → Prop} (h : PE R f x s r Q E) : r ≠ .stuck := fun e => by rw [e] at h; exact h
inductive AddSh : V → V → Prop
  | int (i j : Int) : AddSh (.int i) (.int j)
  | str (a b : Tx) : AddSh (.str a) (.str b)
  | lst (a b : List V) : AddSh (.lst a) (.lst b)
theorem vAdd_sh (a b : V) (H : Hp) (h : vAdd a b H ≠ .stuck) : AddSh a b := by
  cases a <;> first | exact absurd rfl h | (cases b <;> first | exact absurd rfl h | constructor)
theorem op_add : Op2 RV I n (binaryOp .Add) vAdd := by
  intro f s H x Q E a b ra rb ok q S Ra Rb P
  cases vAdd_sh a b H P.ns with
  | int i j =>
    obtain ⟨t, rfl⟩ := Ra.toInt
    obtain ⟨u, rfl⟩ := Rb.toInt
    exact add_int (PE.done (R0 := fun f x v rv => VR f.w x.al x.fz v rv) P S (.int _ _) (s.toks + 1))
  | str a b =>
    obtain ⟨t, rfl⟩ := Ra.toStr
    obtain ⟨u, rfl⟩ := Rb.toStr
    obtain ⟨g, P⟩ := PE.guard P
    refine add_short (i := a.length) (j := b.length) (fun t' tk => ?_) (Nat.le_refl _) (Nat.le_refl _) (Nat.le_trans (Nat.le_of_ble_eq_true g) (by decide))
    rw [tr_app]
    exact PE.done (R0 := fun f x v rv => VR f.w x.al x.fz v rv) P S (.str _ _) tk
  | lst a b =>
    obtain ⟨aa, ra, na, rfl, m1, h1⟩ := Ra.toLst
    obtain ⟨ab, rb, nb, rfl, m2, h2⟩ := Rb.toLst
    obtain ⟨g, P⟩ := PE.guard P
    refine add_lists S.fr S.news ⟨_, S.fzAt m1, rfl, _, rfl⟩ ⟨_, S.fzAt m2, rfl, _, rfl⟩ (fun h' F N => ?_) (by rw [← h1.len, ← h2.len]; exact fits g)
    obtain ⟨S2, X2⟩ := S.frz F N S.low
    exact P _ h' s.toks _ S2 X2.ext ⟨rfl, rfl, X2.ro, .lst (.head _) ((h1.app h2).mono X2.ext)⟩
noncomputable def onInts {β : Type} (g : Int → Int → Hp → Out β) : V → V → Hp → Out β
  | .int a, .int b, H => g a b H
  | _, _, _ => .stuck
inductive IntSh : V → V → Prop
  | mk (i j : Int) : IntSh (.int i) (.int j)
theorem onInts_sh {β : Type} {g : Int → Int → Hp → Out β} (a b : V) (H : Hp) (h : onInts g a b H ≠ .stuck) : IntSh a b := by
  cases a <;> first | exact absurd rfl h | (cases b <;> first | exact absurd rfl h | constructor)
theorem op_ints {γ : Type} {R : REL V γ} {t : Value → Value → Sem γ} {g : Int → Int → Hp → Out V}
    (h : ∀ (f : Fm) (s : Shared) (H : Hp) (x : St) (Q : γ → Shared → Prop) (E : Value → Shared → Prop) (a b : Int) (ta tb : Tok), Std f s.heap H x → PE R f x s (g a b H) Q E → wpAny (model prog f.w) f.A (t (.int a ta) (.int b tb)) Q E s) : Op2 R I n t (onInts g) := by
  intro f s H x Q E a b ra rb ok q S Ra Rb P
  cases onInts_sh a b H P.ns with
  | mk i j =>
    obtain ⟨t, rfl⟩ := Ra.toInt
    obtain ⟨u, rfl⟩ := Rb.toInt
    exact h f s H x Q E i j t u S P
noncomputable def vSub : V → V → Hp → Out V := onInts fun a b H => .ok (.int (a - b)) H
theorem op_sub : Op2 RV I n (binaryOp .Sub) vSub := op_ints fun f s H x Q E a b ta tb S P => sub_int (PE.done (R0 := fun f x v rv => VR f.w x.al x.fz v rv) P S (.int _ _) (s.toks + 1))
noncomputable def vLt : V → V → Hp → Out V := onInts fun a b H => .ok (.bool (decide (a < b))) H
theorem op_lt : Op2 RV I n (compareOp .Lt) vLt := op_ints fun f s H x Q E a b ta tb S P => PyProof.Rows.lt_int (PE.done (R0 := fun f x v rv => VR f.w x.al x.fz v rv) P S (.bool _) s.toks)
noncomputable def vGt : V → V → Hp → Out V := onInts fun a b H => .ok (.bool (decide (b < a))) H
theorem op_gt : Op2 RV I n (compareOp .Gt) vGt := op_ints fun f s H x Q E a b ta tb S P => PyProof.Rows.gt_int (PE.done (R0 := fun f x v rv => VR f.w x.al x.fz v rv) P S (.bool _) s.toks)
noncomputable def vGe : V → V → Hp → Out V := onInts fun a b H => .ok (.bool (decide (b ≤ a))) H
theorem op_ge : Op2 RV I n (compareOp .GtE) vGe := op_ints fun f s H x Q E a b ta tb S P => PyProof.Rows.ge_int (PE.done (R0 := fun f x v rv => VR f.w x.al x.fz v rv) P S (.bool _) s.toks)
end
section
variable {f : Fm} {s : Shared} {H : Hp} {x : St}
theorem vsEq_both {p : V → V → Bool} : ∀ {as bs : List V}, vsEq p as bs = true → ∀ {w : World} {al : List Addr} {fz : Led} {ra rb : List Value} {R : Value → Value → Prop}, (∀ a b ra rb, p a b = true → VR w al fz a ra → VR w al fz b rb → R ra rb) → VRs w al fz as ra → VRs w al fz bs rb → Both R ra rb
  | [], [], _, _, _, _, _, _, _, _, .nil, .nil => .nil
  | a :: as, b :: bs, h, _, _, _, _, _, _, k, .cons x xs, .cons y ys => by
    replace h := Bool.and_eq_true_iff.mp (show (_ && _) = true from h)
    exact .cons (k _ _ _ _ h.1 x y) (vsEq_both h.2 k xs ys)
inductive EqSh : Nat → V → V → Prop
  | none {d} : EqSh d .none .none
  | bool {d} (b : Bool) : EqSh d (.bool b) (.bool b)
  | int {d} (i : Int) : EqSh d (.int i) (.int i)
  | str {d} (x : Tx) : EqSh d (.str x) (.str x)
  | tup {d} (a b : List V) : vsEq (vEq d) a b = true → EqSh d (.tup a) (.tup b)
  | lst {d} (a b : List V) : vsEq (vEq d) a b = true → EqSh d (.lst a) (.lst b)
theorem vEq_sh {d : Nat} (a b : V) (h : vEq (d + 1) a b = true) : EqSh d a b := by
  cases a <;> first | exact absurd h Bool.false_ne_true | skip
  all_goals cases b <;> first
    | exact absurd h Bool.false_ne_true
    | exact .none
    | exact eq_of_beq h ▸ .bool _
    | exact of_decide_eq_true h ▸ .int _
    | exact txEq_iff.mp h ▸ .str _
    | exact .tup _ _ h
    | exact .lst _ _ h
theorem all_eqs {A : Around} {as bs : List Value} (hb : Both (fun a b => SeqAt.EqAt A s a b true) as bs) : ∀ (j : Nat) (j1 : j < as.toArray.size) (j2 : j < bs.toArray.size), SeqAt.EqAt A s as.toArray[j] bs.toArray[j] true := fun j j1 j2 => both_eqs hb (fun _ _ r => r) j _ _ (by simp) (by simp)
theorem vEq_at (S : Std f s.heap H x) : ∀ (d : Nat) {A : Around} (hu : A.units + d < cLine) (a b : V) (ra rb : Value), vEq d a b = true → VR f.w x.al x.fz a ra → VR f.w x.al x.fz b rb → SeqAt.EqAt A s ra rb true
  | 0, _, _, _, _, _, _, h, _, _ => absurd h Bool.false_ne_true
  | d + 1, A, hu, a, b, ra, rb, h, Ra, Rb => by
    have hu1 : A.in1.units + d < cLine := by rw [units_in1]; omega
    have ih := vEq_at S d (A := A.in1) hu1
    cases vEq_sh a b h with
    | none => cases Ra.toNone; cases Rb.toNone; exact .same _
    | bool b => cases Ra.toBool; cases Rb.toBool; exact .same _
    | int i =>
      obtain ⟨t, rfl⟩ := Ra.toInt
      obtain ⟨u, rfl⟩ := Rb.toInt
      have := SeqAt.EqAt.int_int (A := A) (s := s) i t i u
      rwa [beq_self_eq_true] at this
    | str l =>
      obtain ⟨t, rfl⟩ := Ra.toStr
      obtain ⟨u, rfl⟩ := Rb.toStr
      exact (VS0.str _ t u).eq
    | tup va vb h =>
      obtain ⟨aa, rsa, rfl, m1, h1⟩ := Ra.toTup
      obtain ⟨ab, rsb, rfl, m2, h2⟩ := Rb.toTup
      have hb := vsEq_both h (R := fun a b => SeqAt.EqAt A.in1 s a b true) ih h1 h2
      exact tup_eq (S.fzAt m1) (S.fzAt m2) (by omega) hb.len fun _ _ _ e1 e2 => hb.at_ e1 e2
    | lst va vb h =>
      obtain ⟨aa, rsa, na, rfl, m1, h1⟩ := Ra.toLst
      obtain ⟨ab, rsb, nb, rfl, m2, h2⟩ := Rb.toLst
      have hb := vsEq_both h (R := fun a b => SeqAt.EqAt A.in1 s a b true) ih h1 h2
      by_cases hab : aa = ab
      · subst hab; exact .same _
      · refine SeqAt.EqAt.of_refs hab ?_
        have := SeqAt.RcAt.lists (A := A) (s := s) (l := aa) (b := ab) (items := rsa.toArray) (items2 := rsb.toArray) (e := fun _ => true) ⟨_, S.fzAt m1, rfl, _, rfl⟩ ⟨_, S.fzAt m2, rfl, _, rfl⟩ (by simp [hb.len]) (by omega) (all_eqs hb)
        rwa [all_true] at this
noncomputable def dsEq : List (Tx × V) → List (Tx × V) → Bool
  | [], [] => true
  | (k, a) :: as, (k', b) :: bs => txEq k k' && vEq 9 a b && dsEq as bs
  | _, _ => false
theorem hits_on {A : Around} {kb : List (Str × Value)} (S : Std f s.heap H x) (hu : A.units + 16 < cLine) (hn : (kb.map (·.1)).Nodup) : ∀ {as bs : List (Tx × V)}, dsEq as bs = true → ∀ {ra rb : List (Str × Value)}, KVs f.w x.al x.fz as ra → KVs f.w x.al x.fz bs rb → (∀ q ∈ rb, q ∈ kb) → KeqHits A s kb ra true ∧ ra.length = rb.length := by
  intro as
  induction as with
  | nil =>
    intro bs h ra rb Ra Rb hs
    cases bs with
    | cons _ _ => cases h
    | nil => cases Ra; cases Rb; exact ⟨.nil, rfl⟩
  | cons p as ih =>
    intro bs h ra rb Ra Rb hs
    cases bs with
    | nil => cases h
    | cons p' bs =>
    cases Ra with
    | cons Ra xs =>
    cases Rb with
    | cons Rb ys =>
    obtain ⟨h, h3⟩ := Bool.and_eq_true_iff.mp (show (_ && _) = true from h)
    obtain ⟨h1, h2⟩ := Bool.and_eq_true_iff.mp h
    obtain rfl := txEq_iff.mp h1
    obtain ⟨i, hi⟩ := List.getElem?_of_mem (hs _ (.head _))
    obtain ⟨r1, r2⟩ := ih h3 xs ys fun q hq => hs q (.tail _ hq)
    exact ⟨KeqHits.hit (e := true) (b := true) (valueAt_of_get hn hi) (vEq_at S 9 (by omega) _ _ _ _ h2 Ra Rb) r1, by simp [r2]⟩
end
noncomputable def vCmp : V → V → Hp → Option Bool
  | .none, .none, _ => some true
  | .bool a, .bool b, _ => some (a == b)
  | .int a, .int b, _ => some (a == b)
  | .str a, .str b, _ => some (txEq a b)
  | .lst a, .lst b, _ => if Nat.beq a.length b.length then (if vsEq (vEq 9) a b then some true else none) else some false
  | .tup a, .tup b, _ => if vsEq (vEq 9) a b then some true else if a.isEmpty != b.isEmpty then some false else none
  | .ref i, .ref j, H => match H[i]?, H[j]? with
    | some (.dict a), some (.dict b) => if dsEq a b then some true else none
    | _, _ => none
  | .ref i, .lst b, H => match H[i]?, b with
    | some (.list a), [] => some a.isEmpty
    | _, _ => none
  | _, _, _ => none
noncomputable def vEqO (a b : V) (H : Hp) : Out V := match vCmp a b H with | some r => .ok (.bool r) H | none => .stuck
noncomputable def vNeO (a b : V) (H : Hp) : Out V := match vCmp a b H with | some r => .ok (.bool (!r)) H | none => .stuck
section
variable {f : Fm} {s : Shared} {H : Hp} {x : St}
structure CmpB (A : Around) (w : World) (s : Shared) (p q : Value) (b : Bool) : Prop where
  eq : ∀ (E Q' : Value → Shared → Prop), Q' (.bool b) s → wpAny (model prog w) A (compareOp .Eq p q) Q' E s
  ne : ∀ (E Q' : Value → Shared → Prop), Q' (.bool (!b)) s → wpAny (model prog w) A (compareOp .NotEq p q) Q' E s
theorem CmpB.of {A : Around} {w : World} {p q : Value} {b c : Bool} (h1 : SeqAt.RcAt A s p q b) (h2 : SeqAt.RcNeAt A s p q (!b)) (e : b = c) : CmpB A w s p q c := by
  subst e
  exact ⟨fun E Q' q => cmp_ofEq (h1 prog w E Q' q), fun E Q' q => cmp_ofNotEq (h2 prog w E Q' q)⟩
inductive CmpSh (H : Hp) : V → V → Bool → Prop
  | none : CmpSh H .none .none true
  | bool (a b : Bool) : CmpSh H (.bool a) (.bool b) (a == b)
  | int (a b : Int) : CmpSh H (.int a) (.int b) (a == b)
  | str (a b : Tx) : CmpSh H (.str a) (.str b) (txEq a b)
  | tupT (a b : List V) : vsEq (vEq 9) a b = true → CmpSh H (.tup a) (.tup b) true
  | tupF (a b : List V) : (a.isEmpty != b.isEmpty) = true → CmpSh H (.tup a) (.tup b) false
  | lstT (a b : List V) : vsEq (vEq 9) a b = true → CmpSh H (.lst a) (.lst b) true
  | lstF (a b : List V) : a.length ≠ b.length → CmpSh H (.lst a) (.lst b) false
  | refs (i j : Nat) (a b : List (Tx × V)) : H[i]? = some (.dict a) → H[j]? = some (.dict b) → dsEq a b = true → CmpSh H (.ref i) (.ref j) true
  | refl (i : Nat) (a : List V) : H[i]? = some (.list a) → CmpSh H (.ref i) (.lst []) a.isEmpty
theorem vCmp_sh {H : Hp} (a b : V) {r : Bool} (h : vCmp a b H = some r) : CmpSh H a b r := by
  cases a <;> first | exact nomatch (show (Option.none : Option Bool) = some r from h) | skip
  all_goals cases b <;> first
    | exact nomatch (show (Option.none : Option Bool) = some r from h)
    | exact Option.some.inj h ▸ .none
    | exact Option.some.inj h ▸ .bool _ _
    | exact Option.some.inj h ▸ .int _ _
    | exact Option.some.inj h ▸ .str _ _
    | skip
  · rename_i a b
    replace h : (if vsEq (vEq 9) a b then some true else if a.isEmpty != b.isEmpty then some false else none) = some r := h
    split at h
    · rename_i g; exact Option.some.inj h ▸ .tupT _ _ g
    · split at h
      · rename_i g; exact Option.some.inj h ▸ .tupF _ _ g
      · cases h
  · rename_i a b
    replace h : (if Nat.beq a.length b.length then (if vsEq (vEq 9) a b then some true else none) else some false) = some r := h
    split at h
    · split at h
      · rename_i g; exact Option.some.inj h ▸ .lstT _ _ g
      · cases h
    · rename_i g; exact Option.some.inj h ▸ .lstF _ _ (fun e => g (Nat.beq_eq.mpr e))
  · rename_i i b
    delta vCmp at h
    dsimp only at h
    cases e : H[i]? with
    | none => rw [e] at h; exact nomatch h
    | some o =>
      rw [e] at h
      cases o <;> first | exact nomatch (show (Option.none : Option Bool) = some r from h) | skip
      cases b <;> first | exact nomatch (show (Option.none : Option Bool) = some r from h) | skip
      exact Option.some.inj h ▸ .refl _ _ e
  · rename_i i j
    delta vCmp at h
    dsimp only at h
    cases e1 : H[i]? with
    | none => rw [e1] at h; exact nomatch h
    | some o =>
      rw [e1] at h
      cases o <;> first | exact nomatch (show (Option.none : Option Bool) = some r from h) | skip
      cases e2 : H[j]? with
      | none => rw [e2] at h; exact nomatch h
      | some o' =>
        rw [e2] at h
        cases o' <;> first | exact nomatch (show (Option.none : Option Bool) = some r from h) | skip
        rename_i a b
        by_cases g : dsEq a b = true
        · exact Option.some.inj ((if_pos g).symm.trans h) ▸ .refs _ _ _ _ e1 e2 g
        · exact nomatch (if_neg g).symm.trans h
theorem cmp_lists {A : Around} {w : World} {aa ab : Addr} {ra rb : List Value} (i1 : s.heap.IsList aa ra.toArray) (i2 : s.heap.IsList ab rb.toArray) (hu : A.units + 64 < cLine) (hb : Both (fun a b => SeqAt.EqAt A.in1 s a b true) ra rb) : CmpB A w s (.ref aa) (.ref ab) true := by
  have e1 := SeqAt.RcAt.lists (A := A) (e := fun _ => true) i1 i2 (by simp [hb.len]) (by omega) (all_eqs hb)
  have e2 := SeqAt.RcNeAt.lists (A := A) (e := fun _ => true) i1 i2 (by simp [hb.len]) (by omega) (all_eqs hb)
  rw [all_true] at e1 e2
  exact .of e1 e2 rfl
theorem cmp_lens {A : Around} {w : World} {aa ab : Addr} {ra rb : List Value} (i1 : s.heap.IsList aa ra.toArray) (i2 : s.heap.IsList ab rb.toArray) (hu : A.units + 64 < cLine) (hb : ra.length ≠ rb.length) : CmpB A w s (.ref aa) (.ref ab) false :=
  have hne : (ra.toArray.size != rb.toArray.size) = true := bne_iff_ne.mpr hb
  .of (SeqAt.RcAt.lists_lengths i1 i2 hne (by omega)) (SeqAt.RcNeAt.lists_lengths i1 i2 hne (by omega)) rfl
theorem cmp_tups {A : Around} {w : World} {aa ab : Addr} {ra rb : List Value} (m1 : s.heap.get? aa = some (tupO ra)) (m2 : s.heap.get? ab = some (tupO rb)) (hu : A.units + 64 < cLine) {c : Bool} (hc : (ra.length == rb.length) = c) (hb : ∀ (j : Nat) (j1 : j < ra.toArray.size) (j2 : j < rb.toArray.size), SeqAt.EqAt A.in1 s ra.toArray[j] rb.toArray[j] true) : CmpB A w s (.ref aa) (.ref ab) c := by
  have e1 := SeqAt.RcAt.tuples (A := A) (s := s) (l := aa) (b := ab) (items := ra.toArray) (items2 := rb.toArray) (e := fun _ => true) ⟨_, m1, rfl, _, rfl⟩ ⟨_, m2, rfl, _, rfl⟩ (by omega) hb
  have e2 := SeqAt.RcNeAt.tuples (A := A) (s := s) (l := aa) (b := ab) (items := ra.toArray) (items2 := rb.toArray) (e := fun _ => true) ⟨_, m1, rfl, _, rfl⟩ ⟨_, m2, rfl, _, rfl⟩ (by omega) hb
  rw [all_true] at e1 e2
  exact .of (by simpa [hc] using e1) (by simpa [hc] using e2) rfl
theorem vCmp_at (S : Std f s.heap H x) (ok : f.Ok 6) {a b : V} {ra rb : Value} {r : Bool} (h : vCmp a b H = some r) (Ra : VR f.w x.al x.fz a ra) (Rb : VR f.w x.al x.fz b rb) : CmpB f.A f.w s ra rb r := by
  have hu : f.A.units + 96 < cLine := ok.units
  have hu64 : f.A.units + 64 < cLine := lt_less hu (by decide)
  have hu1 : f.A.in1.units + 9 < cLine := by rw [units_in1]; exact lt_less (b := 10) hu (by decide)
  have ih := vEq_at S 9 (A := f.A.in1) hu1
  cases vCmp_sh a b h with
  | none => cases Ra.toNone; cases Rb.toNone; exact .of SeqAt.RcAt.none_none SeqAt.RcNeAt.none_none rfl
  | bool => cases Ra.toBool; cases Rb.toBool; exact .of (SeqAt.RcAt.bool_bool _ _) (SeqAt.RcNeAt.bool_bool _ _) rfl
  | int =>
    obtain ⟨t, rfl⟩ := Ra.toInt
    obtain ⟨u, rfl⟩ := Rb.toInt
    exact .of (SeqAt.RcAt.int_int _ _ _ _) (SeqAt.RcNeAt.int_int _ _ _ _) rfl
  | str a b =>
    obtain ⟨t, rfl⟩ := Ra.toStr
    obtain ⟨u, rfl⟩ := Rb.toStr
    refine .of (SeqAt.RcAt.str_str _ _ _ _) (SeqAt.RcNeAt.str_str _ _ _ _) ?_
    by_cases q : txEq a b = true
    · obtain rfl := txEq_iff.mp q
      rw [q]; exact beq_self_eq_true _
    · have : tr a ≠ tr b := fun z => q (txEq_iff.mpr (tr_inj z))
      rw [Bool.not_eq_true] at q
      rw [q]; exact beq_false_of_ne this
  | tupT va vb hb =>
    obtain ⟨aa, rsa, rfl, m1, h1⟩ := Ra.toTup
    obtain ⟨ab, rsb, rfl, m2, h2⟩ := Rb.toTup
    have hb := vsEq_both hb (R := fun a b => SeqAt.EqAt f.A.in1 s a b true) ih h1 h2
    exact cmp_tups (S.fzAt m1) (S.fzAt m2) hu64 (beq_iff_eq.mpr hb.len) (all_eqs hb)
  | tupF va vb hne =>
    obtain ⟨aa, rsa, rfl, m1, h1⟩ := Ra.toTup
    obtain ⟨ab, rsb, rfl, m2, h2⟩ := Rb.toTup
    have hz : min rsa.length rsb.length = 0 ∧ rsa.length ≠ rsb.length := by
      rw [← h1.len, ← h2.len]
      cases va <;> cases vb <;> simp at hne ⊢
    exact cmp_tups (S.fzAt m1) (S.fzAt m2) hu64 (beq_false_of_ne hz.2) (fun j j1 j2 => by simp at j1 j2; omega)
  | lstT va vb hb =>
    obtain ⟨aa, rsa, na, rfl, m1, h1⟩ := Ra.toLst
    obtain ⟨ab, rsb, nb, rfl, m2, h2⟩ := Rb.toLst
    exact cmp_lists ⟨_, S.fzAt m1, rfl, _, rfl⟩ ⟨_, S.fzAt m2, rfl, _, rfl⟩ hu64 (vsEq_both hb ih h1 h2)
  | lstF va vb hl =>
    obtain ⟨aa, rsa, na, rfl, m1, h1⟩ := Ra.toLst
    obtain ⟨ab, rsb, nb, rfl, m2, h2⟩ := Rb.toLst
    exact cmp_lens ⟨_, S.fzAt m1, rfl, _, rfl⟩ ⟨_, S.fzAt m2, rfl, _, rfl⟩ hu64 (by rw [← h1.len, ← h2.len]; exact hl)
  | refl i va e1 =>
    obtain ⟨aa, rfl, ka⟩ := Ra.toRef
    obtain ⟨ab, rsb, nb, rfl, m2, h2⟩ := Rb.toLst
    cases h2
    obtain ⟨rsa, nn, hm, _, Rl⟩ := S.listAt e1 ka
    cases Rl with
    | nil => exact cmp_lists ⟨_, hm, rfl, _, rfl⟩ ⟨_, S.fzAt m2, rfl, _, rfl⟩ hu64 .nil
    | cons r rs => exact cmp_lens ⟨_, hm, rfl, _, rfl⟩ ⟨_, S.fzAt m2, rfl, _, rfl⟩ hu64 (fun e => nomatch e)
  | refs i j ea eb e1 e2 hd =>
    obtain ⟨aa, rfl, ka⟩ := Ra.toRef
    obtain ⟨ab, rfl, kb⟩ := Rb.toRef
    obtain ⟨ro, rs, hl, k1, d1, l1⟩ := S.dictAt e1 ka
    obtain ⟨ro', rs', hl', k2, d2, l2⟩ := S.dictAt e2 kb
    have hits : ∀ {A : Around}, A.units + 16 < cLine → _ := fun {A} hA => hits_on (A := A) S hA (keysNodup_of_isDictOf d2) hd k1 k2 fun _ h => h
    have h16 : f.A.in1.units + 16 < cLine := by rw [units_in1]; exact lt_less (b := 17) hu (by decide)
    have len := (hits (A := f.A) (lt_less hu (by decide))).2
    refine ⟨fun E Q' hq => keq_eq (r := true) l1 l2 (kda_dict S.news hl d1) (kda_dict S.news hl' d2) (lt_less (b := 0) hu (Nat.zero_le _)) (fun _ => (hits h16).1) ?_, fun E Q' hq => keq_ne (r := true) l1 l2 (kda_dict S.news hl d1) (kda_dict S.news hl' d2) (lt_less (b := 0) hu (Nat.zero_le _)) (fun _ => (hits h16).1) ?_⟩
    · rw [beq_iff_eq.mpr len]; exact hq
    · rw [beq_iff_eq.mpr len]; exact hq
end
section
variable {I : Info} {n : Nat}
theorem op_eq : Op2 RV I 6 (compareOp .Eq) vEqO := by
  intro f s H x Q E a b ra rb ok q S Ra Rb P
  delta vEqO at P
  cases e : vCmp a b H with
  | none => rw [e] at P; exact P.elim
  | some r =>
    rw [e] at P
    exact (vCmp_at S ok e Ra Rb).eq E _ (PE.done (R0 := fun f x v rv => VR f.w x.al x.fz v rv) P S (.bool _) s.toks)
theorem op_ne : Op2 RV I 6 (compareOp .NotEq) vNeO := by
  intro f s H x Q E a b ra rb ok q S Ra Rb P
  delta vNeO at P
  cases e : vCmp a b H with
  | none => rw [e] at P; exact P.elim
  | some r =>
    rw [e] at P
    exact (vCmp_at S ok e Ra Rb).ne E _ (PE.done (R0 := fun f x v rv => VR f.w x.al x.fz v rv) P S (.bool _) s.toks)
theorem Op2.less {β γ : Type} {R : REL β γ} {n' : Nat} {t : Value → Value → Sem γ} {g : V → V → Hp → Out β} (h : Op2 R I n t g) (k : n ≤ n') : Op2 R I n' t g := fun f s H x Q E a b ra rb ok => h f s H x Q E a b ra rb (ok.less k)
theorem Op1.less {β γ : Type} {R : REL β γ} {n' : Nat} {t : Value → Sem γ} {g : V → Hp → Out β} (h : Op1 R I n t g) (k : n ≤ n') : Op1 R I n' t g := fun f s H x Q E v rv ok => h f s H x Q E v rv (ok.less k)
end
end

section
open PySem PySem.W PySem.Calls PyProof.Rows PySem.Spec
noncomputable def txOf : V → Option Tx | .str x => some x | _ => none
noncomputable def txsOf : List V → Option (List Tx)
  | [] => some []
  | v :: vs => match txOf v, txsOf vs with | some x, some xs => some (x :: xs) | _, _ => none
noncomputable def txsEq : List Tx → List Tx → Bool
  | [], [] => true
  | a :: as, b :: bs => txEq a b && txsEq as bs
  | _, _ => false
theorem txsEq_iff : ∀ {a b : List Tx}, txsEq a b = true ↔ a = b
  | [], [] => ⟨fun _ => rfl, fun _ => rfl⟩
  | [], _ :: _ => ⟨fun h => Bool.noConfusion (show false = true from h), fun h => absurd h.symm (List.cons_ne_nil _ _)⟩
  | _ :: _, [] => ⟨fun h => Bool.noConfusion (show false = true from h), fun h => absurd h (List.cons_ne_nil _ _)⟩
  | a :: as, b :: bs => by
    show (txEq a b && txsEq as bs) = true ↔ _
    rw [Bool.and_eq_true, txEq_iff, txsEq_iff (a := as) (b := bs), List.cons.injEq]
noncomputable def txOk (x : Tx) : Bool := x.all fun c => Nat.blt c 1114112
theorem txOk_ok {x : Tx} (h : txOk x = true) : (PyData.str (tr x)).canLay0 = true := by
  simp only [PyData.canLay0, PyData.strOk, tr]
  simpa [txOk, Nat.blt_eq] using h
theorem tr_beq (a b : Tx) : (tr a == tr b) = txEq a b := by
  by_cases q : txEq a b = true
  · obtain rfl := txEq_iff.mp q
    rw [q]; exact beq_self_eq_true _
  · have : tr a ≠ tr b := fun z => q (txEq_iff.mpr (tr_inj z))
    rw [Bool.not_eq_true] at q
    rw [q]; exact beq_false_of_ne this
noncomputable abbrev dTx (x : Tx) : PyData := .str (tr x)
noncomputable abbrev dTxs (l : List Tx) : PyData := .tuple (l.map dTx)
theorem eqv_txs : ∀ (a b : List Tx), PyData.eqvAll (a.map dTx) (b.map dTx) = txsEq a b
  | [], [] => rfl
  | [], _ :: _ => rfl
  | _ :: _, [] => rfl
  | a :: as, b :: bs => by
    show (tr a == tr b && PyData.eqvAll (as.map dTx) (bs.map dTx)) = _
    rw [eqv_txs as bs, tr_beq]; rfl
section
variable {w : World} {al : List Addr} {fz : Led} {h : Heap}
theorem txs_read (hf : ∀ p ∈ fz, h.get? p.1 = some p.2) : ∀ {vs : List V} {rs : List Value}, VRs w al fz vs rs → ∀ {l : List Tx}, txsOf vs = some l → ∃ as, ReadsAll h rs (l.map dTx) as
  | _, _, .nil, l, e => by cases e; exact ⟨_, .nil⟩
  | v :: vs, _, .cons a b, l, e => by
    replace e : (match txOf v, txsOf vs with | some x, some xs => some (x :: xs) | _, _ => none) = some l := e
    cases a <;> first | (cases e; done) | skip
    cases e2 : txsOf vs with
    | none => rw [e2] at e; cases e
    | some xs =>
      rw [e2] at e
      cases e
      obtain ⟨as, r⟩ := txs_read hf b e2
      exact ⟨_, .cons (.str _ _) r⟩
theorem ok_all {l : List Tx} (h : l.all txOk = true) : PyData.canLayAll0 (l.map dTx) = true := by
  induction l with
  | nil => rfl
  | cons x l ih =>
    rw [List.all_cons, Bool.and_eq_true] at h
    simp only [List.map_cons, PyData.canLayAll0, txOk_ok h.1, ih h.2, Bool.and_self]
theorem depth_txs (l : List Tx) : PyData.depthAll (l.map dTx) = 0 := by
  induction l with
  | nil => rfl
  | cons x l ih => simp only [List.map_cons, PyData.depthAll, PyData.depth, ih, Nat.max_self]
end
noncomputable def kget : List (List Tx × Tx) → List Tx → Option Tx
  | [], _ => none
  | (k, v) :: es, x => if txsEq k x then some v else kget es x
theorem map_tr_inj {a b : List Tx} (h : a.map tr = b.map tr) : a = b := by
  induction a generalizing b with
  | nil => cases b with
    | nil => rfl
    | cons _ _ => cases h
  | cons x a ih => cases b with
    | nil => cases h
    | cons y b =>
      rw [List.map_cons, List.map_cons, List.cons.injEq] at h
      rw [tr_inj h.1, ih h.2]
theorem kept_lookup (l : List Tx) : ∀ es : List (List Tx × Tx), Spec.lookup (encTuple PyData.str (l.map tr)) (keptD es) = (kget es l).map fun v => PyData.str (tr v)
  | [] => rfl
  | (k, v) :: es => by
    have ih := kept_lookup l es
    have e : same (PyData.tuple (k.map fun x => .str (tr x))) (encTuple PyData.str (l.map tr)) = txsEq k l := by
      have := same_encTuple (enc := PyData.str) (fun a b => PyProof.V.same_str a b) (k.map tr) (l.map tr)
      rw [show encTuple PyData.str (k.map tr) = PyData.tuple (k.map fun x => .str (tr x)) from by simp [encTuple, List.map_map, Function.comp_def]] at this
      rw [this]
      by_cases q : txsEq k l = true
      · rw [q]; exact decide_eq_true (by rw [txsEq_iff.mp q])
      · rw [Bool.not_eq_true] at q
        rw [q]; exact decide_eq_false fun z => by rw [txsEq_iff.mpr (map_tr_inj z)] at q; cases q
    show Spec.lookup _ ((PyData.tuple (k.map fun x => .str (tr x)), PyData.str (tr v)) :: keptD es) = _
    simp only [Spec.lookup, e, kget]
    cases txsEq k l with
    | true => rfl
    | false => exact ih
end

section
open PySem PySem.W PySem.Spec PySem.Calls PyProof.Rows
open PyProof.Rows.LCg
structure Keeps (mu : List Addr) (led led' : Led) : Prop where
  out : ∀ q ∈ led, q.1 ∈ mu ∨ q ∈ led'
theorem Keeps.nil {mu : List Addr} {led' : Led} : Keeps mu [] led' := ⟨fun _ h => nomatch h⟩
theorem Keeps.keep {mu : List Addr} {p : Addr × Obj} {led led' : Led} (h : p ∈ led') (k : Keeps mu led led') : Keeps mu (p :: led) led' := ⟨fun q hq => by
  rcases List.mem_cons.mp hq with rfl | hq
  · exact .inr h
  · exact k.out q hq⟩
theorem Keeps.tail {mu : List Addr} {led led' : Led} (h : ∀ p ∈ led, p ∈ led') : Keeps mu led led' := ⟨fun q hq => .inr (h q hq)⟩
theorem hideAll_less {h : Heap} {l l' : List Addr} (s : ∀ a ∈ l, a ∈ l') {b : Addr} {o : Obj} (e : (hideAll h l').get? b = some o) : (hideAll h l).get? b = some o := by
  obtain ⟨e1, e2⟩ := hide_get e
  exact hideAll_get _ e1 fun q => e2 (s b q)
theorem adr_sub {led full : Led} (hsub : ∀ p ∈ led, p ∈ full) : ∀ a ∈ adr led, a ∈ adr full := fun a h => by
  obtain ⟨p, hp, rfl⟩ := List.mem_map.mp h
  exact List.mem_map_of_mem (hsub p hp)
theorem kept_in {h₀ h : Heap} {L : Addr} {led led' full : Led} {mu : List Addr} {p : Addr × Obj} (N : News h₀ L h full) (hsub : ∀ p ∈ led, p ∈ full) (km : Keeps mu led led') (hp : p ∈ full) (hm : p.1 ∉ mu) (ha : p.1 ∈ adr led) : p ∈ led' := by
  obtain ⟨q, hq, e⟩ := List.mem_map.mp ha
  have e2 : q.2 = p.2 := Option.some.inj ((N q (hsub q hq)).1.symm.trans ((show h.get? q.1 = h.get? p.1 from by rw [e]).trans (N p hp).1))
  have e3 : q = p := Prod.ext e e2
  rcases km.out q hq with z | z
  · exact (hm (e ▸ z)).elim
  · exact e3 ▸ z
section
variable {w : World} {mean : ExcName → Option Value} {mg mb : Str → Option Value} {f : Addr} {n : Nat} {vs : List Value} {led full rest : Led} {P : Value → Led → Prop} {X : Addr → Led → Prop} {mu : List Addr}
  {dp un : Nat} {gd : Option (List Code)} {cn : Str} {cs : Scope} {a : Addr} {ccd : Value} {cl : List (Str × Addr)} {outer : List Env} {A₀ : Around} {base h₀ : Heap} {L : Addr} {m : Str → Option Value} {s : Shared} {Q E : Value → Shared → Prop}
theorem Raised.more {hp h' : Heap} {e d : Addr} {led' : Led} (B : Below A₀ base outer h₀) (N : News h₀ L hp full) (hsub : ∀ p ∈ led, p ∈ full) (km : Keeps mu led led') (hrest : ∀ p ∈ rest, p ∈ full ∧ p.1 ∉ mu)
    (R : Raised base (hideAll hp (adr led)) (envX cn cs L a ccd cl :: outer) e d led' h') : Raised base (hideAll hp (adr full)) (envX cn cs L a ccd cl :: outer) e d (led' ++ rest) h' := by
  obtain ⟨⟨Bh, h1, h2, h3, h4⟩, up⟩ := R
  have less : ∀ b o, (hideAll hp (adr full)).get? b = some o → (hideAll hp (adr led)).get? b = some o := fun b o e => hideAll_less (adr_sub hsub) e
  refine ⟨⟨Bh, h1, fun b o e hn => h2 b o (less b o e) hn, fun q hq => ?_, h4⟩, fun b o e hn => up b o (less b o e) hn⟩
  have old : ∀ q ∈ led', Bh.get? q.1 = some q.2 ∧ (hideAll hp (adr full)).get? q.1 = none := fun q hq => by
    refine ⟨(h3 q hq).1, ?_⟩
    cases r : (hideAll hp (adr full)).get? q.1 with
    | none => rfl
    | some o => have := (h3 q hq).2; rw [less _ _ r] at this; cases this
  rcases List.mem_append.mp hq with hq | hq
  · exact old q hq
  · obtain ⟨r1, r2⟩ := hrest q hq
    by_cases ha : q.1 ∈ adr led
    · exact old q (kept_in N hsub km r1 r2 ha)
    · obtain ⟨n1, n2, n3⟩ := N q r1
      refine ⟨h2 _ _ (hideAll_get _ n1 ha) fun hm => ?_, hideAll_none _ (List.mem_map_of_mem r1)⟩
      rcases mem_frs hm with z | z
      · exact n2 z
      · obtain ⟨_, o, ho, _⟩ := frames_old B z
        rw [n3] at ho; cases ho
end
section
variable {w : World} {mean : ExcName → Option Value} {mg mb : Str → Option Value} {f : Addr} {n : Nat} {vs : List Value} {led full rest : Led} {P : Value → Led → Prop} {X : Addr → Led → Prop} {mu : List Addr}
  {dp un : Nat} {gd : Option (List Code)} {cn : Str} {cs : Scope} {a : Addr} {ccd : Value} {cl : List (Str × Addr)} {outer : List Env} {A₀ : Around} {base h₀ : Heap} {L : Addr} {m : Str → Option Value} {s : Shared} {Q E : Value → Shared → Prop}
end
structure NotIn (l : Led) (D : Addr) : Prop where
  out : ∀ p ∈ l, p.1 ≠ D
theorem NotIn.of {D : Addr} : ∀ {l : Led}, Off1 D l → NotIn l D
  | [], _ => ⟨fun _ h => nomatch h⟩
  | _ :: _, h => ⟨fun p hp => by
    rcases List.mem_cons.mp hp with rfl | hp
    · exact h.1
    · exact (NotIn.of h.2).out p hp⟩
theorem NotIn.ne {l : Led} {a D : Addr} {o : Obj} (h : NotIn l D) (hm : (a, o) ∈ l) : a ≠ D := h.out _ hm
theorem NotIn.tail {l blk : Led} {D : Addr} (h : NotIn l D) (hs : ∀ p ∈ blk, p ∈ l) : ∀ p ∈ blk, p.1 ≠ D := fun p hp => h.out p (hs p hp)
section
variable {w : World} {A₀ A : Around} {s : Shared} {base h₀ : Heap} {outer : List Env} {L : Addr} {m : Str → Option Value} {env : Env} {led : Led} {mean : ExcName → Option Value} {mg mb : Str → Option Value}
  {R : Result → Shared → Prop} {name qual : Str} {params : Arguments} {body : List Stmt} {scope : Scope} {dV kV doc pm cdv ct oc : Value} {an od : Option Addr} {osl : Array (Option Value)} {f : Addr} {args : Args} {binds : List (Str × Value)}
end
end

section
open PySem PySem.W PySem.Calls PyProof.Rows PySem.Spec
inductive POk (w : World) (r : Out V) (mu fz : Led) (v : Value) (led' : Led) : Prop
  | mk (v' : V) (H' : Hp) (mu' tb' fz' : Led) : r = .ok v' H' → led' = mu' ++ (tb' ++ fz') → HOk w H' mu' tb' fz' → Ext (adr mu) fz (adr mu') fz' → VR w (adr mu') fz' v' v → POk w r mu fz v led'
inductive PEr (w : World) (r : Out V) (mu fz : Led) (d : Addr) (led' : Led) : Prop
  | mk (m : Tx) (i : Int) (H' : Hp) (mu' tb' fz' : Led) (tm ti u1 u2 : Tok) : r = .fault m i H' → led' = (d, oSaid w (.str (tr m) tm) (.int i ti) u1 u2) :: (mu' ++ (tb' ++ fz')) → HOk w H' mu' tb' fz' → Ext (adr mu) fz (adr mu') fz' → PEr w r mu fz d led'
noncomputable def SpecQ (q : Bool) (w : World) (mean : ExcName → Option Value) (mg mb : Str → Option Value) (f : Addr) (n : Nat) (vs : List Value) (led : Led) (P : Value → Led → Prop) (X : Addr → Led → Prop) : Prop :=
  match q with
  | true => Spec w mean mg mb f n vs led (fun _ => True) P X
  | false => SpecT w mean mg mb f n vs led (fun _ => True) P X
structure FC (q : Bool) (fa : Addr) (n : Nat) (F : List V → Hp → Out V) : Prop where
  spec : ∀ w mean mg mb vs rvs H mu tb fz, VRs w (adr mu) fz vs rvs → HOk w H mu tb fz → F vs H ≠ .stuck → SpecQ q w mean mg mb fa n rvs (mu ++ (tb ++ fz)) (POk w (F vs H) mu fz) (PEr w (F vs H) mu fz)
theorem Back.turned {A₀ : Around} {base h₀ h h' : Heap} {outer : List Env} {L : Addr} {m : Str → Option Value} {led led' : Led} (B : Below A₀ base outer h₀) (T : Back h₀ L m led h h' led') : Turned A₀ base outer h₀ L m led h h' led' h₀ :=
  ⟨KtsTurn.refl, B, T.fr, T.news, fun b o hb _ e => T.keep b o hb e, T.fresh⟩
theorem Spec.loud {w : World} {mean : ExcName → Option Value} {mg mb : Str → Option Value} {f n : Nat} {vs : List Value} {led : Led} {G : Heap → Prop} {P : Value → Led → Prop} {X : Addr → Led → Prop} (C : Spec w mean mg mb f n vs led G P X) : SpecT w mean mg mb f n vs led G P X :=
  fun dp un gd cn cs a ccd cl outer A₀ base h₀ L m s Q E B F XB TB N hk hd hu hG ok err => C dp un gd cn cs a ccd cl outer A₀ base h₀ L m s Q E B F XB TB N hk hd hu hG (fun v h' tk' led' T hP => ok v h' tk' led' h₀ (T.turned B) hP) err
theorem FC.loud {fa n : Nat} {F : List V → Hp → Out V} (C : FC true fa n F) : FC false fa n F := ⟨fun w mean mg mb vs rvs H mu tb fz R K hn => Spec.loud (show Spec w mean mg mb fa n rvs _ (fun _ => True) _ _ from C.spec w mean mg mb vs rvs H mu tb fz R K hn)⟩
theorem FC.any {fa n : Nat} {F : List V → Hp → Out V} (C : FC true fa n F) (q : Bool) : FC q fa n F := by cases q; exact C.loud; exact C
section
variable {f : Fm} {s : Shared} {H : Hp} {x : St} {n : Nat}
theorem Std.hok {h : Heap} (S : Std f h H x) : HOk f.w H x.mu x.tb x.fz := by
  refine ⟨S.objs, S.tabs, ?_, fun p hp q => S.off p hp ?_⟩
  · have := S.nd
    rw [← List.append_assoc, adr_app] at this
    exact (List.nodup_append.mp this).1
  · rw [← List.append_assoc, adr_app]; exact List.mem_append_left _ q
theorem Std.part {h : Heap} (S : Std f h H x) : News x.gc f.L h (x.mu ++ (x.tb ++ x.fz)) := fun p hp => S.news p (by
  simp only [St.led, List.mem_append] at hp ⊢
  rcases hp with hp | hp | hp
  · exact .inl hp
  · exact .inr (.inl hp)
  · exact .inr (.inr (.inr hp)))
theorem Std.csOut {h : Heap} (S : Std f h H x) {p : Addr × Obj} (hp : p ∈ x.cs) : p.1 ∉ adr (x.mu ++ (x.tb ++ x.fz)) := fun q => by
  have nd := S.nd
  rw [← List.append_assoc, adr_app] at nd
  have h3 := (List.nodup_append.mp nd).2.2
  rw [← List.append_assoc, adr_app] at q
  rcases List.mem_append.mp q with q | q
  · exact h3 _ q _ (List.mem_map_of_mem hp) rfl
  · obtain ⟨p', hp', e⟩ := List.mem_map.mp q
    refine S.off p' hp' ?_
    rw [← List.append_assoc, adr_app]
    exact List.mem_append_right _ (e ▸ List.mem_map_of_mem hp)
theorem Std.back {h h' : Heap} {gc' : Heap} {H' : Hp} {mu' tb' fz' : Led} (S : Std f h H x) (below : Below f.A₀ f.base f.outer gc') (slip : Slip (frs f.outer) f.g₀ gc') (quiet : f.q = true → gc' = f.g₀) (fr : Fr gc' f.L h' x.m)
    (news : News gc' f.L h' (mu' ++ (tb' ++ fz'))) (keep : ∀ p ∈ x.cs, h'.get? p.1 = some p.2 ∧ gc'.get? p.1 = none) (fresh : ∀ p ∈ mu' ++ (tb' ++ fz'), p.1 ∈ adr (x.mu ++ (x.tb ++ x.fz)) ∨ h.get? p.1 = none)
    (K : HOk f.w H' mu' tb' fz') : Std f h' H' { x with gc := gc', mu := mu', tb := tb', fz := fz' } := by
  have out : ∀ p ∈ mu' ++ (tb' ++ fz'), ∀ c ∈ x.cs, p.1 ≠ c.1 := fun p hp c hc e => by
    rcases fresh p hp with z | z
    · exact S.csOut hc (e ▸ z)
    · rw [e, S.here hc] at z; cases z
  refine ⟨below, slip, quiet, fr, fun p hp => ?_, K.objs, K.tabs, ?_, fun p hp q => ?_, S.cells⟩
  · simp only [St.led, List.mem_append] at hp
    rcases hp with hp | hp | hp | hp
    · exact news p (by simp [hp])
    · exact news p (by simp [hp])
    · exact ⟨(keep p hp).1, (S.news p (by simp [St.led, hp])).2.1, (keep p hp).2⟩
    · exact news p (by simp [hp])
  · show (adr (mu' ++ (tb' ++ x.cs))).Nodup
    rw [← List.append_assoc, adr_app]
    have nd := S.nd
    rw [← List.append_assoc, adr_app] at nd
    refine List.nodup_append.mpr ⟨K.nd, (List.nodup_append.mp nd).2.1, fun a ha b hb e => ?_⟩
    obtain ⟨p, hp, rfl⟩ := List.mem_map.mp ha
    obtain ⟨c, hc, rfl⟩ := List.mem_map.mp hb
    refine out p ?_ c hc e
    rcases List.mem_append.mp hp with hp | hp <;> simp [hp]
  · have q' : p.1 ∈ adr (mu' ++ (tb' ++ x.cs)) := q
    rw [← List.append_assoc, adr_app] at q'
    rcases List.mem_append.mp q' with q' | q'
    · exact K.off p hp q'
    · obtain ⟨c, hc, e⟩ := List.mem_map.mp q'
      exact out p (by simp [show p ∈ fz' from hp]) c hc e.symm
theorem Std.flt {h' : Heap} {tk : Nat} {m : Tx} {i : Int} {H' : Hp} {e d : Addr} {mu' tb' fz' : Led} {tm ti u1 u2 : Tok} (S : Std f s.heap H x) (ok : f.Ok n) (R : Raised f.base (hideAll s.heap (adr (x.mu ++ (x.tb ++ x.fz)))) (f.env :: f.outer) e d ((d, oSaid f.w (.str (tr m) tm) (.int i ti) u1 u2) :: (mu' ++ (tb' ++ fz'))) h')
    (K : HOk f.w H' mu' tb' fz') (X : Ext x.al x.fz (adr mu') fz') : Flt f m i H' x e { s with heap := h', toks := tk } := by
  intro Q' E' k
  rw [ok.hA]
  refine on_leave (rest := []) S.below S.fr S.part R (fun q hq => absurd hq List.not_mem_nil) fun h'' R' => ?_
  rw [List.append_nil] at R'
  exact k d h'' mu' tb' fz' tm ti u1 u2 (R'.slip S.slip) K X
theorem fc_call {fa n' : Nat} {F : List V → Hp → Out V} (C : FC f.q fa n' F) (hro : f.ro = false) (ok : f.Ok n) (hn : n' ≤ n) (S : Std f s.heap H x) {vs : List V} {rvs : List Value} (R : VRs f.w x.al x.fz vs rvs) {Q E : Value → Shared → Prop} (P : PE RV f x s (F vs H) Q E) :
    wpAny (model prog f.w) f.A (call (.ref fa) rvs) Q E s := by
  have hns : F vs H ≠ .stuck := fun e => by rw [e] at P; exact P
  have K := S.hok
  have sp := C.spec f.w f.mean f.mg f.mb vs rvs H x.mu x.tb x.fz R K hns
  have ok' := ok.less hn
  have err : ∀ e d h' tk' led', Raised f.base (hideAll s.heap (adr (x.mu ++ (x.tb ++ x.fz)))) (f.env :: f.outer) e d led' h' → PEr f.w (F vs H) x.mu x.fz d led' → E (.ref e) { s with heap := h', toks := tk' } := by
    rintro e d h' tk' led' Rs ⟨m, i, H', mu', tb', fz', tm, ti, u1, u2, e1, rfl, K', X'⟩
    rw [e1] at P
    exact P e h' tk' (S.flt ok Rs K' X')
  revert sp
  cases hq : f.q with
  | true =>
    intro sp
    refine sp f.dp f.un f.gd f.cn f.cs f.a f.ccd f.cl f.outer f.A₀ f.base x.gc f.L x.m s Q E S.below S.fr ok.XB ok.TB S.part ok.kind ok'.room ok'.units trivial ?_ err
    rintro v h' tk' led' T ⟨v', H', mu', tb', fz', e1, rfl, K', X', R'⟩
    rw [e1] at P
    exact P v h' tk' _ (S.back S.below S.slip S.quiet T.fr T.news (fun p hp => ⟨T.keep _ _ (S.csOut hp) (S.here hp), (S.news p (by simp [St.led, hp])).2.2⟩) T.fresh K') X' ⟨rfl, rfl, fun h => by (rw [hro] at h; cases h), R'⟩
  | false =>
    intro sp
    refine sp f.dp f.un f.gd f.cn f.cs f.a f.ccd f.cl f.outer f.A₀ f.base x.gc f.L x.m s Q E S.below S.fr ok.XB ok.TB S.part ok.kind ok'.room ok'.units trivial ?_ err
    rintro v h' tk' led' h₀' T ⟨v', H', mu', tb', fz', e1, rfl, K', X', R'⟩
    rw [e1] at P
    refine P v h' tk' _ (S.back T.below (S.slip.trans (Slip.of_turn T.turn)) (fun z => by rw [hq] at z; cases z) T.fr T.news (fun p hp => ?_) T.fresh K') X' ⟨rfl, rfl, fun h => by (rw [hro] at h; cases h), R'⟩
    obtain ⟨n1, n2, n3⟩ := S.news p (by simp [St.led, hp])
    refine ⟨T.keep _ _ (S.csOut hp) (fun q => ?_) n1, T.turn.none_ _ n3⟩
    rcases List.mem_cons.mp q with q | q
    · exact n2 q
    · obtain ⟨_, o, ho, _⟩ := frames_old S.below q
      rw [n3] at ho; cases ho
end
end

section
open PySem PySem.W PySem.Calls PyProof.Rows PySem.Spec
inductive Fl
  | next | brk | ret (v : V)
noncomputable abbrev Sx := Rho → Hp → Out (Fl × Rho)
inductive FlR (f : Fm) (x : St) : Fl → Flow → Prop
  | next : FlR f x .next .next
  | brk : FlR f x .brk .brk
  | ret {v : V} {rv : Value} : VR f.w x.al x.fz v rv → FlR f x (.ret v) (.ret rv)
structure Kept (f : Fm) (x x' : St) : Prop where
  adr : Mine.adr x'.cs = Mine.adr x.cs
  keep : ∀ p ∈ x.cs, (∀ y c, f.cl.lookup y = some c → c ≠ p.1) → p ∈ x'.cs
  ro : f.ro = true → x'.mu = x.mu
theorem Kept.refl {f : Fm} {x : St} : Kept f x x := ⟨rfl, fun _ h _ => h, fun _ => rfl⟩
theorem Kept.trans {f : Fm} {x y z : St} (a : Kept f x y) (b : Kept f y z) : Kept f x z := ⟨b.adr.trans a.adr, fun p hp h => b.keep p (a.keep p hp h) h, fun h => (b.ro h).trans (a.ro h)⟩
theorem ExtE.kept {f : Fm} {x x' : St} (e : ExtE f x x') : Kept f x x' := ⟨by rw [e.cs], fun p hp _ => e.cs ▸ hp, e.ro⟩
noncomputable abbrev RA (I : Info) : REL Rho Unit := fun f x x' ρ' _ => Kept f x x' ∧ Vars I f f.env x' ρ'
noncomputable abbrev RS (I : Info) : REL (Fl × Rho) Flow := fun f x x' r fl => Kept f x x' ∧ Vars I f f.env x' r.2 ∧ FlR f x' r.1 fl
theorem preA (I : Info) : Pre (RA I) := ⟨fun e h => ⟨e.kept.trans h.1, h.2⟩⟩
theorem preS (I : Info) : Pre (RS I) := ⟨fun e h => ⟨e.kept.trans h.1, h.2⟩⟩
noncomputable def SS (I : Info) (n : Nat) (t : Env → Sem Flow) (e : Sx) : Prop :=
  ∀ (f : Fm) (s : Shared) (ρ : Rho) (H : Hp) (x : St) (Q : Flow → Shared → Prop) (E : Value → Shared → Prop), f.Ok n → (f.q = I.q ∧ f.ro = I.ro) → EnvIs I f f.env → Std f s.heap H x → Vars I f f.env x ρ → PassesOwn (model prog f.w) f.A f.env E → PE (RS I) f x s (e ρ H) Q E → wpAny (model prog f.w) f.A (t f.env) Q E s
noncomputable abbrev Tx_ := V → Rho → Hp → Out Rho
noncomputable def SA' (I : Info) (n : Nat) (t : Env → Value → Sem Unit) (e : Tx_) : Prop :=
  ∀ (f : Fm) (s : Shared) (v : V) (rv : Value) (ρ : Rho) (H : Hp) (x : St) (Q : Unit → Shared → Prop) (E : Value → Shared → Prop), f.Ok n → (f.q = I.q ∧ f.ro = I.ro) → EnvIs I f f.env → Std f s.heap H x → Vars I f f.env x ρ → VR f.w x.al x.fz v rv → PE (RA I) f x s (e v ρ H) Q E → wpAny (model prog f.w) f.A (t f.env rv) Q E s
theorem SS.less {I : Info} {n n' : Nat} {t : Env → Sem Flow} {e : Sx} (h : SS I n t e) (k : n ≤ n') : SS I n' t e := fun f s ρ H x Q E ok => h f s ρ H x Q E (ok.less k)
theorem PE.onS {β γ : Type} {R : REL β γ} {f : Fm} {x x' : St} {s s' : Shared} {r : Out β} {Q : γ → Shared → Prop} {E : Value → Shared → Prop} (X : Ext x.al x.fz x'.al x'.fz) (hR : ∀ z v rv, R f x' z v rv → R f x z v rv) (e : s' = { s with heap := s'.heap, toks := s'.toks }) (h : PE R f x s r Q E) : PE R f x' s' r Q E := by
  rw [e]
  revert h
  cases r with
  | ok u G => exact fun h rv2 h2 tk2 x2 S2 X2 R2 => h rv2 h2 tk2 x2 S2 (X.trans X2) (hR _ _ _ R2)
  | fault m i G => exact fun h e h2 tk2 F => h e h2 tk2 (F.mono X)
  | stuck => exact fun h => h
theorem SA'.go {β γ : Type} {R : REL β γ} {I : Info} {n : Nat} {t : Env → Value → Sem Unit} {e : Tx_} (h : SA' I n t e) {f : Fm} {s : Shared} {v : V} {rv : Value} {ρ : Rho} {H : Hp} {x : St}
    (ok : f.Ok n) (q : f.q = I.q ∧ f.ro = I.ro) (ei : EnvIs I f f.env) (S : Std f s.heap H x) (V : Vars I f f.env x ρ) (Rv : VR f.w x.al x.fz v rv) {k : Rho → Hp → Out β} {Q : γ → Shared → Prop} {E : Value → Shared → Prop} (P : PE R f x s ((e v ρ H).bind k) Q E)
    (hR : ∀ {x' z v rv}, Kept f x x' → R f x' z v rv → R f x z v rv) {Q' : Unit → Shared → Prop}
    (next : ∀ ρ' H' x' h' tk, Std f h' H' x' → Ext x.al x.fz x'.al x'.fz → Kept f x x' → Vars I f f.env x' ρ' → PE R f x' { s with heap := h', toks := tk } (k ρ' H') Q E → Q' () { s with heap := h', toks := tk }) :
    wpAny (model prog f.w) f.A (t f.env rv) Q' E s := by
  refine h f s v rv ρ H x Q' E ok q ei S V Rv ?_
  revert P
  cases e v ρ H with
  | ok ρ' H' =>
    intro P u h' tk x' S' X' R'
    exact next ρ' H' x' h' tk S' X' R'.1 R'.2 (PE.onS X' (fun z v rv h => hR R'.1 h) rfl P)
  | fault m i H' => exact fun P => P
  | stuck => exact fun P => P.elim
theorem nodup_at {α : Type} : ∀ {l : List α} {i j : Nat} {a : α}, l.Nodup → l[i]? = some a → l[j]? = some a → i = j
  | [], i, j, a, _, h, _ => by simp at h
  | b :: l, 0, 0, a, _, _, _ => rfl
  | b :: l, 0, j + 1, a, hn, h1, h2 => by
    simp only [List.getElem?_cons_zero, Option.some.injEq] at h1
    rw [List.getElem?_cons_succ] at h2
    exact absurd (h1 ▸ List.mem_of_getElem? h2) (List.nodup_cons.mp hn).1
  | b :: l, i + 1, 0, a, hn, h1, h2 => by
    simp only [List.getElem?_cons_zero, Option.some.injEq] at h2
    rw [List.getElem?_cons_succ] at h1
    exact absurd (h2 ▸ List.mem_of_getElem? h1) (List.nodup_cons.mp hn).1
  | b :: l, i + 1, j + 1, a, hn, h1, h2 => by
    rw [List.getElem?_cons_succ] at h1 h2
    rw [nodup_at (List.nodup_cons.mp hn).2 h1 h2]
section
variable {I : Info} {f : Fm} {h h' : Heap} {H : Hp} {x : St} {ρ : Rho} {i : Nat} {y : Str} {v : V} {rv : Value}
theorem Std.setM (S : Std f h H x) (m' : Str → Option Value) (F : Fr x.gc f.L h' m') (N : News x.gc f.L h' x.led) : Std f h' H { x with m := m' } := ⟨S.below, S.slip, S.quiet, F, N, S.objs, S.tabs, S.nd, S.off, S.cells⟩
theorem Vars.set (V : Vars I f f.env x ρ) (hn : I.vn.Nodup) (hy : I.vn[i]? = some y) (hd : (y == ("__debug__" : Str)) = false) {x' : St} (E : Ext x.al x.fz x'.al x'.fz) (R : VR f.w x'.al x'.fz v rv)
    (hl : Loc f f.env x' y rv) (other : ∀ z rz, z ≠ y → Loc f f.env x z rz → Loc f f.env x' z rz) : Vars I f f.env x' (ρ.set i (some v)) := fun j u e => by
  by_cases hj : i = j
  · subst hj
    have hlt : i < ρ.length := by
      have := (List.getElem?_eq_some_iff.mp e).1
      rwa [List.length_set] at this
    rw [List.getElem?_set_self hlt] at e
    cases e
    exact ⟨y, rv, hy, hd, R, hl⟩
  · rw [List.getElem?_set_ne hj] at e
    obtain ⟨z, rz, h1, h2, h3, h4⟩ := V j u e
    refine ⟨z, rz, h1, h2, h3.mono E, other z rz (fun q => hj ?_) h4⟩
    subst q
    exact nodup_at hn hy h1
end
section
variable {I : Info} {n : Nat}
noncomputable def tName (i : Nat) : Tx_ := fun v ρ H => if Nat.blt i ρ.length then .ok (ρ.set i (some v)) H else .stuck
theorem mk_updF {a : Addr} {ro : Obj} : ∀ (l r : Led), (∀ p ∈ l, p.1 ≠ a) → (∀ p ∈ r, p.1 ≠ a) → UpdF a ro (l ++ (a, ro) :: r) (fun ro' => l ++ (a, ro') :: r)
  | [], _, _, h2 => .head h2
  | p :: l, r, h1, h2 => .tail (h1 p (.head _)) (mk_updF l r (fun q hq => h1 q (.tail _ hq)) h2)
theorem nodup_mid {l r : List Addr} {a : Addr} (h : (l ++ a :: r).Nodup) : a ∉ l ∧ a ∉ r := by
  rw [List.nodup_append, List.nodup_cons] at h
  exact ⟨fun q => h.2.2 a q a (.head _) rfl, h.2.1.1⟩
theorem Std.cell {f : Fm} {h : Heap} {H : Hp} {x : St} {c : Addr} {o : Obj} (S : Std f h H x) (hm : (c, o) ∈ x.cs) : ∃ g : Obj → Led, UpdF c o x.led (fun o' => x.mu ++ (x.tb ++ (g o' ++ x.fz))) ∧ (∀ o', (c, o') ∈ g o') ∧ (∀ o' q, q ∈ x.cs → q.1 ≠ c → q ∈ g o') ∧
    ∀ o', adr (g o') = adr x.cs ∧ ∀ h' v₀, o'.data = .cell v₀ → Fr x.gc f.L h' x.m → News x.gc f.L h' (x.mu ++ (x.tb ++ (g o' ++ x.fz))) → Std f h' H { x with cs := g o' } := by
  obtain ⟨l, r, e⟩ := List.append_of_mem hm
  have hal : ∀ o', adr (l ++ (c, o') :: r) = adr x.cs := fun o' => by rw [e]; simp [adr]
  have nd := S.nd
  rw [e] at nd
  have nd' : ((adr x.mu ++ (adr x.tb ++ adr l)) ++ c :: adr r).Nodup := by simpa [adr, List.append_assoc] using nd
  obtain ⟨n1, n2⟩ := nodup_mid nd'
  have hl : ∀ p ∈ l, p.1 ≠ c := fun p hp q => n1 (by simp only [List.mem_append]; exact .inr (.inr (q ▸ List.mem_map_of_mem hp)))
  have hr : ∀ p ∈ r, p.1 ≠ c := fun p hp q => n2 (q ▸ List.mem_map_of_mem hp)
  refine ⟨fun o' => l ++ (c, o') :: r, ?_, fun o' => by simp, fun o' q hq hne => ?_, fun o' => ⟨hal o', fun h' v₀ hv F N => ⟨S.below, S.slip, S.quiet, F, N, S.objs, S.tabs, ?_, ?_, fun y c2 hy => ?_⟩⟩⟩
  · have := mk_updF (a := c) (ro := o) (x.mu ++ (x.tb ++ l)) (r ++ x.fz) (fun p hp q => ?_) (fun p hp q => ?_)
    · simpa only [St.led, e, List.append_assoc, List.cons_append] using this
    · refine n1 ?_
      simp only [List.mem_append] at hp ⊢
      rcases hp with hp | hp | hp
      · exact .inl (q ▸ List.mem_map_of_mem hp)
      · exact .inr (.inl (q ▸ List.mem_map_of_mem hp))
      · exact .inr (.inr (q ▸ List.mem_map_of_mem hp))
    · rcases List.mem_append.mp hp with hp | hp
      · exact hr p hp q
      · exact S.off p hp (by rw [q]; exact List.mem_map_of_mem (List.mem_append_right _ (List.mem_append_right _ hm)))
  · rw [e] at hq
    simp only [List.mem_append, List.mem_cons] at hq ⊢
    rcases hq with hq | rfl | hq
    · exact .inl hq
    · exact absurd rfl hne
    · exact .inr (.inr hq)
  · show (adr (x.mu ++ (x.tb ++ (l ++ (c, o') :: r)))).Nodup
    rw [adr_app, adr_app, hal, ← adr_app, ← adr_app]; exact S.nd
  · intro p hp
    show p.1 ∉ adr (x.mu ++ (x.tb ++ (l ++ (c, o') :: r)))
    rw [adr_app, adr_app, hal, ← adr_app, ← adr_app]; exact S.off p hp
  · obtain ⟨o2, v2, h2, h3⟩ := S.cells y c2 hy
    by_cases hc : c2 = c
    · exact ⟨o', v₀, by rw [hc]; simp, hv⟩
    · refine ⟨o2, v2, ?_, h3⟩
      rw [e] at h2
      simp only [List.mem_append, List.mem_cons] at h2 ⊢
      rcases h2 with h2 | h2 | h2
      · exact .inl h2
      · exact absurd (congrArg Prod.fst h2) hc
      · exact .inr (.inr h2)
end
noncomputable def NameOk (I : Info) (i : Nat) (y : Str) : Prop := I.vn[i]? = some y ∧ I.vn.Nodup ∧ (y == ("__debug__" : Str)) = false ∧ (I.cs.names.lookup y = some .local ∨ I.cs.names.lookup y = some .cell)
section
variable {I : Info} {n : Nat}
theorem sa_store {i : Nat} {y : Str} (hy : NameOk I i y) : SA' I n (fun env v => storeName env y v) (tName i) := by
  obtain ⟨hy, hn, hd, hk⟩ := hy
  intro f s v rv ρ H x Q E ok q ei S V R P
  unfold tName at P
  obtain ⟨g, P⟩ := PE.guard P
  have kd : f.env.kindOf y = I.cs.names.lookup y := by rw [← ei.scope]; rfl
  rcases hk with hk | hk
  · refine storeX_L S.fr S.news (fun h' F N => ?_) ok.kind (kd.trans hk)
    refine P () h' (s.toks + 1) _ (S.setM _ F N) .refl ⟨⟨rfl, fun _ h _ => h, fun _ => rfl⟩, V.set hn hy hd .refl R (.own (kd.trans hk) rfl (if_pos rfl)) fun z rz hz l => ?_⟩
    cases l with
    | own a b c => exact .own a b (by show (if z = y then _ else _) = _; rw [if_neg hz]; exact c)
    | cell a b c d => exact .cell a b c d
    | free a b c d e => exact .free a b c d e
    | comp a b c d => exact .comp a b c d
  · have hk' : f.cs.names.lookup y = some .cell := (by rw [← hk, ← ei.scope])
    obtain ⟨c, hc⟩ := ok.has y hk'
    obtain ⟨o, v₀, hm, hv⟩ := S.cells y c hc
    obtain ⟨g, U, g1, g2, g3⟩ := S.cell hm
    refine storeX_C S.fr S.news hc U hv (fun h' o' F N hd' => ?_) ok.kind (kd.trans hk)
    refine P () h' s.toks _ ((g3 o').2 h' _ hd' F N) .refl ⟨⟨(g3 o').1, fun p hp hne => g2 o' p hp fun e => hne y c hc e.symm, fun _ => rfl⟩, V.set hn hy hd .refl R (.cell (kd.trans hk) hc (g1 o') hd') fun z rz hz l => ?_⟩
    have off : ∀ {c2 : Addr} {o2 : Obj}, f.env.cells.lookup z = some c2 → (c2, o2) ∈ x.cs → (c2, o2) ∈ g o' := fun h1 h2 => g2 o' _ h2 fun e => hz (ok.inj z y c (e ▸ h1) hc)
    cases l with
    | own a b c => exact .own a b c
    | cell a b c d => exact .cell a b (off b c) d
    | free a b c d e => exact .free a b (off b c) d e
    | comp a b c d =>
      exact absurd rfl (S.news _ (List.mem_append_right _ (List.mem_append_right _ (List.mem_append_left _ b)))).2.1
end
end

section
open PySem PySem.W PySem.Calls PyProof.Rows PySem.Spec
section
variable {I : Info} {n : Nat}
noncomputable abbrev STg (I : Info) (n : Nat) (t : Expr) (e : Tx_) : Prop := SA' I n (assign t) e
theorem ta_name {i : Nat} {y : Str} {pos : Pos} (hy : NameOk I i y) : STg I n (.Name y pos) (tName i) := by
  intro f s v rv ρ H x Q E ok q ei S V R P
  exact PyProof.Rows.assign_Name (sa_store hy f s v rv ρ H x Q E ok q ei S V R P)
noncomputable abbrev Txs := List V → Rho → Hp → Out Rho
noncomputable def tNil : Txs := fun vs ρ H => match vs with | [] => .ok ρ H | _ => .stuck
noncomputable def tCons (t : Tx_) (ts : Txs) : Txs := fun vs ρ H => match vs with | v :: vs => (t v ρ H).bind fun ρ' H' => ts vs ρ' H' | [] => .stuck
noncomputable def InOrd (I : Info) (n : Nat) (ts : Env → List (Value → Sem Unit)) (e : Txs) : Prop :=
  ∀ (f : Fm) (s : Shared) (vs : List V) (rvs : List Value) (ρ : Rho) (H : Hp) (x : St) (Q : Unit → Shared → Prop) (E : Value → Shared → Prop), f.Ok n → (f.q = I.q ∧ f.ro = I.ro) → EnvIs I f f.env → Std f s.heap H x → Vars I f f.env x ρ → VRs f.w x.al x.fz vs rvs → PE (RA I) f x s (e vs ρ H) Q E → wpAny (model prog f.w) f.A (assignInOrder (ts f.env) rvs) Q E s
theorem io_nil : InOrd I n (fun _ => []) tNil := by
  intro f s vs rvs ρ H x Q E ok q ei S V R P
  cases R with
  | nil => exact assignInOrder_nil (P () s.heap s.toks x S .refl ⟨.refl, V⟩)
  | cons _ _ => exact P.elim
theorem io_cons {t : Env → Value → Sem Unit} {ts : Env → List (Value → Sem Unit)} {e : Tx_} {es : Txs} (h1 : SA' I n t e) (h2 : InOrd I n ts es) : InOrd I n (fun env => t env :: ts env) (tCons e es) := by
  intro f s vs rvs ρ H x Q E ok q ei S V R P
  cases R with
  | nil => exact P.elim
  | cons a b =>
    refine assignInOrder_cons (h1.go ok q ei S V a P (fun {x' z v rv} e h => ⟨e.trans h.1, h.2⟩) fun ρ' H' x' h' tk S' X' C' V' P' => ?_)
    exact h2 f _ _ _ ρ' H' x' Q E ok q ei S' V' (b.mono X') P'
structure SAs (I : Info) (n : Nat) (elts : List Expr) (e : Txs) : Prop where
  plain : ∀ env, (assignEach elts env).findIdx? (·.1) = none ∧ (assignEach elts env).length = elts.length
  run : InOrd I n (fun env => (assignEach elts env).map (·.2)) e
theorem tas_nil : SAs I n [] tNil := ⟨fun _ => ⟨rfl, rfl⟩, io_nil⟩
theorem tas_cons {t : Expr} {ts : List Expr} {e : Tx_} {es : Txs} (h1 : STg I n t e) (h2 : SAs I n ts es) (he : ∀ env, assignEach (t :: ts) env = (false, assign t env) :: assignEach ts env := by intro _; rfl) : SAs I n (t :: ts) (tCons e es) := by
  refine ⟨fun env => ?_, ?_⟩
  · rw [he]
    obtain ⟨a, b⟩ := h2.plain env
    exact ⟨by rw [List.findIdx?_cons, a]; rfl, by rw [List.length_cons, List.length_cons, b]⟩
  · have : (fun env => (assignEach (t :: ts) env).map (·.2)) = fun env => assign t env :: (assignEach ts env).map (·.2) := by
      funext env; rw [he]; rfl
    rw [this]
    exact io_cons h1 h2.run
noncomputable def tTup (k : Nat) (ts : Txs) : Tx_ := fun v ρ H => match v with | .tup vs => if Nat.beq vs.length k then ts vs ρ H else .stuck | _ => .stuck
theorem ta_tup {elts : List Expr} {c : Nat} {pos : Pos} {es : Txs} (h : SAs I n elts es) : STg I n (.Tuple elts c pos) (tTup elts.length es) := by
  intro f s v rv ρ H x Q E ok q ei S V R P
  cases R <;> first | exact P.elim | skip
  rename_i vs a rs m1 h1
  obtain ⟨g, P⟩ := PE.guard P
  refine unpackN_ S.fr S.news (items := rs.toArray) ⟨_, S.fzAt m1, rfl, _, rfl⟩ rfl ?_ (h.plain _).1 fun h' F N => ?_
  · rw [(h.plain _).2, List.size_toArray, ← h1.len]; exact (Nat.beq_eq.mp g).symm
  · have S' : Std f h' H x := ⟨S.below, S.slip, S.quiet, F, N, S.objs, S.tabs, S.nd, S.off, S.cells⟩
    exact h.run f _ _ _ ρ H x Q E ok q ei S' V h1 (PE.onS .refl (fun _ _ _ h => h) rfl P)
noncomputable def tSub (g : V → V → V → Hp → Out Unit) (e1 e2 : Ex) : Tx_ := fun v ρ H => (e1 ρ H).bind fun o H1 => (e2 ρ H1).bind fun i H2 => (g o i v H2).bind fun _ H3 => .ok ρ H3
noncomputable def Op3 (I : Info) (n : Nat) (t : Value → Value → Value → Sem Unit) (g : V → V → V → Hp → Out Unit) : Prop :=
  ∀ (f : Fm) (s : Shared) (H : Hp) (x : St) (Q : Unit → Shared → Prop) (E : Value → Shared → Prop) (a b c : V) (ra rb rc : Value), f.Ok n → (f.q = I.q ∧ f.ro = I.ro) → Std f s.heap H x → VR f.w x.al x.fz a ra → VR f.w x.al x.fz b rb → VR f.w x.al x.fz c rc → PE RU f x s (g a b c H) Q E → wpAny (model prog f.w) f.A (t ra rb rc) Q E s
theorem ta_sub {o i : Expr} {pos : Pos} {e1 e2 : Ex} {g : V → V → V → Hp → Out Unit} (h1 : SE I n (eval o) e1) (h2 : SE I n (eval i) e2) (h3 : Op3 I n setItem g) : STg I n (.Subscript o i pos) (tSub g e1 e2) := by
  intro f s v rv ρ H x Q E ok q ei S V R P
  refine kas_sub (h1.go ok q ei S V P (preA I) fun a H1 x1 ra h1' tk1 S1 X1 R1 V1 P1 => ?_)
  refine h2.go ok q ei S1 V1 P1 (preA I) fun b H2 x2 rb h2' tk2 S2 X2 R2 V2 P2 => ?_
  refine h3 f _ H2 x2 _ E a b v ra rb rv ok q S2 (R1.mono X2.ext) R2 ((R.mono X1.ext).mono X2.ext) ?_
  revert P2
  cases g a b v H2 with
  | ok u H3 =>
    intro P2 ru h3' tk3 x3 S3 X3 R3
    exact P2 () h3' tk3 x3 S3 X3 ⟨ExtE.kept ⟨X3, R3.1, R3.2.1, R3.2.2.1⟩, V2.mono ⟨X3, R3.1, R3.2.1, R3.2.2.1⟩⟩
  | fault m i H' => exact fun P => P
  | stuck => exact fun P => P.elim
noncomputable def tAttr (g : V → V → Hp → Out Unit) (e1 : Ex) : Tx_ := fun v ρ H => (e1 ρ H).bind fun o H1 => (g o v H1).bind fun _ H3 => .ok ρ H3
theorem ta_attr {o : Expr} {a : Str} {pos : Pos} {e1 : Ex} {g : V → V → Hp → Out Unit} (h1 : SE I n (eval o) e1) (h3 : Op2 RU I n (fun o v => setAttr o a v) g) : STg I n (.Attribute o a pos) (tAttr g e1) := by
  intro f s v rv ρ H x Q E ok q ei S V R P
  refine kas_attr (h1.go ok q ei S V P (preA I) fun a H1 x1 ra h1' tk1 S1 X1 R1 V1 P1 => ?_)
  refine h3 f _ H1 x1 _ E a v ra rv ok q S1 R1 (R.mono X1.ext) ?_
  revert P1
  cases g a v H1 with
  | ok u H3 =>
    intro P2 ru h3' tk3 x3 S3 X3 R3
    exact P2 () h3' tk3 x3 S3 X3 ⟨ExtE.kept ⟨X3, R3.1, R3.2.1, R3.2.2.1⟩, V1.mono ⟨X3, R3.1, R3.2.1, R3.2.2.1⟩⟩
  | fault m i H' => exact fun P => P
  | stuck => exact fun P => P.elim
noncomputable def sAssign (e : Ex) (t : Tx_) : Sx := fun ρ H => (e ρ H).bind fun v H1 => (t v ρ H1).bind fun ρ' H2 => .ok (.next, ρ') H2
theorem assign_one {M : Model} {A : Around} {env : Env} {E : Value → Shared → Prop} {s : Shared} {t value : Expr} {pos : Pos} {Q : Flow → Shared → Prop} (hs : swapsWith value (some t) pos.line env = pure false) (hw : swappedStores [t] value env = pure none) (he : assignEach [t] env = [(false, assign t env)])
    (h : wpAny M A (eval value env) (fun v s1 => wpAny M A (assign t env v) (fun _ => Q .next) E s1) E s) : wpAny M A (exec (.Assign [t] value pos) env) Q E s := by
  rw [exec_Assign, show swapsWithSole [t] value pos.line env = pure false from hs]
  refine wpAny_bind (wpAny_standAt (wpAny_bind (wpAny_pure ?_)))
  rw [if_neg Bool.false_ne_true]
  refine wpAny_bind (wpAny_mono h (fun v s1 h1 => ?_) fun _ _ x => x)
  rw [hw, he]
  refine wpAny_bind (wpAny_pure ?_)
  show wpAny M A (do assignAll v [assign t env]; pure .next) Q E s1
  exact wpAny_bind (wpAny_mono h1 (fun _ _ x => wpAny_pure x) fun _ _ x => x)
theorem ss_assign {t value : Expr} {pos : Pos} {e : Ex} {T : Tx_} (h1 : SE I n (eval value) e) (h2 : STg I n t T) (hs : ∀ env, swapsWith value (some t) pos.line env = pure false := by intro _; rfl)
    (hw : ∀ env, env.scope = I.cs → swappedStores [t] value env = pure none := by intro env h; cases env; subst h; rfl) (he : ∀ env, assignEach [t] env = [(false, assign t env)] := by intro _; rfl) : SS I n (exec (.Assign [t] value pos)) (sAssign e T) := by
  intro f s ρ H x Q E ok q ei S V pe P
  refine assign_one (hs _) (hw _ ei.scope) (he _) (h1.go ok q ei S V P (preS I) fun v H1 x1 rv h1' tk1 S1 X1 R1 V1 P1 => ?_)
  refine h2.go ok q ei S1 V1 R1 P1 (fun {x' z v rv} e h => ⟨e.trans h.1, h.2⟩) fun ρ' H' x' h' tk S' X' C' V' P' => ?_
  exact P' .next h' tk x' S' .refl ⟨.refl, V', .next⟩
noncomputable def sSwap (e : Ex) (k : Nat) (t : Txs) : Sx := fun ρ H => (e ρ H).bind fun v H1 => match v with | .tup vs => if Nat.beq vs.length k then (t vs.reverse ρ H1).bind fun ρ' H2 => .ok (.next, ρ') H2 else .stuck | _ => .stuck
theorem VRs.rev {w : World} {al : List Addr} {fz : Led} : ∀ {vs : List V} {rs : List Value}, VRs w al fz vs rs → VRs w al fz vs.reverse rs.reverse
  | _, _, .nil => .nil
  | _, _, .cons a b => by rw [List.reverse_cons, List.reverse_cons]; exact b.rev.app (.cons a .nil)
theorem ta_bind {i : Nat} {y : Str} (hy : NameOk I i y) : SA' I n (fun env => bindName env y) (tName i) := by
  intro f s v rv ρ H x Q E ok q ei S V R P
  exact bindName_ (sa_store hy f s v rv ρ H x Q E ok q ei S V R P)
theorem ss_swap {elts : List Expr} {c : Nat} {tpos : Pos} {value : Expr} {pos : Pos} {e : Ex} {names : List Str} {T : Txs} (h1 : SE I n (eval value) e) (h2 : InOrd I n (fun env => names.reverse.map fun n => bindName env n) T) (hs : ∀ env, swapsWith value (some (.Tuple elts c tpos)) pos.line env = pure false := by intro _; rfl)
    (hw : ∀ env, env.scope = I.cs → swappedStores [.Tuple elts c tpos] value env = pure (some names) := by intro env h; cases env; subst h; rfl) : SS I n (exec (.Assign [.Tuple elts c tpos] value pos)) (sSwap e names.length T) := by
  intro f s ρ H x Q E ok q ei S V pe P
  refine Assign_Tuple_swapped (names := names) ?_ (hs f.env) (hw _ ei.scope)
  refine h1.go ok q ei S V P (preS I) fun v H1 x1 rv h1' tk1 S1 X1 R1 V1 P1 => ?_
  cases R1 <;> first | exact P1.elim | skip
  rename_i vs a rs m1 hv
  obtain ⟨g, P1⟩ := PE.guard P1
  refine unpackItemsN_ S1.fr S1.news (items := rs.toArray) ⟨_, S1.fzAt m1, rfl, _, rfl⟩ rfl (by rw [List.size_toArray, ← hv.len]; exact (Nat.beq_eq.mp g).symm) fun h' F N => ?_
  have S' : Std f h' H1 x1 := ⟨S1.below, S1.slip, S1.quiet, F, N, S1.objs, S1.tabs, S1.nd, S1.off, S1.cells⟩
  refine h2 f _ _ _ ρ H1 x1 _ E ok q ei S' V1 (by simpa using hv.rev) ?_
  revert P1
  cases T vs.reverse ρ H1 with
  | ok ρ' H3 =>
    intro P2 ru h3' tk3 x3 S3 X3 R3
    exact P2 .next h3' tk3 x3 S3 X3 ⟨R3.1, R3.2, .next⟩
  | fault m i H' => exact fun P => P
  | stuck => exact fun P => P.elim
noncomputable def sExpr (e : Ex) : Sx := fun ρ H => (e ρ H).bind fun _ H1 => .ok (.next, ρ) H1
theorem ss_expr {value : Expr} {pos : Pos} {e : Ex} (h1 : SE I n (eval value) e) (hs : ∀ env, swapsWith value none pos.line env = pure false := by intro _; rfl) : SS I n (exec (.Expr value pos)) (sExpr e) := by
  intro f s ρ H x Q E ok q ei S V pe P
  refine wpAny_Expr_any ?_ (by unfold interactive; rw [ei.kind]; rfl) (hs _)
  exact h1.go ok q ei S V P (preS I) fun v H1 x1 rv h1' tk1 S1 X1 R1 V1 P1 => P1 .next h1' tk1 x1 S1 .refl ⟨.refl, V1, .next⟩
noncomputable def sRet (e : Ex) : Sx := fun ρ H => (e ρ H).bind fun v H1 => .ok (.ret v, ρ) H1
theorem ss_ret {value : Expr} {pos : Pos} {e : Ex} (h1 : SE I n (eval value) e) : SS I n (exec (.Return (some value) pos)) (sRet e) := by
  intro f s ρ H x Q E ok q ei S V pe P
  refine wpAny_Return_some ?_
  exact h1.go ok q ei S V P (preS I) fun v H1 x1 rv h1' tk1 S1 X1 R1 V1 P1 => P1 (.ret rv) h1' tk1 x1 S1 .refl ⟨.refl, V1, .ret R1⟩
noncomputable def sBrk : Sx := fun ρ H => .ok (.brk, ρ) H
theorem ss_brk {pos : Pos} : SS I n (exec (.Break pos)) sBrk := by
  intro f s ρ H x Q E ok q ei S V pe P
  exact wpAny_Break (P .brk s.heap s.toks x S .refl ⟨.refl, V, .brk⟩)
noncomputable abbrev SSs (I : Info) (n : Nat) (b : List Stmt) (e : Sx) : Prop := SS I n (execs b) e
noncomputable def sSkip : Sx := fun ρ H => .ok (.next, ρ) H
noncomputable def sSeq (a b : Sx) : Sx := fun ρ H => (a ρ H).bind fun r H' => match r.1 with | .next => b r.2 H' | _ => .ok r H'
theorem ss_nil : SSs I n [] sSkip := by
  intro f s ρ H x Q E ok q ei S V pe P
  exact wpAny_execs_nil (P .next s.heap s.toks x S .refl ⟨.refl, V, .next⟩)
theorem ss_cons {st : Stmt} {rest : List Stmt} {a b : Sx} (h1 : SS I n (exec st) a) (h2 : SSs I n rest b) : SSs I n (st :: rest) (sSeq a b) := by
  intro f s ρ H x Q E ok q ei S V pe P
  refine wpAny_execs_cons (h1 f s ρ H x _ E ok q ei S V pe ?_)
  unfold sSeq at P
  revert P
  cases a ρ H with
  | ok r H' =>
    intro P fl h' tk x' S' X' R'
    obtain ⟨r1, r2⟩ := r
    cases R'.2.2 with
    | next => exact h2 f _ r2 H' x' Q E ok q ei S' R'.2.1 pe (PE.onS X' (fun z v rv h => ⟨R'.1.trans h.1, h.2⟩) rfl P)
    | brk => exact P .brk h' tk x' S' X' ⟨R'.1, R'.2.1, .brk⟩
    | ret hv => exact P _ h' tk x' S' X' ⟨R'.1, R'.2.1, .ret hv⟩
  | fault m i H' => exact fun P => P
  | stuck => exact fun P => P.elim
theorem ss_if {c : Expr} {a b : List Stmt} {pos : Pos} {bc : Bx} {ea eb : Sx} (hc : SB I n c bc) (ha : SSs I n a ea) (hb : SSs I n b eb) : SS I n (exec (.If c a b pos)) (bIf bc ea eb) := by
  intro f s ρ H x Q E ok q ei S V pe P
  refine wpAny_If (SG.go (k := fun v H' => if v then ea ρ H' else eb ρ H') hc ok q ei S V P (preS I) fun v H' x' rv h' tk S' X' R' V' P' => ?_)
  subst R'
  cases rv with
  | true => exact ha f _ ρ _ x' Q E ok q ei S' V' pe P'
  | false => exact hb f _ ρ _ x' Q E ok q ei S' V' pe P'
end
end

section
open PySem PySem.W PySem.Calls PyProof.Rows PySem.Spec
noncomputable def retOf (r : Out (Fl × Rho)) : Out V := r.bind fun r H => match r.1 with | .ret v => .ok v H | _ => .ok .none H
noncomputable def runF (np k : Nat) (e : Sx) : List V → Hp → Out V := fun vs H => if Nat.beq vs.length np then retOf (e (vs.map some ++ List.replicate k none) H) else .stuck
theorem run_body {I : Info} {n : Nat} {body : List Stmt} {e : Sx} (hb : SSs I n body e) {f : Fm} {s : Shared} {ρ : Rho} {H : Hp} {x : St} {Q E : Value → Shared → Prop} (ok : f.Ok n) (q : f.q = I.q ∧ f.ro = I.ro) (ei : EnvIs I f f.env) (S : Std f s.heap H x) (V : Vars I f f.env x ρ) (hns : retOf (e ρ H) ≠ .stuck)
    (hok : ∀ v H' rv h' tk x', retOf (e ρ H) = .ok v H' → Std f h' H' x' → Ext x.al x.fz x'.al x'.fz → VR f.w x'.al x'.fz v rv → Q rv { s with heap := h', toks := tk })
    (herr : ∀ m i H' ex d h' tk mu tb fz tm ti u1 u2, retOf (e ρ H) = .fault m i H' → Raised f.base f.g₀ f.outer ex d ((d, oSaid f.w (.str (tr m) tm) (.int i ti) u1 u2) :: (mu ++ (tb ++ fz))) h' → HOk f.w H' mu tb fz → Ext x.al x.fz (adr mu) fz → E (.ref ex) { s with heap := h', toks := tk }) :
    wpAny (model prog f.w) f.A (execs body f.env) (fun fl s' => Q (match fl with | .ret v => v | _ => .none) s') (fun e s' => wpAny (model prog f.w) f.A (leaving f.env e) (fun _ s'' => E e s'') (fun e' s'' => E e' s'') s') s := by
  refine hb f s ρ H x _ _ ok q ei S V PassesOwn.leaving ?_
  revert hns hok herr
  cases e ρ H with
  | ok r H' =>
    intro _ hok _ fl h' tk x' S' X' R'
    obtain ⟨r1, r2⟩ := r
    cases R'.2.2 with
    | next => exact hok .none H' .none h' tk x' rfl S' X' .none
    | brk => exact hok .none H' .none h' tk x' rfl S' X' .none
    | ret hv => exact hok _ H' _ h' tk x' rfl S' X' hv
  | fault m i H' =>
    intro _ _ herr ex h' tk F
    exact F _ _ fun d h'' mu tb fz tm ti u1 u2 R K X => herr m i H' ex d h'' tk mu tb fz tm ti u1 u2 rfl R K X
  | stuck => exact fun h => absurd rfl h
theorem zip_lookup : ∀ {ps : List Str} {rvs : List Value}, ps.Nodup → ps.length = rvs.length → ∀ {i : Nat} {y : Str} {rv : Value}, ps[i]? = some y → rvs[i]? = some rv → (ps.zip rvs).reverse.lookup y = some rv
  | [], _, _, _, i, y, rv, h, _ => by simp at h
  | p :: ps, [], _, hl, _, _, _, _, _ => by simp at hl
  | p :: ps, r :: rvs, hn, hl, i, y, rv, h1, h2 => by
    rw [List.nodup_cons] at hn
    have hl' : ps.length = rvs.length := by simpa using hl
    rw [List.zip_cons_cons, List.reverse_cons]
    rw [List.lookup_append]
    cases i with
    | zero =>
      simp only [List.getElem?_cons_zero, Option.some.injEq] at h1 h2
      subst h1 h2
      have : (ps.zip rvs).reverse.lookup p = none := by
        rw [List.lookup_eq_none_iff]
        intro q hq
        have := List.of_mem_zip (List.mem_reverse.mp hq)
        rw [bne_iff_ne]
        exact fun e => hn.1 (e ▸ this.1)
      rw [this]; simp
    | succ i =>
      rw [List.getElem?_cons_succ] at h1 h2
      rw [zip_lookup hn.2 hl' h1 h2]; rfl
theorem rho_at {vs : List V} {k i : Nat} {v : V} (e : (vs.map some ++ List.replicate k none)[i]? = some (some v)) : vs[i]? = some v := by
  by_cases h : i < vs.length
  · rw [List.getElem?_append_left (by simpa using h), List.getElem?_map] at e
    cases q : vs[i]? with
    | none => rw [q] at e; simp at e
    | some u => rw [q] at e; simpa using e
  · rw [List.getElem?_append_right (by simpa using h)] at e
    rw [List.getElem?_replicate] at e
    split at e <;> simp at e
structure Def (fa : Addr) (ps : List Str) (body : List Stmt) (scope : Scope) (qual : Str) (cdv : Value) : Prop where
  at_ : ∃ oc od name params dV kV doc pm an ct osl, (∀ w : World, (KK w.params).lookup fa = some ⟨oc, od, .func (fnOf name qual params body scope dV kV doc pm an cdv ct), osl⟩ ∧ codeIn (KK w.params) cdv qual = true) ∧
    ∀ rvs : List Value, rvs.length = ps.length → ∀ s, BindsTo s (fnOf name qual params body scope dV kV doc pm an cdv ct) ⟨rvs, []⟩ (ps.zip rvs)
  nd : ps.Nodup
  co : scope.isCoroutine = false
  gen : scope.isGenerator = false
  kind : scope.kind = .function
theorem fc_plain {q ro : Bool} {fa n : Nat} {ps rest : List Str} {body : List Stmt} {scope : Scope} {qual : Str} {cdv : Value} {e : Sx} (D : Def fa ps body scope qual cdv) (hloc : ∀ y ∈ ps, scope.names.lookup y = some .local) (hdb : ∀ y ∈ ps, (y == ("__debug__" : Str)) = false) (hcell : ∀ x ∈ scope.names, x.2 ≠ .cell)
    (hb : SSs ⟨ps ++ rest, scope, q, ro, some (qual, cdv)⟩ n body e) : FC q fa (n + 1) (runF ps.length rest.length e) := by
  refine ⟨fun w mean mg mb vs rvs H mu tb fz R K hns => ?_⟩
  obtain ⟨oc, od, name, params, dV, kV, doc, pm, an, ct, osl, ho, hbind⟩ := D.at_
  have hlen : vs.length = ps.length := by
    unfold runF at hns
    split at hns
    · rename_i h; exact Nat.beq_eq.mp h
    · exact absurd rfl hns
  have hr : runF ps.length rest.length e vs H = retOf (e (vs.map some ++ List.replicate rest.length none) H) := by
    unfold runF; rw [if_pos (Nat.beq_eq.mpr hlen)]
  have hlr : rvs.length = ps.length := by rw [← R.len]; exact hlen
  rw [hr] at hns
  have hl2 : ∀ y ∈ ps.zip rvs, scope.names.lookup y.1 = some .local := fun y hy => hloc y.1 (List.of_mem_zip hy).1
  have ncell : ∀ y, scope.names.lookup y = some .cell → False := fun y h => by
    obtain ⟨l1, l2, he, _⟩ := List.lookup_eq_some_iff.mp h
    exact hcell (y, .cell) (by rw [he]; simp) rfl
  have vars : ∀ (f : Fm) (x : St), f.w = w → f.cs = scope → f.cl = [] → x.m = (fun y => (ps.zip rvs).reverse.lookup y) → x.mu = mu → x.fz = fz → Vars ⟨ps ++ rest, scope, q, ro, some (qual, cdv)⟩ f f.env x (vs.map some ++ List.replicate rest.length none) := fun f x e1 e2 e3 e4 e5 e6 i v hv => by
    have hv' := rho_at hv
    obtain ⟨rv, h1, h2⟩ := R.at hv'
    have hi : i < ps.length := by rw [← hlen]; exact (List.getElem?_eq_some_iff.mp hv').1
    obtain ⟨y, hy⟩ : ∃ y, ps[i]? = some y := ⟨ps[i], List.getElem?_eq_getElem hi⟩
    refine ⟨y, rv, by rw [List.getElem?_append_left hi]; exact hy, hdb y (List.mem_of_getElem? hy), by rw [e1, St.al, e5, e6]; exact h2, .own ?_ rfl ?_⟩
    · show f.cs.names.lookup y = _
      rw [e2]; exact hloc y (List.mem_of_getElem? hy)
    · rw [e4]; exact zip_lookup D.nd hlr.symm hy h1
  have room : ∀ {d : Nat}, d + (n + 1) < recursionLimit → d + 1 + n < recursionLimit := fun h => by omega
  have units : ∀ {u : Nat}, u + 16 * (n + 1) < cLine → u + 3 + 16 * n < cLine := fun h => by omega
  cases q with
  | true =>
    intro dp un gd cn cs a ccd cl outer A₀ base h₀ L m s Q E B F XB TB N hK hd hu hG okk err
    refine wpAny_call (enter_def B F XB TB N rfl rfl hK (ho w).1 (ho w).2 (Nat.lt_of_le_of_lt (Nat.le_add_right _ _) hd) (hbind rvs hlr _) hl2 (fun g L' h₁ eg S F' N' B' X' T' => ?_) D.co D.gen D.kind hcell)
    let fm : Fm := ⟨w, mean, mg, mb, dp + 1, un + 3, gd, qual, scope, L', fa, cdv, [], envX cn cs L a ccd cl :: outer, ktrTop dp un gd cn cs L a ccd cl outer, base, g, true, ro⟩
    let x : St := ⟨g, fun y => (ps.zip rvs).reverse.lookup y, mu, tb, [], fz⟩
    have ok : fm.Ok n := ⟨rfl, fun y h => (ncell y h).elim, fun _ _ _ h => by simp [fm] at h, D.kind, room hd, units hu, XB, TB⟩
    have S' : Std fm h₁ H x := ⟨B', Slip.refl, fun _ => rfl, F', N', K.objs, K.tabs, by show (adr (mu ++ (tb ++ []))).Nodup; rw [List.append_nil]; exact K.nd, by show ∀ p ∈ fz, p.1 ∉ adr (mu ++ (tb ++ [])); rw [List.append_nil]; exact K.off, fun y c h => by simp [fm] at h⟩
    refine run_body (f := fm) (x := x) (ρ := vs.map some ++ List.replicate rest.length none) hb ok ⟨rfl, rfl⟩ ⟨rfl, D.kind, rfl, rfl, rfl, fun p h => by cases h; exact ⟨rfl, rfl, rfl⟩⟩ S' (vars fm x rfl rfl rfl rfl rfl rfl) hns (fun v H' rv h' tk x' e1 S2 X2 R2 => ?_) (fun mm i H' ex d h' tk mu' tb' fz' tm ti u1 u2 e1 R2 K2 X2 => ?_)
    · exact fin okk F N rfl S2.fr ((S2.quiet rfl).trans eg) S2.part ⟨v, H', x'.mu, x'.tb, x'.fz, hr.trans e1, rfl, S2.hok, X2, R2⟩
    · exact err ex d h' tk _ (eg ▸ R2) ⟨mm, i, H', mu', tb', fz', tm, ti, u1, u2, hr.trans e1, rfl, K2, X2⟩
  | false =>
    intro dp un gd cn cs a ccd cl outer A₀ base h₀ L m s Q E B F XB TB N hK hd hu hG okk err
    refine wpAny_call (enter_def B F XB TB N rfl rfl hK (ho w).1 (ho w).2 (Nat.lt_of_le_of_lt (Nat.le_add_right _ _) hd) (hbind rvs hlr _) hl2 (fun g L' h₁ eg S F' N' B' X' T' => ?_) D.co D.gen D.kind hcell)
    let fm : Fm := ⟨w, mean, mg, mb, dp + 1, un + 3, gd, qual, scope, L', fa, cdv, [], envX cn cs L a ccd cl :: outer, ktrTop dp un gd cn cs L a ccd cl outer, base, g, false, ro⟩
    let x : St := ⟨g, fun y => (ps.zip rvs).reverse.lookup y, mu, tb, [], fz⟩
    have ok : fm.Ok n := ⟨rfl, fun y h => (ncell y h).elim, fun _ _ _ h => by simp [fm] at h, D.kind, room hd, units hu, XB, TB⟩
    have S' : Std fm h₁ H x := ⟨B', Slip.refl, fun _ => rfl, F', N', K.objs, K.tabs, by show (adr (mu ++ (tb ++ []))).Nodup; rw [List.append_nil]; exact K.nd, by show ∀ p ∈ fz, p.1 ∉ adr (mu ++ (tb ++ [])); rw [List.append_nil]; exact K.off, fun y c h => by simp [fm] at h⟩
    refine run_body (f := fm) (x := x) (ρ := vs.map some ++ List.replicate rest.length none) hb ok ⟨rfl, rfl⟩ ⟨rfl, D.kind, rfl, rfl, rfl, fun p h => by cases h; exact ⟨rfl, rfl, rfl⟩⟩ S' (vars fm x rfl rfl rfl rfl rfl rfl) hns (fun v H' rv h' tk x' e1 S2 X2 R2 => ?_) (fun mm i H' ex d h' tk mu' tb' fz' tm ti u1 u2 e1 R2 K2 X2 => ?_)
    · exact finT okk B F N rfl S2.fr (eg ▸ S2.slip) S2.part ⟨v, H', x'.mu, x'.tb, x'.fz, hr.trans e1, rfl, S2.hok, X2, R2⟩
    · exact err ex d h' tk _ (eg ▸ R2) ⟨mm, i, H', mu', tb', fz', tm, ti, u1, u2, hr.trans e1, rfl, K2, X2⟩
end

section
open PySem PySem.W PySem.Calls PyProof.Rows PySem.Spec
section
variable {kindOf : Str → Option NameKind}
theorem bindL_out : ∀ {binds : List (Str × Value)} {m : Str → Option Value} {y : Str}, y ∉ binds.map (·.1) → bindL kindOf binds m y = m y
  | [], _, _, _ => rfl
  | (n, v) :: r, m, y, h => by
    rw [List.map_cons, List.mem_cons, not_or] at h
    rw [bindL, bindL_out h.2]
    split
    · exact if_neg h.1
    · rfl
theorem bindC_out : ∀ {binds : List (Str × Value)} {m : Str → Option Value} {y : Str}, y ∉ binds.map (·.1) → bindC kindOf binds m y = m y
  | [], _, _, _ => rfl
  | (n, v) :: r, m, y, h => by
    rw [List.map_cons, List.mem_cons, not_or] at h
    rw [bindC, bindC_out h.2]
    split
    · rfl
    · exact if_neg h.1
theorem zip_fst : ∀ {ps : List Str} {rvs : List Value}, ps.length = rvs.length → (ps.zip rvs).map (·.1) = ps
  | [], [], _ => rfl
  | [], _ :: _, h => by simp at h
  | _ :: _, [], h => by simp at h
  | p :: ps, r :: rvs, h => by rw [List.zip_cons_cons, List.map_cons, zip_fst (by simpa using h)]
theorem bind_zip : ∀ {ps : List Str} {rvs : List Value}, ps.Nodup → ps.length = rvs.length → ∀ {i : Nat} {y : Str} {rv : Value}, ps[i]? = some y → rvs[i]? = some rv → ∀ m m', (kindOf y = some .local → bindL kindOf (ps.zip rvs) m y = some rv) ∧ (kindOf y ≠ some .local → bindC kindOf (ps.zip rvs) m' y = some rv)
  | [], _, _, _, i, y, rv, h, _ => by simp at h
  | p :: ps, [], _, hl, _, _, _, _, _ => by simp at hl
  | p :: ps, r :: rvs, hn, hl, i, y, rv, h1, h2 => fun m m' => by
    rw [List.nodup_cons] at hn
    have hl' : ps.length = rvs.length := by simpa using hl
    rw [List.zip_cons_cons, bindL, bindC]
    cases i with
    | zero =>
      simp only [List.getElem?_cons_zero, Option.some.injEq] at h1 h2
      subst h1 h2
      have out : p ∉ (ps.zip rvs).map (·.1) := by rw [zip_fst hl']; exact hn.1
      rw [bindL_out out, bindC_out out]
      exact ⟨fun k => by rw [if_pos k]; exact if_pos rfl, fun k => by rw [if_neg k]; exact if_pos rfl⟩
    | succ i =>
      rw [List.getElem?_cons_succ] at h1 h2
      exact bind_zip hn.2 hl' h1 h2 _ _
end
theorem cells_dist : ∀ (names : List (Str × NameKind)) (n : Nat) (acc : List (Str × Addr)), (∀ p ∈ acc, p.2 < n) → (acc.map (·.2)).Nodup → ((cellsFrom n names acc).map (·.2)).Nodup ∧ ∀ p ∈ cellsFrom n names acc, p ∈ acc ∨ n ≤ p.2
  | [], n, acc, h1, h2 => ⟨h2, fun p hp => .inl hp⟩
  | (x, k) :: r, n, acc, h1, h2 => by
    unfold cellsFrom
    split
    · have := cells_dist r (n + 1) ((x, n) :: acc) (fun p hp => by
        rcases List.mem_cons.mp hp with rfl | hp
        · exact Nat.lt_succ_self _
        · exact Nat.lt_succ_of_lt (h1 p hp)) (by
        rw [List.map_cons, List.nodup_cons]
        refine ⟨fun q => ?_, h2⟩
        obtain ⟨p, hp, e⟩ := List.mem_map.mp q
        have := h1 p hp
        rw [e] at this; exact Nat.lt_irrefl _ this)
      refine ⟨this.1, fun p hp => ?_⟩
      rcases this.2 p hp with q | q
      · rcases List.mem_cons.mp q with rfl | q
        · exact .inr (Nat.le_refl _)
        · exact .inl q
      · exact .inr (Nat.le_of_succ_le q)
    · exact cells_dist r n acc h1 h2
theorem cells_adr {cm : Str → Option Value} : ∀ {cl : List (Str × Addr)} {cells : Led}, CellsAre cm cl cells → adr cells = cl.map (·.2)
  | _, _, .nil => rfl
  | _, _, .cons _ r => by simp [adr]; exact cells_adr r
theorem cells_at {cm : Str → Option Value} : ∀ {cl : List (Str × Addr)} {cells : Led}, CellsAre cm cl cells → ∀ {y : Str} {c : Addr}, cl.lookup y = some c → ∃ o, (c, o) ∈ cells ∧ o.data = .cell (cm y)
  | _, _, .nil, y, c, h => by simp at h
  | _, _, .cons (n := n) (c := c') (o := o) hd r, y, c, h => by
    rw [List.lookup_cons] at h
    split at h
    · rename_i e
      cases h
      rw [beq_iff_eq.mp e]
      exact ⟨o, .head _, hd⟩
    · obtain ⟨o', h1, h2⟩ := cells_at r h
      exact ⟨o', .tail _ h1, h2⟩
theorem lookup_inj {cl : List (Str × Addr)} (hn : (cl.map (·.2)).Nodup) {y z : Str} {c : Addr} (h1 : cl.lookup y = some c) (h2 : cl.lookup z = some c) : y = z := by
  induction cl with
  | nil => simp at h1
  | cons a cl ih =>
    rw [List.map_cons, List.nodup_cons] at hn
    rw [List.lookup_cons] at h1 h2
    have mem : ∀ {w : Str}, cl.lookup w = some c → c ∈ cl.map (·.2) := fun h => by
      obtain ⟨l1, l2, e, _⟩ := List.lookup_eq_some_iff.mp h
      rw [e]; simp
    split at h1
    · rename_i e1
      cases h1
      split at h2
      · rename_i e2; rw [beq_iff_eq.mp e1, beq_iff_eq.mp e2]
      · exact absurd (mem h2) hn.1
    · split at h2
      · cases h2; exact absurd (mem h1) hn.1
      · exact ih hn.2 h1 h2
theorem fc_cells {q ro : Bool} {fa n : Nat} {ps rest : List Str} {body : List Stmt} {scope : Scope} {qual : Str} {cdv : Value} {e : Sx} (D : Def fa ps body scope qual cdv) (hloc : ∀ y ∈ ps, scope.names.lookup y = some .local ∨ scope.names.lookup y = some .cell) (hdb : ∀ y ∈ ps, (y == ("__debug__" : Str)) = false)
    (hnd : ((cellsFrom 0 scope.names []).map (·.1)).Nodup) (hb : SSs ⟨ps ++ rest, scope, q, ro, some (qual, cdv)⟩ n body e) : FC q fa (n + 1) (runF ps.length rest.length e) := by
  refine ⟨fun w mean mg mb vs rvs H mu tb fz R K hns => ?_⟩
  obtain ⟨oc, od, name, params, dV, kV, doc, pm, an, ct, osl, ho, hbind⟩ := D.at_
  have hlen : vs.length = ps.length := by
    unfold runF at hns
    split at hns
    · rename_i h; exact Nat.beq_eq.mp h
    · exact absurd rfl hns
  have hr : runF ps.length rest.length e vs H = retOf (e (vs.map some ++ List.replicate rest.length none) H) := by
    unfold runF; rw [if_pos (Nat.beq_eq.mpr hlen)]
  have hlr : rvs.length = ps.length := by rw [← R.len]; exact hlen
  rw [hr] at hns
  have hkind : ((ps.zip rvs).all fun y => scope.names.lookup y.1 == some .local || scope.names.lookup y.1 == some .cell) = true := by
    rw [List.all_eq_true]
    intro y hy
    rcases hloc y.1 (List.of_mem_zip hy).1 with h | h <;> simp [h]
  have vars : ∀ (f : Fm) (x : St) (L' : Nat) (cdv : Value), f.w = w → f.cs = scope → f.cl = cellsFrom (L' + 1) scope.names [] → x.m = bindL (envOfC qual scope L' fa cdv).kindOf (ps.zip rvs) (fun _ => none) → x.mu = mu → x.fz = fz →
      CellsAre (bindC (envOfC qual scope L' fa cdv).kindOf (ps.zip rvs) fun _ => none) (cellsFrom (L' + 1) scope.names []) x.cs → Vars ⟨ps ++ rest, scope, q, ro, some (qual, cdv)⟩ f f.env x (vs.map some ++ List.replicate rest.length none) := fun f x L' cdv e1 e2 e3 e4 e5 e6 Y i v hv => by
    have hv' := rho_at hv
    obtain ⟨rv, h1, h2⟩ := R.at hv'
    have hi : i < ps.length := by rw [← hlen]; exact (List.getElem?_eq_some_iff.mp hv').1
    obtain ⟨y, hy⟩ : ∃ y, ps[i]? = some y := ⟨ps[i], List.getElem?_eq_getElem hi⟩
    have bz := bind_zip (kindOf := (envOfC qual scope L' fa cdv).kindOf) D.nd hlr.symm hy h1 (fun _ => none) (fun _ => none)
    refine ⟨y, rv, by rw [List.getElem?_append_left hi]; exact hy, hdb y (List.mem_of_getElem? hy), by rw [e1, St.al, e5, e6]; exact h2, ?_⟩
    rcases hloc y (List.mem_of_getElem? hy) with k | k
    · refine .own (by show f.cs.names.lookup y = _; rw [e2]; exact k) rfl ?_
      rw [e4]; exact bz.1 k
    · obtain ⟨c, hc⟩ := Option.isSome_iff_exists.mp (cellsFrom_some scope.names (L' + 1) [] (.inl k))
      obtain ⟨o, h3, h4⟩ := cells_at Y hc
      refine .cell (by show f.cs.names.lookup y = _; rw [e2]; exact k) (by show f.cl.lookup y = _; rw [e3]; exact hc) h3 ?_
      rw [h4, bz.2 (fun q => by have q' : scope.names.lookup y = some .local := q; rw [k] at q'; cases q')]
  have room : ∀ {d : Nat}, d + (n + 1) < recursionLimit → d + 1 + n < recursionLimit := fun h => by omega
  have units : ∀ {u : Nat}, u + 16 * (n + 1) < cLine → u + 3 + 16 * n < cLine := fun h => by omega
  have std : ∀ (f : Fm) (x : St) (h₁ : Heap) (L' : Nat) (cdv : Value), f.w = w → f.cs = scope → f.cl = cellsFrom (L' + 1) scope.names [] → x.mu = mu → x.tb = tb → x.fz = fz → Below f.A₀ f.base f.outer x.gc → x.gc = f.g₀ → Fr x.gc f.L h₁ x.m → News x.gc f.L h₁ (x.cs ++ (mu ++ (tb ++ fz))) →
      CellsAre (bindC (envOfC qual scope L' fa cdv).kindOf (ps.zip rvs) fun _ => none) (cellsFrom (L' + 1) scope.names []) x.cs → (∀ p ∈ mu ++ (tb ++ fz), p.1 < L') → Std f h₁ H x := fun f x h₁ L' cdv e1 e2 e3 e4 e5 e6 B' eg F' N' Y lt => by
    obtain ⟨nd, hi⟩ := cells_dist scope.names (L' + 1) [] (fun _ h => nomatch h) List.nodup_nil
    have above : ∀ c ∈ adr x.cs, L' < c := fun c hc => by
      rw [cells_adr Y] at hc
      obtain ⟨p, hp, rfl⟩ := List.mem_map.mp hc
      rcases hi p hp with q | q
      · cases q
      · exact q
    have nd2 : (adr x.cs).Nodup := by rw [cells_adr Y]; exact nd
    refine ⟨B', eg ▸ Slip.refl, fun _ => eg, F', fun p hp => N' p ?_, ?_, ?_, ?_, ?_, fun y c hy => ?_⟩
    · simp only [St.led, e4, e5, e6, List.mem_append] at hp ⊢
      rcases hp with hp | hp | hp | hp
      · exact .inr (.inl hp)
      · exact .inr (.inr (.inl hp))
      · exact .inl hp
      · exact .inr (.inr (.inr hp))
    · rw [St.al, e1, e4, e6]; exact K.objs
    · rw [e5, e6]; exact K.tabs
    · rw [← List.append_assoc, adr_app, List.nodup_append]
      refine ⟨by rw [e4, e5]; exact K.nd, nd2, fun a ha b hb e => ?_⟩
      have h1 := above b hb
      obtain ⟨p, hp, rfl⟩ := List.mem_map.mp ha
      have h2 := lt p (by
        rw [e4, e5] at hp
        rcases List.mem_append.mp hp with hp | hp <;> simp [hp])
      rw [e] at h2
      exact absurd h2 (Nat.not_lt.mpr (Nat.le_of_lt h1))
    · intro p hp q
      rw [← List.append_assoc, adr_app] at q
      rw [e6] at hp
      rcases List.mem_append.mp q with q | q
      · exact K.off p hp (by rw [e4, e5] at q; exact q)
      · exact absurd (lt p (by simp [hp])) (Nat.not_lt.mpr (Nat.le_of_lt (above _ q)))
    · rw [e3] at hy
      obtain ⟨o, h3, h4⟩ := cells_at Y hy
      exact ⟨o, _, h3, h4⟩
  have has : ∀ (L' : Nat) (y : Str), scope.names.lookup y = some .cell → ∃ c, (cellsFrom (L' + 1) scope.names []).lookup y = some c := fun L' y hy => Option.isSome_iff_exists.mp (cellsFrom_some scope.names (L' + 1) [] (.inl hy))
  have inj : ∀ (L' : Nat) (y z : Str) (c : Addr), (cellsFrom (L' + 1) scope.names []).lookup y = some c → (cellsFrom (L' + 1) scope.names []).lookup z = some c → y = z := fun L' y z c h1 h2 =>
    lookup_inj (cells_dist scope.names (L' + 1) [] (fun _ h => nomatch h) List.nodup_nil).1 h1 h2
  cases q with
  | true =>
    intro dp un gd cn cs a ccd cl outer A₀ base h₀ L m s Q E B F XB TB N hK hd hu hG okk err
    refine wpAny_call (enter_defC B F XB TB N rfl rfl hK (ho w).1 (ho w).2 (Nat.lt_of_le_of_lt (Nat.le_add_right _ _) hd) (hbind rvs hlr _) hkind hnd (fun g L' h₁ tk cells eg S F' N' Y B' X' T' lt => ?_) D.co D.gen D.kind)
    let fm : Fm := ⟨w, mean, mg, mb, dp + 1, un + 3, gd, qual, scope, L', fa, cdv, cellsFrom (L' + 1) scope.names [], envX cn cs L a ccd cl :: outer, ktrTop dp un gd cn cs L a ccd cl outer, base, g, true, ro⟩
    let x : St := ⟨g, bindL (envOfC qual scope L' fa cdv).kindOf (ps.zip rvs) (fun _ => none), mu, tb, cells, fz⟩
    have ok : fm.Ok n := ⟨rfl, has L', inj L', D.kind, room hd, units hu, XB, TB⟩
    have S' : Std fm h₁ H x := std fm x h₁ L' cdv rfl rfl rfl rfl rfl rfl B' rfl F' N' Y lt
    refine run_body (f := fm) (x := x) (ρ := vs.map some ++ List.replicate rest.length none) hb ok ⟨rfl, rfl⟩ ⟨rfl, D.kind, rfl, rfl, rfl, fun p h => by cases h; exact ⟨rfl, rfl, rfl⟩⟩ S' (vars fm x L' cdv rfl rfl rfl rfl rfl rfl Y) hns (fun v H' rv h' tk x' e1 S2 X2 R2 => ?_) (fun mm i H' ex d h' tk mu' tb' fz' tm ti u1 u2 e1 R2 K2 X2 => ?_)
    · exact fin okk F N rfl S2.fr ((S2.quiet rfl).trans eg) S2.part ⟨v, H', x'.mu, x'.tb, x'.fz, hr.trans e1, rfl, S2.hok, X2, R2⟩
    · exact err ex d h' tk _ (eg ▸ R2) ⟨mm, i, H', mu', tb', fz', tm, ti, u1, u2, hr.trans e1, rfl, K2, X2⟩
  | false =>
    intro dp un gd cn cs a ccd cl outer A₀ base h₀ L m s Q E B F XB TB N hK hd hu hG okk err
    refine wpAny_call (enter_defC B F XB TB N rfl rfl hK (ho w).1 (ho w).2 (Nat.lt_of_le_of_lt (Nat.le_add_right _ _) hd) (hbind rvs hlr _) hkind hnd (fun g L' h₁ tk cells eg S F' N' Y B' X' T' lt => ?_) D.co D.gen D.kind)
    let fm : Fm := ⟨w, mean, mg, mb, dp + 1, un + 3, gd, qual, scope, L', fa, cdv, cellsFrom (L' + 1) scope.names [], envX cn cs L a ccd cl :: outer, ktrTop dp un gd cn cs L a ccd cl outer, base, g, false, ro⟩
    let x : St := ⟨g, bindL (envOfC qual scope L' fa cdv).kindOf (ps.zip rvs) (fun _ => none), mu, tb, cells, fz⟩
    have ok : fm.Ok n := ⟨rfl, has L', inj L', D.kind, room hd, units hu, XB, TB⟩
    have S' : Std fm h₁ H x := std fm x h₁ L' cdv rfl rfl rfl rfl rfl rfl B' rfl F' N' Y lt
    refine run_body (f := fm) (x := x) (ρ := vs.map some ++ List.replicate rest.length none) hb ok ⟨rfl, rfl⟩ ⟨rfl, D.kind, rfl, rfl, rfl, fun p h => by cases h; exact ⟨rfl, rfl, rfl⟩⟩ S' (vars fm x L' cdv rfl rfl rfl rfl rfl rfl Y) hns (fun v H' rv h' tk x' e1 S2 X2 R2 => ?_) (fun mm i H' ex d h' tk mu' tb' fz' tm ti u1 u2 e1 R2 K2 X2 => ?_)
    · exact finT okk B F N rfl S2.fr (eg ▸ S2.slip) S2.part ⟨v, H', x'.mu, x'.tb, x'.fz, hr.trans e1, rfl, S2.hok, X2, R2⟩
    · exact err ex d h' tk _ (eg ▸ R2) ⟨mm, i, H', mu', tb', fz', tm, ti, u1, u2, hr.trans e1, rfl, K2, X2⟩
end

section
open PySem PySem.W PySem.Calls PyProof.Rows PySem.Spec
noncomputable abbrev KF (w : World) : Frag := KK w.params
structure GName (I : Info) (g : Str) (v : Value) : Prop where
  kind : I.cs.names.lookup g = some .globalImplicit
  at_ : ∀ w : World, nsIn (KF w) mainGlobals g = some (some v)
  db : (g == ("__debug__" : Str)) = false
section
variable {f : Fm} {s : Shared} {H : Hp} {x : St} {n : Nat}
theorem Std.X (S : Std f s.heap H x) (ok : f.Ok n) : (KF f.w).In x.gc := ok.XB.keeps S.below.stays
theorem Std.T (S : Std f s.heap H x) (ok : f.Ok n) : TopX f.mean f.mg f.mb x.gc := ok.TB.keeps S.below.stays
theorem Std.name {I : Info} {env : Env} {g : Str} {v : Value} {pos : Pos} (S : Std f s.heap H x) (ok : f.Ok n) (ei : EnvIs I f env) (G : GName I g v) {Q : Value → Shared → Prop} {E : Value → Shared → Prop} (h : Q v s) : wpAny (model prog f.w) f.A (eval (.Name g pos) env) Q E s := by
  refine Name_function_global ei.kind ?_ (loadGlobal_global (env := env) (by rw [ei.glob]; exact (S.T ok).g.keeps S.fr.keep) (mg_of (S.X ok) (S.T ok).g (G.at_ f.w)) h) G.db
  show env.scope.names.lookup g = _
  rw [ei.scope]; exact G.kind
end
inductive SArgs (I : Info) (n : Nat) : List Expr → Exs → Prop
  | nil : SArgs I n [] bNil
  | cons {e : Expr} {es : List Expr} {b : Ex} {bs : Exs} : SE I n (eval e) b → SEs I n es bs → (∀ env, starEach (e :: es) env = (false, eval e env) :: starEach es env) → (∀ pos env, (backTo pos (starEach es env)).any (·.1) = false) → SArgs I n (e :: es) (bCons b bs)
section
variable {I : Info} {n : Nat}
theorem SArgs.run {es : List Expr} {b : Exs} (h : SArgs I n es b) : SEs I n es b := by
  cases h with
  | nil => exact ses_nil
  | cons h1 h2 h3 _ => exact ses_cons h1 h2 h3
theorem SArgs.plain {es : List Expr} {b : Exs} (h : SArgs I n es b) (pos : Pos) (env : Env) : (backTo pos (starEach es env)).any (·.1) = false := by
  cases h with
  | nil => rfl
  | cons _ _ h3 h4 => rw [h3]; exact h4 pos env
theorem sargs_cons {e : Expr} {es : List Expr} {b : Ex} {bs : Exs} (h1 : SE I n (eval e) b) (h2 : SArgs I n es bs) (he : ∀ env, starEach (e :: es) env = (false, eval e env) :: starEach es env := by intro _; rfl) : SArgs I n (e :: es) (bCons b bs) :=
  .cons h1 h2.run he h2.plain
noncomputable def bWith (F : List V → Hp → Out V) (es : Exs) : Ex := fun ρ H => (es ρ H).bind fun vs H' => F vs H'
theorem call_args {f : Fm} {env : Env} {s : Shared} {ρ : Rho} {H : Hp} {x : St} {Q E : Value → Shared → Prop} {pos : Pos} {g : Value} {first : List Value} {fv : List V} {args : List Expr} {es : Exs} {F : List V → Hp → Out V} (hk : keepIn (KF f.w) g = true) (ha : SArgs I n args es)
    (ok : f.Ok n) (q : f.q = I.q ∧ f.ro = I.ro) (ei : EnvIs I f env) (S : Std f s.heap H x) (Vs : Vars I f env x ρ) (hf : VRs f.w x.al x.fz fv first) (P : PE RV f x s (bWith (fun vs => F (fv ++ vs)) es ρ H) Q E)
    (hc : ∀ (s' : Shared) (H' : Hp) (x' : St) (vs : List V) (rvs : List Value), Std f s'.heap H' x' → VRs f.w x'.al x'.fz vs rvs → PE RV f x' s' (F vs H') Q E → wpAny (model prog f.w) f.A (call g rvs) Q E s') :
    wpAny (model prog f.w) f.A (callWith pos g first (backTo pos (starEach args env)) []) Q E s := by
  have X : (KF f.w).In s.heap := fun a o e => S.fr.keep a o (S.X ok a o e)
  refine callWith_of (by rw [ha.plain]; rfl) (keeps_K hk) ?_
  cases ha with
  | nil => exact evalArgs_nil3 ⟨X, hc s H x _ _ S (hf.app .nil) P⟩
  | @cons e es b bs h1 h2 h3 h4 =>
    have e0 : backTo pos (starEach (e :: es) env) = (false, eval e env) :: backTo pos (starEach es env) := by rw [h3]; rfl
    rw [e0]
    refine evalArgs_plain ?_
    rw [← e0]
    refine SG.go (ses_cons h1 h2 h3 pos) ok q ei S Vs P (preX _) fun vs H' x' rvs h' tk S' X' R' V' P' => ?_
    exact ⟨fun a o e => S'.fr.keep a o (S'.X (s := { s with heap := h', toks := tk }) ok a o e), hc _ H' x' _ _ S' ((hf.mono X'.ext).app R') P'⟩
theorem se_call (hro : I.ro = false) {g : Str} {fa n' : Nat} {p pos : Pos} {args : List Expr} {es : Exs} {F : List V → Hp → Out V} (G : GName I g (.ref fa)) (hk : ∀ w, keepIn (KF w) (.ref fa) = true) (C : FC I.q fa n' F) (hn : n' ≤ n) (ha : SArgs I n args es) :
    SE I n (eval (.Call (.Name g p) args [] pos)) (bWith F es) := by
  intro f env s ρ H x Q E ok q ei S Vs P
  refine Call_ (S.name ok ei G ?_)
  exact call_args (fv := []) (hk f.w) ha ok q ei S Vs .nil P fun s' H' x' vs rvs S' R' P' => fc_call (q.1 ▸ C) (q.2.trans hro) ok hn S' R' P'
end
section
variable {w : World} {al : List Addr} {fz : Led}
theorem isStr_tr (a b : Tx) (t : Tok) : (Value.str (tr a) t).isStr (tr b) = txEq a b := tr_beq a b
theorem FLs.get (x : Tx) : ∀ {fs : List (Tx × V)} {es : List DictEntry}, FLs w al fz fs es → (∀ v, dget fs x = some v → ∃ r, getL (tr x) es = some (some r) ∧ VR w al fz v r) ∧ (dget fs x = none → getL (tr x) es = some none)
  | _, _, .nil => ⟨fun v e => by simp [dget] at e, fun _ => rfl⟩
  | _, _, .cons (x := y) (v := u) (t := t) (r := r) (es := es) a b => by
    have ih := FLs.get x b
    unfold getL at ih ⊢
    rw [List.find?_cons, show (ent w (tr y) t r).key.isStr (tr x) = txEq y x from isStr_tr y x t]
    simp only [dget]
    cases txEq y x with
    | true => exact ⟨fun v e => by cases e; exact ⟨r, rfl, a⟩, fun e => by cases e⟩
    | false =>
      rw [List.any_cons, show (ent w (tr y) t r).refKey = false from rfl, Bool.false_or]
      exact ih
end
noncomputable def instAt (H : Hp) (k : Nat) : Option (Nat × List (Tx × V)) := match H[k]? with | some (.inst c d) => (match H[d]? with | some (.fld fs) => some (c, fs) | _ => none) | _ => none
section
variable {f : Fm} {h : Heap} {H : Hp} {x : St}
inductive InstIs (f : Fm) (h : Heap) (x : St) (a : Addr) (c : Nat) (fs : List (Tx × V)) : Prop
  | mk (dx : Addr) (es : List DictEntry) (nn : Nat) (at_ : InstAt h a ⟨.ref c, some dx, .plain, #[]⟩ c (some (dictOf es nn))) (fls : FLs f.w x.al x.fz fs es) : InstIs f h x a c fs
theorem instAt_sh {H : Hp} {k c : Nat} {fs : List (Tx × V)} (e : instAt H k = some (c, fs)) : ∃ d, H[k]? = some (.inst c d) ∧ H[d]? = some (.fld fs) := by
  delta instAt at e
  cases e1 : H[k]? with
  | none => rw [e1] at e; cases e
  | some o =>
    rw [e1] at e
    cases o <;> first | (cases e; done) | skip
    rename_i c' d
    dsimp only at e
    cases e2 : H[d]? with
    | none => rw [e2] at e; cases e
    | some o =>
      rw [e2] at e
      cases o <;> first | (cases e; done) | skip
      cases e
      exact ⟨d, rfl, e2⟩
theorem Std.inst {k c : Nat} {fs : List (Tx × V)} {a : Addr} (S : Std f h H x) (e : instAt H k = some (c, fs)) (ha : x.al[k]? = some a) : InstIs f h x a c fs := by
  obtain ⟨d, e1, e2⟩ := instAt_sh e
  cases S.at_ e1 ha with
  | mk ro g mu led R U upd =>
    obtain ⟨da, rfl, hd⟩ := R.toInst
    cases S.at_ e2 hd with
    | mk ro2 g2 mu2 led2 R2 U2 upd2 =>
      obtain ⟨es, n, rfl, F⟩ := R2.toFld
      exact ⟨_, _, _, ⟨S.muAt mu, rfl, rfl, S.muAt mu2⟩, F⟩
end
structure AttrOk (name : Tx) : Prop where
  at_ : ∀ w : World, ∀ c, c = 275 ∨ c = 142 ∨ c = 109 → plainGet (KF w) c (tr name) = true ∧ hasDictIn (KF w) c = true ∧ ∃ attr, findIn (KF w) (.ref c) (tr name) = some attr ∧ noGet (KF w) attr = true
noncomputable def vAttr (name : Tx) : V → Hp → Out V := fun o H => match o with
  | .ref k => (match instAt H k with
    | some (c, fs) => if Nat.beq c 275 || Nat.beq c 142 then (match dget fs name with | some v => .ok v H | none => .stuck) else .stuck
    | none => .stuck)
  | .use a b c => (match dget [([110, 97, 109, 101, 115], a), ([105, 115, 95, 112, 117, 98], b), ([115, 112, 111, 116], c)] name with | some v => .ok v H | none => .stuck)
  | _ => .stuck
section
variable {I : Info} {n : Nat}
inductive AttrSh : V → Prop
  | use (a b c : V) : AttrSh (.use a b c)
  | ref (k : Nat) : AttrSh (.ref k)
theorem vAttr_sh {name : Tx} (v : V) (H : Hp) (h : vAttr name v H ≠ .stuck) : AttrSh v := by
  cases v <;> first | exact absurd rfl h | constructor
inductive UseIs (f : Fm) (h : Heap) (x : St) (a b c : V) (ad : Addr) : Prop
  | mk (dx : Addr) (es : List DictEntry) (nn : Nat) (at_ : InstAt h ad ⟨.ref 109, some dx, .plain, #[]⟩ 109 (some (dictOf es nn))) (fls : FLs f.w x.al x.fz [([110, 97, 109, 101, 115], a), ([105, 115, 95, 112, 117, 98], b), ([115, 112, 111, 116], c)] es) : UseIs f h x a b c ad
theorem VR.toUse {f : Fm} {s : Shared} {H : Hp} {x : St} (S : Std f s.heap H x) {a b c : V} {r : Value} : VR f.w x.al x.fz (.use a b c) r → ∃ ad, r = .ref ad ∧ UseIs f s.heap x a b c ad
  | .use m1 m2 r1 r2 r3 => ⟨_, rfl, ⟨_, _, _, ⟨S.fzAt m1, rfl, rfl, S.fzAt m2⟩, .cons r1 (.cons r2 (.cons r3 .nil))⟩⟩
theorem op_attr {name : Tx} {y : Str} (A : AttrOk name) (hy : y = tr name) : Op1 RV I n (fun o => getAttr o y true) (vAttr name) := by
  subst hy
  intro f s H x Q E v rv ok q S R P
  have go : ∀ {a : Addr} {c : Nat} {fs : List (Tx × V)} {v : V}, (c = 275 ∨ c = 142 ∨ c = 109) → InstIs f s.heap x a c fs → dget fs name = some v → PE RV f x s (.ok v H) Q E → wpAny (model prog f.w) f.A (getAttr (.ref a) (tr name) true) Q E s := fun {a c fs v} hc hi e P => by
    obtain ⟨dx, es, nn, I0, F⟩ := hi
    obtain ⟨p1, p2, attr, p3, p4⟩ := A.at_ f.w c hc
    obtain ⟨r, e3, e4⟩ := (F.get name).1 v e
    exact get_own S.fr (S.X ok) I0 p1 p2 p3 p4 e3 e4.handed (PE.done (R0 := fun f x v rv => VR f.w x.al x.fz v rv) P S e4 _)
  cases vAttr_sh v H P.ns with
  | use a b c =>
    obtain ⟨ad, rfl, hu⟩ := VR.toUse S R
    delta vAttr at P
    dsimp only at P
    cases e : dget [([110, 97, 109, 101, 115], a), ([105, 115, 95, 112, 117, 98], b), ([115, 112, 111, 116], c)] name with
    | none => rw [e] at P; exact P.elim
    | some v =>
      rw [e] at P
      obtain ⟨dx, es, nn, i0, F⟩ := hu
      exact go (.inr (.inr rfl)) ⟨dx, es, nn, i0, F⟩ e P
  | ref k =>
    obtain ⟨a, rfl, ha⟩ := R.toRef
    delta vAttr at P
    dsimp only at P
    cases e : instAt H k with
    | none => rw [e] at P; exact P.elim
    | some z =>
      obtain ⟨c, fs⟩ := z
      rw [e] at P
      dsimp only at P
      obtain ⟨g, P⟩ := PE.guard P
      cases e2 : dget fs name with
      | none => rw [e2] at P; exact P.elim
      | some v =>
        rw [e2] at P
        refine go ?_ (S.inst e ha) e2 P
        rcases Bool.or_eq_true_iff.mp g with g | g
        · exact .inl (Nat.beq_eq.mp g)
        · exact .inr (.inl (Nat.beq_eq.mp g))
theorem se_attr {o : Expr} {y : Str} {name : Tx} {pos : Pos} {e : Ex} (h1 : SE I n (eval o) e) (A : AttrOk name) (hy : y = tr name) (he : ∀ env, eval (.Attribute o y pos) env = (do
      let v ← eval o env
      standAt pos.atName
      let r ← holding [v] (getAttr v y true)
      letTemporaryGo o v r
      pure r) := by intro _; rfl) : SE I n (eval (.Attribute o y pos)) (bOp1 (vAttr name) e) :=
  se_one (preX _) h1 (op_attr A hy) fun {w A env s Q E} h => Attribute_any_ h (he env)
end
end

section
open PySem PySem.W PySem.Calls PyProof.Rows PySem.Spec
noncomputable def MethCall (o : Expr) (name : Str) (apos pos : Pos) (args : List Expr) : Prop := ∀ env, ∃ pl : Sem Bool, eval (.Call (.Attribute o name apos) args [] pos) env = (do let ov ← eval o env; standAt apos.atName; let (f, first) ← holding [ov] (getMethod ov name pl); callWith pos f first (backTo pos (starEach args env)) [])
theorem methCall {M : Model} {A : Around} {E : Value → Shared → Prop} {s : Shared} {env : Env} {o : Expr} {name : Str} {apos pos : Pos} {args : List Expr} {Q : Value → Shared → Prop} (he : MethCall o name apos pos args)
    (h : ∀ pl : Sem Bool, wpAny M A (eval o env) (fun ov s₁ => wpAny M A (getMethod ov name pl) (fun fx s₂ => wpAny M A (callWith pos fx.1 fx.2 (backTo pos (starEach args env)) []) Q E s₂) E s₁) E s) :
    wpAny M A (eval (.Call (.Attribute o name apos) args [] pos) env) Q E s := let ⟨pl, e⟩ := he env; MethodCall_ (h pl) e
structure MethOk (c : Nat) (name : Tx) (fa : Addr) : Prop where
  at_ : ∀ w : World, plainGet (KF w) c (tr name) = true ∧ findIn (KF w) (.ref c) (tr name) = some (some (.ref fa)) ∧ isFn (KF w) (.ref fa) = true ∧ keepIn (KF w) (.ref fa) = true
noncomputable def bMeth (c : Nat) (name : Tx) (F : List V → Hp → Out V) (e : Ex) (es : Exs) : Ex := fun ρ H => (e ρ H).bind fun o H1 => match o with
  | .ref k => (match instAt H1 k with
    | some (c', fs) => if Nat.beq c' c && (dget fs name).isNone then bWith (fun vs => F (.ref k :: vs)) es ρ H1 else .stuck
    | none => .stuck)
  | _ => .stuck
section
variable {I : Info} {n : Nat}
theorem se_meth (hro : I.ro = false) {o : Expr} {y : Str} {c : Nat} {name : Tx} {fa n' : Nat} {ap pos : Pos} {args : List Expr} {e : Ex} {es : Exs} {F : List V → Hp → Out V} (h1 : SE I n (eval o) e) (M : MethOk c name fa) (hy : y = tr name) (C : FC I.q fa n' F) (hn : n' ≤ n) (ha : SArgs I n args es) (he : MethCall o y ap pos args) :
    SE I n (eval (.Call (.Attribute o y ap) args [] pos)) (bMeth c name F e es) := by
  subst hy
  intro f env s ρ H x Q E ok q ei S Vs P
  refine methCall he fun pl => h1.go ok q ei S Vs P (preX _) fun v H1 x1 rv h1' tk1 S1 X1 R1 V1 P1 => ?_
  cases v <;> first | exact P1.elim | skip
  rename_i k
  obtain ⟨a, rfl, hk⟩ := R1.toRef
  dsimp only at P1
  split at P1
  · rename_i c' fs e1
    obtain ⟨g, P2⟩ := PE.guard P1
    rw [Bool.and_eq_true] at g
    obtain rfl := Nat.beq_eq.mp g.1
    obtain ⟨dx, ds, nn, I0, Fl⟩ := S1.inst e1 hk
    obtain ⟨m1, m2, m3, m4⟩ := M.at_ f.w
    refine method_inst S1.fr (S1.X (s := { s with heap := h1', toks := tk1 }) ok) I0 m1 m2 m3 ((Fl.get name).2 (Option.isNone_iff_eq_none.mp g.2)) ?_
    exact call_args (F := F) (fv := [.ref k]) m4 ha ok q ei S1 V1 (.cons (.ref hk) .nil) P2 fun s' H' x' vs rvs S' R' P' => fc_call (q.1 ▸ C) (q.2.trans hro) ok hn S' R' P'
  · exact P1.elim
noncomputable def vIdx (vs : List V) (k : Int) : Option V := if decide (-1000 ≤ k) && decide (k < 1000) then (seqIndex? k vs.length).bind fun j => vs[j]? else none
noncomputable def vGet : V → V → Hp → Out V := fun o i H => match o, i with
  | .tup vs, .int k => (match vIdx vs k with | some v => .ok v H | none => .stuck)
  | .lst vs, .int k => (match vIdx vs k with | some v => .ok v H | none => .stuck)
  | .ref d, .str y => (match H[d]? with
    | some (.dict es) => (match dget es y with | some v => .ok v H | none => .stuck)
    | _ => .stuck)
  | .ref d, .tup ks => (match H[d]?, txsOf ks with
    | some (.kept es), some l => (match kget es l with | some v => .ok (.str v) H | none => .stuck)
    | _, _ => .stuck)
  | _, _ => .stuck
theorem vIdx_at {w : World} {al : List Addr} {fz : Led} {vs : List V} {rs : List Value} (R : VRs w al fz vs rs) {k : Int} {v : V} (e : vIdx vs k = some v) : ∃ j r, -(2 ^ 63) ≤ k ∧ k < 2 ^ 63 ∧ seqIndex? k rs.length = some j ∧ rs[j]? = some r ∧ VR w al fz v r := by
  unfold vIdx at e
  split at e
  · rename_i g
    simp only [Bool.and_eq_true, decide_eq_true_eq] at g
    obtain ⟨j, e1, e2⟩ := Option.bind_eq_some_iff.mp e
    obtain ⟨r, h1, h2⟩ := R.at e2
    exact ⟨j, r, by omega, by omega, by rw [← R.len]; exact e1, h1, h2⟩
  · cases e
theorem get_list {prog : Program} {w : World} {A : Around} {E : Value → Shared → Prop} {s : Shared} {l : Addr} {rs : List Value} {k : Int} {u : Tok} {j : Nat} {x : Value} {Q : Value → Shared → Prop} (hl : s.heap.IsList l rs.toArray) (h1 : -(2 ^ 63) ≤ k) (h2 : k < 2 ^ 63) (hj : seqIndex? k rs.length = some j) (hx : rs[j]? = some x) (h : Q x s) :
    wpAny (model prog w) A (getItem (.ref l) (.int k u)) Q E s := by
  by_cases h0 : k < 0
  · exact kde_getNeg hl h0 h1 hj hx h
  · refine wpAny_getItem_list hl (by omega) h2 ?_ h
    have e : j = k.toNat := by
      unfold seqIndex? at hj
      rw [if_neg h0] at hj
      simp only at hj
      split at hj
      · cases hj; rfl
      · cases hj
    rw [← e, List.getElem?_toArray]; exact hx
theorem txsOf_cons {v : V} {vs : List V} {l : List Tx} (e : txsOf (v :: vs) = some l) : ∃ x xs, v = .str x ∧ txsOf vs = some xs ∧ l = x :: xs := by
  replace e : (match txOf v, txsOf vs with | some x, some xs => some (x :: xs) | _, _ => none) = some l := e
  cases v <;> first | (cases e; done) | skip
  cases e2 : txsOf vs with
  | none => rw [e2] at e; cases e
  | some xs => rw [e2] at e; cases e; exact ⟨_, _, rfl, rfl, rfl⟩
inductive TxVs (w : World) (al : List Addr) (fz : Led) : List Tx → List Value → Prop
  | nil : TxVs w al fz [] []
  | cons (x : Tx) (t : Tok) {xs : List Tx} {rs : List Value} : TxVs w al fz xs rs → TxVs w al fz (x :: xs) (.str (tr x) t :: rs)
theorem VRs.txs {w : World} {al : List Addr} {fz : Led} : ∀ {vs : List V} {rs : List Value}, VRs w al fz vs rs → ∀ {l : List Tx}, txsOf vs = some l → TxVs w al fz l rs
  | _, _, .nil, l, e => by cases e; exact .nil
  | v :: vs, _, .cons a b, l, e => by
    obtain ⟨x, xs, rfl, e2, rfl⟩ := txsOf_cons e
    obtain ⟨t, rfl⟩ := a.toStr
    exact .cons x t (b.txs e2)
theorem TxVs.items {w : World} {al : List Addr} {fz : Led} : ∀ {l : List Tx} {rs : List Value}, TxVs w al fz l rs → ItemsAre (PySem.strKind prog w) (l.map tr) rs
  | _, _, .nil => .nil
  | _, _, .cons _ _ h => .cons (strKind_is _ _ _ _) h.items
theorem txs_items {w : World} {al : List Addr} {fz : Led} {vs : List V} {rs : List Value} (R : VRs w al fz vs rs) {l : List Tx} (e : txsOf vs = some l) : ItemsAre (PySem.strKind prog w) (l.map tr) rs := (R.txs e).items
theorem flat_str {v : Value} {x : Str} (h : PyProof.V.Flat v (.str x)) : ∃ t, v = .str x t := PyProof.V.Flat.str_inv h
theorem Std.kept {f : Fm} {h : Heap} {H : Hp} {x : St} {d : Nat} {a : Addr} {es : List (List Tx × Tx)} (S : Std f h H x) (e : H[d]? = some (.kept es)) (ha : x.al[d]? = some a) : TupTab (PySem.strKind prog f.w) PyData.str x.led a (keptD es) := by
  cases S.at_ e ha with
  | mk ro g mu hl R U upd =>
    cases R with
    | @kept _ _ ds ep xs l1 c1 d1 q1 n1 k1 f1 => exact ⟨l1, ro, ds, ep, xs, hl, c1, d1, q1, n1, fun x hx => let ⟨ok, h1, h2⟩ := k1 x hx; ⟨ok, mem_led.mpr (.inr h1), h2⟩, f1⟩
theorem Std.kept0 {f : Fm} {h : Heap} {H : Hp} {x : St} {d : Nat} {a : Addr} (S : Std f h H x) (e : H[d]? = some (.dict [])) (ha : x.al[d]? = some a) : TupTab (PySem.strKind prog f.w) PyData.str x.led a [] := by
  obtain ⟨ro, rs, hl, k1, d1, l1⟩ := S.dictAt e ha
  cases k1
  exact TupTab.ofEmpty hl l1 d1
inductive GetSh (H : Hp) : V → V → V → Prop
  | tup (vs : List V) (k : Int) (v : V) : vIdx vs k = some v → GetSh H (.tup vs) (.int k) v
  | lst (vs : List V) (k : Int) (v : V) : vIdx vs k = some v → GetSh H (.lst vs) (.int k) v
  | dict (d : Nat) (y : Tx) (es : List (Tx × V)) (v : V) : H[d]? = some (.dict es) → dget es y = some v → GetSh H (.ref d) (.str y) v
  | kept (d : Nat) (ks : List V) (es : List (List Tx × Tx)) (l : List Tx) (v : Tx) : H[d]? = some (.kept es) → txsOf ks = some l → kget es l = some v → GetSh H (.ref d) (.tup ks) (.str v)
theorem vGet_sh (a b : V) (H : Hp) (h : vGet a b H ≠ .stuck) : ∃ v, GetSh H a b v ∧ vGet a b H = .ok v H := by
  cases a <;> first | exact absurd rfl h | skip
  all_goals cases b <;> first | exact absurd rfl h | skip
  all_goals
    delta vGet at h ⊢
    dsimp only at h ⊢
  · rename_i vs k
    cases e : vIdx vs k with
    | none => rw [e] at h; exact absurd rfl h
    | some v => exact ⟨_, .tup _ _ _ e, rfl⟩
  · rename_i vs k
    cases e : vIdx vs k with
    | none => rw [e] at h; exact absurd rfl h
    | some v => exact ⟨_, .lst _ _ _ e, rfl⟩
  · rename_i d y
    cases e : H[d]? with
    | none => rw [e] at h; exact absurd rfl h
    | some o =>
      rw [e] at h
      cases o <;> first | exact absurd rfl h | skip
      rename_i es
      dsimp only at h ⊢
      cases e2 : dget es y with
      | none => rw [e2] at h; exact absurd rfl h
      | some v => exact ⟨_, .dict _ _ _ _ e e2, rfl⟩
  · rename_i d ks
    cases e : H[d]? with
    | none => rw [e] at h; exact absurd rfl h
    | some o =>
      rw [e] at h
      cases o <;> first | exact absurd rfl h | skip
      rename_i es
      cases e1 : txsOf ks with
      | none => rw [e1] at h; exact absurd rfl h
      | some l =>
        rw [e1] at h
        dsimp only at h ⊢
        cases e2 : kget es l with
        | none => rw [e2] at h; exact absurd rfl h
        | some v => exact ⟨_, .kept _ _ _ _ _ e e1 e2, rfl⟩
theorem op_get {value slice : Expr} (hs : ∀ o i, subscripted slice false o i = operate [o, i] (getItem o i)) : Op2 RV I 2 (subscriptTail value slice) vGet := by
  intro f s H x Q E a b ra rb ok q S Ra Rb P
  have hu : f.A.units + 32 < cLine := ok.units
  obtain ⟨v, sh, eo⟩ := vGet_sh a b H P.ns
  rw [eo] at P
  clear eo
  have D : ∀ {rv : Value} (r : VR f.w x.al x.fz v rv) (tk : Nat), Q rv { s with toks := tk } := fun r tk => PE.done (R0 := fun f x v rv => VR f.w x.al x.fz v rv) P S r tk
  cases sh with
  | tup vs k _ e =>
    obtain ⟨a, rs, rfl, m1, r1⟩ := Ra.toTup
    obtain ⟨t, rfl⟩ := Rb.toInt
    obtain ⟨j, r, l1, l2, h1, h2, h3⟩ := vIdx_at r1 e
    exact item_tupleT ⟨_, S.fzAt m1, rfl, _, rfl⟩ l1 l2 h1 h2 (D h3 s.toks) (hs _ _)
  | lst vs k _ e =>
    obtain ⟨a, rs, nn, rfl, m1, r1⟩ := Ra.toLst
    obtain ⟨t, rfl⟩ := Rb.toInt
    obtain ⟨j, r, l1, l2, h1, h2, h3⟩ := vIdx_at r1 e
    have hl : s.heap.IsList a rs.toArray := ⟨_, S.fzAt m1, rfl, _, rfl⟩
    exact tail_any hl.typeIs slot_list_getitem.lookup (get_list hl l1 l2 h1 h2 (D h3 s.toks)) (hs _ _)
  | dict d y es _ e e2 =>
    obtain ⟨a, rfl, ha⟩ := Ra.toRef
    obtain ⟨t, rfl⟩ := Rb.toStr
    obtain ⟨ro, rs, hl, k1, d1, l1⟩ := S.dictAt e ha
    obtain ⟨r, e3, e4⟩ := (k1.get y).1 v e2
    exact item_any S.news hl d1 e3 (D e4 _) (hs _ _)
  | kept d ks es l v e el e2 =>
    obtain ⟨a, rfl, ha⟩ := Ra.toRef
    obtain ⟨ak, rs, rfl, m1, r1⟩ := Rb.toTup
    have T := S.kept e ha
    have tk : TupKeyObj (PySem.strKind prog f.w) (l.map tr) (tupO rs) := TupKeyObj.made (txs_items r1 el)
    obtain ⟨lo, xs, hd, hf⟩ := T.at S.news
    obtain ⟨rv, hv, hfl⟩ := hf.of_lookup (same_encTuple fun a b => PyProof.V.same_str a b) (d := .str (tr v)) (k := l.map tr) (by rw [kept_lookup, e2]; rfl)
    rw [valueAt_kvsOf] at hv
    obtain ⟨p, hp, rfl⟩ := Option.map_eq_some_iff.mp hv
    obtain ⟨t, ht⟩ := flat_str hfl
    refine tail_any hd.typeIs slot_dict_getitem.lookup (wpAny_getItem_heap (tupleKind_room_in1 (lt_less (b := 1) hu (by decide))) (tk.key (S.fzAt m1)) hd hp ?_) (hs _ _)
    rw [ht]
    exact D (.str _ _) _
noncomputable def vIn : V → V → Hp → Out V := fun a b H => match a, b with
  | .str y, .ref d => (match H[d]? with | some (.dict es) => .ok (.bool (dget es y).isSome) H | _ => .stuck)
  | .tup ks, .ref d => (match H[d]?, txsOf ks with
    | some (.kept es), some l => .ok (.bool (kget es l).isSome) H
    | some (.dict []), some _ => .ok (.bool false) H
    | _, _ => .stuck)
  | .str y, .tup vs => (match txsOf vs with | some l => .ok (.bool (l.any (txEq y))) H | none => .stuck)
  | .str y, .lst vs => (match txsOf vs with | some l => .ok (.bool (l.any (txEq y))) H | none => .stuck)
  | _, _ => .stuck
theorem TxVs.any {w : World} {al : List Addr} {fz : Led} (y : Tx) : ∀ {l : List Tx} {rs : List Value}, TxVs w al fz l rs → rs.any (fun v => match v with | .str z _ => z == tr y | _ => false) = l.any (txEq y) ∧ ∀ v ∈ rs, ∃ z t, v = .str z t
  | _, _, .nil => ⟨rfl, fun _ h => nomatch h⟩
  | _, _, .cons x t h => by
    obtain ⟨i1, i2⟩ := h.any y
    refine ⟨?_, fun v hv => ?_⟩
    · rw [List.any_cons, List.any_cons, i1]
      refine congrArg (· || _) ?_
      show (tr x == tr y) = _
      rw [tr_beq]
      cases q : txEq y x with
      | true => rw [txEq_iff.mp q]; exact txEq_self _
      | false => exact Bool.eq_false_iff.mpr fun z => txEq_false q (txEq_iff.mp z).symm
    · rcases List.mem_cons.mp hv with rfl | hv
      · exact ⟨_, _, rfl⟩
      · exact i2 v hv
theorem any_strs {w : World} {al : List Addr} {fz : Led} (y : Tx) {vs : List V} {rs : List Value} (R : VRs w al fz vs rs) {l : List Tx} (e : txsOf vs = some l) : rs.any (fun v => match v with | .str z _ => z == tr y | _ => false) = l.any (txEq y) ∧ ∀ v ∈ rs, ∃ z t, v = .str z t := (R.txs e).any y
inductive InSh (H : Hp) : V → V → Bool → Prop
  | tup (y : Tx) (vs : List V) (l : List Tx) : txsOf vs = some l → InSh H (.str y) (.tup vs) (l.any (txEq y))
  | lst (y : Tx) (vs : List V) (l : List Tx) : txsOf vs = some l → InSh H (.str y) (.lst vs) (l.any (txEq y))
  | dict (y : Tx) (d : Nat) (es : List (Tx × V)) : H[d]? = some (.dict es) → InSh H (.str y) (.ref d) (dget es y).isSome
  | kept (ks : List V) (d : Nat) (es : List (List Tx × Tx)) (l : List Tx) : H[d]? = some (.kept es) → txsOf ks = some l → InSh H (.tup ks) (.ref d) (kget es l).isSome
  | kept0 (ks : List V) (d : Nat) (l : List Tx) : H[d]? = some (.dict []) → txsOf ks = some l → InSh H (.tup ks) (.ref d) false
theorem vIn_sh (a b : V) (H : Hp) (h : vIn a b H ≠ .stuck) : ∃ r, InSh H a b r ∧ vIn a b H = .ok (.bool r) H := by
  cases a <;> first | exact absurd rfl h | skip
  all_goals cases b <;> first | exact absurd rfl h | skip
  all_goals
    delta vIn at h ⊢
    dsimp only at h ⊢
  · rename_i y vs
    cases e : txsOf vs with
    | none => rw [e] at h; exact absurd rfl h
    | some l => exact ⟨_, .tup _ _ _ e, rfl⟩
  · rename_i y vs
    cases e : txsOf vs with
    | none => rw [e] at h; exact absurd rfl h
    | some l => exact ⟨_, .lst _ _ _ e, rfl⟩
  · rename_i y d
    cases e : H[d]? with
    | none => rw [e] at h; exact absurd rfl h
    | some o =>
      rw [e] at h
      cases o <;> first | exact absurd rfl h | skip
      exact ⟨_, .dict _ _ _ e, rfl⟩
  · rename_i ks d
    cases e : H[d]? with
    | none => rw [e] at h; exact absurd rfl h
    | some o =>
      rw [e] at h
      cases e1 : txsOf ks with
      | none => cases o <;> first | exact absurd rfl h | (rw [e1] at h; exact absurd rfl h) | (rename_i es; cases es <;> first | exact absurd rfl h | (rw [e1] at h; exact absurd rfl h))
      | some l =>
        rw [e1] at h
        cases o <;> first | exact absurd rfl h | skip
        · rename_i es
          cases es with
          | nil => exact ⟨_, .kept0 _ _ _ e e1, rfl⟩
          | cons _ _ => exact absurd rfl h
        · exact ⟨_, .kept _ _ _ _ e e1, rfl⟩
theorem op_in : Op2 RV I 2 (compareOp .In) vIn := by
  intro f s H x Q E a b ra rb ok q S Ra Rb P
  have hu : f.A.units + 32 < cLine := ok.units
  have hu1 : f.A.units + 1 < cLine := lt_less hu (by decide)
  obtain ⟨r, sh, eo⟩ := vIn_sh a b H P.ns
  rw [eo] at P
  clear eo
  have D : ∀ (tk : Nat), Q (.bool r) { s with toks := tk } := fun tk => PE.done (R0 := fun f x v rv => VR f.w x.al x.fz v rv) P S (.bool _) tk
  have go : ∀ {y : Tx} {t : Tok} {vs : List V} {rs : List Value} {l : List Tx} (r1 : VRs f.w x.al x.fz vs rs) (e : txsOf vs = some l), (∀ v ∈ rs.toArray, SeqAt.EqAt f.A.in1 s v (.str (tr y) t) (match v with | .str z _ => z == tr y | _ => false)) ∧ rs.toArray.any (fun v => match v with | .str z _ => z == tr y | _ => false) = l.any (txEq y) := fun {y t vs rs l} r1 e => by
    obtain ⟨i1, i2⟩ := any_strs y r1 e
    refine ⟨fun v hv => ?_, by rw [← i1]; exact List.any_toArray⟩
    obtain ⟨z, u, rfl⟩ := i2 v (List.mem_toArray.mp hv)
    exact (eqGives_str z (tr y) u t).at f.A.in1 s
  cases sh with
  | tup y vs l e =>
    obtain ⟨t, rfl⟩ := Ra.toStr
    obtain ⟨a, rs, rfl, m1, r1⟩ := Rb.toTup
    obtain ⟨g1, g2⟩ := go (y := y) (t := t) r1 e
    refine SeqAt.in_tupleAt _ ⟨_, S.fzAt m1, rfl, _, rfl⟩ g1 ?_
    rw [g2]
    exact D s.toks
  | lst y vs l e =>
    obtain ⟨t, rfl⟩ := Ra.toStr
    obtain ⟨a, rs, nn, rfl, m1, r1⟩ := Rb.toLst
    obtain ⟨g1, g2⟩ := go (y := y) (t := t) r1 e
    refine SeqAt.in_listAt _ ⟨_, S.fzAt m1, rfl, _, rfl⟩ g1 ?_
    rw [g2]
    exact D s.toks
  | dict y d es e =>
    obtain ⟨t, rfl⟩ := Ra.toStr
    obtain ⟨a, rfl, ha⟩ := Rb.toRef
    obtain ⟨ro, rs, hl, k1, d1, l1⟩ := S.dictAt e ha
    exact kda_in S.news hl d1 l1 (strKind_is _ _ _ _) _ (k1.has y) (D _)
  | kept ks d es l e el =>
    obtain ⟨ak, rs, rfl, m1, r1⟩ := Ra.toTup
    obtain ⟨a, rfl, ha⟩ := Rb.toRef
    refine in_tupTab (fun a b => PyProof.V.same_str a b) hu1 S.news (S.kept e ha) (mem_led.mpr (.inr m1)) (TupKeyObj.made (txs_items r1 el)) ?_
    rw [kept_lookup, Option.isSome_map]
    exact D _
  | kept0 ks d l e el =>
    obtain ⟨ak, rs, rfl, m1, r1⟩ := Ra.toTup
    obtain ⟨a, rfl, ha⟩ := Rb.toRef
    exact in_tupTab (fun a b => PyProof.V.same_str a b) hu1 S.news (S.kept0 e ha) (mem_led.mpr (.inr m1)) (TupKeyObj.made (txs_items r1 el)) (D _)
end
end

section
open PySem PySem.W PySem.Calls PyProof.Rows PySem.Spec
inductive StrVs : List Tx → List Value → Prop
  | nil : StrVs [] []
  | cons {y : Tx} {t : Tok} {ys : List Tx} {rs : List Value} : StrVs ys rs → StrVs (y :: ys) (.str (tr y) t :: rs)
theorem StrVs.tx {w : World} {al : List Addr} {fz : Led} : ∀ {ys : List Tx} {rs : List Value}, StrVs ys rs → TxVs w al fz ys rs
  | _, _, .nil => .nil
  | _, _, .cons r => .cons _ _ r.tx
structure TopTup (a : Addr) (ys : List Tx) : Prop where
  at_ : ∀ w : World, ∃ od rs nn sl, (KF w).lookup a = some ⟨.type "tuple", od, .seq (List.toArray rs) nn, sl⟩ ∧ StrVs ys rs
noncomputable def vInG (ys : List Tx) (neg : Bool) : V → Hp → Out V := fun v H => match v with | .str y => .ok (.bool (if neg then !ys.any (txEq y) else ys.any (txEq y))) H | _ => .stuck
section
variable {I : Info} {n : Nat}
theorem inG_at {a : Addr} {ys : List Tx} (T : TopTup a ys) {f : Fm} {s : Shared} {H : Hp} {x : St} {y : Tx} {t : Tok} (ok : f.Ok n) (S : Std f s.heap H x) {Q E : Value → Shared → Prop} :
    (Q (.bool (ys.any (txEq y))) s → wpAny (model prog f.w) f.A (compareOp .In (.str (tr y) t) (.ref a)) Q E s) ∧ (Q (.bool (!ys.any (txEq y))) s → wpAny (model prog f.w) f.A (compareOp .NotIn (.str (tr y) t) (.ref a)) Q E s) := by
  obtain ⟨od, rs, nn, sl, hl, sv⟩ := T.at_ f.w
  obtain ⟨i1, i2⟩ := (sv.tx (w := f.w) (al := x.al) (fz := x.fz)).any y
  have ht : s.heap.IsTuple a rs.toArray := ⟨_, S.fr.keep _ _ (S.X ok _ _ hl), rfl, _, rfl⟩
  have he : ∀ v, v ∈ rs.toArray → SeqAt.EqAt f.A.in1 s v (.str (tr y) t) ((fun v => match v with | .str z _ => z == tr y | _ => false) v) := fun v hv => by
    obtain ⟨z, u, rfl⟩ := i2 v (List.mem_toArray.mp hv)
    exact (eqGives_str z (tr y) u t).at f.A.in1 s
  have hb : rs.toArray.any (fun v => match v with | .str z _ => z == tr y | _ => false) = ys.any (txEq y) := by rw [← i1]; exact List.any_toArray
  exact ⟨fun h => SeqAt.in_tupleAt _ ht he (by rw [hb]; exact h), fun h => SeqAt.notIn_tupleAt _ ht he (by rw [hb]; exact h)⟩
theorem sb_inG {g : Str} {a : Addr} {ys : List Tx} {l : Expr} {p pos : Pos} {e : Ex} (h1 : SE I n (eval l) e) (G : GName I g (.ref a)) (T : TopTup a ys) : SB I n (.Compare l [.In] [.Name g p] pos) (bTest (bOp1 (vInG ys false) e)) := by
  intro f env s ρ H x Q E ok q ei S Vs P
  refine wpAny_isTrue_Compare1 ?_ (by rfl)
  unfold bTest bOp1 at P
  rw [Out.bind_assoc] at P
  refine h1.go ok q ei S Vs P (preX _) fun v H1 x1 rv h1' tk1 S1 X1 R1 V1 P1 => ?_
  cases v <;> first | exact P1.elim | skip
  obtain ⟨t, rfl⟩ := R1.toStr
  exact Std.name (s := { s with heap := h1', toks := tk1 }) S1 ok ei G ((inG_at T ok S1).1 (wpAny_truthy_bool (PE.done (R0 := fun _ _ v rv => rv = v) P1 S1 rfl tk1)))
theorem sb_notInG {g : Str} {a : Addr} {ys : List Tx} {l : Expr} {p pos : Pos} {e : Ex} (h1 : SE I n (eval l) e) (G : GName I g (.ref a)) (T : TopTup a ys) : SB I n (.Compare l [.NotIn] [.Name g p] pos) (bTest (bOp1 (vInG ys true) e)) := by
  intro f env s ρ H x Q E ok q ei S Vs P
  refine wpAny_isTrue_Compare1 ?_ (by rfl)
  unfold bTest bOp1 at P
  rw [Out.bind_assoc] at P
  refine h1.go ok q ei S Vs P (preX _) fun v H1 x1 rv h1' tk1 S1 X1 R1 V1 P1 => ?_
  cases v <;> first | exact P1.elim | skip
  obtain ⟨t, rfl⟩ := R1.toStr
  exact Std.name (s := { s with heap := h1', toks := tk1 }) S1 ok ei G ((inG_at T ok S1).2 (wpAny_truthy_bool (PE.done (R0 := fun _ _ v rv => rv = v) P1 S1 rfl tk1)))
theorem se_glInt {g : Str} {i : Int} {u : Tok} {p : Pos} (G : GName I g (.int i u)) : SE I n (eval (.Name g p)) (bVal (.int i)) := by
  intro f env s ρ H x Q E ok q ei S Vs P
  exact S.name ok ei G (PE.done (R0 := fun f x v rv => VR f.w x.al x.fz v rv) P S (.int _ _) s.toks)
noncomputable def vIsNone (neg : Bool) : V → V → Hp → Out V := fun a b H => match b with | .none => .ok (.bool (match a with | .none => !neg | _ => neg)) H | _ => .stuck
noncomputable def isNn : V → Bool
  | .none => true
  | _ => false
theorem isNn_eq (neg : Bool) (a : V) (H : Hp) : vIsNone neg a .none H = .ok (.bool (if isNn a then !neg else neg)) H := by cases a <;> rfl
theorem VR.isNn {w : World} {al : List Addr} {fz : Led} {a : V} {r : Value} (R : VR w al fz a r) : (r == Value.none) = isNn a := by cases R <;> rfl
theorem op_isNone : Op2 RV I n (compareOp .Is) (vIsNone false) := by
  intro f s H x Q E a b ra rb ok q S Ra Rb P
  cases b <;> first | exact P.elim | skip
  cases Rb.toNone
  rw [isNn_eq] at P
  have D := PE.done (R0 := fun f x v rv => VR f.w x.al x.fz v rv) P S (.bool _) s.toks
  refine is_none_gen ?_
  rw [Ra.isNn]
  revert D
  cases isNn a <;> exact id
theorem op_isNotNone : Op2 RV I n (compareOp .IsNot) (vIsNone true) := by
  intro f s H x Q E a b ra rb ok q S Ra Rb P
  cases b <;> first | exact P.elim | skip
  cases Rb.toNone
  rw [isNn_eq] at P
  have D := PE.done (R0 := fun f x v rv => VR f.w x.al x.fz v rv) P S (.bool _) s.toks
  refine isnot_none_gen ?_
  rw [Ra.isNn]
  revert D
  cases isNn a <;> exact id
noncomputable def vSet : V → V → V → Hp → Out Unit := fun o i v H => match o, i with
  | .ref d, .str y => (match H[d]? with
    | some (.dict es) => if Nat.ble es.length 16384 then .ok () (H.set d (.dict (dput es y v))) else .stuck
    | _ => .stuck)
  | .ref d, .tup ks => (match H[d]?, txsOf ks, v with
    | some (.kept es), some l, .str y => if Nat.ble es.length 16384 && (kget es l).isNone then .ok () (H.set d (.kept (es ++ [(l, y)]))) else .stuck
    | some (.dict []), some l, .str y => .ok () (H.set d (.kept [(l, y)]))
    | _, _, _ => .stuck)
  | _, _ => .stuck
theorem OR.kept0 {w : World} {al : List Addr} {fz : Led} {a : Addr} {ro : Obj} (h : OR w al fz a (.dict []) ro) : OR w al fz a (.kept []) ro := by
  cases h with
  | dict k d l =>
    cases k
    obtain ⟨es, ep, hc, hdat, _, hp, _⟩ := d
    exact .kept (xs := []) l hc hdat (List.length_eq_zero_iff.mp hp.length) List.nodup_nil (fun _ h => nomatch h) .nil
theorem flat_snoc {K : Type} {enc : K → PyData} {kvs : List (K × Value)} {D : List (PyData × PyData)} (h : PyProof.V.FlatPairs enc kvs D) {k : K} {v : Value} {d : PyData} (hv : PyProof.V.Flat v d) : PyProof.V.FlatPairs enc (kvs ++ [(k, v)]) (D ++ [(enc k, d)]) := PyProof.V.FlatPairs.snoc h k hv
theorem kept_set {w : World} {A : Around} {E : Value → Shared → Prop} {s : Shared} {h₀ : Heap} {L : Addr} {m : Str → Option Value} {al : List Addr} {fz led : Led} {a ak : Addr} {ro : Obj} {es : List (List Tx × Tx)} {ks : List V} {rs : List Value} {l : List Tx} {y : Tx} {t : Tok} {g : Obj → Led} {Q : Unit → Shared → Prop}
    (R : OR w al fz a (.kept es) ro) (hu : A.units + 1 < cLine) (F : Fr h₀ L s.heap m) (N : News h₀ L s.heap led) (U : UpdF a ro led g) (hf : ∀ p ∈ fz, s.heap.get? p.1 = some p.2) (mk : (ak, tupO rs) ∈ fz) (r1 : VRs w al fz ks rs) (el : txsOf ks = some l)
    (hz : es.length ≤ sizeLine) (hk : kget es l = none) (k : ∀ h' o' tk, Fr h₀ L h' m → News h₀ L h' (g o') → OR w al fz a (.kept (es ++ [(l, y)])) o' → Q () { s with heap := h', toks := tk }) :
    wpAny (model prog w) A (setItem (.ref a) (.ref ak) (.str (tr y) t)) Q E s := by
  cases R with
  | @kept _ _ ds ep xs l1 c1 d1 q1 n1 k1 f1 =>
    obtain ⟨pre, post, rfl, hg, p1, p2⟩ := U.split
    have hm := N (a, ro) (List.mem_append_right _ (.head _))
    have hD : s.heap.DictOfH (tupleKind (PySem.strKind prog w)) a xs := ⟨ro, ds, ep, hm.1, c1, d1, q1, fun x hx => let ⟨_, h1, h2⟩ := k1 x hx; h2.key (hf _ h1), n1⟩
    have tk : TupKeyObj (PySem.strKind prog w) (l.map tr) (tupO rs) := TupKeyObj.made (txs_items r1 el)
    have hn : atKey xs (l.map tr) = none := by
      have := f1.none_of_lookup (same_encTuple fun a b => PyProof.V.same_str a b) (k := l.map tr) (by rw [kept_lookup, hk]; rfl)
      rw [valueAt_kvsOf] at this
      exact Option.map_eq_none_iff.mp this
    have hxl : xs.length ≤ sizeLine := by
      have e := f1.length
      simp only [kvsOf, keptD, List.length_map] at e
      omega
    refine wpAny_setItem_heap (hsz := hxl) (knd := tupleKind (PySem.strKind prog w)) (tupleKind_room_in1 hu) (tk.key (hf _ mk)) hD fun h' hm' hs => ?_
    obtain ⟨o', es', ep', ho', hc', hd', he', _, hn'⟩ := hm'
    refine k h' o' _ (F.change hs hm.2.1 hm.2.2) (hg o' ▸ N.setIn p1 p2 hs ho') (.kept l1 hc' hd' he' hn' (fun x hx => ?_) ?_)
    · rw [storedH_new hn] at hx
      rcases List.mem_append.mp hx with hx | hx
      · exact k1 x hx
      · rw [List.mem_singleton] at hx; subst hx
        exact ⟨_, mk, tk⟩
    · rw [storedH_new hn]
      have := flat_snoc f1 (k := l.map tr) (PyProof.V.Flat.str (tr y) t)
      simpa [kvsOf, keptD, encTuple, Function.comp_def] using this
inductive SetSh (H : Hp) : V → V → V → Hp → Prop
  | dict (d : Nat) (y : Tx) (c : V) (es : List (Tx × V)) : H[d]? = some (.dict es) → Nat.ble es.length 16384 = true → SetSh H (.ref d) (.str y) c (H.set d (.dict (dput es y c)))
  | kept (d : Nat) (ks : List V) (y : Tx) (es : List (List Tx × Tx)) (l : List Tx) : H[d]? = some (.kept es) → txsOf ks = some l → Nat.ble es.length 16384 = true → kget es l = none → SetSh H (.ref d) (.tup ks) (.str y) (H.set d (.kept (es ++ [(l, y)])))
  | kept0 (d : Nat) (ks : List V) (y : Tx) (l : List Tx) : H[d]? = some (.dict []) → txsOf ks = some l → SetSh H (.ref d) (.tup ks) (.str y) (H.set d (.kept [(l, y)]))
theorem vSet_sh (a b c : V) (H : Hp) (h : vSet a b c H ≠ .stuck) : ∃ H', SetSh H a b c H' ∧ vSet a b c H = .ok () H' := by
  cases a <;> first | exact absurd rfl h | skip
  all_goals cases b <;> first | exact absurd rfl h | skip
  all_goals
    delta vSet at h ⊢
    dsimp only at h ⊢
  · rename_i d y
    cases e : H[d]? with
    | none => rw [e] at h; exact absurd rfl h
    | some o =>
      rw [e] at h
      cases o <;> first | exact absurd rfl h | skip
      rename_i es
      by_cases g : Nat.ble es.length 16384 = true
      · exact ⟨_, .dict _ _ _ _ e g, if_pos g⟩
      · exact absurd (if_neg g) h
  · rename_i d ks
    cases e : H[d]? with
    | none => rw [e] at h; exact absurd rfl h
    | some o =>
      rw [e] at h
      cases e1 : txsOf ks with
      | none => cases o <;> first | exact absurd rfl h | (rw [e1] at h; exact absurd rfl h) | (rename_i es; cases es <;> first | exact absurd rfl h | (rw [e1] at h; exact absurd rfl h))
      | some l =>
        rw [e1] at h
        cases o <;> first | exact absurd rfl h | skip
        · rename_i es
          cases es with
          | nil =>
            cases c <;> first | exact absurd rfl h | skip
            exact ⟨_, .kept0 _ _ _ _ e e1, rfl⟩
          | cons _ _ => exact absurd rfl h
        · rename_i es
          cases c <;> first | exact absurd rfl h | skip
          by_cases g : (Nat.ble es.length 16384 && (kget es l).isNone) = true
          · have g' := Bool.and_eq_true_iff.mp g
            exact ⟨_, .kept _ _ _ _ _ e e1 g'.1 (Option.isNone_iff_eq_none.mp g'.2), if_pos g⟩
          · exact absurd (if_neg g) h
theorem op_set (hro : I.ro = false) : Op3 I 2 setItem vSet := by
  intro f s H x Q E a b c ra rb rc ok q S Ra Rb Rc P
  have hu : f.A.units + 32 < cLine := ok.units
  have hu1 : f.A.units + 1 < cLine := lt_less hu (by decide)
  obtain ⟨H', sh, eo⟩ := vSet_sh a b c H P.ns
  rw [eo] at P
  clear eo
  cases sh with
  | dict d y _ es e g =>
    obtain ⟨a, rfl, ha⟩ := Ra.toRef
    obtain ⟨t, rfl⟩ := Rb.toStr
    cases S.at_ e ha with
    | mk ro gg mu led R U upd =>
      obtain ⟨rs, k1, d1, l1⟩ := R.toDict
      exact kda_set (knd := PySem.strKind prog f.w) S.fr S.news U d1 (strKind_is _ _ _ _) (by rw [← k1.len]; exact fits g) fun h' o' F N hd' =>
        PE.to (R0 := fun _ _ _ _ => True) P (upd (q.2.trans hro) _ h' _ F N (.dict (k1.put y Rc (keysNodup_of_isDictOf d1)) hd' l1)) trivial _
  | kept d ks y es l e el g g2 =>
    obtain ⟨a, rfl, ha⟩ := Ra.toRef
    obtain ⟨ak, rs, rfl, m1, r1⟩ := Rb.toTup
    obtain ⟨t, rfl⟩ := Rc.toStr
    cases S.at_ e ha with
    | mk ro gg mu led R U upd =>
      exact kept_set R hu1 S.fr S.news U (fun p hp => S.fzAt hp) m1 r1 el (fits g) g2 fun h' o' tk F N R' => PE.to (R0 := fun _ _ _ _ => True) P (upd (q.2.trans hro) _ h' _ F N R') trivial _
  | kept0 d ks y l e el =>
    obtain ⟨a, rfl, ha⟩ := Ra.toRef
    obtain ⟨ak, rs, rfl, m1, r1⟩ := Rb.toTup
    obtain ⟨t, rfl⟩ := Rc.toStr
    cases S.at_ e ha with
    | mk ro gg mu led R U upd =>
      exact kept_set R.kept0 hu1 S.fr S.news U (fun p hp => S.fzAt hp) m1 r1 el (Nat.zero_le _) rfl fun h' o' tk F N R' => PE.to (R0 := fun _ _ _ _ => True) P (upd (q.2.trans hro) _ h' _ F N R') trivial _
structure SetOk (name : Tx) : Prop where
  at_ : ∀ w : World, ∀ c, c = 275 ∨ c = 142 ∨ c = 109 → findIn (KF w) (.ref c) "__setattr__" = some (some (.builtin "object.__setattr__")) ∧ plainOver (KF w) c = true ∧ takerIn (KF w) c (tr name) = some none ∧ hasDictIn (KF w) c = true
theorem FLs.put {w : World} {al : List Addr} {fz : Led} (x : Tx) {v : V} {r : Value} (hv : VR w al fz v r) (t : Tok) : ∀ {fs : List (Tx × V)} {es : List DictEntry}, FLs w al fz fs es → FLs w al fz (dput fs x v) (putL (tr x) (PyData.keyHash w.params (tr x)) (.str (tr x) t) r es)
  | _, _, .nil => .cons hv .nil
  | _, _, .cons (x := y) (v := u) (t := t') (r := q) (es := es) a b => by
    unfold putL
    rw [show (ent w (tr y) t' q).key.isStr (tr x) = txEq y x from isStr_tr y x t']
    simp only [dput]
    cases txEq y x with
    | true => exact .cons hv b
    | false => exact .cons a (b.put x hv t)
theorem FLs.len {w : World} {al : List Addr} {fz : Led} : ∀ {fs : List (Tx × V)} {es : List DictEntry}, FLs w al fz fs es → fs.length = es.length
  | _, _, .nil => rfl
  | _, _, .cons _ b => by simp [b.len]
theorem putL_len {nm : Str} {h : Int} {k v : Value} : ∀ (es : List DictEntry), (putL nm h k v es).length ≤ es.length + 1
  | [] => Nat.le_refl _
  | e :: es => by
    unfold putL
    split
    · simp
    · simp only [List.length_cons]; exact Nat.succ_le_succ (putL_len es)
theorem updF_upd {d : Addr} {o o' : Obj} : ∀ {l : Led} {g : Obj → Led}, UpdF d o l g → Upd d o o' l (g o')
  | _, _, .head h => .head h
  | _, _, .tail h u => .tail h (updF_upd u)
noncomputable def vSetA (name : Tx) : V → V → Hp → Out Unit := fun o v H => match o with
  | .ref k => (match H[k]? with
    | some (.inst c d) => (match H[d]? with
      | some (.fld fs) => if (Nat.beq c 275 || (Nat.beq c 142 || Nat.beq c 109)) && Nat.ble fs.length 100 then .ok () (H.set d (.fld (dput fs name v))) else .stuck
      | _ => .stuck)
    | _ => .stuck)
  | _ => .stuck
theorem vSetA_sh {name : Tx} (a b : V) (H : Hp) (h : vSetA name a b H ≠ .stuck) : ∃ k c d fs, a = .ref k ∧ H[k]? = some (.inst c d) ∧ H[d]? = some (.fld fs) ∧ (c = 275 ∨ c = 142 ∨ c = 109) ∧ fs.length ≤ 100 ∧ vSetA name a b H = .ok () (H.set d (.fld (dput fs name b))) := by
  cases a <;> first | exact absurd rfl h | skip
  rename_i k
  delta vSetA at h ⊢
  dsimp only at h ⊢
  cases e : H[k]? with
  | none => rw [e] at h; exact absurd rfl h
  | some o =>
    rw [e] at h
    cases o <;> first | exact absurd rfl h | skip
    rename_i c d
    dsimp only at h ⊢
    cases e2 : H[d]? with
    | none => rw [e2] at h; exact absurd rfl h
    | some o =>
      rw [e2] at h
      cases o <;> first | exact absurd rfl h | skip
      rename_i fs
      by_cases g : ((Nat.beq c 275 || (Nat.beq c 142 || Nat.beq c 109)) && Nat.ble fs.length 100) = true
      · have g' := Bool.and_eq_true_iff.mp g
        refine ⟨_, _, _, _, rfl, e, e2, ?_, Nat.le_of_ble_eq_true g'.2, if_pos g⟩
        rcases Bool.or_eq_true_iff.mp g'.1 with g | g
        · exact .inl (Nat.beq_eq.mp g)
        · rcases Bool.or_eq_true_iff.mp g with g | g
          · exact .inr (.inl (Nat.beq_eq.mp g))
          · exact .inr (.inr (Nat.beq_eq.mp g))
      · exact absurd (if_neg g) h
theorem op_setA (hro : I.ro = false) {name : Tx} {y : Str} (A : SetOk name) (hy : y = tr name) : Op2 RU I n (fun o v => setAttr o y v) (vSetA name) := by
  subst hy
  intro f s H x Q E a b ra rb ok q S Ra Rb P
  obtain ⟨k, c, d, fs, rfl, e1, e2, hc, hz, eo⟩ := vSetA_sh a b H P.ns
  rw [eo] at P
  clear eo
  obtain ⟨a, rfl, ha⟩ := Ra.toRef
  obtain ⟨p1, p2, p3, p4⟩ := A.at_ f.w c hc
  cases S.at_ e1 ha with
  | mk ro1 g1 mu1 led1 R1 U1 upd1 =>
    obtain ⟨da, rfl, hda⟩ := R1.toInst
    cases S.at_ e2 hda with
    | mk ro gg mu led R U upd =>
      obtain ⟨es, nn, rfl, Fl⟩ := R.toFld
      have I0 : InstAt s.heap a ⟨.ref c, some da, .plain, #[]⟩ c (some (dictOf es nn)) := ⟨S.muAt mu1, rfl, rfl, S.muAt mu⟩
      have hl : (getL (tr name) es).isSome = true := by
        cases q : dget fs name with
        | none => rw [(Fl.get name).2 q]; rfl
        | some v => obtain ⟨r, h1, _⟩ := (Fl.get name).1 v q; rw [h1]; rfl
      refine PySem.W.set_dict S.fr (S.X ok) S.news I0 rfl p1 p2 p3 p4 hl rfl (updF_upd U) ?_ fun h' F N => PE.to (R0 := fun _ _ _ _ => True) P (upd (q.2.trans hro) _ h' (.fld (dput fs name b)) F N (.fld (Fl.put name Rb _))) trivial _
      have := putL_len (nm := tr name) (h := PyData.keyHash f.w.params (tr name)) (k := .str (tr name) (s.toks + 1)) (v := rb) es
      rw [Fl.len] at hz
      refine Nat.le_trans (Nat.le_trans this (Nat.succ_le_succ hz)) ?_
      first | (rw [sizeLine_eq]; decide) | decide
end
end

section
open PySem PySem.W PySem.Calls PyProof.Rows PySem.Spec
noncomputable abbrev St.own (x : St) (p : Addr × Obj) : St := { x with cs := p :: x.cs }
section
variable {f : Fm} {h h' : Heap} {H : Hp} {x : St} {Ia : Addr} {o o' : Obj}
theorem Std.ownAt (S : Std f h H (x.own (Ia, o))) : h.get? Ia = some o ∧ Ia ≠ f.L ∧ x.gc.get? Ia = none := S.news (Ia, o) (List.mem_append_right _ (List.mem_append_right _ (.head _)))
theorem own_beside (S : Std f h H (x.own (Ia, o))) : ∀ p ∈ x.led, p.1 ≠ Ia := by
  have nd := S.nd
  have nd' : ((adr x.mu ++ adr x.tb) ++ Ia :: adr x.cs).Nodup := by simpa [adr, List.append_assoc] using nd
  obtain ⟨n1, n2⟩ := nodup_mid nd'
  intro p hp e
  rw [mem_led] at hp
  rcases hp with hp | hp
  · simp only [St.ch, List.mem_append] at hp
    rcases hp with hp | hp | hp
    · exact n1 (List.mem_append_left _ (e ▸ List.mem_map_of_mem hp))
    · exact n1 (List.mem_append_right _ (e ▸ List.mem_map_of_mem hp))
    · exact n2 (e ▸ List.mem_map_of_mem hp)
  · exact S.off p hp (by rw [e]; exact List.mem_map_of_mem (List.mem_append_right _ (List.mem_append_right _ (.head _))))
theorem Std.drop (S : Std f h H (x.own (Ia, o))) (hc : ∀ y c, f.cl.lookup y = some c → c ≠ Ia) : Std f h H x := by
  refine ⟨S.below, S.slip, S.quiet, S.fr, fun p hp => S.news p ?_, S.objs, S.tabs, ?_, fun p hp q => S.off p hp ?_, fun y c hy => ?_⟩
  · simp only [St.led, List.mem_append, List.mem_cons] at hp ⊢
    rcases hp with hp | hp | hp | hp
    · exact .inl hp
    · exact .inr (.inl hp)
    · exact .inr (.inr (.inl (.inr hp)))
    · exact .inr (.inr (.inr hp))
  · have nd' : ((adr x.mu ++ adr x.tb) ++ Ia :: adr x.cs).Nodup := by simpa [adr, List.append_assoc] using S.nd
    rw [List.nodup_append, List.nodup_cons] at nd'
    have : ((adr x.mu ++ adr x.tb) ++ adr x.cs).Nodup := List.nodup_append.mpr ⟨nd'.1, nd'.2.1.2, fun a ha b hb => nd'.2.2 a ha b (.tail _ hb)⟩
    simpa [adr, List.append_assoc] using this
  · simp only [adr, List.map_append, List.map_cons, List.mem_append, List.mem_cons] at q ⊢
    rcases q with q | q | q
    · exact .inl q
    · exact .inr (.inl q)
    · exact .inr (.inr (.inr q))
  · obtain ⟨o2, v2, h2, h3⟩ := S.cells y c hy
    rcases List.mem_cons.mp h2 with e | h2
    · exact absurd (congrArg Prod.fst e) (hc y c hy)
    · exact ⟨o2, v2, h2, h3⟩
theorem Std.put (S : Std f h H x) (F : Fr x.gc f.L h' x.m) (N : News x.gc f.L h' ((Ia, o) :: x.led)) (l : ∀ p ∈ x.led, p.1 ≠ Ia) : Std f h' H (x.own (Ia, o)) := by
  refine ⟨S.below, S.slip, S.quiet, F, fun p hp => N p ?_, S.objs, S.tabs, ?_, fun p hp q => ?_, fun y c hy => ?_⟩
  · simp only [St.led, List.mem_append, List.mem_cons] at hp ⊢
    rcases hp with hp | hp | (hp | hp) | hp
    · exact .inr (.inl hp)
    · exact .inr (.inr (.inl hp))
    · exact .inl hp
    · exact .inr (.inr (.inr (.inl hp)))
    · exact .inr (.inr (.inr (.inr hp)))
  · have nd' : ((adr x.mu ++ adr x.tb) ++ adr x.cs).Nodup := by simpa [adr, List.append_assoc] using S.nd
    rw [List.nodup_append] at nd'
    have nI : ∀ {l2 : Led}, (∀ p ∈ l2, p ∈ x.led) → Ia ∉ adr l2 := fun hs q => by
      obtain ⟨p, hp, e⟩ := List.mem_map.mp q
      exact l p (hs p hp) e
    have : ((adr x.mu ++ adr x.tb) ++ Ia :: adr x.cs).Nodup := by
      refine List.nodup_append.mpr ⟨nd'.1, List.nodup_cons.mpr ⟨nI fun p hp => by simp [hp], nd'.2.1⟩, fun a ha b hb => ?_⟩
      rcases List.mem_cons.mp hb with rfl | hb
      · intro e
        subst e
        rcases List.mem_append.mp ha with ha | ha
        · exact nI (fun p hp => by simp [hp]) ha
        · exact nI (fun p hp => by simp [hp]) ha
      · exact nd'.2.2 a ha b hb
    simpa [adr, List.append_assoc] using this
  · simp only [adr, List.map_append, List.map_cons, List.mem_append, List.mem_cons] at q
    rcases q with q | q | q | q
    · exact S.off p hp (by simp only [adr, List.map_append, List.mem_append]; exact .inl q)
    · exact S.off p hp (by simp only [adr, List.map_append, List.mem_append]; exact .inr (.inl q))
    · exact l p (mem_led.mpr (.inr hp)) q
    · exact S.off p hp (by simp only [adr, List.map_append, List.mem_append]; exact .inr (.inr q))
  · obtain ⟨o2, v2, h2, h3⟩ := S.cells y c hy
    exact ⟨o2, v2, .tail _ h2, h3⟩
theorem Std.turn (S : Std f h H (x.own (Ia, o))) (hc : ∀ y c, f.cl.lookup y = some c → c ≠ Ia) (k : ∀ b ob, b ∉ [Ia] → h.get? b = some ob → h'.get? b = some ob) (e : h'.get? Ia = some o') : Std f h' H (x.own (Ia, o')) := by
  obtain ⟨h1, h2, h3⟩ := S.ownAt
  have bs := own_beside S
  have S0 := S.drop hc
  have kk : ∀ b ob, b ≠ Ia → h.get? b = some ob → h'.get? b = some ob := fun b ob hb => k b ob (by simpa using hb)
  obtain ⟨oL, es, ep, hL, r⟩ := S0.fr.ns
  refine S0.put ⟨⟨oL, es, ep, kk _ _ (Ne.symm h2) hL, r⟩, fun b ob q => kk b ob (fun z => by rw [z, h3] at q; cases q) (S0.fr.keep b ob q), S0.fr.above⟩ (fun p hp => ?_) bs
  rcases List.mem_cons.mp hp with rfl | hp
  · exact ⟨e, h2, h3⟩
  · obtain ⟨n1, n2, n3⟩ := S0.news p hp
    exact ⟨kk _ _ (bs p hp) n1, n2, n3⟩
theorem Kept.own {x' : St} (S : Std f h' H x') (k : Kept f (x.own (Ia, o)) x') (hc : ∀ y c, f.cl.lookup y = some c → c ≠ Ia) : ∃ y : St, x' = y.own (Ia, o) ∧ Kept f x y := by
  obtain ⟨gc, m, mu, tb, cs, fz⟩ := x'
  have ha := k.adr
  have hm := k.keep (Ia, o) (.head _) hc
  cases cs with
  | nil => cases hm
  | cons p r =>
    have e1 : p.1 = Ia := by simp only [List.map_cons] at ha; exact (List.cons.inj ha).1
    have e2 : Mine.adr r = Mine.adr x.cs := by simp only [List.map_cons] at ha; exact (List.cons.inj ha).2
    have nd' : ((Mine.adr mu ++ Mine.adr tb) ++ p.1 :: Mine.adr r).Nodup := by simpa [Mine.adr, List.append_assoc] using S.nd
    have n2 := (nodup_mid nd').2
    have e3 : p = (Ia, o) := by
      rcases List.mem_cons.mp hm with q | q
      · exact q.symm
      · exact absurd (e1 ▸ List.mem_map_of_mem q) n2
    subst e3
    refine ⟨⟨gc, m, mu, tb, r, fz⟩, rfl, ⟨e2, fun q hq hne => ?_, k.ro⟩⟩
    rcases List.mem_cons.mp (k.keep q (.tail _ hq) hne) with z | z
    · subst z
      have : Ia ∈ Mine.adr x.cs := List.mem_map_of_mem hq
      exact absurd (e2 ▸ this) n2
    · exact z
end
noncomputable def forM (t : Tx_) (b : Sx) : List V → Rho → Hp → Out (Fl × Rho)
  | [], ρ, H => .ok (.next, ρ) H
  | v :: vs, ρ, H => (t v ρ H).bind fun ρ1 H1 => (b ρ1 H1).bind fun r H2 => match r.1 with
    | .next => forM t b vs r.2 H2
    | .brk => .ok (.next, r.2) H2
    | .ret u => .ok (.ret u, r.2) H2
theorem forM_nil (t : Tx_) (b : Sx) (ρ : Rho) (H : Hp) : forM t b [] ρ H = .ok (.next, ρ) H := rfl
theorem forM_cons (t : Tx_) (b : Sx) (v : V) (vs : List V) (ρ : Rho) (H : Hp) : forM t b (v :: vs) ρ H = (t v ρ H).bind fun ρ1 H1 => (b ρ1 H1).bind fun r H2 => match r.1 with
    | .next => forM t b vs r.2 H2
    | .brk => .ok (.next, r.2) H2
    | .ret u => .ok (.ret u, r.2) H2 := rfl
theorem Vars.own {I : Info} {f : Fm} {x : St} {ρ : Rho} {p : Addr × Obj} (h : Vars I f f.env x ρ) : Vars I f f.env (x.own p) ρ := fun i v e => by
  obtain ⟨y, rv, h1, h2, h3, h4⟩ := h i v e
  refine ⟨y, rv, h1, h2, h3, ?_⟩
  cases h4 with
  | own a b c => exact .own a b c
  | cell a b c d => exact .cell a b (.tail _ c) d
  | free a b c d e => exact .free a b (.tail _ c) d e
  | comp a b c d => exact .comp a (.tail _ b) c d
theorem Vars.unown {I : Info} {f : Fm} {h : Heap} {H : Hp} {x : St} {ρ : Rho} {Ia : Addr} {o : Obj} (V : Vars I f f.env (x.own (Ia, o)) ρ) (S : Std f h H (x.own (Ia, o))) (hc : ∀ y c, f.cl.lookup y = some c → c ≠ Ia) : Vars I f f.env x ρ := fun i v e => by
  obtain ⟨y, rv, h1, h2, h3, h4⟩ := V i v e
  refine ⟨y, rv, h1, h2, h3, ?_⟩
  cases h4 with
  | own a b c => exact .own a b c
  | cell a b c d =>
    rcases List.mem_cons.mp c with q | q
    · exact absurd (congrArg Prod.fst q) (hc _ _ b)
    · exact .cell a b q d
  | free a b c d e =>
    rcases List.mem_cons.mp c with q | q
    · exact absurd (congrArg Prod.fst q) (hc _ _ b)
    · exact .free a b q d e
  | comp a b c d => exact absurd rfl (S.news _ (List.mem_append_right _ (List.mem_append_right _ (List.mem_append_left _ b)))).2.1
inductive LoopInv (I : Info) (f : Fm) (s : Shared) (x : St) (Ia : Addr) (cnt : Nat) (St0 : Nat → Heap → Prop) (R : Nat → Rho → Hp → Out (Fl × Rho)) (Q : Flow → Shared → Prop) (E : Value → Shared → Prop) (k : Nat) (s' : Shared) : Prop
  | mk (i : Nat) (ρ' : Rho) (H' : Hp) (x' : St) (o' : Obj) (h' : Heap) (tk : Nat) : s' = { s with heap := h', toks := tk } → St0 i h' → i ≤ cnt → k = cnt + 1 - i → Std f h' H' (x'.own (Ia, o')) → Ext x.al x.fz x'.al x'.fz → Kept f x x' → Vars I f f.env x' ρ' → PE (RS I) f x' s' (R i ρ' H') Q E → LoopInv I f s x Ia cnt St0 R Q E k s'
theorem loop_core {I : Info} {n : Nat} {target : Expr} {body : List Stmt} {t : Tx_} {b : Sx} (ht : STg I n target t) (hb : SSs I n body b) {f : Fm} {s : Shared} {x : St} {H : Hp} {ρ : Rho} {Q : Flow → Shared → Prop} {E : Value → Shared → Prop}
    (ok : f.Ok n) (q : f.q = I.q ∧ f.ro = I.ro) (ei : EnvIs I f f.env) {Ia : Addr} {fp : List Addr} {cnt : Nat} {P Md : Nat → Value → Heap → Prop} {St0 : Nat → Heap → Prop} (W : KTurns prog f.w f.A target Ia fp [Ia] cnt P Md St0) (hI : ∀ i h, St0 i h → ∃ o, h.get? Ia = some o)
    {vs : List V} (hP : ∀ i v h, i < cnt → P i v h → ∃ u, vs[i]? = some u ∧ VR f.w x.al x.fz u v) (hl : vs.length = cnt) (hfp : ∀ b ∈ fp, b = Ia ∨ ∃ o, (b, o) ∈ x.fz ∨ (f.ro = true ∧ (b, o) ∈ x.mu)) (hc : ∀ y c, f.cl.lookup y = some c → c ≠ Ia)
    {oI : Obj} (S : Std f s.heap H (x.own (Ia, oI))) (Vs : Vars I f f.env x ρ) (st0 : St0 0 s.heap) (pe : PassesOwn (model prog f.w) f.A f.env E) (P0 : PE (RS I) f x s (forM t b vs ρ H) Q E) :
    codeAny (model prog f.w) f.A (.forLoop target (.ref Ia) body [] f.env) (fun r s' => match r with | .ok fl => Q fl s' | .error e => cameBackBy (model prog f.w) f.A f.env E e s') s := by
  refine codeAny_forLoop_any
    (LoopInv I f s x Ia cnt St0 (fun i => forM t b (vs.drop i)) Q E) ?_ (cnt + 1)
    ⟨0, ρ, H, x, oI, s.heap, s.toks, rfl, st0, Nat.zero_le _, rfl, S, .refl, .refl, Vs, P0⟩
  rintro k s' ⟨i, ρ', H', x', o', h', tk, rfl, st, hi, rfl, S', X', K', V', P'⟩
  by_cases hlt : i < cnt
  · refine W.item i _ _ _ hlt st fun v h1 tk1 hMd k1 => ?_
    refine W.go i v _ _ _ hMd fun h2 hPv st2 k2 => ?_
    obtain ⟨o2, e2⟩ := hI _ _ st2
    have S2 := S'.turn hc (fun b ob hb z => k2 b ob hb (k1 b ob hb z)) e2
    refine Classical.byContradiction fun hn_ => ?_
    obtain ⟨u, hu, Ru⟩ := hP i v h2 hlt hPv
    refine hn_ ?_; clear hn_
    have hd : vs.drop i = u :: vs.drop (i + 1) := by
      have hil : i < vs.length := by omega
      rw [List.drop_eq_getElem_cons hil]
      congr 1
      rw [List.getElem?_eq_getElem hil] at hu
      exact Option.some.inj hu
    rw [hd, forM_cons] at P'
    refine wpAny_mono (Q := fun _ s2 => wpAny (model prog f.w) f.A (execs body f.env) (fun fl s3 => match fl with
        | .next | .cont => ∃ m, m < cnt + 1 - i ∧ LoopInv I f s x Ia cnt St0 (fun i => forM t b (vs.drop i)) Q E m s3
        | .brk => Q .next s3
        | .ret v => Q (.ret v) s3) (notedBy (model prog f.w) f.A f.env (cameBackBy (model prog f.w) f.A f.env E)) s2) (ht f _ u v ρ' H' _ _ E ok q ei S2 V'.own (Ru.mono X') ?_) (fun _ _ z => z) pe
    revert P'
    cases e3 : t u ρ' H' with
    | fault m j G => exact fun P' e h tk F => P' e h tk F
    | stuck => exact fun P' => P'.elim
    | ok ρ3 H3 =>
      intro P' _ h3 tk3 x3 S3 X3 R3
      refine Classical.byContradiction fun hn_ => ?_
      obtain ⟨y3, rfl, ky3⟩ := R3.1.own S3 hc
      refine hn_ ?_; clear hn_
      refine wpAny_mono (hb f _ ρ3 H3 (y3.own (Ia, o2)) _ E ok q ei S3 R3.2 pe ?_) (fun _ _ z => z) pe
      change PE (RS I) f x' _ ((b ρ3 H3).bind _) Q E at P'
      revert P'
      cases e4 : b ρ3 H3 with
      | fault m j G => exact fun P' e h tk F => P' e h tk (F.mono X3)
      | stuck => exact fun P' => P'.elim
      | ok r H4 =>
        intro P' fl h4 tk4 x4 S4 X4 R4
        obtain ⟨r1, r2⟩ := r
        refine Classical.byContradiction fun hn_ => ?_
        obtain ⟨y4, rfl, ky4⟩ := R4.1.own S4 hc
        refine hn_ ?_; clear hn_
        have kall : Kept f x' y4 := ky3.trans ky4
        have xall : Ext x'.al x'.fz y4.al y4.fz := X3.trans X4
        have v4 := R4.2.1.unown S4 hc
        cases R4.2.2 with
        | next =>
          refine ⟨cnt + 1 - (i + 1), by omega, ⟨i + 1, r2, H4, y4, o2, h4, tk4, rfl, ?_, hlt, rfl, S4, X'.trans xall, K'.trans kall, v4, PE.onS xall (fun z v rv h => ⟨kall.trans h.1, h.2⟩) rfl P'⟩⟩
          refine W.frame _ _ _ st2 fun b hb ob eb => ?_
          rcases hfp b hb with rfl | ⟨ob', hm⟩
          · rw [e2] at eb; cases eb; exact S4.ownAt.1
          · rcases hm with hm | ⟨hro, hm⟩
            · have a1 := S2.fzAt (p := (b, ob')) (X'.fz _ hm)
              rw [a1] at eb; cases eb
              exact S4.fzAt (xall.fz _ (X'.fz _ hm))
            · have a1 := S2.muAt (p := (b, ob')) (by show _ ∈ x'.mu; rw [K'.ro hro]; exact hm)
              rw [a1] at eb; cases eb
              exact S4.muAt (p := (b, ob')) (by show _ ∈ y4.mu; rw [kall.ro hro, K'.ro hro]; exact hm)
        | brk => exact P' .next h4 tk4 y4 (S4.drop hc) xall ⟨kall, v4, .next⟩
        | ret hv => exact P' _ h4 tk4 y4 (S4.drop hc) xall ⟨kall, v4, .ret hv⟩
  · have hin : i = cnt := by omega
    subst hin
    refine W.done _ _ _ st fun h1 tk1 k1 => wpAny_execs_nil ?_
    have S1 : Std f h1 H' x' := by
      have S0 := S'.drop hc
      have bs := own_beside S'
      refine Classical.byContradiction fun hn_ => ?_
      obtain ⟨h1', h2', h3'⟩ := S'.ownAt
      refine hn_ ?_; clear hn_
      have kk : ∀ b ob, b ≠ Ia → h'.get? b = some ob → h1.get? b = some ob := fun b ob hb => k1 b ob (by simpa using hb)
      refine Classical.byContradiction fun hn_ => ?_
      obtain ⟨oL, es, ep, hL, r⟩ := S0.fr.ns
      refine hn_ ?_; clear hn_
      exact ⟨S0.below, S0.slip, S0.quiet, ⟨⟨oL, es, ep, kk _ _ (Ne.symm h2') hL, r⟩, fun b ob q => kk b ob (fun z => by rw [z, h3'] at q; cases q) (S0.fr.keep b ob q), S0.fr.above⟩,
        fun p hp => ⟨kk _ _ (bs p hp) (S0.news p hp).1, (S0.news p hp).2⟩, S0.objs, S0.tabs, S0.nd, S0.off, S0.cells⟩
    rw [List.drop_eq_nil_of_le (Nat.le_of_eq hl), forM_nil] at P'
    exact P' .next h1 tk1 x' S1 .refl ⟨.refl, V', .next⟩
end

section
open PySem PySem.W PySem.Calls PyProof.Rows PySem.Spec
theorem ints_range {w : World} {al : List Addr} {fz : Led} {k i : Nat} (hi : i < k) (t : Tok) : ∃ u, ((List.range k).map fun (j : Nat) => V.int (j : Int))[i]? = some u ∧ VR w al fz u (.int (0 + (i : Int)) t) :=
  ⟨.int (i : Int), by rw [List.getElem?_map, List.getElem?_range hi]; rfl, by rw [Int.zero_add]; exact .int _ _⟩
theorem KVs.keyAt {w : World} {al : List Addr} {fz : Led} : ∀ {es : List (Tx × V)} {rs : List (Str × Value)}, KVs w al fz es rs → ∀ {i : Nat} {k : Str} {x : Value}, rs[i]? = some (k, x) → ∃ y, (∃ v, es[i]? = some (y, v)) ∧ k = tr y
  | _, _, .nil, i, k, x, e => by simp at e
  | _, _, .cons (k := y) (v := v) a b, 0, k, x, e => by simp at e; exact ⟨y, ⟨v, rfl⟩, e.1.symm⟩
  | _, _, .cons a b, i + 1, k, x, e => by
    rw [List.getElem?_cons_succ] at e
    obtain ⟨y, ⟨v, h1⟩, h2⟩ := b.keyAt e
    exact ⟨y, ⟨v, by rw [List.getElem?_cons_succ]; exact h1⟩, h2⟩
noncomputable def itemsOf (v : V) (ro : Bool) (H : Hp) : Option (List V) := match v with
  | .tup vs => some vs
  | .lst vs => some vs
  | .rng k => if Nat.ble k 16384 then some ((List.range k).map fun (j : Nat) => V.int (j : Int)) else none
  | .ref d => if ro then (match H[d]? with | some (.dict es) => if Nat.ble es.length 64 then some (es.map fun (p : Tx × V) => V.str p.1) else none | _ => none) else none
  | _ => none
noncomputable def sFor (ro : Bool) (e : Ex) (t : Tx_) (b : Sx) : Sx := fun ρ H => (e ρ H).bind fun v H1 => match itemsOf v ro H1 with | some vs => forM t b vs ρ H1 | none => .stuck
section
variable {I : Info} {n : Nat}
theorem Std.pushOwn {f : Fm} {s : Shared} {H : Hp} {x : St} (S : Std f s.heap H x) (o : Obj) (hf : o.isFreed = false := by rfl) : Std f (s.heap.push o) H (x.own (s.heap.objs.size, o)) ∧ ∀ y c, f.cl.lookup y = some c → c ≠ s.heap.objs.size :=
  ⟨S.put (S.fr.push o) (S.news.push S.fr o hf) fun p hp => Nat.ne_of_lt (S.low p hp), fun y c hy => by
    obtain ⟨o2, v2, h2, _⟩ := S.cells y c hy
    exact Nat.ne_of_lt (S.low (c, o2) (by simp [St.led, h2]))⟩
theorem VRs.back {w : World} {al : List Addr} {fz : Led} {us : List V} {rs : List Value} (R : VRs w al fz us rs) {i : Nat} {v : Value} (hp : rs.toArray[i]? = some v) : ∃ u, us[i]? = some u ∧ VR w al fz u v := by
  have hp' : rs[i]? = some v := by simpa using hp
  have hlt : i < us.length := by rw [R.len]; exact (List.getElem?_eq_some_iff.mp hp').1
  obtain ⟨r, g1, g2⟩ := R.at (List.getElem?_eq_getElem hlt)
  rw [hp'] at g1; cases g1
  exact ⟨_, List.getElem?_eq_getElem hlt, g2⟩
theorem in_pair {a b c : Addr} (h : b ∈ [a, c]) : b = a ∨ b = c := by
  rcases List.mem_cons.mp h with h | h
  · exact .inl h
  · exact .inr (List.mem_singleton.mp h)
inductive ItemsSh (ro : Bool) (H : Hp) : V → List V → Prop
  | tup (vs : List V) : ItemsSh ro H (.tup vs) vs
  | lst (vs : List V) : ItemsSh ro H (.lst vs) vs
  | rng (k : Nat) : k ≤ 16384 → ItemsSh ro H (.rng k) ((List.range k).map fun (j : Nat) => V.int (j : Int))
  | dict (d : Nat) (es : List (Tx × V)) : ro = true → H[d]? = some (.dict es) → ItemsSh ro H (.ref d) (es.map fun (p : Tx × V) => V.str p.1)
theorem itemsOf_sh {v : V} {ro : Bool} {H : Hp} {vs : List V} (e : itemsOf v ro H = some vs) : ItemsSh ro H v vs := by
  cases v <;> first | exact nomatch (show (none : Option (List V)) = some vs from e) | (exact Option.some.inj e ▸ .tup _) | (exact Option.some.inj e ▸ .lst _) | skip
  · rename_i d
    cases ro
    · exact nomatch (show (none : Option (List V)) = some vs from e)
    · delta itemsOf at e
      dsimp only at e
      rw [if_pos rfl] at e
      cases e2 : H[d]? with
      | none => rw [e2] at e; cases e
      | some o =>
        rw [e2] at e
        cases o <;> first | (cases e; done) | skip
        rename_i es
        dsimp only at e
        by_cases g : Nat.ble es.length 64 = true
        · rw [if_pos g] at e; exact Option.some.inj e ▸ .dict _ _ rfl e2
        · rw [if_neg g] at e; cases e
  · rename_i k
    delta itemsOf at e
    dsimp only at e
    by_cases g : Nat.ble k 16384 = true
    · rw [if_pos g] at e; exact Option.some.inj e ▸ .rng _ (Nat.le_of_ble_eq_true g)
    · rw [if_neg g] at e; cases e
theorem ss_for {target iter : Expr} {body : List Stmt} {pos : Pos} {e : Ex} {t : Tx_} {b : Sx} (h1 : SE I n (eval iter) e) (ht : STg I n target t) (hb : SSs I n body b) (hs : ∀ env x, foldedSetIterable iter env x = pure x := by intro _ _; rfl)
    (hr : ∀ J v, letOwnedTupleGo target (.ref J) v = pure () := by intro _ _; rfl) : SS I n (exec (.For target iter body [] pos)) (sFor I.ro e t b) := by
  intro f s ρ H x Q E ok q ei S Vs pe P
  refine wpAny_For (h1.go ok q ei S Vs P (preS I) fun v H1 x1 rv h1' tk1 S1 X1 R1 V1 P1 => ?_) (hs f.env)
  cases ev : itemsOf v I.ro H1 with
  | none => rw [ev] at P1; exact P1.elim
  | some vs =>
  rw [ev] at P1
  have go : ∀ (i : Nat) (v : Value) (s : Shared) (Q : Unit → Shared → Prop) (E : Value → Shared → Prop), Q () s → wpAny (model prog f.w) f.A (letOwnedTupleGo target (.ref h1'.objs.size) v) Q E s := fun i v s Q E h => wpAny_of_eq (hr _ v) h
  cases itemsOf_sh ev with
  | tup =>
    obtain ⟨a, rs, rfl, m1, r1⟩ := R1.toTup
    have hne : a ≠ h1'.objs.size := Nat.ne_of_lt (S1.low _ (mem_led.mpr (.inr m1)))
    refine wpAny_pyIter_tuple (s := { s with heap := h1', toks := tk1 }) (items := rs.toArray) ⟨_, S1.fzAt m1, rfl, _, rfl⟩ ?_
    obtain ⟨S2, hc⟩ := S1.pushOwn (s := { s with heap := h1', toks := tk1 }) { cls := .type "tuple_iterator", data := .fields #[.ref a, .int 0 0] }
    exact loop_core ht hb ok q ei (KTurns.ofWalks (Walks.tuple rfl h1'.objs.size a hne rs.toArray) fun i v s Q E st h => go i v s Q E h) (fun i h st => let ⟨o, e, _⟩ := st.1; ⟨o, e⟩) (vs := vs) (fun i v h hi hp => r1.back hp) (by rw [r1.len, List.size_toArray]) (fun b hb => (in_pair hb).elim .inl fun e => .inr ⟨_, .inl (e ▸ m1)⟩) hc S2 V1 ⟨⟨_, Heap.get?_push_size _ rfl, rfl, rfl⟩, ⟨_, Heap.get?_push_of_some _ (S1.fzAt m1), rfl, _, rfl⟩⟩ pe P1
  | lst =>
    obtain ⟨a, rs, nn, rfl, m1, r1⟩ := R1.toLst
    have hne : a ≠ h1'.objs.size := Nat.ne_of_lt (S1.low _ (mem_led.mpr (.inr m1)))
    refine wpAny_pyIter_list (s := { s with heap := h1', toks := tk1 }) (items := rs.toArray) ⟨_, S1.fzAt m1, rfl, _, rfl⟩ ?_
    obtain ⟨S2, hc⟩ := S1.pushOwn (s := { s with heap := h1', toks := tk1 }) { cls := .type "list_iterator", data := .fields #[.ref a, .int 0 0] }
    exact loop_core ht hb ok q ei (KTurns.ofWalks (Walks.list rfl h1'.objs.size a hne rs.toArray) fun i v s Q E st h => go i v s Q E h) (fun i h st => let ⟨o, e, _⟩ := st.1; ⟨o, e⟩) (vs := vs) (fun i v h hi hp => r1.back hp) (by rw [r1.len, List.size_toArray]) (fun b hb => (in_pair hb).elim .inl fun e => .inr ⟨_, .inl (e ▸ m1)⟩) hc S2 V1 ⟨⟨_, Heap.get?_push_size _ rfl, rfl, rfl⟩, ⟨_, Heap.get?_push_of_some _ (S1.fzAt m1), rfl, _, rfl⟩⟩ pe P1
  | dict d es hro e2 =>
    obtain ⟨a, rfl, hd⟩ := R1.toRef
    obtain ⟨a', ro, hm, hll, ha', R, _⟩ := S1.place e2
    obtain rfl : a' = a := by rw [hd] at ha'; exact (Option.some.inj ha').symm
    cases R with
    | dict k1 d1 l1 =>
      rename_i rs
      have hd2 : h1'.DictOf (PySem.strKind prog f.w) a' rs := Heap.dictOf_iff.mpr ⟨ro, S1.muAt hm, d1⟩
      obtain ⟨o0, es0, ep, hD⟩ := hd2
      have hAt : h1'.DictAt (PySem.strKind prog f.w) a' rs ep := ⟨o0, es0, hD⟩
      have hne : a' ≠ h1'.objs.size := Nat.ne_of_lt (S1.low _ (mem_led.mpr (.inl (List.mem_append_left _ hm))))
      refine wpAny_pyIter_dict (s := { s with heap := h1', toks := tk1 }) l1 hAt ?_
      obtain ⟨S2, hc⟩ := S1.pushOwn (s := { s with heap := h1', toks := tk1 }) { cls := .type "dict_keyiterator", data := .fields #[.ref a', .int 0 0, .int rs.length 0, .int ep 0] }
      refine loop_core ht hb ok q ei (KTurns.ofWalks (Walks.dictKeys (knd := PySem.strKind prog f.w) rfl h1'.objs.size a' hne rs ep) fun i v s Q E st h => go i v s Q E h) (fun i h st => let ⟨o, e, _⟩ := st.1; ⟨o, e⟩) (vs := es.map fun (p : Tx × V) => V.str p.1) (fun i v h hi hp => ?_) (by rw [List.length_map, k1.len]) (fun b hb => (in_pair hb).elim .inl fun e => .inr ⟨_, .inr ⟨q.2.trans hro, e ▸ hm⟩⟩) hc S2 V1
        ⟨⟨_, Heap.get?_push_size _ rfl, rfl, rfl⟩, hAt.at' fun o e => Heap.get?_push_of_some _ e⟩ pe P1
      obtain ⟨k, x', e3, e4⟩ := hp
      obtain ⟨tk', rfl⟩ := Value.isStrOf_shape e4
      obtain ⟨y, ⟨v', hy⟩, rfl⟩ := k1.keyAt e3
      exact ⟨.str y, by rw [List.getElem?_map, hy]; rfl, .str _ _⟩
  | rng k hk' =>
    obtain ⟨a, t, u, v, rfl, m1⟩ := R1.toRng
    have sz : Builtin.Range.rangeSize 0 (k : Int) 1 = (k : Int) := by
      rw [rangeSize_one]
      split <;> omega
    refine wpAny_pyIter_range (s := { s with heap := h1', toks := tk1 }) (a := 0) (b := k) (c := 1) (S1.fzAt m1) (small_one (by omega) (by omega) (by omega) (by omega)) ?_
    obtain ⟨S2, hc⟩ := S1.pushOwn (s := { s with heap := h1', toks := tk1 }) { cls := .type "range_iterator", data := .fields #[rawInt 0, rawInt (Builtin.Range.rangeSize 0 k 1), rawInt 1] }
    refine loop_core ht hb ok q ei (KTurns.ofWalks (LCg.range_walks (prog := prog) (w := f.w) (A := f.A) (I := h1'.objs.size) rfl 0 k) fun i v s Q E st h => go i v s Q E h) (fun i h st => ⟨_, st⟩) (fun i v h hi hp => ?_) (by rw [List.length_map, List.length_range]) (fun b hb => .inl (List.mem_singleton.mp hb)) hc S2 V1 ?_ pe P1
    · obtain ⟨t', rfl⟩ := hp
      exact ints_range hi t'
    · show (h1'.push _).get? _ = _
      rw [Heap.get?_push_size _ rfl, sz]
      simp [rawInt]
end
end

section
open PySem PySem.W PySem.Calls PyProof.Rows PySem.Spec
theorem fault_at (w : World) : (KK w.params).lookup 52 = some oFault := by k_is
theorem fault_kept (w : World) : keepIn (KK w.params) (.ref 52) = true := by k_is
noncomputable def whileM (c : Bx) (b : Sx) : Nat → Rho → Hp → Out (Fl × Rho)
  | 0, _, _ => .stuck
  | k + 1, ρ, H => (c ρ H).bind fun v H1 => if v then (b ρ H1).bind fun r H2 => match r.1 with
      | .next => whileM c b k r.2 H2
      | .brk => .ok (.next, r.2) H2
      | .ret u => .ok (.ret u, r.2) H2
    else .ok (.next, ρ) H1
theorem whileM_succ (c : Bx) (b : Sx) (k : Nat) (ρ : Rho) (H : Hp) : whileM c b (k + 1) ρ H = (c ρ H).bind fun v H1 => if v then (b ρ H1).bind fun r H2 => match r.1 with
      | .next => whileM c b k r.2 H2
      | .brk => .ok (.next, r.2) H2
      | .ret u => .ok (.ret u, r.2) H2
    else .ok (.next, ρ) H1 := rfl
section
variable {I : Info} {n : Nat}
inductive WhileInv (I : Info) (f : Fm) (s : Shared) (x : St) (R : Nat → Rho → Hp → Out (Fl × Rho)) (Q : Flow → Shared → Prop) (E : Value → Shared → Prop) (k : Nat) (s' : Shared) : Prop
  | mk (ρ' : Rho) (H' : Hp) (x' : St) (h' : Heap) (tk : Nat) : s' = { s with heap := h', toks := tk } → Std f h' H' x' → Ext x.al x.fz x'.al x'.fz → Kept f x x' → Vars I f f.env x' ρ' → PE (RS I) f x' s' (R k ρ' H') Q E → WhileInv I f s x R Q E k s'
theorem ss_while {test : Expr} {body : List Stmt} {pos : Pos} {c : Bx} {b : Sx} (fuel : Nat) (hc : SB I n test c) (hb : SSs I n body b) : SS I n (exec (.While test body [] pos)) (whileM c b fuel) := by
  intro f s ρ H x Q E ok q ei S Vs pe P
  refine wpAny_While ?_
  refine codeAny_whileLoop
    (WhileInv I f s x (whileM c b) Q E) ?_ fuel
    ⟨ρ, H, x, s.heap, s.toks, rfl, S, .refl, .refl, Vs, P⟩
  rintro k s' ⟨ρ', H', x', h', tk, rfl, S', X', K', V', P'⟩
  cases k with
  | zero => exact P'.elim
  | succ k =>
    rw [whileM_succ] at P'
    refine wpAny_mono (hc f f.env _ ρ' H' x' (fun v s2 => if v then wpAny (model prog f.w) f.A (execs body f.env) (fun fl s3 => match fl with
            | .next | .cont => ∃ m, m < k + 1 ∧ WhileInv I f s x (whileM c b) Q E m s3
            | .brk => Q .next s3
            | .ret v => Q (.ret v) s3) (notedBy (model prog f.w) f.A f.env (cameBackBy (model prog f.w) f.A f.env E)) s2
        else wpAny (model prog f.w) f.A (execs [] f.env) (fun fl s3 => Q fl s3) (notedBy (model prog f.w) f.A f.env (cameBackBy (model prog f.w) f.A f.env E)) s2) E ok q ei S' V' ?_) (fun _ _ z => z) pe
    revert P'
    cases e1 : c ρ' H' with
    | fault m j G => exact fun P' e h tk F => P' e h tk F
    | stuck => exact fun P' => P'.elim
    | ok v H1 =>
      intro P' rv h1 tk1 x1 S1 X1 R1
      have E1 : ExtE f x' x1 := ⟨X1, R1.1, R1.2.1, R1.2.2.1⟩
      have hv := R1.2.2.2
      subst hv
      change PE (RS I) f x' _ (if rv then _ else _) Q E at P'
      cases rv with
      | false =>
        rw [if_neg Bool.false_ne_true] at P' ⊢
        exact wpAny_execs_nil (P' .next h1 tk1 x1 S1 X1 ⟨E1.kept, V'.mono E1, .next⟩)
      | true =>
        rw [if_pos rfl] at P' ⊢
        refine wpAny_mono (hb f _ ρ' H1 x1 _ E ok q ei S1 (V'.mono E1) pe ?_) (fun _ _ z => z) pe
        revert P'
        cases e2 : b ρ' H1 with
        | fault m j G => exact fun P' e h tk F => P' e h tk (F.mono X1)
        | stuck => exact fun P' => P'.elim
        | ok r H2 =>
          intro P' fl h2 tk2 x2 S2 X2 R2
          obtain ⟨r1, r2⟩ := r
          have kall : Kept f x' x2 := E1.kept.trans R2.1
          have xall := X1.trans X2
          cases R2.2.2 with
          | next => exact ⟨k, Nat.lt_succ_self k, ⟨r2, H2, x2, h2, tk2, rfl, S2, X'.trans xall, K'.trans kall, R2.2.1, PE.onS xall (fun z v rv h => ⟨kall.trans h.1, h.2⟩) rfl P'⟩⟩
          | brk => exact P' .next h2 tk2 x2 S2 xall ⟨kall, R2.2.1, .next⟩
          | ret hv => exact P' _ h2 tk2 x2 S2 xall ⟨kall, R2.2.1, .ret hv⟩
noncomputable def sRaise (e1 e2 : Ex) : Sx := fun ρ H => (e1 ρ H).bind fun m H1 => (e2 ρ H1).bind fun i H2 => match m, i with
  | .str m, .int i => .fault m i H2
  | _, _ => .stuck
theorem str_int_of {α : Type} {u v : V} {g : Tx → Int → Out α} (h : (match u, v with | .str m, .int i => g m i | _, _ => .stuck) ≠ .stuck) : ∃ m i, u = .str m ∧ v = .int i := by
  cases u <;> first | exact absurd rfl h | skip
  cases v <;> first | exact absurd rfl h | exact ⟨_, _, rfl, rfl⟩
theorem ss_raise {g : Str} {a1 a2 : Expr} {p cpos pos : Pos} {e1 e2 : Ex} (hn : 3 ≤ n) (G : GName I g (.ref 52)) (h1 : SE I n (eval a1) e1) (h2 : SE I n (eval a2) e2) (he1 : ∀ env, starEach [a1, a2] env = (false, eval a1 env) :: starEach [a2] env := by intro _; rfl) (he2 : ∀ env, starEach [a2] env = [(false, eval a2 env)] := by intro _; rfl) :
    SS I n (exec (.Raise (some (.Call (.Name g p) [a1, a2] [] cpos)) none pos)) (sRaise e1 e2) := by
  intro f s ρ H x Q E ok q ei S Vs pe P
  refine raise_made rfl (Call_ (S.name ok ei G ?_))
  have X : (KF f.w).In s.heap := fun a o e => S.fr.keep a o (S.X ok a o e)
  refine callWith_of (by rw [he1, he2]; rfl) (keeps_K (fault_kept f.w)) ?_
  have e0 : backTo cpos (starEach [a1, a2] f.env) = (false, eval a1 f.env) :: backTo cpos (starEach [a2] f.env) := by rw [he1]; rfl
  rw [e0]
  refine evalArgs_plain ?_
  rw [← e0]
  refine spliced_more ?_ (he1 _)
  refine h1.go ok q ei S Vs P (preS I) fun v1 H1 x1 r1 h1' tk1 S1 X1 R1 V1 P1 => ?_
  refine spliced_more ?_ (by rw [he2]; rfl)
  refine h2.go ok q ei S1 V1 P1 (preS I) fun v2 H2 x2 r2 h2' tk2 S2 X2 R2 V2 P2 => ?_
  refine spliced_none ⟨fun a o e => S2.fr.keep a o (S2.X (s := { s with heap := h2', toks := tk2 }) ok a o e), ?_⟩
  obtain ⟨m, i, rfl, rfl⟩ := str_int_of P2.ns
  obtain ⟨tm, rfl⟩ := R1.toStr
  obtain ⟨ti, rfl⟩ := R2.toInt
  show wpAny _ _ (call (.ref 52) [.str (tr m) tm, .int i ti]) _ _ _
  have ok3 := ok.less hn
  refine fault_spec (mean := f.mean) (mg := f.mg) (mb := f.mb) f.dp f.un f.gd f.cn f.cs f.a f.ccd f.cl f.outer f.A₀ f.base x2.gc f.L x2.m { s with heap := h2', toks := tk2 } _ E S2.below S2.fr ok.XB ok.TB (fun _ h => nomatch h) ok.kind ok3.room ok3.units trivial ?_ (fun _ _ _ _ _ _ z => z.elim)
  rintro v h3 tk3 led' T ⟨e, d, t2, u1, u2, rfl, rfl, l1, l2⟩
  have X3 : (KF f.w).In h3 := fun a o e => T.fr.keep a o (S2.X (s := { s with heap := h2', toks := tk2 }) ok a o e)
  refine ⟨e, _, _, rfl, X3 _ _ (fault_at f.w), (T.news _ (.head _)).1, rfl, rfl, rfl, ?_⟩
  refine P2 e h3 tk3 ?_
  intro Q' E' k
  rw [ok.hA]
  have N3 : News x2.gc f.L h3 ((e, excD t2 d) :: (d, oSaid f.w (.str (tr m) tm) (.int i ti) u1 u2) :: (t2, tupAt [.str (tr m) tm]) :: (x2.mu ++ (x2.tb ++ x2.fz))) := fun p hp => by
    rcases List.mem_cons.mp hp with rfl | hp
    · exact T.news _ (.head _)
    · rcases List.mem_cons.mp hp with rfl | hp
      · exact T.news _ (.tail _ (.head _))
      · rcases List.mem_cons.mp hp with rfl | hp
        · exact T.news _ (.tail _ (.tail _ (.head _)))
        · obtain ⟨n1, n2, n3⟩ := S2.part p hp
          exact ⟨T.keep _ _ List.not_mem_nil n1, n2, n3⟩
  refine raise_end S2.below T.fr N3 (fun p hp _ q hq z => ?_) l1 l2 (fun h'' R => ?_) ok.kind
  · rcases T.fresh p hp with w | w
    · exact absurd w List.not_mem_nil
    · rw [← z, (S2.part q hq).1] at w; cases w
  · exact k d h'' x2.mu x2.tb x2.fz tm ti u1 u2 (R.slip S2.slip) S2.hok .refl
end
end

section
open PySem PySem.W PySem.Calls PyProof.Rows PySem.Spec
structure BName (I : Info) (g : Str) (v : Value) : Prop where
  kind : I.cs.names.lookup g = some .globalImplicit
  at_ : ∀ w : World, nsIn (KF w) mainGlobals g = some none
  hv : bootBuiltins g = some v
  hn : g ≠ "__name__"
  db : (g == ("__debug__" : Str)) = false
theorem Std.nameB {f : Fm} {s : Shared} {H : Hp} {x : St} {n : Nat} {I : Info} {env : Env} {g : Str} {v : Value} {pos : Pos} (S : Std f s.heap H x) (ok : f.Ok n) (ei : EnvIs I f env) (G : BName I g v) {Q : Value → Shared → Prop} {E : Value → Shared → Prop} (h : Q v s) : wpAny (model prog f.w) f.A (eval (.Name g pos) env) Q E s := by
  refine Name_function_global ei.kind ?_ (loadGlobal_builtin (env := env) (by rw [ei.glob]; exact (S.T ok).g.keeps S.fr.keep) (mg_none_of (S.X ok) (S.T ok).g (G.at_ f.w)) (by rw [ei.blt]; exact (S.T ok).b.keeps S.fr.keep) (((S.T ok).builtins g G.hn).trans G.hv) h) G.db
  show env.scope.names.lookup g = _
  rw [ei.scope]; exact G.kind
noncomputable def OpN (I : Info) (n : Nat) (g : Value) (F : List V → Hp → Out V) : Prop :=
  ∀ (f : Fm) (s : Shared) (H : Hp) (x : St) (Q E : Value → Shared → Prop) (vs : List V) (rvs : List Value), f.Ok n → (f.q = I.q ∧ f.ro = I.ro) → Std f s.heap H x → VRs f.w x.al x.fz vs rvs → PE RV f x s (F vs H) Q E → wpAny (model prog f.w) f.A (call g rvs) Q E s
inductive IsB : Value → Prop
  | b (id : String) : IsB (.builtin id)
  | t (T : String) : IsB (.type T)
section
variable {I : Info} {n : Nat}
theorem callB {f : Fm} {env : Env} {s : Shared} {ρ : Rho} {H : Hp} {x : St} {Q E : Value → Shared → Prop} {pos : Pos} {g : Value} {first : List Value} {fv : List V} {args : List Expr} {es : Exs} {F : List V → Hp → Out V} (hb : IsB g) (ha : SArgs I n args es)
    (ok : f.Ok n) (q : f.q = I.q ∧ f.ro = I.ro) (ei : EnvIs I f env) (S : Std f s.heap H x) (Vs : Vars I f env x ρ) (hf : VRs f.w x.al x.fz fv first) (C : OpN I n g F) (P : PE RV f x s (bWith (fun vs => F (fv ++ vs)) es ρ H) Q E) :
    wpAny (model prog f.w) f.A (callWith pos g first (backTo pos (starEach args env)) []) Q E s := by
  have hp : (backTo pos (starEach args env)).any (·.1) = false := ha.plain pos env
  have main : wpAny (model prog f.w) f.A (evalArgs g true (backTo pos (starEach args env)) []) (fun a s₁ => wpAny (model prog f.w) f.A (call g (first ++ a.pos) a.kw) Q E s₁) E s := by
    cases ha with
    | nil => exact evalArgs_nil3 (C f s H x _ _ _ _ ok q S (hf.app .nil) P)
    | @cons e es b bs h1 h2 h3 h4 =>
      have e0 : backTo pos (starEach (e :: es) env) = (false, eval e env) :: backTo pos (starEach es env) := by rw [h3]; rfl
      rw [e0]
      refine evalArgs_plain ?_
      rw [← e0]
      refine SG.go (ses_cons h1 h2 h3 pos) ok q ei S Vs P (preX _) fun vs H' x' rvs h' tk S' X' R' V' P' => ?_
      exact C f _ H' x' _ _ _ _ ok q S' ((hf.mono X'.ext).app R') P'
  cases hb with
  | b id => exact callWith_builtin hp main
  | t T => exact PyProof.Rows.callWith_type hp main
theorem se_callB {g : Str} {v : Value} {p pos : Pos} {args : List Expr} {es : Exs} {F : List V → Hp → Out V} (G : BName I g v) (hb : IsB v) (C : OpN I n v F) (ha : SArgs I n args es) :
    SE I n (eval (.Call (.Name g p) args [] pos)) (bWith F es) := by
  intro f env s ρ H x Q E ok q ei S Vs P
  exact Call_ (S.nameB ok ei G (callB (fv := []) (first := []) hb ha ok q ei S Vs .nil C P))
noncomputable def OpM (I : Info) (n : Nat) (name : Str) (id : String) (good : V → Hp → Bool) : Prop :=
  ∀ (f : Fm) (s : Shared) (H : Hp) (x : St) (Q : Value × List Value → Shared → Prop) (E : Value → Shared → Prop) (o : V) (ro : Value) (pl : Sem Bool), f.Ok n → Std f s.heap H x → VR f.w x.al x.fz o ro → good o H = true → Q (.builtin id, [ro]) s → wpAny (model prog f.w) f.A (getMethod ro name pl) Q E s
noncomputable def bMethB (good : V → Hp → Bool) (F : List V → Hp → Out V) (e : Ex) (es : Exs) : Ex := fun ρ H => (e ρ H).bind fun o H1 => if good o H1 then bWith (fun vs => F (o :: vs)) es ρ H1 else .stuck
theorem se_methB {o : Expr} {y : Str} {id : String} {good : V → Hp → Bool} {ap pos : Pos} {args : List Expr} {e : Ex} {es : Exs} {F : List V → Hp → Out V} (h1 : SE I n (eval o) e) (M : OpM I n y id good) (C : OpN I n (.builtin id) F) (ha : SArgs I n args es) (he : MethCall o y ap pos args) :
    SE I n (eval (.Call (.Attribute o y ap) args [] pos)) (bMethB good F e es) := by
  intro f env s ρ H x Q E ok q ei S Vs P
  refine methCall he fun pl => h1.go ok q ei S Vs P (preX _) fun v H1 x1 rv h1' tk1 S1 X1 R1 V1 P1 => ?_
  obtain ⟨g, P2⟩ := PE.guard P1
  exact M f _ H1 x1 _ _ v rv pl ok S1 R1 g (callB (F := F) (fv := [v]) (.b id) ha ok q ei S1 V1 (.cons R1 .nil) C P2)
noncomputable def fLen : List V → Hp → Out V
  | [.tup vs], H => if Nat.ble vs.length 16384 then .ok (.int (vs.length : Int)) H else .stuck
  | [.lst vs], H => if Nat.ble vs.length 16384 then .ok (.int (vs.length : Int)) H else .stuck
  | _, _ => .stuck
theorem op_len : OpN I n (.builtin "len") fLen := by
  intro f s H x Q E vs rvs ok q S R P
  cases vs with
  | nil => exact P.elim
  | cons a vs =>
  cases a <;> first | exact P.elim | skip
  all_goals (cases vs <;> first | exact P.elim | skip)
  all_goals delta fLen at P
  all_goals dsimp only at P
  · obtain ⟨g, P⟩ := PE.guard P
    cases R with | cons R R2 => cases R2; cases R with | @tup _ a rs m1 r1 =>
    have hl := r1.len
    have g' := Nat.le_of_ble_eq_true g
    refine PyProof.Rows.len_tuple (items := rs.toArray) ⟨_, S.fzAt m1, rfl, _, rfl⟩ (by rw [List.size_toArray]; omega) ?_
    rw [List.size_toArray, ← hl]
    exact PE.done (R0 := fun f x v rv => VR f.w x.al x.fz v rv) P S (.int _ _) _
  · obtain ⟨g, P⟩ := PE.guard P
    cases R with | cons R R2 => cases R2; cases R with | @lst _ a rs nn m1 r1 =>
    have hl := r1.len
    have g' := Nat.le_of_ble_eq_true g
    refine PyProof.Rows.len_list (items := rs.toArray) ⟨_, S.fzAt m1, rfl, _, rfl⟩ (by rw [List.size_toArray]; omega) ?_
    rw [List.size_toArray, ← hl]
    exact PE.done (R0 := fun f x v rv => VR f.w x.al x.fz v rv) P S (.int _ _) _
noncomputable def fTuple : List V → Hp → Out V
  | [.tup vs], H => .ok (.tup vs) H
  | [.lst vs], H => if Nat.ble vs.length 16384 then .ok (.tup vs) H else .stuck
  | _, _ => .stuck
theorem op_tuple : OpN I n (.type "tuple") fTuple := by
  intro f s H x Q E vs rvs ok q S R P
  cases vs with
  | nil => exact P.elim
  | cons a vs =>
  cases a <;> first | exact P.elim | skip
  all_goals (cases vs <;> first | exact P.elim | skip)
  all_goals delta fTuple at P
  all_goals dsimp only at P
  · cases R with | cons R R2 => cases R2; cases R with | @tup _ a rs m1 r1 =>
    exact call_tuple_tup (items := rs.toArray) ⟨_, S.fzAt m1, rfl, _, rfl⟩ (PE.done (R0 := fun f x v rv => VR f.w x.al x.fz v rv) P S (.tup m1 r1) _)
  · obtain ⟨g, P⟩ := PE.guard P
    cases R with | cons R R2 => cases R2; cases R with | @lst _ a rs nn m1 r1 =>
    have hl := r1.len
    have g' := Nat.le_of_ble_eq_true g
    refine kde_tupleOf S.fr S.news (items := rs.toArray) (zs := rs) ⟨_, S.fzAt m1, rfl, _, rfl⟩ (by rw [List.size_toArray]; omega) rfl fun D h' F' N' l1 => ?_
    obtain ⟨S', X'⟩ := S.frz F' N' l1
    exact P _ h' _ _ S' X'.ext ⟨rfl, rfl, fun _ => rfl, .tup (.head _) (r1.mono X'.ext)⟩
noncomputable def fList : List V → Hp → Out V
  | [.tup vs], H => if Nat.ble vs.length 16384 then .ok (.lst vs) H else .stuck
  | [.lst vs], H => if Nat.ble vs.length 16384 then .ok (.lst vs) H else .stuck
  | _, _ => .stuck
theorem op_list : OpN I n (.type "list") fList := by
  intro f s H x Q E vs rvs ok q S R P
  cases vs with
  | nil => exact P.elim
  | cons a vs =>
  cases a <;> first | exact P.elim | skip
  all_goals (cases vs <;> first | exact P.elim | skip)
  all_goals delta fList at P
  all_goals dsimp only at P
  · obtain ⟨g, P⟩ := PE.guard P
    cases R with | cons R R2 => cases R2; cases R with | @tup _ a rs m1 r1 =>
    have hl := r1.len
    have g' := Nat.le_of_ble_eq_true g
    refine list_copyKT S.fr S.news (items := rs.toArray) ⟨_, S.fzAt m1, rfl, _, rfl⟩ (fun D c h' F' N' l1 => ?_) (by rw [List.size_toArray, sizeLine_eq]; omega)
    obtain ⟨S', X'⟩ := S.frz F' N' l1
    exact P _ h' _ _ S' X'.ext ⟨rfl, rfl, fun _ => rfl, .lst (.head _) (r1.mono X'.ext)⟩
  · obtain ⟨g, P⟩ := PE.guard P
    cases R with | cons R R2 => cases R2; cases R with | @lst _ a rs nn m1 r1 =>
    have hl := r1.len
    have g' := Nat.le_of_ble_eq_true g
    refine list_copyK S.fr S.news (items := rs.toArray) ⟨_, S.fzAt m1, rfl, _, rfl⟩ (fun D c h' F' N' l1 => ?_) (by rw [List.size_toArray, sizeLine_eq]; omega)
    obtain ⟨S', X'⟩ := S.frz F' N' l1
    exact P _ h' _ _ S' X'.ext ⟨rfl, rfl, fun _ => rfl, .lst (.head _) (r1.mono X'.ext)⟩
noncomputable def fRange : List V → Hp → Out V
  | [.int (.ofNat k)], H => .ok (.rng k) H
  | _, _ => .stuck
theorem op_range : OpN I n (.type "range") fRange := by
  intro f s H x Q E vs rvs ok q S R P
  cases vs with
  | nil => exact P.elim
  | cons a vs =>
  cases a <;> first | exact P.elim | skip
  rename_i k
  cases k <;> first | exact P.elim | skip
  rename_i k
  cases vs <;> first | exact P.elim | skip
  delta fRange at P
  dsimp only at P
  cases R with | cons R R2 => cases R2; cases R with | int i t =>
  refine call_range_1 ?_
  obtain ⟨S', X'⟩ := S.frz (S.fr.push _) (S.news.push S.fr { cls := .type "range", data := .fields #[.int 0 s.toks, .int _ _, .int 1 (s.toks + 1)] }) fun p hp => S.low p hp
  exact P _ _ _ _ S' X'.ext ⟨rfl, rfl, fun _ => rfl, .rng (.head _)⟩
noncomputable def digs (k : Nat) : Tx := if Nat.blt k 10 then [48 + k] else [48 + k / 10, 48 + k % 10]
theorem digs_ok : ∀ k : Fin 100, (Str.ofString (toString (k.val : Int))) = tr (digs k.val) := by decide +kernel
noncomputable def fStr : List V → Hp → Out V
  | [.int (.ofNat k)], H => if Nat.blt k 100 then .ok (.str (digs k)) H else .stuck
  | _, _ => .stuck
theorem op_str : OpN I n (.type "str") fStr := by
  intro f s H x Q E vs rvs ok q S R P
  cases vs with
  | nil => exact P.elim
  | cons a vs =>
  cases a <;> first | exact P.elim | skip
  rename_i k
  cases k <;> first | exact P.elim | skip
  rename_i k
  cases vs <;> first | exact P.elim | skip
  delta fStr at P
  dsimp only at P
  obtain ⟨g, P⟩ := PE.guard P
  have g' : k < 100 := by simpa using g
  cases R with | cons R R2 => cases R2; cases R with | int i t =>
  refine str_of_int_fit (N := 100) (by split <;> (simp only [Int.ofNat_eq_natCast] at *; omega)) (by decide +kernel) fun _ => ?_
  have e : (Str.ofString (toString (Int.ofNat k))) = tr (digs k) := digs_ok ⟨k, g'⟩
  rw [e]
  exact PE.done (R0 := fun f x v rv => VR f.w x.al x.fz v rv) P S (.str _ _) _
end
end

section
open PySem PySem.W PySem.Calls PyProof.Rows PySem.Spec
section
variable {I : Info} {n : Nat}
noncomputable def isDict : V → Hp → Bool := fun o H => match o with | .ref d => (match H[d]? with | some (.dict _) => true | _ => false) | _ => false
theorem isDict_sh {v : V} {H : Hp} (h : isDict v H = true) : ∃ d es, v = .ref d ∧ H[d]? = some (.dict es) := by
  cases v <;> first | exact absurd h Bool.false_ne_true | skip
  rename_i d
  delta isDict at h
  dsimp only at h
  cases e : H[d]? with
  | none => rw [e] at h; exact absurd h Bool.false_ne_true
  | some o =>
    rw [e] at h
    cases o <;> first | exact absurd h Bool.false_ne_true | skip
    exact ⟨_, _, rfl, e⟩
theorem om_get : OpM I n "get" "dict.get" isDict := by
  intro f s H x Q E o ro pl ok S R g k
  obtain ⟨d, es, rfl, e⟩ := isDict_sh g
  obtain ⟨a, rfl, ha⟩ := R.toRef
  obtain ⟨ro, rs, hl, k1, d1, l1⟩ := S.dictAt e ha
  exact kdg_method (knd := PySem.strKind prog f.w) S.news hl d1 k
theorem VRs.un {w : World} {al : List Addr} {fz : Led} {v : V} {vs : List V} {rs : List Value} : VRs w al fz (v :: vs) rs → ∃ r q, rs = r :: q ∧ VR w al fz v r ∧ VRs w al fz vs q
  | .cons a b => ⟨_, _, rfl, a, b⟩
theorem VRs.one {w : World} {al : List Addr} {fz : Led} {v : V} {rs : List Value} (h : VRs w al fz [v] rs) : ∃ r, rs = [r] ∧ VR w al fz v r := by
  obtain ⟨r, q, rfl, a, b⟩ := h.un
  exact ⟨r, by rw [List.eq_nil_of_length_eq_zero b.len.symm], a⟩
theorem VRs.two {w : World} {al : List Addr} {fz : Led} {u v : V} {rs : List Value} (h : VRs w al fz [u, v] rs) : ∃ q r, rs = [q, r] ∧ VR w al fz u q ∧ VR w al fz v r := by
  obtain ⟨q, _, rfl, a, b⟩ := h.un
  obtain ⟨r, rfl, c⟩ := b.one
  exact ⟨q, r, rfl, a, c⟩
noncomputable def fGet : List V → Hp → Out V
  | [.ref d, .str y], H => (match H[d]? with | some (.dict es) => .ok ((dget es y).getD .none) H | _ => .stuck)
  | _, _ => .stuck
theorem fGet_sh (vs : List V) (H : Hp) (h : fGet vs H ≠ .stuck) : ∃ d y es, vs = [.ref d, .str y] ∧ H[d]? = some (.dict es) ∧ fGet vs H = .ok ((dget es y).getD .none) H := by
  cases vs with
  | nil => exact absurd rfl h
  | cons a vs =>
    cases a <;> first | exact absurd rfl h | skip
    rename_i d
    cases vs with
    | nil => exact absurd rfl h
    | cons b vs =>
      cases b <;> first | exact absurd rfl h | skip
      rename_i y
      cases vs with
      | cons _ _ => exact absurd rfl h
      | nil =>
        delta fGet at h ⊢
        dsimp only at h ⊢
        cases e : H[d]? with
        | none => rw [e] at h; exact absurd rfl h
        | some o =>
          rw [e] at h
          cases o <;> first | exact absurd rfl h | skip
          rename_i es
          dsimp only at h ⊢
          exact ⟨_, _, _, rfl, e, rfl⟩
theorem op_dget : OpN I n (.builtin "dict.get") fGet := by
  intro f s H x Q E vs rvs ok q S R P
  obtain ⟨d, y, es, rfl, e, eo⟩ := fGet_sh vs H P.ns
  rw [eo] at P
  clear eo
  obtain ⟨_, _, rfl, Ra, Rb⟩ := R.two
  obtain ⟨a, rfl, ha⟩ := Ra.toRef
  obtain ⟨t, rfl⟩ := Rb.toStr
  obtain ⟨ro, rs, hl, k1, d1, l1⟩ := S.dictAt e ha
  refine kdg_get1 (knd := PySem.strKind prog f.w) S.news hl d1 l1 (strKind_is _ _ _ _) _ rfl ?_
  have hk := k1.get y
  cases e2 : dget es y with
  | none =>
    rw [hk.2 e2]
    rw [e2] at P
    exact PE.done (R0 := fun f x v rv => VR f.w x.al x.fz v rv) P S .none _
  | some v =>
    obtain ⟨r, h1, h2⟩ := hk.1 v e2
    rw [h1]
    rw [e2] at P
    exact PE.done (R0 := fun f x v rv => VR f.w x.al x.fz v rv) P S h2 _
noncomputable def isList : V → Hp → Bool := fun o H => match o with | .ref d => (match H[d]? with | some (.list _) => true | _ => false) | _ => false
theorem isList_sh {v : V} {H : Hp} (h : isList v H = true) : ∃ d vs, v = .ref d ∧ H[d]? = some (.list vs) := by
  cases v <;> first | exact absurd h Bool.false_ne_true | skip
  rename_i d
  delta isList at h
  dsimp only at h
  cases e : H[d]? with
  | none => rw [e] at h; exact absurd h Bool.false_ne_true
  | some o =>
    rw [e] at h
    cases o <;> first | exact absurd h Bool.false_ne_true | skip
    exact ⟨_, _, rfl, e⟩
theorem om_list {name : Str} {id : String} (slot : Slot "list" name id) (hty : typeOf (.builtin id) = pure (.type "method_descriptor")) : OpM I n name id isList := by
  intro f s H x Q E o ro pl ok S R g k
  obtain ⟨d, vs, rfl, e⟩ := isList_sh g
  obtain ⟨a, rfl, ha⟩ := R.toRef
  obtain ⟨rs, nn, hm, hl, k1⟩ := S.listAt e ha
  exact kl_method S.news hl slot hty k
theorem om_append : OpM I n "append" "list.append" isList := om_list PySem.F.slot_list_append PySem.F.type_list_append
theorem om_pop : OpM I n "pop" "list.pop" isList := om_list PySem.F.slot_list_pop PySem.F.type_list_pop
noncomputable def fAppend : List V → Hp → Out V
  | [.ref d, v], H => (match H[d]? with | some (.list vs) => if Nat.ble vs.length 16384 then .ok .none (H.set d (.list (vs ++ [v]))) else .stuck | _ => .stuck)
  | _, _ => .stuck
theorem fAppend_sh (vs : List V) (H : Hp) (h : fAppend vs H ≠ .stuck) : ∃ d v us, vs = [.ref d, v] ∧ H[d]? = some (.list us) ∧ us.length ≤ 16384 ∧ fAppend vs H = .ok .none (H.set d (.list (us ++ [v]))) := by
  cases vs with
  | nil => exact absurd rfl h
  | cons a vs =>
    cases a <;> first | exact absurd rfl h | skip
    rename_i d
    cases vs with
    | nil => exact absurd rfl h
    | cons b vs =>
      cases vs with
      | cons _ _ => exact absurd rfl h
      | nil =>
        delta fAppend at h ⊢
        dsimp only at h ⊢
        cases e : H[d]? with
        | none => rw [e] at h; exact absurd rfl h
        | some o =>
          rw [e] at h
          cases o <;> first | exact absurd rfl h | skip
          rename_i us
          dsimp only at h ⊢
          by_cases g : Nat.ble us.length 16384 = true
          · exact ⟨_, _, _, rfl, e, Nat.le_of_ble_eq_true g, if_pos g⟩
          · exact absurd (if_neg g) h
theorem op_append (hro : I.ro = false) : OpN I n (.builtin "list.append") fAppend := by
  intro f s H x Q E vs rvs ok q S R P
  obtain ⟨d, v, us, rfl, e, g, eo⟩ := fAppend_sh vs H P.ns
  rw [eo] at P
  clear eo
  obtain ⟨_, rv, rfl, Ra, Rb⟩ := R.two
  obtain ⟨a, rfl, ha⟩ := Ra.toRef
  cases S.at_ e ha with
  | mk ro gg mu led R U upd =>
    obtain ⟨rs, nn, rfl, k1⟩ := R.toList
    refine append_K S.fr S.news (updF_upd U) (fun h' F' N' => PE.to (R0 := fun f x v rv => VR f.w x.al x.fz v rv) P (upd (q.2.trans hro) _ h' (.list (us ++ [v])) F' N' (by rw [List.push_toArray]; exact OR.list (n := nn + 1) (k1.app (.cons Rb .nil)))) .none _) ?_
    rw [List.size_toArray, sizeLine_eq, ← k1.len]
    exact Nat.le_trans g (by decide)
noncomputable def lastOf : List V → Option (List V × V)
  | [] => none
  | v :: vs => match lastOf vs with | some (p, y) => some (v :: p, y) | none => some ([], v)
theorem last_none : ∀ {vs : List V}, lastOf vs = none → vs = []
  | [], _ => rfl
  | v :: vs, e => by
    replace e : (match lastOf vs with | some (p, y) => some (v :: p, y) | none => some ([], v)) = none := e
    cases e1 : lastOf vs with
    | none => rw [e1] at e; cases e
    | some z => rw [e1] at e; cases e
theorem lastOf_cons {v : V} {vs p : List V} {y : V} (e : lastOf (v :: vs) = some (p, y)) : (∃ p', lastOf vs = some (p', y) ∧ p = v :: p') ∨ (vs = [] ∧ p = [] ∧ y = v) := by
  replace e : (match lastOf vs with | some (p, y) => some (v :: p, y) | none => some ([], v)) = some (p, y) := e
  cases e1 : lastOf vs with
  | none => rw [e1] at e; cases e; exact .inr ⟨last_none e1, rfl, rfl⟩
  | some z => rw [e1] at e; cases e; exact .inl ⟨_, rfl, rfl⟩
theorem last_at {w : World} {al : List Addr} {fz : Led} : ∀ {vs : List V} {rs : List Value}, VRs w al fz vs rs → ∀ {p : List V} {y : V}, lastOf vs = some (p, y) → ∃ rp ry, kl_last rs = some (rp, ry) ∧ VRs w al fz p rp ∧ VR w al fz y ry
  | _, _, .nil, p, y, e => by cases e
  | v :: vs, _, .cons (r := r) a b, p, y, e => by
    rcases lastOf_cons e with ⟨p', e', rfl⟩ | ⟨rfl, rfl, rfl⟩
    · obtain ⟨rp, ry, h1, h2, h3⟩ := last_at b e'
      exact ⟨r :: rp, ry, by rw [kl_last, h1], .cons a h2, h3⟩
    · cases b
      exact ⟨[], r, rfl, .nil, a⟩
noncomputable def fPop : List V → Hp → Out V
  | [.ref d], H => (match H[d]? with | some (.list vs) => if Nat.ble vs.length 16384 then (match lastOf vs with | some (p, y) => .ok y (H.set d (.list p)) | none => .stuck) else .stuck | _ => .stuck)
  | _, _ => .stuck
theorem fPop_sh (vs : List V) (H : Hp) (h : fPop vs H ≠ .stuck) : ∃ d us p y, vs = [.ref d] ∧ H[d]? = some (.list us) ∧ us.length ≤ 16384 ∧ lastOf us = some (p, y) ∧ fPop vs H = .ok y (H.set d (.list p)) := by
  cases vs with
  | nil => exact absurd rfl h
  | cons a vs =>
    cases a <;> first | exact absurd rfl h | skip
    rename_i d
    cases vs with
    | cons _ _ => exact absurd rfl h
    | nil =>
      delta fPop at h ⊢
      dsimp only at h ⊢
      cases e : H[d]? with
      | none => rw [e] at h; exact absurd rfl h
      | some o =>
        rw [e] at h
        cases o <;> first | exact absurd rfl h | skip
        rename_i us
        dsimp only at h ⊢
        by_cases g : Nat.ble us.length 16384 = true
        · rw [if_pos g] at h ⊢
          cases e2 : lastOf us with
          | none => rw [e2] at h; exact absurd rfl h
          | some o => exact ⟨_, _, _, _, rfl, e, Nat.le_of_ble_eq_true g, e2, rfl⟩
        · exact absurd (if_neg g) h
theorem op_pop (hro : I.ro = false) : OpN I n (.builtin "list.pop") fPop := by
  intro f s H x Q E vs rvs ok q S R P
  obtain ⟨d, us, p, y, rfl, e, g, e3, eo⟩ := fPop_sh vs H P.ns
  rw [eo] at P
  clear eo
  obtain ⟨_, rfl, Ra⟩ := R.one
  obtain ⟨a, rfl, ha⟩ := Ra.toRef
  cases S.at_ e ha with
  | mk ro gg mu led R U upd =>
    obtain ⟨rs, nn, rfl, k1⟩ := R.toList
    obtain ⟨rp, ry, h1, h2, h3⟩ := last_at k1 e3
    refine kl_pop S.fr S.news (its := rs.toArray) h1 (updF_upd U) (by show rs.length ≤ _; rw [sizeLine_eq, ← k1.len]; exact Nat.le_trans g (by decide)) fun h' F' N' => ?_
    have T := upd (q.2.trans hro) _ h' (.list p) F' N' (.list (n := nn + 1) h2)
    exact PE.to (R0 := fun f x v rv => VR f.w x.al x.fz v rv) P T (h3.mono T.ext.ext) _
noncomputable def joinTx (x : Tx) : List Tx → Tx
  | [] => []
  | [a] => a
  | a :: b :: r => (a ++ x) ++ joinTx x (b :: r)
theorem join_tr (x : Tx) : ∀ l : List Tx, Str.join (tr x) (l.map tr) = tr (joinTx x l)
  | [] => rfl
  | [a] => rfl
  | a :: b :: r => by
    show tr a ++ tr x ++ Str.join (tr x) ((b :: r).map tr) = _
    rw [join_tr x (b :: r), tr_app, tr_app]
    rfl
noncomputable def lenSum (l : List Tx) : Nat := l.foldr (fun a k => a.length + k) 0
theorem lenSum_eq (l : List Tx) : ((l.map tr).map (·.length)).sum = lenSum l := by
  induction l with
  | nil => rfl
  | cons a l ih => simp only [List.map_cons, List.sum_cons, ih]; rfl
theorem TxVs.strs {w : World} {al : List Addr} {fz : Led} : ∀ {l : List Tx} {rs : List Value}, TxVs w al fz l rs → StrsAre rs (l.map tr)
  | _, _, .nil => .nil
  | _, _, .cons _ _ h => .cons _ _ h.strs
noncomputable def isStr : V → Hp → Bool := fun o _ => match o with | .str _ => true | _ => false
theorem om_join : OpM I n "join" "str.join" isStr := by
  intro f s H x Q E o ro pl ok S R g k
  cases o <;> first | exact absurd g Bool.false_ne_true | skip
  obtain ⟨t, rfl⟩ := R.toStr
  exact GM.of _ (typeIs_str _ _ _) PySem.F.slot_str_join PySem.F.type_str_join GM.noRef k
noncomputable def fJoin : List V → Hp → Out V
  | [.str x, .tup vs], H => (match txsOf vs with | some l => if Nat.ble (lenSum l + l.length * x.length) 16777216 then .ok (.str (joinTx x l)) H else .stuck | none => .stuck)
  | _, _ => .stuck
theorem fJoin_sh (vs : List V) (H : Hp) (h : fJoin vs H ≠ .stuck) : ∃ y us l, vs = [.str y, .tup us] ∧ txsOf us = some l ∧ lenSum l + l.length * y.length ≤ 16777216 ∧ fJoin vs H = .ok (.str (joinTx y l)) H := by
  cases vs with
  | nil => exact absurd rfl h
  | cons a vs =>
    cases a <;> first | exact absurd rfl h | skip
    rename_i y
    cases vs with
    | nil => exact absurd rfl h
    | cons b vs =>
      cases b <;> first | exact absurd rfl h | skip
      rename_i us
      cases vs with
      | cons _ _ => exact absurd rfl h
      | nil =>
        delta fJoin at h ⊢
        dsimp only at h ⊢
        cases e : txsOf us with
        | none => rw [e] at h; exact absurd rfl h
        | some o =>
          rw [e] at h
          dsimp only at h ⊢
          by_cases g : Nat.ble (lenSum o + o.length * y.length) 16777216 = true
          · exact ⟨_, _, _, rfl, e, Nat.le_of_ble_eq_true g, if_pos g⟩
          · exact absurd (if_neg g) h
theorem op_join : OpN I n (.builtin "str.join") fJoin := by
  intro f s H x Q E vs rvs ok q S R P
  obtain ⟨y, us, l, rfl, e, g, eo⟩ := fJoin_sh vs H P.ns
  rw [eo] at P
  clear eo
  obtain ⟨_, _, rfl, Ra, Rb⟩ := R.two
  obtain ⟨t, rfl⟩ := Ra.toStr
  obtain ⟨a, rs, rfl, m1, r1⟩ := Rb.toTup
  refine join_tuple (items := rs.toArray) ⟨_, S.fzAt m1, rfl, _, rfl⟩ (r1.txs e).strs (by rw [lenSum_eq, List.length_map]; exact g) fun t' k => ?_
  rw [show Txt.join (tr y) (l.map tr) = tr (joinTx y l) from (StrLaws.glued_eq_join _ _).trans (join_tr y l)]
  exact PE.done (R0 := fun f x v rv => VR f.w x.al x.fz v rv) P S (.str _ _) _
noncomputable def rowsOf : List V → Option (List (List Tx))
  | [] => some []
  | .tup ks :: vs => (match txsOf ks, rowsOf vs with | some l, some r => some (l :: r) | _, _ => none)
  | _ :: _ => none
noncomputable def vInL : V → V → Hp → Out V := fun a b H => match a, b with
  | .tup ks, .lst vs => (match txsOf ks, rowsOf vs with
    | some l, some r => if l.all txOk && r.all (fun l => l.all txOk) then .ok (.bool (r.any fun k => txsEq k l)) H else .stuck
    | _, _ => .stuck)
  | _, _ => .stuck
theorem rowsOf_cons {v : V} {vs : List V} {l : List (List Tx)} (e : rowsOf (v :: vs) = some l) : ∃ ks k r, v = .tup ks ∧ txsOf ks = some k ∧ rowsOf vs = some r ∧ l = k :: r := by
  cases v <;> first | (cases e; done) | skip
  rename_i ks
  replace e : (match txsOf ks, rowsOf vs with | some l, some r => some (l :: r) | _, _ => none) = some l := e
  cases e1 : txsOf ks with
  | none => rw [e1] at e; cases e
  | some k =>
    cases e2 : rowsOf vs with
    | none => rw [e1, e2] at e; cases e
    | some r => rw [e1, e2] at e; cases e; exact ⟨_, _, _, rfl, e1, rfl, rfl⟩
theorem rows_read {w : World} {al : List Addr} {fz : Led} {h : Heap} (hf : ∀ p ∈ fz, h.get? p.1 = some p.2) : ∀ {vs : List V} {rs : List Value}, VRs w al fz vs rs → ∀ {r : List (List Tx)}, rowsOf vs = some r → ∃ as, ReadsAll h rs (r.map dTxs) as
  | _, _, .nil, l, e => by cases e; exact ⟨_, .nil⟩
  | v :: vs, _, .cons a b, l, e => by
    obtain ⟨ks, k, r, rfl, e1, e2, rfl⟩ := rowsOf_cons e
    obtain ⟨ad, rs', rfl, m1, r1⟩ := a.toTup
    obtain ⟨as, i1⟩ := rows_read hf b e2
    obtain ⟨bs, i2⟩ := txs_read hf r1 e1
    exact ⟨_, .cons (.tuple (hf _ m1) rfl rfl i2) i1⟩
theorem rows_ok {r : List (List Tx)} (h : r.all (fun l => l.all txOk) = true) : PyData.canLayAll0 (r.map dTxs) = true := by
  induction r with
  | nil => rfl
  | cons x l ih =>
    rw [List.all_cons, Bool.and_eq_true] at h
    simp only [List.map_cons, PyData.canLayAll0, PyData.canLay0, ok_all h.1, ih h.2, Bool.and_self]
theorem vInL_sh (a b : V) (H : Hp) (h : vInL a b H ≠ .stuck) : ∃ ks vs l r, a = .tup ks ∧ b = .lst vs ∧ txsOf ks = some l ∧ rowsOf vs = some r ∧ l.all txOk = true ∧ r.all (fun l => l.all txOk) = true ∧ vInL a b H = .ok (.bool (r.any fun k => txsEq k l)) H := by
  cases a <;> first | exact absurd rfl h | skip
  cases b <;> first | exact absurd rfl h | skip
  rename_i ks vs
  delta vInL at h ⊢
  dsimp only at h ⊢
  cases e1 : txsOf ks with
  | none => rw [e1] at h; exact absurd rfl h
  | some l =>
    rw [e1] at h
    cases e2 : rowsOf vs with
    | none => rw [e2] at h; exact absurd rfl h
    | some r =>
      rw [e2] at h
      dsimp only at h ⊢
      by_cases g : (l.all txOk && r.all (fun l => l.all txOk)) = true
      · have g' := Bool.and_eq_true_iff.mp g
        exact ⟨_, _, _, _, rfl, rfl, e1, e2, g'.1, g'.2, if_pos g⟩
      · exact absurd (if_neg g) h
theorem op_inL : Op2 RV I 2 (compareOp .In) vInL := by
  intro f s H x Q E a b ra rb ok q S Ra Rb P
  have hu : f.un + 32 < cLine := ok.units
  obtain ⟨ks, vs, l, r, rfl, rfl, e1, e2, g1, g2, eo⟩ := vInL_sh a b H P.ns
  rw [eo] at P
  clear eo
  obtain ⟨ak, rk, rfl, m1, r1⟩ := Ra.toTup
  obtain ⟨al, rs, nn, rfl, m2, r2⟩ := Rb.toLst
  obtain ⟨as, i1⟩ := txs_read (fun p hp => S.fzAt hp) r1 e1
  obtain ⟨bs, i2⟩ := rows_read (fun p hp => S.fzAt hp) r2 e2
  refine SeqAt.in_list_reads (.list (S.fzAt m2) rfl rfl i2) (.tuple (S.fzAt m1) rfl rfl i1) (rows_ok g2) (by simp only [PyData.canLay0]; exact ok_all g1) ?_ ?_
  · have : (PyData.tuple (l.map dTx)).depth ≤ 1 := by simp only [PyData.depth, depth_txs]; exact Nat.le_refl _
    have h2 := Nat.min_le_right (PyData.depthAll (r.map dTxs)) (PyData.tuple (l.map dTx)).depth
    exact Nat.lt_of_le_of_lt (Nat.add_le_add_left (Nat.le_trans h2 this) _) (lt_less (b := 2) hu (by decide))
  · have e : ((r.map dTxs).any fun y => PyData.eqv y (.tuple (l.map dTx))) = r.any fun k => txsEq k l := by
      rw [List.any_map]
      exact congrArg (List.any r) (funext fun k => eqv_txs k l)
    rw [e]
    exact PE.done (R0 := fun f x v rv => VR f.w x.al x.fz v rv) P S (.bool _) _
end
end

section
open PySem PySem.W PySem.Calls PyProof.Rows PySem.Spec
inductive PRs (w : World) (al : List Addr) (fz : Led) : List Tx → List V → List (Value × Value) → Prop
  | nil : PRs w al fz [] [] []
  | cons {k : Tx} {t : Tok} {v : V} {r : Value} {ks : List Tx} {vs : List V} {ps : List (Value × Value)} : VR w al fz v r → PRs w al fz ks vs ps → PRs w al fz (k :: ks) (v :: vs) ((.str (tr k) t, r) :: ps)
noncomputable abbrev RPs (ks : List Tx) : REL (List V) (List (Value × Value)) := RX fun f x v ps => PRs f.w x.al x.fz ks v ps
noncomputable def SPs (I : Info) (n : Nat) (keys : List (Option Expr)) (values : List Expr) (ks : List Tx) (es : Exs) : Prop := ∀ pos : Pos, SG (RPs ks) I n (fun env => evalPairs (pairTrees keys values env pos)) es
theorem PRs.carried {w : World} {al : List Addr} {fz : Led} {prog : Program} : ∀ {ks : List Tx} {vs : List V} {ps : List (Value × Value)}, PRs w al fz ks vs ps → ∃ kvs, Carries (PySem.strKind prog w) ps kvs ∧ KVs w al fz (ks.zip vs) kvs ∧ kvs.map (·.1) = ks.map tr
  | _, _, _, .nil => ⟨[], trivial, .nil, rfl⟩
  | _, _, _, .cons (k := k) (t := t) (r := r) a b => by
    obtain ⟨kvs, h1, h2, h3⟩ := PRs.carried (prog := prog) b
    exact ⟨(tr k, r) :: kvs, ⟨strKind_is _ _ _ _, rfl, h1⟩, .cons a h2, by rw [List.map_cons, List.map_cons, h3]⟩
theorem PRs.mono {w : World} {al al' : List Addr} {fz fz' : Led} (E : Ext al fz al' fz') : ∀ {ks : List Tx} {vs : List V} {ps : List (Value × Value)}, PRs w al fz ks vs ps → PRs w al' fz' ks vs ps
  | _, _, _, .nil => .nil
  | _, _, _, .cons a b => .cons (a.mono E) (b.mono E)
noncomputable def nodupTx : List Tx → Bool
  | [] => true
  | x :: xs => !(xs.any (txEq x)) && nodupTx xs
theorem nodupTx_ok : ∀ {l : List Tx}, nodupTx l = true → (l.map tr).Nodup
  | [], _ => List.nodup_nil
  | x :: xs, h => by
    replace h := Bool.and_eq_true_iff.mp (show (!(xs.any (txEq x)) && nodupTx xs) = true from h)
    rw [Bool.not_eq_true', List.any_eq_false] at h
    refine List.nodup_cons.mpr ⟨fun hm => ?_, nodupTx_ok h.2⟩
    obtain ⟨y, hy, e⟩ := List.mem_map.mp hm
    exact h.1 y hy (by rw [tr_inj e]; exact txEq_self _)
noncomputable def bDict (ks : List Tx) (es : Exs) : Ex := fun ρ H => (es ρ (H ++ [.dict []])).bind fun vs H1 => match H1[H.length]? with | some (.dict []) => .ok (.ref H.length) (H1.set H.length (.dict (ks.zip vs))) | _ => .stuck
section
variable {I : Info} {n : Nat}
theorem sps_nil : SPs I n [] [] [] bNil := fun pos f env s ρ H x Q E ok q ei S V P => pairTrees_nil_walk (PE.done (R0 := fun f x v ps => PRs f.w x.al x.fz [] v ps) P S .nil s.toks)
theorem sps_cons {y : Str} {kk : Nat} {kp : Pos} {v : Expr} {keys : List (Option Expr)} {values : List Expr} {l : Tx} {ls : List Tx} {b : Ex} {bs : Exs} (hy : y = tr l) (h1 : SE I n (eval v) b) (h2 : SPs I n keys values ls bs) : SPs I n (some (.Constant (.str y) kk kp) :: keys) (v :: values) (l :: ls) (bCons b bs) := by
  subst hy
  intro pos f env s ρ H x Q E ok q ei S V P
  refine pairTrees_cons_walk ?_
  refine Constant_str ?_
  refine h1.go (s := { s with toks := s.toks + 1 }) (R := RPs (l :: ls)) ok q ei S V (PE.on (preX _) .refl rfl P) (preX _) fun v1 H1 x1 rv1 h1' tk1 S1 X1 R1 V1 P1 => ?_
  refine SG.go (h2 pos) ok q ei S1 V1 P1 (preX _) fun vs H2 x2 ps h2 tk2 S2 X2 R2 V2 P2 => ?_
  exact PE.done (R0 := fun f x v ps => PRs f.w x.al x.fz (l :: ls) v ps) P2 S2 (.cons (R1.mono X2.ext) R2) tk2
theorem se_dict (hro : I.ro = false) {keys : List (Option Expr)} {values : List Expr} {pos : Pos} {ks : List Tx} {es : Exs} (h : SPs I n keys values ks es) (hn : nodupTx ks = true) (hall : keys.all (·.isSome) = true) (hl : keys.length = values.length) (h0 : keys ≠ []) (hlen : keys.length ≤ 15) :
    SE I n (eval (.Dict keys values pos)) (bDict ks es) := by
  intro f env s ρ H x Q E ok q ei S V P
  refine Dict_made (knd := PySem.strKind prog f.w) S.fr hall hl h0 hlen fun F1 => ?_
  have nm : (s.heap.objs.size == sysModules) = false := S.fr.notModules (modules_low (S.T ok).nolimit)
  have N1 := S.news.push S.fr { cls := .type "dict", data := .dict #[] }
  obtain ⟨o0, ho0, hd0⟩ := Heap.dictOf_iff.mp (Heap.DictOf.new (knd := PySem.strKind prog f.w) s.heap)
  have e0 : o0 = { cls := .type "dict", data := .dict #[] } := by
    have := (N1 _ (.head _)).1
    rw [this] at ho0; exact (Option.some.inj ho0).symm
  subst e0
  obtain ⟨S1, X1, e1⟩ := S.more (o := .dict []) (q.2.trans hro) F1 N1 (fun p hp => S.low p hp) (.dict .nil hd0 nm)
  unfold bDict at P
  refine SG.go (h pos) (s := { s with heap := s.heap.push { cls := .type "dict", data := .dict #[] } }) ok q ei S1 (V.mono X1) (PE.on (preX _) X1 rfl P) (preX _) fun vs H1 x1 ps h1' tk1 S2 X2 R2 V2 P2 => ?_
  cases e2 : H1[H.length]? with
  | none => rw [e2] at P2; exact P2.elim
  | some o2 =>
  rw [e2] at P2
  cases o2 <;> first | exact P2.elim | skip
  rename_i es2
  cases es2 with
  | cons _ _ => exact P2.elim
  | nil =>
  have hk : x1.al[H.length]? = some s.heap.objs.size := X2.ext.at (by
    show (adr (x.mu ++ [(s.heap.objs.size, _)]))[H.length]? = some _
    rw [e1, S.objs.len]
    simp [St.al, adr])
  obtain ⟨a', ro, hm, hl, ha', R, gg, U, _, upd⟩ := S2.place e2
  obtain rfl : a' = s.heap.objs.size := by rw [hk] at ha'; exact (Option.some.inj ha').symm
  cases R with
  | dict k1 d1 l1 =>
    cases k1
    obtain ⟨kvs, c1, c2, c3⟩ := R2.carried (prog := prog)
    refine ⟨kvs, c1, kda_dict S2.news hl d1, fun h' hm' hs => ?_⟩
    rw [merged_nil_of_nodup _ (by rw [c3]; exact nodupTx_ok hn)] at hm'
    obtain ⟨o', ho', hd'⟩ := Heap.dictOf_iff.mp hm'
    obtain ⟨pre, post, hled, hg, p1, p2⟩ := U.split
    have hmm := S2.news _ hl
    have N' : News x1.gc f.L h' (gg o' ++ (x1.tb ++ (x1.cs ++ x1.fz))) := by
      have N0 := S2.news
      rw [hled] at N0
      have := N0.setIn p1 p2 hs ho'
      rw [hg o']
      exact this
    obtain ⟨S', X'⟩ := (upd o').2 h' (.dict (ks.zip vs)) (S2.fr.change hs hmm.2.1 hmm.2.2) N' (.dict c2 hd' l1)
    have XX := X' (q.2.trans hro)
    exact P2 _ h' _ _ S' XX.ext ⟨rfl, rfl, XX.ro, .ref (XX.ext.at hk)⟩
noncomputable def bDict0 : Ex := fun _ H => .ok (.ref H.length) (H ++ [.dict []])
theorem se_dict0 (hro : I.ro = false) {pos : Pos} : SE I n (eval (.Dict [] [] pos)) bDict0 := by
  intro f env s ρ H x Q E ok q ei S V P
  refine newDict_K S.fr S.news (S.T ok).nolimit fun d h' o F N l nm d1 _ _ _ => ?_
  obtain ⟨S1, X1, e1⟩ := S.more (o := .dict []) (q.2.trans hro) F N l (.dict .nil d1 nm)
  refine P (.ref d) h' s.toks _ S1 X1.ext ⟨rfl, rfl, X1.ro, .ref ?_⟩
  show (adr (x.mu ++ [(d, _)]))[H.length]? = some d
  rw [e1, S.objs.len]
  simp [St.al, adr]
noncomputable def bIsB (e : Ex) : Bx := fun ρ H => (e ρ H).bind fun v H1 => match v with | .bool b => .ok b H1 | _ => .stuck
noncomputable def bAndV (a b : Ex) : Ex := fun ρ H => (a ρ H).bind fun v H1 => match v with | .bool true => b ρ H1 | .bool false => .ok (.bool false) H1 | _ => .stuck
noncomputable def bOrV (a b : Ex) : Ex := fun ρ H => (a ρ H).bind fun v H1 => match v with | .bool true => .ok (.bool true) H1 | .bool false => b ρ H1 | _ => .stuck
theorem se_one1 {op : BoolOp} {e : Expr} {pos : Pos} {a : Ex} (h : SE I n (eval e) a) : SE I n (eval (.BoolOp op [e] pos)) a := h
theorem se_and {e e2 : Expr} {es : List Expr} {pos : Pos} {a b : Ex} (h1 : SE I n (eval e) a) (h2 : SE I n (eval (.BoolOp .And (e2 :: es) pos)) b) : SE I n (eval (.BoolOp .And (e :: e2 :: es) pos)) (bAndV a b) := by
  intro f env s ρ H x Q E ok q ei S V P
  refine BoolOp_and (h1.go ok q ei S V P (preX _) fun v H1 x1 rv h1' tk1 S1 X1 R1 V1 P1 => ?_)
  cases R1 <;> first | exact P1.elim | skip
  rename_i b'
  refine wpAny_truthy_bool ?_
  cases b' with
  | true => exact h2 f env _ ρ H1 x1 Q E ok q ei S1 V1 P1
  | false => exact PE.done (R0 := fun f x v rv => VR f.w x.al x.fz v rv) P1 S1 (.bool _) tk1
theorem se_or {e e2 : Expr} {es : List Expr} {pos : Pos} {a b : Ex} (h1 : SE I n (eval e) a) (h2 : SE I n (eval (.BoolOp .Or (e2 :: es) pos)) b) : SE I n (eval (.BoolOp .Or (e :: e2 :: es) pos)) (bOrV a b) := by
  intro f env s ρ H x Q E ok q ei S V P
  refine BoolOp_or (h1.go ok q ei S V P (preX _) fun v H1 x1 rv h1' tk1 S1 X1 R1 V1 P1 => ?_)
  cases R1 <;> first | exact P1.elim | skip
  rename_i b'
  refine wpAny_truthy_bool ?_
  cases b' with
  | false => exact h2 f env _ ρ H1 x1 Q E ok q ei S1 V1 P1
  | true => exact PE.done (R0 := fun f x v rv => VR f.w x.al x.fz v rv) P1 S1 (.bool _) tk1
theorem ss_no {t : Env → Sem Flow} : SS I n t (fun _ _ => .stuck) := fun f s ρ H x Q E ok q ei S V pe P => P.elim
end
end

section
open PySem PySem.W PySem.Calls PyProof.Rows PySem.Spec
noncomputable def keysEq : List (Tx × V) → List (Tx × V) → Bool
  | [], [] => true
  | (k, _) :: a, (k', _) :: b => txEq k k' && keysEq a b
  | _, _ => false
noncomputable def bSortedNe (e1 e2 : Ex) : Bx := fun ρ H => (e1 ρ H).bind fun u H1 => match u with
  | .ref i => (match H1[i]? with
    | some (.dict a) => if Nat.blt a.length 64 then (e2 ρ H1).bind fun v H2 => match v with
      | .ref j => (match H2[j]? with
        | some (.dict b) => if Nat.blt b.length 64 && keysEq a b then .ok false H2 else .stuck
        | _ => .stuck)
      | _ => .stuck
      else .stuck
    | _ => .stuck)
  | _ => .stuck
theorem KVs.keys {w : World} {al : List Addr} {fz : Led} : ∀ {es : List (Tx × V)} {rs : List (Str × Value)}, KVs w al fz es rs → rs.map (·.1) = es.map (fun (p : Tx × V) => tr p.1)
  | _, _, .nil => rfl
  | _, _, .cons a b => by simp [b.keys]
theorem keysEq_map : ∀ {a b : List (Tx × V)}, keysEq a b = true → a.map (fun (p : Tx × V) => tr p.1) = b.map (fun (p : Tx × V) => tr p.1)
  | [], [], _ => rfl
  | (k, _) :: a, (k', _) :: b, h => by
    replace h := Bool.and_eq_true_iff.mp (show (txEq k k' && keysEq a b) = true from h)
    simp only [List.map_cons, txEq_iff.mp h.1, keysEq_map h.2]
section
variable {I : Info} {n : Nat}
theorem ne_sorted2 {f : Fm} {s : Shared} {a b : Addr} {sa sb : List Str} {va vb : List Value} {ea eb : Nat} {ka kb : List Str} {Q E : Value → Shared → Prop} (ma : s.heap.get? a = some (listOf (List.toArray va) ea)) (mb : s.heap.get? b = some (listOf (List.toArray vb) eb)) (xa : StrsAre va sa) (xb : StrsAre vb sb) (pa : sa.Perm ka) (pb : sb.Perm kb)
    (ra : sortedS sa = true) (rb : sortedS sb = true) (hk : ka = kb) (hu : f.A.units + 64 < cLine) (h : Q (.bool false) s) : wpAny (model prog f.w) f.A (compareOp .NotEq (.ref a) (.ref b)) Q E s := by
  have e : sa = sb := sort_uniq (pa.trans (hk ▸ pb.symm)) (sorted_pair ra) (sorted_pair rb)
  subst e
  have hb : Both VS0 va vb := by
    clear ma mb pa pb ra rb
    induction xa generalizing vb with
    | nil => cases xb; exact .nil
    | cons y t _ ih =>
      cases xb with
      | cons y u xb => exact .cons (.str y t u) (ih xb)
  have := SeqAt.RcNeAt.lists (A := f.A) (s := s) (l := a) (b := b) (items := va.toArray) (items2 := vb.toArray) (e := fun _ => true) ⟨_, ma, rfl, _, rfl⟩ ⟨_, mb, rfl, _, rfl⟩ (by simp [hb.len]) (by omega) (fun j j1 j2 => both_eqs hb (fun _ _ r => r.eq) j _ _ (by simp) (by simp))
  refine this prog f.w E Q ?_
  rw [all_true]; exact h
theorem ref_of {α : Type} {v : V} {g : Nat → Out α} (h : (match v with | .ref i => g i | _ => .stuck) ≠ .stuck) : ∃ i, v = .ref i := by
  cases v <;> first | exact absurd rfl h | exact ⟨_, rfl⟩
theorem dict_of {α : Type} {v : Option O} {g : List (Tx × V) → Out α} (h : (match v with | some (.dict a) => g a | _ => .stuck) ≠ .stuck) : ∃ a, v = some (.dict a) := by
  cases v with
  | none => exact absurd rfl h
  | some o => cases o <;> first | exact absurd rfl h | exact ⟨_, rfl⟩
theorem sb_sortedNe {g : Str} {p1 p2 c1 c2 pos : Pos} {a1 a2 : Expr} {e1 e2 : Ex} (G : BName I g (.builtin "sorted")) (hn : 5 ≤ n) (h1 : SE I n (eval a1) e1) (h2 : SE I n (eval a2) e2) (he1 : ∀ env, starEach [a1] env = [(false, eval a1 env)] := by intro _; rfl) (he2 : ∀ env, starEach [a2] env = [(false, eval a2 env)] := by intro _; rfl) :
    SB I n (.Compare (.Call (.Name g p1) [a1] [] c1) [.NotEq] [.Call (.Name g p2) [a2] [] c2] pos) (bSortedNe e1 e2) := by
  intro f env s ρ H x Q E ok q ei S Vs P
  have hu := ok.units
  refine wpAny_isTrue_Compare1 ?_ (by rfl)
  refine Call_ (S.nameB ok ei G ?_)
  refine callWith_builtin (by rw [he1]; rfl) ?_
  have b1 : backTo c1 (starEach [a1] env) = [(false, eval a1 env)] := by rw [he1]; rfl
  rw [b1]
  refine evalArgs_plain ?_
  rw [← b1]
  refine spliced_more ?_ (he1 _)
  refine h1.go ok q ei S Vs P (preX _) fun v1 H1 x1 r1 h1' tk1 S1 X1 R1 V1 P1 => ?_
  refine spliced_none ?_
  obtain ⟨i, rfl⟩ := ref_of P1.ns
  obtain ⟨a, rfl, ha⟩ := R1.toRef
  obtain ⟨es1, e3⟩ := dict_of P1.ns
  dsimp only at P1
  rw [e3] at P1
  obtain ⟨g1, P1⟩ := PE.guard P1
  obtain ⟨a', ro, hm, hl, ha', R, _⟩ := S1.place e3
  obtain rfl : a' = a := by rw [ha] at ha'; exact (Option.some.inj ha').symm
  cases R with
  | dict k1 d1 l1 =>
  refine sorted_dict (s := { s with heap := h1', toks := tk1 }) rfl S1.fr S1.news hl d1 l1 (by rw [← k1.len]; simpa using g1) fun D h' tk vs ss e F' N' lo hs1 hs2 hs3 => ?_
  obtain ⟨S2, X2⟩ := S1.frz F' N' lo
  refine Call_ (Std.nameB (s := { s with heap := h', toks := tk }) S2 ok ei G ?_)
  refine callWith_builtin (by rw [he2]; rfl) ?_
  have b2 : backTo c2 (starEach [a2] env) = [(false, eval a2 env)] := by rw [he2]; rfl
  rw [b2]
  refine evalArgs_plain ?_
  rw [← b2]
  refine spliced_more ?_ (he2 _)
  refine h2.go (s := { s with heap := h', toks := tk }) ok q ei S2 (V1.mono X2) (PE.on (preX _) X2 rfl P1) (preX _) fun v2 H2 x2 r2 h2' tk2 S3 X3 R2 V2 P2 => ?_
  refine spliced_none ?_
  obtain ⟨j, rfl⟩ := ref_of P2.ns
  obtain ⟨b, rfl, hb⟩ := R2.toRef
  clear R2
  obtain ⟨es2, e4⟩ := dict_of P2.ns
  dsimp only at P2
  rw [e4] at P2
  obtain ⟨g2, P2⟩ := PE.guard P2
  rw [Bool.and_eq_true] at g2
  obtain ⟨b', ro2, hm2, hl2, hb', R2, _⟩ := S3.place e4
  obtain rfl : b' = b := by rw [hb] at hb'; exact (Option.some.inj hb').symm
  cases R2 with
  | dict k2 d2 l2 =>
  refine sorted_dict (s := { s with heap := h2', toks := tk2 }) rfl S3.fr S3.news hl2 d2 l2 (by rw [← k2.len]; simpa using g2.1) fun D2 h2 tk3 vs2 ss2 e5 F2 N2 lo2 hr1 hr2 hr3 => ?_
  obtain ⟨S4, X4⟩ := S3.frz F2 N2 lo2
  refine ne_sorted2 (s := { s with heap := h2, toks := tk3 }) (S4.fzAt (X4.ext.fz _ (X3.ext.fz _ (.head _)))) (S4.fzAt (.head _)) hs1 hr1 hs2 hr2 hs3 hr3 ?_ (by show f.un + 64 < cLine; omega) ?_
  · rw [k1.keys, k2.keys]; exact keysEq_map g2.2
  · exact wpAny_truthy_bool (PE.done (E := E) (R0 := fun _ _ v rv => rv = v) (s := { s with heap := h2, toks := tk3 }) (PE.on (preX _) X4 rfl P2) S4 rfl tk3)
end
end

section
open PySem PySem.W PySem.Calls PyProof.Rows PySem.Spec
theorem Std.perm {f : Fm} {h : Heap} {H : Hp} {x : St} {cs' : Led} (S : Std f h H x) (p : cs'.Perm x.cs) : Std f h H { x with cs := cs' } := by
  have pm : ∀ q, q ∈ cs' ↔ q ∈ x.cs := fun q => p.mem_iff
  have pa : (adr cs').Perm (adr x.cs) := p.map _
  refine ⟨S.below, S.slip, S.quiet, S.fr, fun q hq => S.news q ?_, S.objs, S.tabs, ?_, fun q hq r => S.off q hq ?_, fun y c hy => ?_⟩
  · simp only [St.led, List.mem_append] at hq ⊢
    rcases hq with hq | hq | hq | hq
    · exact .inl hq
    · exact .inr (.inl hq)
    · exact .inr (.inr (.inl ((pm q).mp hq)))
    · exact .inr (.inr (.inr hq))
  · have : (adr (x.mu ++ (x.tb ++ cs'))).Perm (adr (x.mu ++ (x.tb ++ x.cs))) := by
      simp only [adr, List.map_append]
      exact List.Perm.append_left _ (List.Perm.append_left _ pa)
    exact this.nodup_iff.mpr S.nd
  · simp only [adr, List.map_append, List.mem_append] at r ⊢
    rcases r with r | r | r
    · exact .inl r
    · exact .inr (.inl r)
    · exact .inr (.inr (pa.mem_iff.mp r))
  · obtain ⟨o, v, h1, h2⟩ := S.cells y c hy
    exact ⟨o, v, (pm _).mpr h1, h2⟩
noncomputable def goodIter (n : String) : Bool := ["tuple_iterator", "list_iterator", "range_iterator"].contains n
theorem letGo_plain {prog : Program} {w : World} {A : Around} {s : Shared} {target : Expr} {it : Addr} {v : Value} {o : Obj} {n : String} {Q : Unit → Shared → Prop} {E : Value → Shared → Prop} (ho : s.heap.get? it = some o) (hc : o.cls = .type n) (hg : goodIter n = true) (h : Q () s) :
    wpAny (model prog w) A (letOwnedTupleGo target (.ref it) v) Q E s := by
  have nb : (["enumerate", "zip", "dict_itemiterator", "dict_reverseitemiterator", "odict_iterator", "itertools.zip_longest", "itertools.pairwise"] : List String).contains n = false := by
    unfold goodIter at hg
    simp only [List.contains_cons, List.contains_nil, Bool.or_false, Bool.or_eq_true, beq_iff_eq] at hg
    rcases hg with rfl | rfl | rfl <;> decide
  cases target <;> first | exact wpAny_pure h | skip
  all_goals (cases v <;> first | exact wpAny_pure h | skip)
  all_goals
    delta letOwnedTupleGo
    dsimp only
    refine wpAny_bind (wpAny_load ho ?_)
    rw [hc]
    cases o.data <;> first | exact wpAny_pure h | skip
    dsimp only
    rw [nb, Bool.false_and, if_neg Bool.false_ne_true]; exact wpAny_pure h
section
variable {prog : Program} {w : World} {A : Around} {s : Shared}
theorem codeAny_compLoop_own {elt target iter : Expr} {ifs : List Expr} {scope : Scope} {pos : Pos} {it acc : Value} {env : Env} {R : Result → Shared → Prop} (I : Nat → Shared → Prop)
    (turn : ∀ n s, I n s → wpAny (model prog w) A (pyNext it) (fun r s₁ => match r with
      | none => R (.ok .next) s₁
      | some v => wpAny (model prog w) A (letOwnedTupleGo target it v) (fun _ s₁' => wpAny (model prog w) A (assign target env v) (fun _ s₂ =>
          wpAny (model prog w) A (forIn ifs true fun c r => if r = true then do let ok ← isTrue c env (eval c env); pure (ForInStep.yield ok) else pure (ForInStep.yield r)) (fun ok s₃ =>
            if ok = true then wpAny (model prog w) A (eval elt env) (fun x s₄ =>
              wpAny (model prog w) A (call (.builtin "list.append") [acc, x]) (fun _ s₅ => ∃ m, m < n ∧ I m s₅) (notedBy (model prog w) A env fun e s' => R (.error e) s') s₄) (notedBy (model prog w) A env fun e s' => R (.error e) s') s₃
            else ∃ m, m < n ∧ I m s₃) (notedBy (model prog w) A env fun e s' => R (.error e) s') s₂) (notedBy (model prog w) A env fun e s' => R (.error e) s') s₁') (notedBy (model prog w) A env fun e s' => R (.error e) s') s₁) (notedBy (model prog w) A env fun e s' => R (.error e) s') s)
    (n : Nat) (h : I n s) : codeAny (model prog w) A (.compLoop (.ListComp elt [⟨target, iter, ifs, 0⟩] scope pos) 0 it acc env) R s := by
  refine codeAny_loop rfl I (fun n s hI => ?_) n h
  show wpAny _ A ((compTurn (.ListComp elt [⟨target, iter, ifs, 0⟩] scope pos) 0 it acc env).onRaise (fun x => do noteFrame x env; theTreesLotGoes x)) _ _ s
  refine wpAny_noted ?_
  rw [compTurn_list]
  refine wpAny_bind (wpAny_standAt (wpAny_bind (wpAny_mono (turn n s hI) (fun r s₁ h₁ => ?_) fun _ _ h' => h')))
  cases r with
  | none => exact wpAny_pure h₁
  | some v =>
    refine wpAny_bind (wpAny_mono h₁ (fun _ s₁' h₁ => ?_) fun _ _ h' => h')
    refine wpAny_bind (wpAny_mono h₁ (fun _ s₂ h₂ => wpAny_bind (wpAny_mono h₂ (fun ok s₃ h₃ => ?_) fun _ _ h' => h')) fun _ _ h' => h')
    cases ok with
    | false => exact wpAny_pure ⟨rfl, h₃⟩
    | true =>
      exact wpAny_bind (wpAny_bind (wpAny_mono h₃ (fun x s₄ h₄ => wpAny_bind (wpAny_mono h₄ (fun _ s₅ h₅ => wpAny_pure (wpAny_pure ⟨rfl, h₅⟩)) fun _ _ h' => h')) fun _ _ h' => h'))
end
structure TgC (tgt : Expr) (names : List Str) (bd : V → Option (List V)) : Prop where
  len : ∀ u us, bd u = some us → us.length = names.length
  go : ∀ (f : Fm) (env : Env) (s : Shared) (H : Hp) (x : St) (C : Addr) (oC : Obj) (m₂ : Str → Option Value) (u : V) (rv : Value) (us : List V) (Q : Unit → Shared → Prop) (E : Value → Shared → Prop), (∀ y ∈ names, env.kindOf y = some .local) → env.locals = C → env.scope.kind = .function →
    Std f s.heap H (x.own (C, oC)) → (∀ y c, f.cl.lookup y = some c → c ≠ C) → LCg.NsObj oC m₂ → VR f.w x.al x.fz u rv → bd u = some us →
    (∀ h' tk m' oC', LCg.NsObj oC' m' → Std f h' H (x.own (C, oC')) → (∀ (i : Nat) (y : Str) (v : V), names[i]? = some y → us[i]? = some v → ∃ r, m' y = some r ∧ VR f.w x.al x.fz v r) → Q () { s with heap := h', toks := tk }) →
    wpAny (model prog f.w) f.A (assign tgt env rv) Q E s
theorem store_comp {f : Fm} {env : Env} {s : Shared} {H : Hp} {x : St} {C : Addr} {oC : Obj} {m₂ : Str → Option Value} {y : Str} {p : Pos} {rv : Value} {Q : Unit → Shared → Prop} {E : Value → Shared → Prop} (hk : env.kindOf y = some .local) (hl : env.locals = C) (hf : env.scope.kind = .function)
    (S : Std f s.heap H (x.own (C, oC))) (hc : ∀ y c, f.cl.lookup y = some c → c ≠ C) (hC : LCg.NsObj oC m₂) (k : ∀ h' tk oC', LCg.NsObj oC' (fun z => if z = y then some rv else m₂ z) → Std f h' H (x.own (C, oC')) → Q () { s with heap := h', toks := tk }) :
    wpAny (model prog f.w) f.A (assign (.Name y p) env rv) Q E s := by
  subst hl
  refine wpAny_assign_Name (wpAny_storeName_local hk (hC.ns S.ownAt.1) (fun h' hn hs => ?_) (by rw [hf]; rfl))
  obtain ⟨oC', e, hC'⟩ := LCg.ns_obj hn
  exact k h' _ oC' hC' (S.turn hc (fun b ob hb z => hs.extBut b ob (by simpa using hb) z) e)
noncomputable def bdName : V → Option (List V) := fun u => some [u]
theorem tg_name {y : Str} {p : Pos} : TgC (.Name y p) [y] bdName := by
  refine ⟨fun u us e => by cases e; rfl, fun f env s H x C oC m₂ u rv us Q E hk hl hf S hc hC R e k => ?_⟩
  cases e
  refine store_comp (hk y (.head _)) hl hf S hc hC fun h' tk oC' hC' S' => k h' tk _ oC' hC' S' fun i z v e1 e2 => ?_
  cases i with
  | zero => cases e1; cases e2; exact ⟨rv, by simp, R⟩
  | succ i => cases e1
noncomputable def bdPair : V → Option (List V) := fun u => match u with | .tup [a, b] => some [a, b] | _ => none
theorem tg_pair {y z : Str} {p q tp : Pos} {c : Nat} (hyz : y ≠ z)
    (he : ∀ env, assignEach [.Name y p, .Name z q] env = [(false, assign (.Name y p) env), (false, assign (.Name z q) env)] := by intro _; rfl) : TgC (.Tuple [.Name y p, .Name z q] c tp) [y, z] bdPair := by
  refine ⟨fun u us e => by unfold bdPair at e; split at e <;> cases e; rfl, fun f env s H x C oC m₂ u rv us Q E hk hl hf S hc hC R e k => ?_⟩
  unfold bdPair at e
  split at e <;> cases e
  rename_i a b
  cases R with | @tup _ ar rs m1 r1 =>
  cases r1 with | @cons _ ra _ rs1 R1 r2 =>
  cases r2 with | @cons _ rb _ rs2 R2 r3 =>
  cases r3
  refine unpackN_ S.fr S.news (items := #[ra, rb]) ⟨_, S.fzAt m1, rfl, _, rfl⟩ rfl ?_ (by rw [he]; rfl) fun h' F N => ?_
  · rw [he]; rfl
  · have S' : Std f h' H (x.own (C, oC)) := ⟨S.below, S.slip, S.quiet, F, N, S.objs, S.tabs, S.nd, S.off, S.cells⟩
    rw [he]
    refine assignInOrder_cons (store_comp (s := { s with heap := h' }) (hk y (.head _)) hl hf S' hc hC fun h1 tk1 oC1 hC1 S1 => ?_)
    refine assignInOrder_cons (store_comp (s := { s with heap := h1, toks := tk1 }) (hk z (.tail _ (.head _))) hl hf S1 hc hC1 fun h2 tk2 oC2 hC2 S2 => ?_)
    refine assignInOrder_nil (k h2 tk2 _ oC2 hC2 S2 fun i w v e1 e2 => ?_)
    match i, e1, e2 with
    | 0, e1, e2 => cases e1; cases e2; exact ⟨ra, by simp [hyz], R1⟩
    | 1, e1, e2 => cases e1; cases e2; exact ⟨rb, by simp, R2⟩
end

section
open PySem PySem.W PySem.Calls PyProof.Rows PySem.Spec
inductive CTest (I : Info) (n : Nat) : List Expr → Bx → Prop
  | nil : CTest I n [] (fun _ H => .ok true H)
  | one {e : Expr} {b : Bx} : SB I n e b → CTest I n [e] b
noncomputable def compM (bd : V → Option (List V)) (ρc : Rho) (c : Bx) (b : Ex) : List V → List V → Hp → Option (List V × Hp)
  | [], acc, H => some (acc, H)
  | u :: us, acc, H => match bd u with
    | none => none
    | some ws => match c (ws.map some ++ ρc) H with
      | .ok true H1 => (match b (ws.map some ++ ρc) H1 with | .ok v H2 => compM bd ρc c b us (acc ++ [v]) H2 | _ => none)
      | .ok false H1 => compM bd ρc c b us acc H1
      | _ => none
theorem compM_nil (bd : V → Option (List V)) (ρc : Rho) (c : Bx) (b : Ex) (acc : List V) (H : Hp) : compM bd ρc c b [] acc H = some (acc, H) := rfl
theorem compM_cons (bd : V → Option (List V)) (ρc : Rho) (c : Bx) (b : Ex) (u : V) (us acc : List V) (H : Hp) : compM bd ρc c b (u :: us) acc H = match bd u with
    | none => none
    | some ws => match c (ws.map some ++ ρc) H with
      | .ok true H1 => (match b (ws.map some ++ ρc) H1 with | .ok v H2 => compM bd ρc c b us (acc ++ [v]) H2 | _ => none)
      | .ok false H1 => compM bd ρc c b us acc H1
      | _ => none := rfl
structure CompOk (I I2 : Info) (scope : Scope) (names cns : List Str) (caps : List Nat) : Prop where
  vn : I2.vn = names ++ cns
  cv : ∀ (j i : Nat), caps[j]? = some i → ∃ y, I.vn[i]? = some y ∧ cns[j]? = some y ∧ I.cs.names.lookup y = some .cell ∧ I2.cs.names.lookup y = some .cell
  q : I2.q = I.q
  own : I2.own = none
  ro : I2.ro = I.ro
  rel : ∀ env : Env, env.scope = I.cs → relabel scope env = I2.cs
  kind : scope.kind = .function
  cell : ∀ y ∈ scope.names, y.2 ≠ .cell
  nms : ∀ y ∈ scope.names, y.2 = .local → scope.names.lookup y.1 = some .local
  loc : ∀ y ∈ names, I2.cs.names.lookup y = some .local
  dbg : ∀ y ∈ names ++ cns, (y == ("__debug__" : Str)) = false
  clos : ∀ env : Env, (∀ y ∈ cns, ∃ c, env.cells.lookup y = some c) → ∃ cl, closureFor scope env = pure cl ∧ ∀ y ∈ cns, cl.lookup y = env.cells.lookup y
noncomputable def capsOf (caps : List Nat) (ρ : Rho) : Rho := caps.map fun i => (ρ[i]?).join
noncomputable abbrev St.own3 (x : St) (p q r : Addr × Obj) : St := { x with cs := p :: q :: r :: x.cs }
theorem own3_of {f : Fm} {x x' : St} {p q r : Addr × Obj} (h : ExtE f (x.own3 p q r) x') : ∃ y : St, x' = y.own3 p q r ∧ ExtE f x y := by
  obtain ⟨gc, m, mu, tb, cs, fz⟩ := x'
  have hc : cs = p :: q :: r :: x.cs := h.cs
  subst hc
  exact ⟨⟨gc, m, mu, tb, x.cs, fz⟩, rfl, ⟨h.ext, h.m, rfl, h.ro⟩⟩
theorem Std.dropAt {f : Fm} {h h1 : Heap} {H : Hp} {x : St} {Ia : Addr} {o : Obj} (S' : Std f h H (x.own (Ia, o))) (hc : ∀ y c, f.cl.lookup y = some c → c ≠ Ia) (k1 : ∀ b ob, b ∉ [Ia] → h.get? b = some ob → h1.get? b = some ob) : Std f h1 H x := by
  have S0 := S'.drop hc
  have bs := own_beside S'
  obtain ⟨h1', h2', h3'⟩ := S'.ownAt
  have kk : ∀ b ob, b ≠ Ia → h.get? b = some ob → h1.get? b = some ob := fun b ob hb => k1 b ob (by simpa using hb)
  obtain ⟨oL, es, ep, hL, r⟩ := S0.fr.ns
  exact ⟨S0.below, S0.slip, S0.quiet, ⟨⟨oL, es, ep, kk _ _ (Ne.symm h2') hL, r⟩, fun b ob q => kk b ob (fun z => by rw [z, h3'] at q; cases q) (S0.fr.keep b ob q), S0.fr.above⟩,
    fun p hp => ⟨kk _ _ (bs p hp) (S0.news p hp).1, (S0.news p hp).2⟩, S0.objs, S0.tabs, S0.nd, S0.off, S0.cells⟩
section
variable {I I2 : Info} {n : Nat}
theorem comp_vars {env : Env} {scope : Scope} {names cns : List Str} {caps : List Nat} (K : CompOk I I2 scope names cns caps) {f : Fm} {x y : St} {ρ : Rho} {cl : List (Str × Addr)} {C : Addr} {oC oI oD : Obj} {Ia D : Addr} {m' : Str → Option Value} {us : List V} (ei : EnvIs I f env) (Vs : Vars I f env x ρ) (hcl : ∀ z ∈ cns, cl.lookup z = env.cells.lookup z) (X : ExtE f x y)
    (hC : LCg.NsObj oC m') (hu : ∀ (i : Nat) (z : Str) (v : V), names[i]? = some z → us[i]? = some v → ∃ r, m' z = some r ∧ VR f.w y.al y.fz v r) (hl : us.length = names.length) :
    Vars I2 f (compEnvC scope cl C env) (y.own3 (C, oC) (Ia, oI) (D, oD)) (us.map some ++ capsOf caps ρ) := by
  have hs : (compEnvC scope cl C env).scope = I2.cs := K.rel env ei.scope
  intro i v hv
  by_cases hi : i < us.length
  · rw [List.getElem?_append_left (by rw [List.length_map]; exact hi), List.getElem?_map] at hv
    obtain ⟨u, hu1, hu2⟩ := Option.map_eq_some_iff.mp hv
    cases hu2
    have hni : i < names.length := by omega
    have hn := List.getElem?_eq_getElem hni
    obtain ⟨r, h1, h2⟩ := hu i _ _ hn hu1
    refine ⟨_, r, by rw [K.vn, List.getElem?_append_left hni]; exact hn, K.dbg _ (List.mem_append_left _ (List.getElem_mem hni)), h2, .comp (o := oC) (m₂ := m') ?_ (.head _) hC h1⟩
    show (compEnvC scope cl C env).scope.names.lookup _ = _
    rw [hs]; exact K.loc _ (List.getElem_mem hni)
  · rw [List.getElem?_append_right (by rw [List.length_map]; omega), List.length_map] at hv
    simp only [capsOf, List.getElem?_map, Option.map_eq_some_iff] at hv
    obtain ⟨k, hk, hj⟩ := hv
    obtain ⟨z, h1, h2, h3, h4⟩ := K.cv _ _ hk
    have hρ : ρ[k]? = some (some v) := by
      cases e : ρ[k]? with
      | none => rw [e] at hj; cases hj
      | some o => rw [e] at hj; exact congrArg some hj
    obtain ⟨z', rv, g1, g2, g3, g4⟩ := Vs k v hρ
    rw [h1] at g1; cases g1
    have kz : env.kindOf z = some .cell := by show env.scope.names.lookup z = _; rw [ei.scope]; exact h3
    refine ⟨z, rv, ?_, g2, g3.mono X.ext, ?_⟩
    · rw [K.vn, List.getElem?_append_right (by omega)]
      rw [show i - names.length = i - us.length by omega]
      exact h2
    · cases g4 with
      | own a b c => rw [kz] at a; cases a
      | @cell c o a b d e =>
        refine .cell (c := c) (o := o) ?_ ?_ (.tail _ (.tail _ (.tail _ (by rw [X.cs]; exact d)))) e
        · show (compEnvC scope cl C env).scope.names.lookup _ = _
          rw [hs]; exact h4
        · show cl.lookup z = _
          rw [hcl z (List.mem_of_getElem? h2)]; exact b
      | free a b c d e => rw [kz] at a; cases a
      | comp a b c d => rw [kz] at a; cases a
inductive BlkInv (f : Fm) (s : Shared) (x : St) (Ia C D : Addr) (St0 : Nat → Heap → Prop) (cnt : Nat) (P : Nat → List V → Hp → Prop) (k : Nat) (s' : Shared) : Prop
  | mk (i : Nat) (H' : Hp) (y : St) (h' : Heap) (tk : Nat) (oI' oC' : Obj) (m' : Str → Option Value) (ys : List Value) (acc : List V) (e : s' = { s with heap := h', toks := tk }) (st : St0 i h') (hi : i ≤ cnt) (hk : k = cnt + 1 - i) (hl : ys.length ≤ i)
      (S : Std f h' H' (y.own3 (Ia, oI') (C, oC') (D, LCg.lst ys))) (nC : LCg.NsObj oC' m') (X : ExtE f x y) (R : VRs f.w y.al y.fz acc ys) (p : P i acc H') : BlkInv f s x Ia C D St0 cnt P k s'
theorem block_G {env : Env} {elt target iter : Expr} {ifs : List Expr} {scope : Scope} {pos : Pos} {names cns : List Str} {caps : List Nat} {bd : V → Option (List V)} {c : Bx} {b : Ex} (T : TgC target names bd) (K : CompOk I I2 scope names cns caps) (hct : CTest I2 n ifs c) (hb : SE I2 n (eval elt) b)
    {f : Fm} {s : Shared} {x : St} {H HF : Hp} {ρ : Rho} {E : Value → Shared → Prop} {RR : Value → Addr → Result → Shared → Prop} (ok : f.Ok n) (q : f.q = I.q ∧ f.ro = I.ro) (ei : EnvIs I f env) {cl : List (Str × Addr)} (hcl : ∀ z ∈ cns, cl.lookup z = env.cells.lookup z)
    {Ia : Addr} {fp : List Addr} {cnt : Nat} {P : Nat → Value → Prop} {St0 : Nat → Heap → Prop} (W : Walks prog f.w f.A Ia fp [Ia] cnt P St0) (hI : ∀ i h, St0 i h → ∃ o nn, h.get? Ia = some o ∧ o.cls = .type nn ∧ goodIter nn = true) (hsz : cnt ≤ sizeLine)
    {vs accF : List V} (hP : ∀ i v, i < cnt → P i v → ∃ u, vs[i]? = some u ∧ VR f.w x.al x.fz u v) (hl : vs.length = cnt) (hfp : ∀ b ∈ fp, b = Ia ∨ ∃ o, (b, o) ∈ x.fz) (hc : ∀ y c, f.cl.lookup y = some c → c ≠ Ia)
    {oI : Obj} (S : Std f s.heap H (x.own (Ia, oI))) (Vs : Vars I f env x ρ) (st0 : St0 0 s.heap) (P0 : compM bd (capsOf caps ρ) c b vs [] H = some (accF, HF))
    (hRR : ∀ D C h tk y ys oC m', Std f h HF { y with cs := (C, oC) :: (D, LCg.lst ys) :: y.cs } → LCg.NsObj oC m' → ExtE f x y → VRs f.w y.al y.fz accF ys → (∀ z c, f.cl.lookup z = some c → c ≠ C ∧ c ≠ D) → RR (.ref D) C (.ok .next) { s with heap := h, toks := tk }) :
    wpAny (model prog f.w) f.A (newList []) (fun acc s₃ => wpAny (model prog f.w) f.A (newFunctionEnv scope env.globals cl [] env.qual none .none (some env)) (fun cenv s₄ =>
      codeAny (model prog f.w) f.A (.compStart (.ListComp elt [⟨target, iter, ifs, 0⟩] scope pos) 0 (.ref Ia) acc { cenv with scope := relabel scope env }) (RR acc cenv.locals) s₄) E s₃) E s := by
  refine wpAny_newObj_type (wpAny_newFunctionEnv K.cell (by intro y hy; simp at hy) (fun h₁ hns₁ hsb₁ => ?_) K.kind)
  dsimp only at hns₁ hsb₁ ⊢
  have e0 : ({ cls := .type "list", dict := none, data := .seq ([] : List Value).toArray } : Obj) = LCg.lst [] := rfl
  rw [e0] at hns₁ hsb₁ ⊢
  generalize hD : s.heap.objs.size = D at hns₁ hsb₁ ⊢
  obtain ⟨S1, hcD⟩ := S.pushOwn (LCg.lst [])
  rw [hD] at S1 hcD
  have hcC : ∀ y c, f.cl.lookup y = some c → c ≠ (s.heap.push (LCg.lst [])).objs.size := (S1.pushOwn (s := { s with heap := s.heap.push (LCg.lst []) }) (LCg.lst [])).2
  generalize hC : (s.heap.push (LCg.lst [])).objs.size = C at hns₁ hsb₁ hcC ⊢
  have loC : ∀ p ∈ ((x.own (Ia, oI)).own (D, LCg.lst [])).led, p.1 ≠ C := fun p hp => by rw [← hC]; exact Nat.ne_of_lt (Heap.lt_size (S1.news p hp).1)
  obtain ⟨oC0, eC0, nC0⟩ := LCg.ns_obj hns₁
  have S2 : Std f h₁ H (((x.own (Ia, oI)).own (D, LCg.lst [])).own (C, oC0)) := by
    have old : ∀ b o, (s.heap.push (LCg.lst [])).get? b = some o → h₁.get? b = some o := fun b o e => hsb₁.extBut b o (by rw [← hC]; exact Nat.ne_of_lt (Heap.lt_size e)) (Heap.get?_push_of_some _ e)
    have none0 : x.gc.get? C = none := by
      cases e : x.gc.get? C with
      | none => rfl
      | some o => exact absurd (Heap.lt_size (S1.fr.keep C o e)) (by rw [hC]; exact Nat.lt_irrefl _)
    have neL : C ≠ f.L := by
      obtain ⟨oL, es, ep, hL, r⟩ := S1.fr.ns
      rw [← hC]; exact Nat.ne_of_gt (Heap.lt_size hL)
    refine S1.put (S1.fr.keeps old) (fun p hp => ?_) loC
    rcases List.mem_cons.mp hp with rfl | hp
    · exact ⟨eC0, neL, none0⟩
    · obtain ⟨n1, n2, n3⟩ := S1.news p hp
      exact ⟨old _ _ n1, n2, n3⟩
  have hfp' : ∀ (y : St) (h h' : Heap) (H H' : Hp) (oI' : Obj) (p1 p2 p3 : Addr × Obj), h.get? Ia = some oI' → Std f h' H' (y.own3 p1 p2 p3) → (Ia, oI') ∈ [p1, p2, p3] → (∀ q ∈ x.fz, q ∈ y.fz) → (∀ q ∈ x.fz, h.get? q.1 = some q.2) → ∀ b ∈ fp, ∀ o, h.get? b = some o → h'.get? b = some o := by
    intro y h h' H H' oI' p1 p2 p3 e1 S' hm hx hx2 b hb o e
    rcases hfp b hb with hbI | ⟨o', hm'⟩
    · rw [hbI] at e ⊢
      rw [e1] at e; cases e
      refine (S'.news (Ia, oI') ?_).1
      have : (Ia, oI') ∈ p1 :: p2 :: p3 :: y.cs := by
        rcases List.mem_cons.mp hm with q | hm
        · rw [q]; exact .head _
        · rcases List.mem_cons.mp hm with q | hm
          · rw [q]; exact .tail _ (.head _)
          · rw [List.mem_singleton.mp hm]; exact .tail _ (.tail _ (.head _))
      exact List.mem_append_right _ (List.mem_append_right _ (List.mem_append_left _ this))
    · rw [hx2 _ hm'] at e; cases e
      exact S'.fzAt (hx _ hm')
  have fz0 : ∀ q ∈ x.fz, s.heap.get? q.1 = some q.2 := fun q hq => S.fzAt hq
  have eI0 : s.heap.get? Ia = some oI := S.ownAt.1
  have S2' : Std f h₁ H (x.own3 (Ia, oI) (C, oC0) (D, LCg.lst [])) := S2.perm (x := ((x.own (Ia, oI)).own (D, LCg.lst [])).own (C, oC0)) (by
    show ((Ia, oI) :: (C, oC0) :: (D, LCg.lst []) :: x.cs).Perm ((C, oC0) :: (D, LCg.lst []) :: (Ia, oI) :: x.cs)
    exact (List.Perm.swap _ _ _).trans (List.Perm.cons _ (List.Perm.swap _ _ _)))
  have st1 : St0 0 h₁ := W.frame _ _ _ st0 (hfp' x s.heap h₁ H H oI _ _ _ eI0 S2' (.head _) (fun _ h => h) fz0)
  have ei2 : EnvIs I2 f (compEnvC scope cl C env) := ⟨K.rel env ei.scope, K.kind, ei.glob, ei.blt, ei.frame, fun p h => by rw [K.own] at h; cases h⟩
  have q2 : f.q = I2.q ∧ f.ro = I2.ro := ⟨q.1.trans K.q.symm, q.2.trans K.ro.symm⟩
  have kl : ∀ y ∈ names, (compEnvC scope cl C env).kindOf y = some .local := fun y hy => by
    show (compEnvC scope cl C env).scope.names.lookup y = _
    rw [ei2.scope]; exact K.loc y hy
  have loop : ∀ s₃ : Shared, s₃ = { s with heap := h₁, toks := s.toks + ([] : List (Str × Value)).length } →
      codeAny (model prog f.w) f.A (.compLoop (.ListComp elt [⟨target, iter, ifs, 0⟩] scope pos) 0 (.ref Ia) (.ref D) (compEnvC scope cl C env)) (RR (.ref D) C) s₃ := by
    rintro s₃ rfl
    refine codeAny_compLoop_own
      (BlkInv f s x Ia C D St0 cnt fun i acc H' => compM bd (capsOf caps ρ) c b (vs.drop i) acc H' = some (accF, HF)) ?_ (cnt + 1)
      (.mk 0 H x h₁ _ oI oC0 _ [] [] rfl st1 (Nat.zero_le _) rfl (Nat.le_refl _) S2' nC0 .refl .nil P0)
    rintro k s' ⟨i, H', y, h', tk, oI', oC', m', ys, acc, rfl, st, hi, rfl, hyl, S', nC, X', Ra, P'⟩
    by_cases hlt : i < cnt
    · refine W.item i _ _ _ hlt st fun v h1 tk1 hPv st' k1 => ?_
      obtain ⟨oI2, nn, eI2, cI2, gI2⟩ := hI _ _ st'
      refine letGo_plain eI2 cI2 gI2 ?_
      have S3 : Std f h1 H' (y.own3 (Ia, oI2) (C, oC') (D, LCg.lst ys)) := Std.turn (x := { y with cs := (C, oC') :: (D, LCg.lst ys) :: y.cs }) S' hc k1 eI2
      have S4 : Std f h1 H' (y.own3 (C, oC') (Ia, oI2) (D, LCg.lst ys)) := S3.perm (x := y.own3 (Ia, oI2) (C, oC') (D, LCg.lst ys)) (List.Perm.swap _ _ _)
      obtain ⟨u, hu, Ru⟩ := hP i v hlt hPv
      have hd : vs.drop i = u :: vs.drop (i + 1) := by
        have hil : i < vs.length := by omega
        rw [List.drop_eq_getElem_cons hil]
        congr 1
        rw [List.getElem?_eq_getElem hil] at hu
        exact Option.some.inj hu
      rw [hd, compM_cons] at P'
      cases ebd : bd u with
      | none => rw [ebd] at P'; cases P'
      | some ws =>
        rw [ebd] at P'
        dsimp only at P'
        have Ru' := Ru.mono X'.ext
        refine T.go f (compEnvC scope cl C env) { s with heap := h1, toks := tk1 } H' { y with cs := (Ia, oI2) :: (D, LCg.lst ys) :: y.cs } C oC' m' u v ws _ _ kl rfl K.kind S4 hcC nC Ru' ebd fun h2 tk2 m2 oC2 nC2 S5 fa => ?_
        have V5 : Vars I2 f (compEnvC scope cl C env) (y.own3 (C, oC2) (Ia, oI2) (D, LCg.lst ys)) (ws.map some ++ capsOf caps ρ) := comp_vars K ei Vs hcl X' nC2 fa (T.len u ws ebd)
        have tst : ∀ bv H1, c (ws.map some ++ capsOf caps ρ) H' = .ok bv H1 → ∀ (Q' : Bool → Shared → Prop) (E' : Value → Shared → Prop), (∀ h3 tk3 y3, Std f h3 H1 (y3 : St) → ExtE f (y.own3 (C, oC2) (Ia, oI2) (D, LCg.lst ys)) y3 → Q' bv { s with heap := h3, toks := tk3 }) →
            wpAny (model prog f.w) f.A (forIn ifs true fun c r => if r = true then do let ok ← isTrue c (compEnvC scope cl C env) (eval c (compEnvC scope cl C env)); pure (ForInStep.yield ok) else pure (ForInStep.yield r)) Q' E' { s with heap := h2, toks := tk2 } := by
          intro bv H1 ec Q' E' k
          cases hct with
          | nil => cases ec; exact wpAny_tests_nil (k h2 tk2 _ S5 .refl)
          | one hb1 =>
            refine wpAny_tests_one (hb1 f _ { s with heap := h2, toks := tk2 } _ H' _ Q' E' ok q2 ei2 S5 V5 ?_)
            rw [ec]
            intro rv h3 tk3 y3 S6 X6 R6
            have := R6.2.2.2
            subst this
            exact k h3 tk3 y3 S6 ⟨X6, R6.1, R6.2.1, R6.2.2.1⟩
        have back : ∀ (h5 : Heap) (tk5 : Nat) (H5 : Hp) (y5 : St) (ys5 : List Value) (acc5 : List V), Std f h5 H5 (y5.own3 (Ia, oI2) (C, oC2) (D, LCg.lst ys5)) → ExtE f y y5 → ys5.length ≤ i + 1 → VRs f.w y5.al y5.fz acc5 ys5 → compM bd (capsOf caps ρ) c b (vs.drop (i + 1)) acc5 H5 = some (accF, HF) →
            ∃ m, m < cnt + 1 - i ∧ BlkInv f s x Ia C D St0 cnt (fun i acc H' => compM bd (capsOf caps ρ) c b (vs.drop i) acc H' = some (accF, HF)) m { s with heap := h5, toks := tk5 } := by
          intro h5 tk5 H5 y5 ys5 acc5 S7 X7 hl7 R7 P7
          have X8 := X'.trans X7
          refine ⟨cnt + 1 - (i + 1), by omega, .mk (i + 1) H5 y5 h5 tk5 oI2 oC2 m2 ys5 acc5 rfl ?_ hlt rfl hl7 S7 nC2 X8 R7 P7⟩
          exact W.frame _ _ _ st' (hfp' y5 h1 h5 H' H5 oI2 _ _ _ eI2 S7 (.head _) X8.ext.fz fun q hq => S3.fzAt (p := q) (X'.ext.fz _ hq))
        cases ec : c (ws.map some ++ capsOf caps ρ) H' with
        | fault _ _ _ => rw [ec] at P'; cases P'
        | stuck => rw [ec] at P'; cases P'
        | ok bv H1 =>
        rw [ec] at P'
        cases bv with
        | true =>
          dsimp only at P'
          refine tst true H1 ec _ _ fun h3 tk3 y3 S6 X6 => ?_
          simp only [if_true]
          cases eb : b (ws.map some ++ capsOf caps ρ) H1 with
          | fault _ _ _ => rw [eb] at P'; cases P'
          | stuck => rw [eb] at P'; cases P'
          | ok v' H2 =>
            rw [eb] at P'
            refine hb f _ { s with heap := h3, toks := tk3 } _ H1 y3 _ _ ok q2 ei2 S6 (V5.mono X6) ?_
            rw [eb]
            intro rv h4 tk4 y4 S7 X7 R7
            obtain ⟨y5, rfl, X8⟩ := own3_of (X6.trans ⟨X7, R7.1, R7.2.1, R7.2.2.1⟩)
            have hcD' : ∀ y c, f.cl.lookup y = some c → c ≠ D := hcD
            have S8 : Std f h4 H2 (y5.own3 (D, LCg.lst ys) (C, oC2) (Ia, oI2)) := S7.perm (x := y5.own3 (C, oC2) (Ia, oI2) (D, LCg.lst ys)) (by
              show ((D, LCg.lst ys) :: (C, oC2) :: (Ia, oI2) :: y5.cs).Perm ((C, oC2) :: (Ia, oI2) :: (D, LCg.lst ys) :: y5.cs)
              exact (List.Perm.swap _ _ _).trans (List.Perm.cons _ (List.Perm.swap _ _ _)))
            have aD := Std.ownAt (x := { y5 with cs := (C, oC2) :: (Ia, oI2) :: y5.cs }) S8
            refine append_at (hsz := by show ys.toArray.size ≤ sizeLine; rw [List.size_toArray]; omega) aD.1 fun h5 hs5 hD5 => ?_
            replace hD5 := hD5.trans (congrArg some (LCg.lst_snoc ys rv))
            have S9 : Std f h5 H2 (y5.own3 (D, LCg.lst (ys ++ [rv])) (C, oC2) (Ia, oI2)) := Std.turn (x := { y5 with cs := (C, oC2) :: (Ia, oI2) :: y5.cs }) S8 hcD' (fun b ob hb z => hs5.extBut b ob (by simpa using hb) z) hD5
            have S10 : Std f h5 H2 (y5.own3 (Ia, oI2) (C, oC2) (D, LCg.lst (ys ++ [rv]))) := S9.perm (x := y5.own3 (D, LCg.lst (ys ++ [rv])) (C, oC2) (Ia, oI2)) (by
              show ((Ia, oI2) :: (C, oC2) :: (D, LCg.lst (ys ++ [rv])) :: y5.cs).Perm ((D, LCg.lst (ys ++ [rv])) :: (C, oC2) :: (Ia, oI2) :: y5.cs)
              exact ((List.Perm.swap _ _ _).trans (List.Perm.cons _ (List.Perm.swap _ _ _))).trans ((List.Perm.swap _ _ _)))
            exact back h5 tk4 H2 y5 (ys ++ [rv]) (acc ++ [v']) S10 X8 (by rw [List.length_append, List.length_singleton]; omega) ((Ra.mono X8.ext).app (.cons R7.2.2.2 .nil)) P'
        | false =>
          dsimp only at P'
          refine tst false H1 ec _ _ fun h3 tk3 y3 S6 X6 => ?_
          simp only [Bool.false_eq_true, if_false]
          obtain ⟨y5, rfl, X8⟩ := own3_of X6
          have S10 : Std f h3 H1 (y5.own3 (Ia, oI2) (C, oC2) (D, LCg.lst ys)) := S6.perm (x := y5.own3 (C, oC2) (Ia, oI2) (D, LCg.lst ys)) (List.Perm.swap _ _ _)
          exact back h3 tk3 H1 y5 ys acc S10 X8 (by omega) (Ra.mono X8.ext) P'
    · obtain rfl : i = cnt := Nat.le_antisymm hi (Nat.not_lt.mp hlt)
      rw [List.drop_eq_nil_of_le (Nat.le_of_eq hl), compM_nil] at P'
      cases P'
      refine W.done _ _ _ st fun h2 tk2 k2 => ?_
      exact hRR D C h2 tk2 y ys oC' m' (Std.dropAt (x := { y with cs := (C, oC') :: (D, LCg.lst ys) :: y.cs }) S' hc k2) nC X' Ra fun z cz hz => ⟨hcC z cz hz, hcD z cz hz⟩
  exact codeAny_compStart_list (loop _ rfl) (W.self 0 _ _ _ st1 (loop _ rfl))
end
end

section
open PySem PySem.W PySem.Calls PyProof.Rows PySem.Spec
theorem Std.frzOwn {f : Fm} {h : Heap} {H : Hp} {x : St} {D : Addr} {o : Obj} (S : Std f h H (x.own (D, o))) (hc : ∀ y c, f.cl.lookup y = some c → c ≠ D) : Std f h H { x with fz := (D, o) :: x.fz } ∧ ExtE f x { x with fz := (D, o) :: x.fz } := by
  have S0 := S.drop hc
  have X : Ext x.al x.fz x.al ((D, o) :: x.fz) := ⟨⟨[], by simp⟩, fun p hp => .tail _ hp⟩
  refine ⟨⟨S0.below, S0.slip, S0.quiet, S0.fr, fun p hp => S.news p ?_, S0.objs.mono X, S0.tabs.mono X.fz, S0.nd, fun p hp => ?_, S0.cells⟩, X, rfl, rfl, fun _ => rfl⟩
  · simp only [St.led, List.mem_append, List.mem_cons] at hp ⊢
    rcases hp with hp | hp | hp | hp | hp
    · exact .inl hp
    · exact .inr (.inl hp)
    · exact .inr (.inr (.inl (.inr hp)))
    · exact .inr (.inr (.inl (.inl hp)))
    · exact .inr (.inr (.inr hp))
  · rcases List.mem_cons.mp hp with rfl | hp
    · intro r
      obtain ⟨p', hp', e⟩ := List.mem_map.mp r
      exact absurd e (own_beside S p' (mem_led.mpr (.inl hp')))
    · exact S0.off p hp
noncomputable def allSome (ρ : Rho) : Bool := ρ.all (·.isSome)
section
variable {I I2 : Info} {n : Nat}
theorem comp_core {env : Env} {elt target iter : Expr} {ifs : List Expr} {scope : Scope} {pos : Pos} {names cns : List Str} {caps : List Nat} {bd : V → Option (List V)} {c : Bx} {b : Ex} (T : TgC target names bd) (K : CompOk I I2 scope names cns caps) (hct : CTest I2 n ifs c) (hb : SE I2 n (eval elt) b)
    {f : Fm} {s : Shared} {x : St} {H HF : Hp} {ρ : Rho} {E : Value → Shared → Prop} {RR : Value → Addr → Result → Shared → Prop} (ok : f.Ok n) (q : f.q = I.q ∧ f.ro = I.ro) (ei : EnvIs I f env) {cl : List (Str × Addr)} (hcl : ∀ z ∈ cns, cl.lookup z = env.cells.lookup z)
    {v : V} {rv : Value} {vs accF : List V} (R : VR f.w x.al x.fz v rv) (ev : itemsOf v false H = some vs) (hle : Nat.ble vs.length 16384 = true)
    (S : Std f s.heap H x) (Vs : Vars I f env x ρ) (P0 : compM bd (capsOf caps ρ) c b vs [] H = some (accF, HF))
    (hRR : ∀ D C h tk y ys oC m', Std f h HF { y with cs := (C, oC) :: (D, LCg.lst ys) :: y.cs } → LCg.NsObj oC m' → ExtE f x y → VRs f.w y.al y.fz accF ys → (∀ z c, f.cl.lookup z = some c → c ≠ C ∧ c ≠ D) → RR (.ref D) C (.ok .next) { s with heap := h, toks := tk }) :
    wpAny (model prog f.w) f.A (pyIter rv) (fun it s₂ => wpAny (model prog f.w) f.A (newList []) (fun acc s₃ => wpAny (model prog f.w) f.A (newFunctionEnv scope env.globals cl [] env.qual none .none (some env)) (fun cenv s₄ =>
      codeAny (model prog f.w) f.A (.compStart (.ListComp elt [⟨target, iter, ifs, 0⟩] scope pos) 0 it acc { cenv with scope := relabel scope env }) (RR acc cenv.locals) s₄) E s₃) E s₂) E s := by
  have hle' : vs.length ≤ sizeLine := fits hle
  cases itemsOf_sh ev with
  | dict d es hro => exact Bool.noConfusion hro
  | tup =>
    obtain ⟨a, rs, rfl, m1, r1⟩ := R.toTup
    have hl : s.heap.IsTuple a rs.toArray := ⟨_, S.fzAt m1, rfl, _, rfl⟩
    have hne : a ≠ s.heap.objs.size := Nat.ne_of_lt (S.low _ (mem_led.mpr (.inr m1)))
    refine wpAny_pyIter_tuple hl ?_
    obtain ⟨S2, hc⟩ := S.pushOwn { cls := .type "tuple_iterator", data := .fields #[.ref a, .int 0 0] }
    refine block_G T K hct hb (s := { s with heap := s.heap.push { cls := .type "tuple_iterator", data := .fields #[.ref a, .int 0 0] } }) ok q ei hcl (Walks.tuple rfl s.heap.objs.size a hne rs.toArray) (fun i h st => by obtain ⟨o, e, c, _⟩ := st.1; exact ⟨o, _, e, c, rfl⟩) (by rw [List.size_toArray, ← r1.len]; exact hle') (vs := vs) (fun i v hi hp => ?_) (by rw [r1.len, List.size_toArray]) (fun b hb => ?_) hc S2 Vs
      ⟨⟨_, Heap.get?_push_size _ rfl, rfl, rfl⟩, ⟨_, Heap.get?_push_of_some _ (S.fzAt m1), rfl, _, rfl⟩⟩ P0 hRR
    · exact r1.back hp
    · exact (in_pair hb).elim .inl fun e => .inr ⟨_, e ▸ m1⟩
  | lst =>
    obtain ⟨a, rs, nn, rfl, m1, r1⟩ := R.toLst
    have hl : s.heap.IsList a rs.toArray := ⟨_, S.fzAt m1, rfl, _, rfl⟩
    have hne : a ≠ s.heap.objs.size := Nat.ne_of_lt (S.low _ (mem_led.mpr (.inr m1)))
    refine wpAny_pyIter_list hl ?_
    obtain ⟨S2, hc⟩ := S.pushOwn { cls := .type "list_iterator", data := .fields #[.ref a, .int 0 0] }
    refine block_G T K hct hb (s := { s with heap := s.heap.push { cls := .type "list_iterator", data := .fields #[.ref a, .int 0 0] } }) ok q ei hcl (Walks.list rfl s.heap.objs.size a hne rs.toArray) (fun i h st => by obtain ⟨o, e, c, _⟩ := st.1; exact ⟨o, _, e, c, rfl⟩) (by rw [List.size_toArray, ← r1.len]; exact hle') (vs := vs) (fun i v hi hp => ?_) (by rw [r1.len, List.size_toArray]) (fun b hb => ?_) hc S2 Vs
      ⟨⟨_, Heap.get?_push_size _ rfl, rfl, rfl⟩, ⟨_, Heap.get?_push_of_some _ (S.fzAt m1), rfl, _, rfl⟩⟩ P0 hRR
    · exact r1.back hp
    · exact (in_pair hb).elim .inl fun e => .inr ⟨_, e ▸ m1⟩
  | rng k hk' =>
      obtain ⟨a, t, u, w, rfl, m1⟩ := R.toRng
      have sz : Builtin.Range.rangeSize 0 (k : Int) 1 = (k : Int) := by
        rw [rangeSize_one]
        split <;> omega
      refine wpAny_pyIter_range (a := 0) (b := k) (c := 1) (S.fzAt m1) (small_one (by omega) (by omega) (by omega) (by omega)) ?_
      obtain ⟨S2, hc⟩ := S.pushOwn { cls := .type "range_iterator", data := .fields #[rawInt 0, rawInt (Builtin.Range.rangeSize 0 k 1), rawInt 1] }
      refine block_G T K hct hb (s := { s with heap := s.heap.push { cls := .type "range_iterator", data := .fields #[rawInt 0, rawInt (Builtin.Range.rangeSize 0 k 1), rawInt 1] } }) ok q ei hcl (LCg.range_walks (prog := prog) (w := f.w) (A := f.A) (I := s.heap.objs.size) rfl 0 k) (fun i h st => ⟨_, _, st, rfl, rfl⟩) (by rw [sizeLine_eq]; omega) (fun i v hi hp => ?_) (by rw [List.length_map, List.length_range]) (fun b hb => ?_) hc S2 Vs ?_ P0 hRR
      · obtain ⟨t', rfl⟩ := hp
        exact ints_range hi t'
      · exact .inl (List.mem_singleton.mp hb)
      · show (s.heap.push _).get? _ = _
        rw [Heap.get?_push_size _ rfl, sz]
        simp [rawInt]
noncomputable def bComp (caps : List Nat) (bd : V → Option (List V)) (c : Bx) (b : Ex) (e : Ex) : Ex := fun ρ H => if allSome (capsOf caps ρ) then (e ρ H).bind (fun v H1 => match itemsOf v false H1 with
  | some vs => if Nat.ble vs.length 16384 then (match compM bd (capsOf caps ρ) c b vs [] H1 with | some r => .ok (.lst r.1) r.2 | none => .stuck) else .stuck
  | none => .stuck) else .stuck
theorem caps_cells {scope : Scope} {names cns : List Str} {caps : List Nat} (K : CompOk I I2 scope names cns caps) {f : Fm} {env : Env} {x : St} {ρ : Rho} (ei : EnvIs I f env) (Vs : Vars I f env x ρ) (hl : cns.length = caps.length) (ha : allSome (capsOf caps ρ) = true) : ∀ y ∈ cns, ∃ c, env.cells.lookup y = some c := by
  intro y hy
  obtain ⟨j, hj⟩ := List.getElem?_of_mem hy
  have hjl : j < caps.length := by rw [← hl]; exact (List.getElem?_eq_some_iff.mp hj).1
  obtain ⟨z, h1, h2, h3, h4⟩ := K.cv j _ (List.getElem?_eq_getElem hjl)
  rw [hj] at h2; cases h2
  have hs : ((ρ[caps[j]]?).join).isSome = true := by
    have := List.all_eq_true.mp ha ((ρ[caps[j]]?).join) (List.mem_map.mpr ⟨_, List.getElem_mem hjl, rfl⟩)
    exact this
  cases e : ρ[caps[j]]? with
  | none => rw [e] at hs; cases hs
  | some o =>
    rw [e] at hs
    cases o with
    | none => cases hs
    | some v =>
      obtain ⟨z', rv, g1, g2, g3, g4⟩ := Vs _ _ e
      rw [h1] at g1; cases g1
      have kz : env.kindOf y = some .cell := by show env.scope.names.lookup y = _; rw [ei.scope]; exact h3
      cases g4 with
      | own a b c => rw [kz] at a; cases a
      | cell a b d e => exact ⟨_, b⟩
      | free a b c d e => rw [kz] at a; cases a
      | comp a b c d => rw [kz] at a; cases a
theorem se_comp {elt target iter : Expr} {ifs : List Expr} {scope : Scope} {pos : Pos} {names cns : List Str} {caps : List Nat} {bd : V → Option (List V)} {c : Bx} {b e : Ex} (h1 : SE I n (eval iter) e) (T : TgC target names bd) (K : CompOk I I2 scope names cns caps) (hl : cns.length = caps.length) (hct : CTest I2 n ifs c) (hb : SE I2 n (eval elt) b)
    (hs : ∀ env x, foldedSetIterable iter env x = pure x := by intro _ _; rfl) : SE I n (eval (.ListComp elt [⟨target, iter, ifs, 0⟩] scope pos)) (bComp caps bd c b e) := by
  intro f env s ρ H x Q E ok q ei S Vs P
  rw [eval_ListComp]
  unfold bComp at P
  obtain ⟨g, P⟩ := PE.guard P
  obtain ⟨cl, hcl1, hcl2⟩ := K.clos env (caps_cells K ei Vs hl g)
  refine wpAny_comprehension_free (use := none) (E := E) rfl (hs env) hcl1 K.kind K.nms ?_
  refine h1.go ok q ei S Vs P (preX _) fun v H1 x1 rv h1' tk1 S1 X1 R1 V1 P1 => ?_
  cases ev : itemsOf v false H1 with
  | none => rw [ev] at P1; exact P1.elim
  | some vs =>
  rw [ev] at P1
  obtain ⟨g2, P1⟩ := PE.guard P1
  cases er : compM bd (capsOf caps ρ) c b vs [] H1 with
  | none => rw [er] at P1; exact P1.elim
  | some r =>
  rw [er] at P1
  obtain ⟨rl, rH⟩ := r
  refine comp_core (s := { s with heap := h1', toks := tk1 }) T K hct hb ok q ei hcl2 R1 ev g2 S1 V1 er fun D C h tk y ys oC m' S2 nC X2 R2 hc => ?_
  refine ⟨m', nC.ns (Std.ownAt (x := y.own (D, LCg.lst ys)) S2).1, fun h'' hs'' => ?_⟩
  have S3 : Std f h'' rH (y.own (D, LCg.lst ys)) := Std.dropAt (x := y.own (D, LCg.lst ys)) S2 (fun z cz hz => (hc z cz hz).1) (fun b ob hb z => hs''.extBut b ob (by simpa using hb) z)
  obtain ⟨S4, X4⟩ := S3.frzOwn (fun z cz hz => (hc z cz hz).2)
  have X5 := X2.trans X4
  exact P1 (.ref D) h'' tk _ S4 X5.ext ⟨X5.m, X5.cs, X5.ro, .lst (.head _) (R2.mono X4.ext)⟩
end
end

section
open PySem PySem.W PySem.Calls PyProof.Rows PySem.Spec
section
variable {I I2 : Info} {n : Nat}
theorem ss_compAs {i : Nat} {y : Str} {py spos : Pos} {elt target iter : Expr} {ifs : List Expr} {scope : Scope} {pos : Pos} {names cns : List Str} {caps : List Nat} {bd : V → Option (List V)} {c : Bx} {b e : Ex} (hy : NameOk I i y) (h1 : SE I n (eval iter) e) (T : TgC target names bd) (K : CompOk I I2 scope names cns caps) (hl : cns.length = caps.length) (hct : CTest I2 n ifs c) (hb : SE I2 n (eval elt) b)
    (hsw : ∀ env : Env, env.scope = I.cs → swapsWith (.ListComp elt [⟨target, iter, ifs, 0⟩] scope pos) (some (.Name y py)) spos.line env = pure true)
    (hs : ∀ env x, foldedSetIterable iter env x = pure x := by intro _ _; rfl) : SS I n (exec (.Assign [.Name y py] (.ListComp elt [⟨target, iter, ifs, 0⟩] scope pos) spos)) (sAssign (bComp caps bd c b e) (tName i)) := by
  intro f s ρ H x Q E ok q ei S Vs pe P
  rw [exec_Assign_Name_used _ _ _ _ (hsw f.env ei.scope)]
  refine wpAny_bind (wpAny_standAt (wpAny_bind ?_))
  unfold sAssign bComp at P
  by_cases g : allSome (capsOf caps ρ) = true
  · rw [if_pos g] at P
    obtain ⟨cl, hcl1, hcl2⟩ := K.clos f.env (caps_cells K ei Vs hl g)
    show wpAny _ _ (do let _ ← comprehension (.ListComp elt [⟨target, iter, ifs, 0⟩] scope pos) scope f.env _ (newList []) false (eval iter f.env) (some (assign (.Name y py) f.env))) _ _ s
    refine wpAny_bind (wpAny_mono (wpAny_comprehension_free (use := some (assign (.Name y py) f.env)) (E := E) (Q := fun _ s' => Q .next s') rfl (hs f.env) hcl1 K.kind K.nms ?_) (fun _ s' hq => wpAny_pure (wpAny_pure hq)) fun _ _ e => e)
    rw [Out.bind_assoc] at P
    refine h1.go ok q ei S Vs P (preS I) fun v H1 x1 rv h1' tk1 S1 X1 R1 V1 P1 => ?_
    cases ev : itemsOf v false H1 with
    | none => rw [ev] at P1; exact P1.elim
    | some vs =>
    rw [ev] at P1
    dsimp only at P1
    by_cases g2 : Nat.ble vs.length 16384 = true
    · rw [if_pos g2] at P1
      cases er : compM bd (capsOf caps ρ) c b vs [] H1 with
      | none => rw [er] at P1; exact P1.elim
      | some r =>
      rw [er] at P1
      obtain ⟨rl, rH⟩ := r
      refine comp_core (s := { s with heap := h1', toks := tk1 }) T K hct hb ok q ei hcl2 R1 ev g2 S1 V1 er fun D C h tk y' ys oC m' S2 nC X2 R2 hc => ?_
      have S3 : Std f h rH ((y'.own (C, oC)).own (D, LCg.lst ys)) := S2.perm (x := { y' with cs := (C, oC) :: (D, LCg.lst ys) :: y'.cs }) (List.Perm.swap _ _ _)
      obtain ⟨S4, X4⟩ := S3.frzOwn (fun z cz hz => (hc z cz hz).2)
      have X5 : ExtE f y' { y' with fz := (D, LCg.lst ys) :: y'.fz } := ⟨X4.ext, rfl, rfl, fun _ => rfl⟩
      have S5 : Std f h rH (St.own { y' with fz := (D, LCg.lst ys) :: y'.fz } (C, oC)) := S4
      have V5 := (V1.mono (X2.trans X5)).own (p := (C, oC))
      refine (ta_name (n := n) (pos := py) hy) f { s with heap := h, toks := tk } (.lst rl) (.ref D) ρ rH _ _ E ok q ei S5 V5 (.lst (.head _) (R2.mono X4.ext)) ?_
      change PE (RS I) f x1 _ ((tName i (.lst rl) ρ rH).bind _) Q E at P1
      revert P1
      cases e3 : tName i (.lst rl) ρ rH with
      | fault m j G => exact fun P1 e h tk F => P1 e h tk (F.mono (X2.trans X5).ext)
      | stuck => exact fun P1 => P1.elim
      | ok ρ3 H3 =>
        intro P1 _ h3 tk3 x3 S6 X6 R6
        obtain ⟨y3, rfl, ky3⟩ := R6.1.own S6 (fun z cz hz => (hc z cz hz).1)
        refine ⟨m', nC.ns S6.ownAt.1, fun h'' hs'' => ?_⟩
        have S7 : Std f h'' H3 y3 := S6.dropAt (fun z cz hz => (hc z cz hz).1) (fun b ob hb z => hs''.extBut b ob (by simpa using hb) z)
        exact P1 .next h'' tk3 y3 S7 ((X2.trans X5).ext.trans X6) ⟨((X2.trans X5).kept).trans ky3, R6.2.unown S6 (fun z cz hz => (hc z cz hz).1), .next⟩
    · rw [if_neg g2] at P1; exact P1.elim
  · rw [if_neg g] at P; exact P.elim
end
end

section
open PySem PySem.W PySem.Calls PyProof.Rows PySem.Spec
section
variable {I : Info} {n : Nat}
noncomputable def vMod : V → V → Hp → Out V := onInts fun a b H => if decide (0 < b) then .ok (.int (a.fmod b)) H else .stuck
theorem op_mod : Op2 RV I n (binaryOp .Mod) vMod := op_ints fun f s H x Q E a b ta tb S P => by
  obtain ⟨g, P⟩ := PE.guard P
  exact mod_int' (Int.ne_of_gt (of_decide_eq_true g)) (PE.done (R0 := fun f x v rv => VR f.w x.al x.fz v rv) P S (.int _ _) (s.toks + 1))
noncomputable def vFdiv : V → V → Hp → Out V := onInts fun a b H => if decide (0 < b) && decide (b < 1000) then .ok (.int (a.fdiv b)) H else .stuck
theorem op_fdiv : Op2 RV I n (binaryOp .FloorDiv) vFdiv := op_ints fun f s H x Q E a b ta tb S P => by
  obtain ⟨g, P⟩ := PE.guard P
  simp only [Bool.and_eq_true, decide_eq_true_eq] at g
  exact floordiv_int (Int.ne_of_gt g.1) (PE.done (R0 := fun f x v rv => VR f.w x.al x.fz v rv) P S (.int _ _) (s.toks + 1)) (.inl (PyProof.noPylong_small (by omega)))
noncomputable def vMul : V → V → Hp → Out V := onInts fun a b H => if decide (-4294967296 < b) && decide (b < 4294967296) then .ok (.int (a * b)) H else .stuck
theorem op_mul : Op2 RV I n (binaryOp .Mult) vMul := op_ints fun f s H x Q E a b ta tb S P => by
  obtain ⟨g, P⟩ := PE.guard P
  simp only [Bool.and_eq_true, decide_eq_true_eq] at g
  exact PyProof.Rows.mul_int (PE.done (R0 := fun f x v rv => VR f.w x.al x.fz v rv) P S (.int _ _) (s.toks + 1)) (PySem.IntMulOk.of_right (PySem.intBits_le_64 (by omega) (by omega)))
noncomputable def vPow : V → V → Hp → Out V := onInts fun a b H => if decide (0 ≤ a) && decide (a < 1000) && decide (0 ≤ b) && decide (b < 100) then .ok (.int (a ^ b.toNat)) H else .stuck
theorem op_pow : Op2 RV I n (binaryOp .Pow) vPow := op_ints fun f s H x Q E a b ta tb S P => by
  obtain ⟨g, P⟩ := PE.guard P
  simp only [Bool.and_eq_true, decide_eq_true_eq] at g
  exact pow_int_small (by omega) (by omega) (by omega) (PE.done (R0 := fun f x v rv => VR f.w x.al x.fz v rv) P S (.int _ _) (s.toks + 1))
noncomputable def fMax : List V → Hp → Out V
  | [.int a, .int b], H => .ok (.int (if b > a then b else a)) H
  | _, _ => .stuck
theorem op_max : OpN I n (.builtin "max") fMax := by
  intro f s H x Q E vs rvs ok q S R P
  cases vs with
  | nil => exact P.elim
  | cons a vs =>
    cases a <;> first | exact P.elim | skip
    rename_i i
    cases vs with
    | nil => exact P.elim
    | cons b vs =>
      cases b <;> first | exact P.elim | skip
      rename_i j
      cases vs with
      | cons _ _ => exact P.elim
      | nil =>
        obtain ⟨_, _, rfl, Ra, Rb⟩ := R.two
        obtain ⟨t, rfl⟩ := Ra.toInt
        obtain ⟨u, rfl⟩ := Rb.toInt
        exact max_two_N rfl S.fr S.news fun h' tk F N => P _ h' tk x ⟨S.below, S.slip, S.quiet, F, N, S.objs, S.tabs, S.nd, S.off, S.cells⟩ .refl ⟨rfl, rfl, fun _ => rfl, .int _ _⟩
noncomputable def fIntB : List V → Hp → Out V
  | [.bool b], H => .ok (.int (if b then 1 else 0)) H
  | _, _ => .stuck
theorem op_intB : OpN I n (.type "int") fIntB := by
  intro f s H x Q E vs rvs ok q S R P
  cases vs with
  | nil => exact P.elim
  | cons a vs =>
    cases a <;> first | exact P.elim | skip
    rename_i b
    cases vs with
    | cons _ _ => exact P.elim
    | nil =>
      obtain ⟨_, rfl, Ra⟩ := R.one
      cases Ra.toBool
      exact call_int_bool (PE.done (R0 := fun f x v rv => VR f.w x.al x.fz v rv) P S (.int _ _) _)
noncomputable def vGetL : V → V → Hp → Out V := fun o i H => match o, i with
  | .ref d, .int k => (match H[d]? with
    | some (.list vs) => (match vIdx vs k with | some v => .ok v H | none => .stuck)
    | _ => .stuck)
  | _, _ => .stuck
inductive RefIntSh : V → V → Prop
  | mk (d : Nat) (k : Int) : RefIntSh (.ref d) (.int k)
theorem vGetL_sh (a b : V) (H : Hp) (h : vGetL a b H ≠ .stuck) : RefIntSh a b := by
  cases a <;> first | exact absurd rfl h | (cases b <;> first | exact absurd rfl h | constructor)
theorem op_getL {value slice : Expr} (hs : ∀ o i, subscripted slice false o i = operate [o, i] (getItem o i)) : Op2 RV I n (subscriptTail value slice) vGetL := by
  intro f s H x Q E a b ra rb ok q S Ra Rb P
  cases vGetL_sh a b H P.ns with
  | mk d k =>
    obtain ⟨a, rfl, ha⟩ := Ra.toRef
    obtain ⟨t, rfl⟩ := Rb.toInt
    delta vGetL at P
    dsimp only at P
    cases e : H[d]? with
    | none => rw [e] at P; exact P.elim
    | some o =>
    rw [e] at P
    cases o <;> first | exact P.elim | skip
    rename_i vs
    dsimp only at P
    cases e2 : vIdx vs k with
    | none => rw [e2] at P; exact P.elim
    | some v =>
    rw [e2] at P
    obtain ⟨rs, nn, hm, _, r1⟩ := S.listAt e ha
    obtain ⟨j, r, l1, l2, h1, h2, h3⟩ := vIdx_at r1 e2
    have hl : s.heap.IsList a rs.toArray := ⟨_, hm, rfl, _, rfl⟩
    exact tail_any hl.typeIs slot_list_getitem.lookup (get_list hl l1 l2 h1 h2 (PE.done (R0 := fun f x v rv => VR f.w x.al x.fz v rv) P S h3 s.toks)) (hs _ _)
noncomputable def setV : List V → Nat → V → Option (List V)
  | [], _, _ => none
  | _ :: vs, 0, v => some (v :: vs)
  | u :: vs, k + 1, v => match setV vs k v with | some r => some (u :: r) | none => none
theorem setV_at {w : World} {al : List Addr} {fz : Led} {v : V} {r : Value} (R : VR w al fz v r) : ∀ {vs : List V} {rs : List Value}, VRs w al fz vs rs → ∀ {k : Nat} {us : List V}, setV vs k v = some us → ∃ qs, ki_setL rs k r = some qs ∧ VRs w al fz us qs
  | _, _, .nil, k, us, e => by cases e
  | _, _, .cons a b, 0, us, e => by cases e; exact ⟨_, rfl, .cons R b⟩
  | _, _, .cons (r := q) a b, k + 1, us, e => by
    replace e : (match setV _ k v with | some r => some (_ :: r) | none => none) = some us := e
    cases e' : setV _ k v with
    | none => rw [e'] at e; cases e
    | some r' =>
      rw [e'] at e
      cases e
      obtain ⟨qs, h1, h2⟩ := setV_at R b e'
      exact ⟨q :: qs, by rw [ki_setL, h1], .cons a h2⟩
noncomputable def vSetL : V → V → V → Hp → Out Unit := fun o i v H => match o, i with
  | .ref d, .int k => (match H[d]? with
    | some (.list vs) => if decide (0 ≤ k) && decide (k < 1000) then (match setV vs k.toNat v with | some us => .ok () (H.set d (.list us)) | none => .stuck) else .stuck
    | _ => .stuck)
  | _, _ => .stuck
theorem vSetL_sh (a b c : V) (H : Hp) (h : vSetL a b c H ≠ .stuck) : RefIntSh a b := by
  cases a <;> first | exact absurd rfl h | (cases b <;> first | exact absurd rfl h | constructor)
theorem op_setL (hro : I.ro = false) : Op3 I n setItem vSetL := by
  intro f s H x Q E a b c ra rb rc ok q S Ra Rb Rc P
  cases vSetL_sh a b c H P.ns with
  | mk d k =>
    obtain ⟨a, rfl, ha⟩ := Ra.toRef
    obtain ⟨t, rfl⟩ := Rb.toInt
    delta vSetL at P
    dsimp only at P
    cases e : H[d]? with
    | none => rw [e] at P; exact P.elim
    | some o =>
    rw [e] at P
    cases o <;> first | exact P.elim | skip
    rename_i vs
    dsimp only at P
    obtain ⟨g, P⟩ := PE.guard P
    simp only [Bool.and_eq_true, decide_eq_true_eq] at g
    cases e2 : setV vs k.toNat c with
    | none => rw [e2] at P; exact P.elim
    | some us =>
    rw [e2] at P
    cases S.at_ e ha with
    | mk ro gg mu led R U upd =>
      obtain ⟨rs, nn, rfl, r1⟩ := R.toList
      obtain ⟨qs, h1, h2⟩ := setV_at Rc r1 e2
      exact ki_set S.fr S.news g.1 (by omega) (its := rs.toArray) h1 (updF_upd U) fun h' F' N' => PE.to (R0 := fun _ _ _ _ => True) P (upd (q.2.trans hro) _ h' (.list us) F' N' (.list (n := nn) h2)) trivial _
end
end

section
open PySem PySem.W PySem.Calls PyProof.Rows PySem.Spec
noncomputable def SpecC (w : World) (mean : ExcName → Option Value) (mg mb : Str → Option Value) (fa : Addr) (n : Nat) (vs : List Value) (led : Led) (P : Value → Led → Prop) (X : Addr → Led → Prop) : Prop :=
  ∀ (dp un : Nat) (gd : Option (List Code)) (cn : Str) (cs : Scope) (a : Addr) (ccd : Value) (cl : List (Str × Addr)) (outer : List Env) (A₀ : Around) (base h₀ : Heap) (L : Addr) (m : Str → Option Value) (s : Shared) (R : Result → Shared → Prop),
    Below A₀ base outer h₀ → Fr h₀ L s.heap m → (KK w.params).In base → TopX mean mg mb base → News h₀ L s.heap led → cs.kind = .function → dp + n < recursionLimit → un + 16 * n < cLine →
    (∀ v h' tk' led', Back h₀ L m led s.heap h' led' → P v led' → R (.ok (.ret v)) { s with heap := h', toks := tk' }) →
    (∀ e d h' tk' led', Raised base (hideAll s.heap (adr led)) (envX cn cs L a ccd cl :: outer) e d led' h' → X d led' → R (.error (.ref e)) { s with heap := h', toks := tk' }) →
    codeAny (model prog w) (ktrTop dp un gd cn cs L a ccd cl outer) (.call (.ref fa) ⟨vs, []⟩) R s
structure FCc (fa : Addr) (n : Nat) (F : List V → Hp → Out V) : Prop where
  spec : ∀ w mean mg mb vs rvs H mu tb fz, VRs w (adr mu) fz vs rvs → HOk w H mu tb fz → F vs H ≠ .stuck → SpecC w mean mg mb fa n rvs (mu ++ (tb ++ fz)) (POk w (F vs H) mu fz) (PEr w (F vs H) mu fz)
theorem fcc_plain {ro : Bool} {fa n : Nat} {ps rest : List Str} {body : List Stmt} {scope : Scope} {qual : Str} {cdv : Value} {e : Sx} (D : Def fa ps body scope qual cdv) (hloc : ∀ y ∈ ps, scope.names.lookup y = some .local) (hdb : ∀ y ∈ ps, (y == ("__debug__" : Str)) = false) (hcell : ∀ x ∈ scope.names, x.2 ≠ .cell)
    (hb : SSs ⟨ps ++ rest, scope, true, ro, some (qual, cdv)⟩ n body e) : FCc fa (n + 1) (runF ps.length rest.length e) := by
  refine ⟨fun w mean mg mb vs rvs H mu tb fz R K hns => ?_⟩
  obtain ⟨oc, od, name, params, dV, kV, doc, pm, an, ct, osl, ho, hbind⟩ := D.at_
  have hlen : vs.length = ps.length := by
    unfold runF at hns
    split at hns
    · rename_i h; exact Nat.beq_eq.mp h
    · exact absurd rfl hns
  have hr : runF ps.length rest.length e vs H = retOf (e (vs.map some ++ List.replicate rest.length none) H) := by
    unfold runF; rw [if_pos (Nat.beq_eq.mpr hlen)]
  have hlr : rvs.length = ps.length := by rw [← R.len]; exact hlen
  rw [hr] at hns
  have hl2 : ∀ y ∈ ps.zip rvs, scope.names.lookup y.1 = some .local := fun y hy => hloc y.1 (List.of_mem_zip hy).1
  have ncell : ∀ y, scope.names.lookup y = some .cell → False := fun y h => by
    obtain ⟨l1, l2, he, _⟩ := List.lookup_eq_some_iff.mp h
    exact hcell (y, .cell) (by rw [he]; simp) rfl
  have vars : ∀ (f : Fm) (x : St), f.w = w → f.cs = scope → f.cl = [] → x.m = (fun y => (ps.zip rvs).reverse.lookup y) → x.mu = mu → x.fz = fz → Vars ⟨ps ++ rest, scope, true, ro, some (qual, cdv)⟩ f f.env x (vs.map some ++ List.replicate rest.length none) := fun f x e1 e2 e3 e4 e5 e6 i v hv => by
    have hv' := rho_at hv
    obtain ⟨rv, h1, h2⟩ := R.at hv'
    have hi : i < ps.length := by rw [← hlen]; exact (List.getElem?_eq_some_iff.mp hv').1
    obtain ⟨y, hy⟩ : ∃ y, ps[i]? = some y := ⟨ps[i], List.getElem?_eq_getElem hi⟩
    refine ⟨y, rv, by rw [List.getElem?_append_left hi]; exact hy, hdb y (List.mem_of_getElem? hy), by rw [e1, St.al, e5, e6]; exact h2, .own ?_ rfl ?_⟩
    · show f.cs.names.lookup y = _
      rw [e2]; exact hloc y (List.mem_of_getElem? hy)
    · rw [e4]; exact zip_lookup D.nd hlr.symm hy h1
  have room : ∀ {d : Nat}, d + (n + 1) < recursionLimit → d + 1 + n < recursionLimit := fun h => by omega
  have units : ∀ {u : Nat}, u + 16 * (n + 1) < cLine → u + 3 + 16 * n < cLine := fun h => by omega
  intro dp un gd cn cs a ccd cl outer A₀ base h₀ L m s RR B F XB TB N hK hd hu okk err
  refine enter_def (R := RR) B F XB TB N rfl rfl hK (ho w).1 (ho w).2 (Nat.lt_of_le_of_lt (Nat.le_add_right _ _) hd) (hbind rvs hlr _) hl2 (fun g L' h₁ eg S F' N' B' X' T' => ?_) D.co D.gen D.kind hcell
  let fm : Fm := ⟨w, mean, mg, mb, dp + 1, un + 3, gd, qual, scope, L', fa, cdv, [], envX cn cs L a ccd cl :: outer, ktrTop dp un gd cn cs L a ccd cl outer, base, g, true, ro⟩
  let x : St := ⟨g, fun y => (ps.zip rvs).reverse.lookup y, mu, tb, [], fz⟩
  have ok : fm.Ok n := ⟨rfl, fun y h => (ncell y h).elim, fun _ _ _ h => by simp [fm] at h, D.kind, room hd, units hu, XB, TB⟩
  have S' : Std fm h₁ H x := ⟨B', Slip.refl, fun _ => rfl, F', N', K.objs, K.tabs, by show (adr (mu ++ (tb ++ []))).Nodup; rw [List.append_nil]; exact K.nd, by show ∀ p ∈ fz, p.1 ∉ adr (mu ++ (tb ++ [])); rw [List.append_nil]; exact K.off, fun y c h => by simp [fm] at h⟩
  refine run_body (Q := fun v s' => RR (.ok (.ret v)) s') (E := fun e s' => RR (.error e) s') (f := fm) (x := x) (ρ := vs.map some ++ List.replicate rest.length none) hb ok ⟨rfl, rfl⟩ ⟨rfl, D.kind, rfl, rfl, rfl, fun p h => by cases h; exact ⟨rfl, rfl, rfl⟩⟩ S' (vars fm x rfl rfl rfl rfl rfl rfl) hns (fun v H' rv h' tk x' e1 S2 X2 R2 => ?_) (fun mm i H' ex d h' tk mu' tb' fz' tm ti u1 u2 e1 R2 K2 X2 => ?_)
  · exact fin (Q := fun v s' => RR (.ok (.ret v)) s') okk F N rfl S2.fr ((S2.quiet rfl).trans eg) S2.part ⟨v, H', x'.mu, x'.tb, x'.fz, hr.trans e1, rfl, S2.hok, X2, R2⟩
  · exact err ex d h' tk _ (eg ▸ R2) ⟨mm, i, H', mu', tb', fz', tm, ti, u1, u2, hr.trans e1, rfl, K2, X2⟩
structure ClsOk (c fI : Addr) : Prop where
  at_ : ∀ w : World, keepIn (KF w) (.ref c) = true ∧ makesIn (KF w) c = true ∧ findIn (KF w) (.ref c) "__init__" = some (some (.ref fI)) ∧ isFn (KF w) (.ref fI) = true
noncomputable def fMake (c : Nat) (F : List V → Hp → Out V) : List V → Hp → Out V := fun vs H => (F (.ref (H.length + 1) :: vs) (H ++ [.fld [], .inst c H.length])).bind fun v H2 => match v with | .none => .ok (.ref (H.length + 1)) H2 | _ => .stuck
section
variable {I : Info} {n : Nat}
theorem under_tc (f : Fm) (c : Addr) (rest : List Value) : f.A.under (.builtin "type.__call__" ⟨.ref c :: rest, []⟩) = ktrTop (f.dp + 1) (f.un + 1) f.gd f.cn f.cs f.L f.a f.ccd f.cl f.outer := by
  rfl
theorem fcc_call {fa n' : Nat} {F : List V → Hp → Out V} (C : FCc fa n' F) {f : Fm} {s : Shared} {H : Hp} {x : St} (hro : f.ro = false) (ok : f.Ok n) (hn : n' + 1 ≤ n) (S : Std f s.heap H x) {vs : List V} {rvs : List Value} (R : VRs f.w x.al x.fz vs rvs) {c : Code} {gd' : Option (List Code)} (hc : f.A.under c = ktrTop (f.dp + 1) (f.un + 1) gd' f.cn f.cs f.L f.a f.ccd f.cl f.outer) {RR : Result → Shared → Prop}
    (hns : F vs H ≠ .stuck) (okk : ∀ v H' rv h' tk x', F vs H = .ok v H' → Std f h' H' x' → ExtE f x x' → VR f.w x'.al x'.fz v rv → RR (.ok (.ret rv)) { s with heap := h', toks := tk }) (err : ∀ m i H' e h' tk, F vs H = .fault m i H' → Flt f m i H' x e { s with heap := h', toks := tk } → RR (.error (.ref e)) { s with heap := h', toks := tk }) :
    codeAny (model prog f.w) (f.A.under c) (.call (.ref fa) ⟨rvs, []⟩) RR s := by
  rw [hc]
  have ok' := ok.less hn
  refine C.spec f.w f.mean f.mg f.mb vs rvs H x.mu x.tb x.fz R S.hok hns (f.dp + 1) (f.un + 1) gd' f.cn f.cs f.a f.ccd f.cl f.outer f.A₀ f.base x.gc f.L x.m s RR S.below S.fr ok.XB ok.TB S.part ok.kind (by have := ok'.room; omega) (by have := ok'.units; omega) ?_ ?_
  · rintro v h' tk' led' T ⟨v', H', mu', tb', fz', e1, rfl, K', X', R'⟩
    exact okk v' H' v h' tk' _ e1 (S.back S.below S.slip S.quiet T.fr T.news (fun p hp => ⟨T.keep _ _ (S.csOut hp) (S.here hp), (S.news p (by simp [St.led, hp])).2.2⟩) T.fresh K') ⟨X', rfl, rfl, fun h => by (rw [hro] at h; cases h)⟩ R'
  · rintro e d h' tk' led' Rs ⟨m, i, H', mu', tb', fz', tm, ti, u1, u2, e1, rfl, K', X'⟩
    exact err m i H' e h' tk' e1 (S.flt ok Rs K' X')
theorem make_call {c fI n' : Addr} {F : List V → Hp → Out V} (K : ClsOk c fI) (C : FCc fI n' F) {f : Fm} {s : Shared} {H : Hp} {x : St} (hro : f.ro = false) (ok : f.Ok n) (hn : n' + 1 ≤ n) (S : Std f s.heap H x) {vs : List V} {rvs : List Value} (R : VRs f.w x.al x.fz vs rvs) {Q E : Value → Shared → Prop} (P : PE RV f x s (fMake c F vs H) Q E) :
    wpAny (model prog f.w) f.A (call (.ref c) rvs) Q E s := by
  obtain ⟨k1, k2, k3, k4⟩ := K.at_ f.w
  refine call_cls S.fr (S.X ok) S.news k2 k3 k4 fun xi dx h' F' N' l1 l2 => ?_
  unfold fMake at P
  have lx : ∀ p ∈ x.led, p.1 < dx := l1
  obtain ⟨S1, X1, e1⟩ := S.more (D := dx) (o := .fld []) hro F' (fun p hp => N' p (.tail _ hp)) lx (.fld (n := 0) .nil)
  have hlen : x.al.length = H.length := by rw [S.objs.len]; simp [St.al, adr]
  have e2 : (adr (x.mu ++ [(dx, dictOf [] 0)])).length = H.length + 1 := by rw [e1, List.length_append, hlen]; rfl
  have hd : (adr (x.mu ++ [(dx, dictOf [] 0)]))[H.length]? = some dx := by rw [e1, ← hlen]; simp
  obtain ⟨S2, X2, e3⟩ := S1.more (D := xi) (o := .inst c H.length) hro F' (fun p hp => by
    rcases List.mem_cons.mp hp with rfl | hp
    · exact N' _ (.head _)
    · refine N' p (.tail _ ?_)
      simp only [St.led, List.mem_append, List.mem_cons, List.not_mem_nil, or_false] at hp
      rcases hp with (hp | hp) | hp
      · exact .tail _ (List.mem_append_left _ hp)
      · rw [hp]; exact .head _
      · exact .tail _ (List.mem_append_right _ (by simpa using hp))) (fun p hp => by
    simp only [St.led, List.mem_append, List.mem_cons, List.not_mem_nil, or_false] at hp
    rcases hp with (hp | hp) | hp
    · exact Nat.lt_trans (lx p (by simp [St.led, hp])) l2
    · rw [hp]; exact l2
    · exact Nat.lt_trans (lx p (by simp only [St.led, List.mem_append]; exact .inr hp)) l2) (.inst (by
      show (adr (x.mu ++ [(dx, dictOf [] 0)]) ++ [xi])[H.length]? = some dx
      rw [List.getElem?_append_left (by rw [e2]; exact Nat.lt_succ_self _)]; exact hd))
  have X3 := X1.trans X2
  have hH : (H ++ [.fld []]) ++ [O.inst c H.length] = H ++ [.fld [], .inst c H.length] := by rw [List.append_assoc]; rfl
  rw [hH] at S2
  have hx : (adr (x.mu ++ [(dx, dictOf [] 0)] ++ [(xi, instObj c dx)]))[H.length + 1]? = some xi := by
    rw [e3]
    show (adr (x.mu ++ [(dx, dictOf [] 0)]) ++ [xi])[H.length + 1]? = some xi
    rw [List.getElem?_append_right (by rw [e2]; exact Nat.le_refl _), e2]; simp
  have hns : F (.ref (H.length + 1) :: vs) (H ++ [.fld [], .inst c H.length]) ≠ .stuck := fun e => by rw [e] at P; exact P
  refine fcc_call (s := { s with heap := h' }) C hro ok hn S2 (.cons (.ref hx) (R.mono X3.ext)) (under_tc f c rvs) hns (fun v H' rv h2 tk x' ev S' X' R' => ?_) (fun m i H' e h2 tk ev Fl => ?_)
  · rw [ev] at P
    cases R' <;> first | exact P.elim | skip
    refine ⟨rfl, P _ h2 tk x' S' (X3.trans X').ext ⟨(X3.trans X').m, (X3.trans X').cs, (X3.trans X').ro, .ref (X'.ext.at hx)⟩⟩
  · rw [ev] at P
    exact P e h2 tk (Fl.mono X3.ext)
theorem se_make (hro : I.ro = false) {g : Str} {c fI n' : Nat} {p pos : Pos} {args : List Expr} {es : Exs} {F : List V → Hp → Out V} (G : GName I g (.ref c)) (K : ClsOk c fI) (C : FCc fI n' F) (hn : n' + 1 ≤ n) (ha : SArgs I n args es) :
    SE I n (eval (.Call (.Name g p) args [] pos)) (bWith (fMake c F) es) := by
  intro f env s ρ H x Q E ok q ei S Vs P
  refine Call_ (S.name ok ei G ?_)
  exact call_args (fv := []) (K.at_ f.w).1 ha ok q ei S Vs .nil P fun s' H' x' vs rvs S' R' P' => make_call K C (q.2.trans hro) ok hn S' R' P'
end
end

section
open PySem PySem.W PySem.Calls PyProof.Rows
local macro_rules | `(tactic| k_enter) => `(tactic| (refine' code_def ?k1 ?k2 ?k3 ?k4 ?k5 ?kA ?kF ?kK ?k6 ?k7 ?k8 ?k9 ?kB ?_ ?c2 ?c3 ?c4 ?c5; (case kA => exact rfl); (case kF => exact rfl); (case kK => first | exact rfl | assumption); (case k1 => k_asm); (case k2 => k_asm); (case k3 => with_reducible assumption); (case k4 => k_asm); (case k5 => with_reducible assumption); (case k6 => k_is); (case k7 => k_is); (case k8 => ktr_room); (case k9 => first | exact BindsTo.of_eq rfl | exact binds_K (by k_in) rfl (by k_is) rfl rfl rfl); (case c5 => decide); (case kB => exact locs rfl); (case c2 => exact rfl); (case c3 => exact rfl); (case c4 => exact rfl); k_whole; intro g' L' h' FG' F' N' B' X' T'; (try dsimp only); (try k_fold)))
variable {w : World} {mean : ExcName → Option Value} {mg mb : Str → Option Value}
theorem use_walk {nm pb sp : Value} {dp un : Nat} {gd : Option (List Code)} {cn : Str} {cs : Scope} {a : Addr} {ccd : Value} {cl : List (Str × Addr)} {outer : List Env} {A₀ : Around} {base h₀ : Heap} {L : Addr} {m : Str → Option Value} {s : Shared} {Q E : Value → Shared → Prop} {led : Led}
    (e1 : handedIn nm = true) (e2 : handedIn pb = true) (e3 : handedIn sp = true) (B : Below A₀ base outer h₀) (F : Fr h₀ L s.heap m) (XB : (KK w.params).In base) (TB : TopX mean mg mb base) (N : News h₀ L s.heap led) (hk : cs.kind = .function) (hdp : dp + 3 < recursionLimit) (hu : un + 48 < cLine)
    (k : ∀ x dx u1 u2 u3 h' tk, Fr h₀ L h' m → News h₀ L h' ((x, instObj 109 dx) :: (dx, dictOf [ent w "names" u1 nm, ent w "is_pub" u2 pb, ent w "spot" u3 sp] 3) :: led) → (∀ q ∈ led, q.1 < dx) → dx < x → Q (.ref x) { s with heap := h', toks := tk }) :
    wpAny (model prog w) (ktrTop dp un gd cn cs L a ccd cl outer) (call (.ref 109) [nm, pb, sp]) Q E s := by
  have X := XB.keeps B.stays
  refine call_cls (K := KK w.params) F X N (by k_is) (by k_is) (by k_is) fun x dx h' F' N' l1 l2 => ?_
  have T : TopX mean mg mb h₀ := TB.keeps B.stays
  have ne : x ≠ dx := Nat.ne_of_gt l2
  have off : ∀ p ∈ led, p.1 ≠ dx := fun p hp => Nat.ne_of_lt (l1 p hp)
  k_dflt k_enter
  repeat' (first | (k_unfold; (try dsimp only)) | walk1 | (dsimp only; walk1))
  exact k x dx _ _ _ _ _ (by assumption) (by assumption) l1 l2
theorem use_kept (w : World) : keepIn (KK w.params) (.ref 109) = true := by k_is
noncomputable def fUse : List V → Hp → Out V
  | [n, p, q], H => .ok (.use n p q) H
  | _, _ => .stuck
theorem se_use {I : Info} {n : Nat} {g : Str} {p pos : Pos} {args : List Expr} {es : Exs} (G : GName I g (.ref 109)) (hn : 3 ≤ n) (ha : SArgs I n args es) : SE I n (eval (.Call (.Name g p) args [] pos)) (bWith fUse es) := by
  intro f env s ρ H x Q E ok q ei S Vs P
  refine Call_ (S.name ok ei G ?_)
  refine call_args (F := fUse) (fv := []) (use_kept f.w) ha ok q ei S Vs .nil P fun s' H' x' vs rvs S' R' P' => ?_
  cases vs with
  | nil => exact P'.elim
  | cons va vs =>
  cases vs with
  | nil => exact P'.elim
  | cons vb vs =>
  cases vs with
  | nil => exact P'.elim
  | cons vc vs =>
  cases vs with
  | cons _ _ => exact P'.elim
  | nil =>
  cases R' with | cons Ra R2 => cases R2 with | cons Rb R3 => cases R3 with | cons Rc R4 => cases R4 with | nil =>
  have o := ok.room
  have u := ok.units
  refine use_walk Ra.handed Rb.handed Rc.handed S'.below S'.fr ok.XB ok.TB S'.news ok.kind (by omega) (by omega) fun xi dx u1 u2 u3 h' tk F' N' l1 l2 => ?_
  obtain ⟨S1, X1⟩ := S'.frz (D := dx) F' (fun p hp => N' p (.tail _ hp)) l1
  obtain ⟨S2, X2⟩ := S1.frz (D := xi) F' (fun p hp => by
    rcases List.mem_cons.mp hp with rfl | hp
    · exact N' _ (.head _)
    · rw [mem_led] at hp
      rcases hp with hp | hp
      · exact N' p (.tail _ (.tail _ (mem_led.mpr (.inl hp))))
      · rcases List.mem_cons.mp hp with rfl | hp
        · exact N' _ (.tail _ (.head _))
        · exact N' p (.tail _ (.tail _ (mem_led.mpr (.inr hp))))) (fun p hp => by
    rw [mem_led] at hp
    rcases hp with hp | hp
    · exact Nat.lt_trans (l1 p (mem_led.mpr (.inl hp))) l2
    · rcases List.mem_cons.mp hp with rfl | hp
      · exact l2
      · exact Nat.lt_trans (l1 p (mem_led.mpr (.inr hp))) l2)
  have X3 := X1.trans X2
  exact P' (.ref xi) h' tk _ S2 X3.ext ⟨X3.m, X3.cs, X3.ro, .use (.head _) (.tail _ (.head _)) (Ra.mono X3.ext) (Rb.mono X3.ext) (Rc.mono X3.ext)⟩
end

section
open PySem PySem.W PySem.Spec PySem.Calls PyProof.Rows
section
variable {A₀ : Around} {base g G h : Heap} {outer : List Env} {L : Addr} {m : Str → Option Value}
theorem ground_up (K : Below A₀ base outer g) (F : Fr g L G m) (S : Slip (L :: frs outer) G h) :
    ∃ g', KtsTurn (frs outer) g g' ∧ Fr g' L h m ∧ Below A₀ base outer g' := by
  have S₀ : Slip (frs outer) g h := fun b o e => by
    obtain ⟨x, y⟩ := S b o (F.keep b o e)
    refine ⟨fun hm => x fun q => ?_, y⟩
    rcases List.mem_cons.mp q with q | q
    · rw [q, kts_self F] at e; cases e
    · exact hm q
  obtain ⟨T, D⟩ := kts_turn_at (h := h) (fs := frs outer) (g := g) (fun b hb => by
    obtain ⟨_, o, ho, _⟩ := frames_old K hb
    exact ⟨o, ho⟩) (fun b o e hm => (S₀ b o e).1 hm) (fun b o e _ => (S₀ b o e).2)
  obtain ⟨oL, es, ep, hL, hLd, hLk, hLf⟩ := F.ns
  obtain ⟨sl, hs⟩ := (S L oL hL).2
  refine ⟨_, T, ⟨⟨_, es, ep, hs, hLd, hLk, hLf⟩, D, by rw [T.size]; exact F.above⟩, ⟨K.stack, fun b o e => T.other b o (K.stays b o e) (fun q => by rw [(frames_old K q).1] at e; cases e), K.frames.of_keeps fun b o e _ => ?_⟩⟩
  obtain ⟨sl, hs⟩ := T.up e
  exact ⟨_, hs, rfl⟩
theorem slip_fly {B : Heap} {l : List Env} {e : Addr} {c fl : Value} {dd : Option Addr} (hB : ∀ b o, G.get? b = some o → b ∉ frs l → B.get? b = some o) (x : Fly B l e c dd fl h) (up : G.UpToSlots h) (hf : ∀ b ∈ frs l, ∀ o, G.get? b = some o → ∀ vs, o.data ≠ .fields vs) : Slip (frs l) G h := fun b o q => by
  refine ⟨fun hm => x.stay _ _ (hB b o q hm), ?_⟩
  by_cases hm : b ∈ frs l
  · exact up b o q (hf b hm o q)
  · exact ⟨o.slots, x.stay _ _ (hB b o q hm)⟩
end
section
variable {w : World} {A₀ : Around} {E : Value → Shared → Prop} {s' : Shared} {base g hp : Heap} {outer : List Env} {L a e d : Addr} {m : Str → Option Value} {name n : Str} {scope : Scope} {cd : Value} {Q : Flow → Shared → Prop} {led₀ led : Led}
  {b₀ : Stmt} {suite : List Stmt} {pos np : Pos} {rest : List ExceptHandler} {mean : ExcName → Option Value} {mg mb : Str → Option Value}
theorem catch_fault (K : Below A₀ base outer g) (F : Fr g L hp m) (N : News g L hp led₀) (XB : (KK w.params).In base) (TB : TopX mean mg mb base)
    (R : Raised base (hideAll hp (adr led₀)) (envX name scope L a cd [] :: outer) e d led s'.heap)
    (k : ∀ h' g' tk oe, KtsTurn (frs outer) g g' → Fr g' L h' (fun y => if y = n then some (.ref e) else m y) → News g' L h' ((e, oe) :: led) → oe.cls = .ref 52 → oe.dict = some d → ∀ vs, oe.data = .fields vs → Below A₀ base outer g' → (KK w.params).In g' → TopX mean mg mb g' →
      wpAny (model prog w) ((A₀.deeper (envOf name scope L a cd)).mark (some (.ref e))) (execs (b₀ :: suite) (envOf name scope L a cd))
        (fun f s₄ => wpAny (model prog w) (A₀.deeper (envOf name scope L a cd)) (do bindName (envOf name scope L a cd) n .none; unbindBehindTheSuite (envOf name scope L a cd) n pos) (fun _ s₅ => Q f s₅) E s₄)
        (AsSuiteRaised (model prog w) ((A₀.deeper (envOf name scope L a cd)).mark (some (.ref e))) (envOf name scope L a cd) n pos (notedBy (model prog w) ((A₀.deeper (envOf name scope L a cd)).mark (some (.ref e))) (envOf name scope L a cd) (cameBackBy (model prog w) (A₀.deeper (envOf name scope L a cd)) (envOf name scope L a cd) E)))
        { s' with heap := h', toks := tk })
    (hk : scope.kind = .function := by rfl) (hlo : (envOf name scope L a cd).kindOf n = some .local := by rfl) (hx : (envOf name scope L a cd).kindOf "NameFault" = some .globalImplicit := by rfl)
    (ex : nsIn (KK w.params) mainGlobals "NameFault" = some (some (.ref 52)) := by k_is) (q : ktsIn (KK w.params) 52 "BaseException" = true := by rfl) :
    wpAny (model prog w) (A₀.deeper (envOf name scope L a cd)) (noteFrame (.ref e) (envOf name scope L a cd))
      (fun _ s₂ => wpAny (model prog w) (A₀.deeper (envOf name scope L a cd)) (setFlight (.ref e) none) (fun _ s₃ =>
        wpAny (model prog w) (A₀.deeper (envOf name scope L a cd)) (handleBy (.ref e) (envOf name scope L a cd) (.ExceptHandler (some (.Name "NameFault" np)) (some n) (b₀ :: suite) pos :: rest)) Q E s₃) E s₂) E s' := by
  refine Classical.byContradiction fun hn_ => ?_
  obtain ⟨⟨B, hB, hBG, hl, hfl⟩, up⟩ := R
  refine hn_ ?_; clear hn_
  refine Classical.byContradiction fun hn_ => ?_
  obtain ⟨FG, _, _⟩ := ground (s := { s' with heap := hp }) (A := A₀.deeper (envOf name scope L a cd)) K F N (Around.frames_deeper K.stack) rfl hk
  refine hn_ ?_; clear hn_
  have hfr : ∀ b ∈ frs (envX name scope L a cd [] :: outer), ∀ o, (hideAll hp (adr led₀)).get? b = some o → ∀ vs, o.data ≠ .fields vs := fun b hb o ho => by
    rcases mem_frs hb with z | z
    · subst z
      refine Classical.byContradiction fun hn_ => ?_
      obtain ⟨oL, es, ep, hL, hLd, _⟩ := FG.ns
      refine hn_ ?_; clear hn_
      rw [hL] at ho; cases ho
      intro vs q; rw [hLd] at q; cases q
    · obtain ⟨_, o', ho', hd⟩ := frames_old K z
      have := FG.keep _ _ ho'
      rw [this] at ho; cases ho
      exact hd
  have hLB : B.get? L = none := by
    refine Classical.byContradiction fun hn_ => ?_
    obtain ⟨_, ⟨L', _, hf, hn', _⟩, _⟩ := hfl.frames
    refine hn_ ?_; clear hn_
    obtain rfl : L = L' := Option.some.inj hf
    exact hn'
  refine note_next (Around.frames_deeper K.stack) rfl hfl fun h₄ f₄ u₄ => ?_
  refine flight_set (s := { s' with heap := h₄ }) (fr := none) f₄ fun h₅ f₅ u₅ => ?_
  have up₅ := (up.trans u₄).trans u₅
  have S₅ := slip_fly (l := envX name scope L a cd [] :: outer) hBG f₅ up₅ hfr
  obtain ⟨g₅, T₅, F₅, K₅⟩ := ground_up K FG (h := h₅) (fun b o q => by
    obtain ⟨x, y⟩ := S₅ b o q
    refine ⟨fun hm => x fun hm' => hm ?_, y⟩
    rcases mem_frs hm' with z | z
    · exact z ▸ .head _
    · exact .tail _ z)
  have X₅ : (KK w.params).In g₅ := XB.keeps K₅.stays
  have P₅ := topRead_of (TB.keeps K₅.stays)
  refine Classical.byContradiction fun hn_ => ?_
  obtain ⟨ob, hob, hobc, hobd⟩ := f₅.there
  refine hn_ ?_; clear hn_
  refine Classical.byContradiction fun hn_ => ?_
  obtain ⟨nm, q', Nn, bs, bm, hdct, sn, sub, ab, col, dd, k0, k1, k2, k3, k5, newId, hC, hbase, hbT⟩ := kts_cls X₅ q
  refine hn_ ?_; clear hn_
  have hC₅ := F₅.keep _ _ hC
  refine wpAny_handleBy_cons (codeAny_handlers_test (name_K F₅ X₅ P₅ ex ?_ hk hx (by decide))) (by intro q; cases q)
  refine wpAny_excMatches_sub_self hC₅ hob hobc hbase (codeAny_handlers_suite_as ?_)
  refine flight_set (s := { s' with heap := h₅ }) (fr := none) f₅ fun h₆ f₆ u₆ => ?_
  have up₆ := up₅.trans u₆
  have S₆ := slip_fly (l := envX name scope L a cd [] :: outer) hBG f₆ up₆ hfr
  obtain ⟨g₆, T₆, F₆, K₆⟩ := ground_up K FG (h := h₆) (fun b o q => by
    obtain ⟨x, y⟩ := S₆ b o q
    refine ⟨fun hm => x fun hm' => hm ?_, y⟩
    rcases mem_frs hm' with z | z
    · exact z ▸ .head _
    · exact .tail _ z)
  refine Classical.byContradiction fun hn_ => ?_
  obtain ⟨oe, vs, T, oT, ts, hoe, hoec, hoed, hdat, _⟩ := f₆.tb
  refine hn_ ?_; clear hn_
  have none_g : ∀ b, (hideAll hp (adr led₀)).get? b = none → g₆.get? b = none := fun b hb => T₆.none_ _ (by
    cases r : g.get? b with
    | none => rfl
    | some o => have := FG.keep _ _ r; rw [hb] at this; cases this)
  have heG : (hideAll hp (adr led₀)).get? e = none := by
    cases r : (hideAll hp (adr led₀)).get? e with
    | none => rfl
    | some o =>
      by_cases hm : e ∈ frs (envX name scope L a cd [] :: outer)
      · obtain ⟨sl, hs⟩ := up₆ _ _ r (hfr _ hm _ r)
        rw [hoe] at hs; cases hs
        exact absurd hdat (hfr _ hm _ r _)
      · have := hBG _ _ r hm
        rw [hfl.new] at this; cases this
  have N₆ : News g₆ L h₆ ((e, oe) :: led) := fun p hp => by
    rcases List.mem_cons.mp hp with rfl | hp
    · refine ⟨hoe, fun z => ?_, none_g _ heG⟩
      refine Classical.byContradiction fun hn_ => ?_
      obtain ⟨oL, es, ep, hL, hLd, _⟩ := F₆.ns
      refine hn_ ?_; clear hn_
      have z' : e = L := z
      rw [← z', hoe] at hL; cases hL
      rw [hdat] at hLd; cases hLd
    · exact ⟨f₆.stay _ _ (hl p hp).1, fun z => (by have := (hl p hp).1; rw [z, hLB] at this; cases this), none_g _ (hl p hp).2⟩
  refine stN F₆ N₆ (fun h₇ F₇ N₇ => ?_) hk hlo
  exact k h₇ g₆ _ oe T₆ F₇ N₇ hoec hoed vs hdat K₆ (XB.keeps K₆.stays) (TB.keeps K₆.stays)
end
end

section
open PySem PySem.W PySem.Calls PyProof.Rows
section
variable {prog : Program} {w : World} {A : Around} {E : Value → Shared → Prop} {s : Shared} {h₀ : Heap} {L x : Addr} {m : Str → Option Value} {ox : Obj} {es : List DictEntry} {n : Nat}
theorem exc_get {name : Str} {v : Value} {expr : Bool} {attr : Option Value} {Q : Value → Shared → Prop} (F : Fr h₀ L s.heap m) (X₀ : (KK w.params).In h₀) (I : InstAt s.heap x ox 52 (some (dictOf es n)))
    (hg1 : findIn (KK w.params) (.ref 52) "__getattribute__" = some (some (.builtin "BaseException.__getattribute__"))) (hg2 : findIn (KK w.params) (.ref 52) "__getattr__" = some none)
    (hh : hasDictIn (KK w.params) 52 = true) (ha : findIn (KK w.params) (.ref 52) name = some attr) (hn : noGet (KK w.params) attr = true) (hC : s.heap.get? 52 = some oFault)
    (hl : getL name es = some (some v)) (hv : handedIn v = true) (h : Q v { s with toks := s.toks + 1 }) :
    wpAny (model prog w) A (getAttr (.ref x) name expr) Q E s := by
  have X := X₀.keeps F.keep
  obtain ⟨hp, g, d, t, os⟩ := s
  have L0 := I.type (M := model prog w)
  have L1 := looks_findIn (M := model prog w) X hg1
  have L2 := looks_findIn (M := model prog w) X hg2
  have L3 := looks_find (M := model prog w) X I (findObj_own hh ha hn hl)
  have FB := PySem.F.attr_Exception
  have hm : Looks (model prog w) hp (mroOf (.ref 52)) [.ref 52, .ref 39, .type "Exception", .type "BaseException", .type "object"] := ((Looks.ld (part := none) hC).andThen .now).andThen .now
  have sub : Looks (model prog w) hp (isInstance (.ref x) (.type "BaseException")) true := L0.andThen (hm.andThen .now)
  unfold getAttr getAttrBy
  refine wpAny_bind (wpAny_mkText (wpAny_holding (wpAny_bind (L0.at (wpAny_bind (L1.at ?_))))))
  dsimp only
  rw [if_neg (by decide +kernel)]
  unfold getAttrByItsOwn
  refine wpAny_bind (L2.at ?_)
  refine wpAny_bind (wpAny_attempt (wpAny_holding ?_))
  unfold callGetattribute
  rw [if_neg (by cases expr <;> decide)]
  unfold boundAndCalled
  rw [FB.ga.bind (.ref x)]
  refine wpAny_bind (wpAny_pure ?_)
  refine wpAny_call (codeAny_call_builtin FB.ga.plain PySem.F.entry_bexc_ga (@check_slot (model prog w) _ _ _ "BaseException.__getattribute__" "BaseException" "__getattribute__" (.ref x) [.str name t] [] _ (by decide +kernel) (by decide +kernel) sub (PySem.F.args_bexc_ga _ _) ?_))
  unfold Builtin.«object.__getattribute__»
  refine wpAny_bind (m := slotArgs _ _ _) (wpAny_pure ?_)
  dsimp only
  refine wpAny_bind (m := Builtin.ObjectAttr.attrName _) ?_
  refine wpAny_pure ?_
  refine wpAny_bind (L0.at (wpAny_bind (L3.at ?_)))
  refine wpAny_pure ?_
  show wpAny _ _ (handedOut v) _ _ _
  rw [handedOut_of hv]
  exact wpAny_pure h
end
end

section
open PySem PySem.W PySem.Calls PyProof.Rows
local macro_rules | `(tactic| ktr_enter) => `(tactic| (refine' enter_def ?k1 ?k2 ?kXB ?kTB ?k4 ?kA ?kF ?kK ?k6 ?k7 ?k8 ?k9 ?kB ?_ ?c2 ?c3 ?c4 ?c5; (case kA => exact rfl); (case kF => exact rfl); (case kK => assumption); (case k1 => k_asm); (case k2 => k_asm); (case kXB => with_reducible assumption); (case kTB => with_reducible assumption); (case k4 => k_asm); (case k6 => k_is); (case k7 => k_is); (case k8 => ktr_room); (case k9 => first | exact BindsTo.of_eq rfl | exact binds_K (by k_in) rfl (by k_is) rfl rfl rfl); (case c5 => decide); (case kB => exact locs rfl); (case c2 => exact rfl); (case c3 => exact rfl); (case c4 => exact rfl); k_whole; intro g' L' h' hG' S' F' N' B' X' T'; (try dsimp only); (try k_fold)))
theorem InstAt.of_exc {h₀ h : Heap} {L x C dx : Addr} {news : Led} {ox od : Obj} {vs : Array Value} (N : News h₀ L h news) (h1 : (x, ox) ∈ news) (hc : ox.cls = .ref C) (hx : ox.dict = some dx) (hd : ox.data = .fields vs) (h2 : (dx, od) ∈ news) : InstAt h x ox C (some od) :=
  ⟨(N _ h1).1, hc, by unfold notCls; rw [hd], by rw [hx]; exact (N _ h2).1⟩
noncomputable def Says (w : World) (X : Addr → Led → Prop) : Prop := ∀ d led', X d led' → ∃ mv sv u1 u2 rest, led' = (d, oSaid w mv sv u1 u2) :: rest ∧ handedIn mv = true ∧ handedIn sv = true
theorem Spec.useSays {w : World} {mean : ExcName → Option Value} {mg mb : Str → Option Value} {f : Addr} {n : Nat} {vs : List Value} {led : Led} {P : Value → Led → Prop} {X : Addr → Led → Prop}
    {dp un : Nat} {gd : Option (List Code)} {cn : Str} {cs : Scope} {a : Addr} {ccd : Value} {cl : List (Str × Addr)} {outer : List Env} {A₀ : Around} {base h₀ : Heap} {L : Addr} {m : Str → Option Value} {s : Shared} {Q E : Value → Shared → Prop}
    (C : Spec w mean mg mb f n vs led (fun _ => True) P X) (S : Says w X) (B : Below A₀ base outer h₀) (F : Fr h₀ L s.heap m) (XB : (KK w.params).In base) (TB : TopX mean mg mb base) (N : News h₀ L s.heap led) (hk : cs.kind = .function)
    (hd : dp + n < recursionLimit) (hu : un + 16 * n < cLine)
    (ok : ∀ v h' tk' led', Fr h₀ L h' m → News h₀ L h' led' → P v led' → Q v { s with heap := h', toks := tk' })
    (err : ∀ e d h' tk' mv sv u1 u2 rest, Raised base (hideAll s.heap (adr led)) (envX cn cs L a ccd cl :: outer) e d ((d, oSaid w mv sv u1 u2) :: rest) h' → X d ((d, oSaid w mv sv u1 u2) :: rest) → handedIn mv = true → handedIn sv = true → E (.ref e) { s with heap := h', toks := tk' }) :
    wpAny (model prog w) (ktrTop dp un gd cn cs L a ccd cl outer) (call (.ref f) vs) Q E s :=
  C dp un gd cn cs a ccd cl outer A₀ base h₀ L m s Q E B F XB TB N hk hd hu trivial (fun v h' tk' led' T hP => ok v h' tk' led' T.fr T.news hP) fun e d h' tk' led' R hX => by
    obtain ⟨mv, sv, u1, u2, rest, rfl, i1, i2⟩ := S _ _ hX
    exact err e d h' tk' mv sv u1 u2 rest R hX i1 i2
section
variable {w : World} {mean : ExcName → Option Value} {mg mb : Str → Option Value}
local macro_rules | `(tactic| k_inst) => `(tactic| (refine' InstAt.of_exc ?N ?h1 ?c ?x ?d ?h2; (case N => k_asm); (case h1 => k_mem); (case c => with_reducible assumption); (case d => with_reducible assumption); (case x => with_reducible assumption); (case h2 => k_mem)))
local macro_rules | `(tactic| walk_at "exec Try") => `(tactic| (k_here; refine wpAny_Try_except ?_))
local macro_rules | `(tactic| walk_at "noteFrame ref") => `(tactic| (k_here; k_dflt (refine' catch_fault ?K ?F ?N ?X ?T ?R ?_; (case K => with_reducible assumption); (case F => assumption); (case N => with_reducible assumption); (case X => with_reducible assumption); (case T => with_reducible assumption); (case R => assumption); k_whole); intro h' g' tk' oe' T' F' N' c1' c2' vs' c3' B' X' T'))
local macro_rules | `(tactic| walk_at "call ref") => `(tactic| ((with_reducible show wpAny _ _ (call (Value.ref _) []) _ _ _); k_dflt (
  refine' Spec.useSays ?uC ?uS ?uB ?uF ?uXB ?uTB ?uN ?uk ?ud ?uu ?um ?ue;
  (case uC => with_reducible assumption); (case uS => with_reducible assumption); (case uB => with_reducible assumption); (case uF => assumption); (case uXB => with_reducible assumption); (case uTB => with_reducible assumption); (case uN => with_reducible assumption); (case uk => exact rfl); (case ud => ktr_room); (case uu => (dsimp only [ktrTop, units_deeper, units_in1, Around.deeper, Around.under, Around.in1] at *; omega));
  (case' ue => (k_whole; intro e' d' h' tk' mv' sv' u1' u2' rest' R' hX' i1' i2'; try dsimp only));
  (case' um => (k_whole; intro v' h' tk' led' F' N' hP'; try dsimp only)))))
local macro_rules | `(tactic| walk_at "callWith ref") => `(tactic| (k_here; k_dflt (refine' callWith_F0 ?k1 ?_; (case k1 => exact FnAt.of (by k_asm) (by k_mem)); k_whole; try dsimp only [List.nil_append, List.cons_append])))
local macro_rules | `(tactic| walk_at "getAttr ref true") => `(tactic| (k_here; k_dflt (refine' exc_get ?k1 ?k2 ?k3 ?k4 ?k5 ?k6 ?k7 ?ka ?kb ?k8 ?k9 ?_; (case k1 => k_asm); (case k2 => k_asm); (case k3 => k_inst); (case k4 => k_is); (case k5 => k_is); (case k6 => k_is); (case k7 => k_is); (case ka => k_is); (case kb => exact Frag.In.keeps (by with_reducible assumption) (Fr.keep (by assumption)) _ _ (by k_is)); (case k8 => k_get); (case k9 => with_reducible assumption); k_whole)))
local macro_rules | `(tactic| walk_at "bind") => `(tactic| (k_here; k_dflt (refine' name_goes ?F ?N ?_; (case F => assumption); (case N => with_reducible assumption); k_whole); intro h' m' F' N'))
theorem heard_specB {f n : Nat} {oc : Value} {od : Option Addr} {fd : FuncData} {osl : Array (Option Value)} {led : Led} {P : Value → Led → Prop} {X : Addr → Led → Prop} (C0 : Spec w mean mg mb f n [] led (fun _ => True) P X) (hf9 : (f, (⟨oc, od, .func fd, osl⟩ : Obj)) ∈ led) (hX : Says w X) :
    SpecT w mean mg mb 307 (n + 1) [.ref f] led (fun _ => True)
      (fun v led' => (v = .none ∧ ∃ v0, P v0 led') ∨ ∃ d mv sv u1 u2 rest l, X d ((d, oSaid w mv sv u1 u2) :: rest) ∧ v = .ref l ∧ led' = (l, listOf #[mv, sv] 0) :: rest ∧ ∀ q ∈ rest, q.1 < l) (fun _ _ => False) := by
  intro dp un gd cn cs a ccd cl outer A₀ base h₀ L m s Q E B F XB TB N hK hd hu hG ok err
  have X := XB.keeps B.stays
  refine wpAny_call ?_
  k_dflt ktr_enter
  repeat' (first | (k_unfold; (try dsimp only)) | walk1 | (dsimp only; walk1))
  all_goals (try dsimp only)
  all_goals (try (k_unfold; (try dsimp only)))
  · refine' finT ?ok ?B ?F0 ?N0 ?s ?F ?S ?N ?P
    case ok => assumption
    case B => assumption
    case F0 => assumption
    case N0 => assumption
    case s => exact rfl
    case F => assumption
    case S => assumption
    case N => assumption
    case P => exact .inl ⟨rfl, _, by assumption⟩
  · refine' finT ?ok ?B ?F0 ?N0 ?s ?F ?S ?N ?P
    case ok => assumption
    case B => assumption
    case F0 => assumption
    case N0 => assumption
    case s => exact rfl
    case F => assumption
    case S => exact Slip.trans (by assumption) (Slip.of_turn (by assumption))
    case P => exact .inr ⟨_, _, _, _, _, _, _, by assumption, rfl, rfl, by (rename (_ ∧ _ ∧ AllLt _ _) => z9); exact kst_ltOf z9.2.2⟩
    case N => exact cb_drop (by assumption) (List.forall_mem_cons.mpr ⟨List.Mem.head _, fun p h => List.Mem.tail _ (List.Mem.tail _ (List.Mem.tail _ h))⟩)
end
end

section
open PySem PySem.W PySem.Calls PyProof.Rows PySem.Spec
noncomputable def bLam (name : Tx) (F : List V → Hp → Out V) (eo : Ex) (es : Exs) : Ex := fun ρ H => match eo ρ H with
  | .ok (.ref k) H1 => (match instAt H1 k with
    | some (c, fs) => if Nat.beq c 275 && (dget fs name).isNone then (match es ρ H1 with | .ok vs H2 => F (.ref k :: vs) H2 | _ => .stuck) else .stuck
    | none => .stuck)
  | _ => .stuck
inductive PLam (w : World) (r : Out V) (mu cs fz : Led) (v : Value) (led' : Led) : Prop
  | mk (v' : V) (H' : Hp) (mu' tb' fz' : Led) : r = .ok v' H' → led' = mu' ++ (tb' ++ (cs ++ fz')) → HOk w H' mu' tb' fz' → Ext (adr mu) fz (adr mu') fz' → (∀ p ∈ mu' ++ (tb' ++ fz'), p.1 ∉ adr cs) → PLam w r mu cs fz v led'
inductive XLam (w : World) (r : Out V) (mu cs fz : Led) (d : Addr) (led' : Led) : Prop
  | mk (m : Tx) (i : Int) (H' : Hp) (mu' tb' fz' : Led) (tm ti u1 u2 : Tok) : r = .fault m i H' → led' = ((d, oSaid w (.str (tr m) tm) (.int i ti) u1 u2) :: (mu' ++ (tb' ++ fz'))) ++ cs → HOk w H' mu' tb' fz' → Ext (adr mu) fz (adr mu') fz' → (∀ p ∈ mu' ++ (tb' ++ fz'), p.1 ∉ adr cs) → XLam w r mu cs fz d led'
theorem says_lam {w : World} {r : Out V} {mu cs fz : Led} : Says w (XLam w r mu cs fz) := fun d led' h => by
  obtain ⟨m, i, H', mu', tb', fz', tm, ti, u1, u2, e1, e2, _⟩ := h
  exact ⟨_, _, u1, u2, _, e2, rfl, rfl⟩
noncomputable abbrev noParams : Arguments := { posonlyargs := [], args := [], vararg := none, kwonlyargs := [], kw_defaults := [], kwarg := none, defaults := [] }
inductive BLamSh (name : Tx) (F : List V → Hp → Out V) (eo : Ex) (es : Exs) (ρ : Rho) (H : Hp) : Prop
  | mk (k : Nat) (H1 : Hp) (fs : List (Tx × V)) (vs : List V) (H2 : Hp) : eo ρ H = .ok (.ref k) H1 → instAt H1 k = some (275, fs) → dget fs name = none → es ρ H1 = .ok vs H2 → bLam name F eo es ρ H = F (.ref k :: vs) H2 → BLamSh name F eo es ρ H
theorem bLam_sh {name : Tx} {F : List V → Hp → Out V} {eo : Ex} {es : Exs} {ρ : Rho} {H : Hp} (h : bLam name F eo es ρ H ≠ .stuck) : BLamSh name F eo es ρ H := by
  delta bLam at h
  cases e1 : eo ρ H with
  | fault _ _ _ => rw [e1] at h; exact absurd rfl h
  | stuck => rw [e1] at h; exact absurd rfl h
  | ok ov H1 =>
    rw [e1] at h
    cases ov <;> first | exact absurd rfl h | skip
    rename_i k
    dsimp only at h
    cases e2 : instAt H1 k with
    | none => rw [e2] at h; exact absurd rfl h
    | some cf =>
      obtain ⟨c, fs⟩ := cf
      rw [e2] at h
      dsimp only at h
      by_cases g : (Nat.beq c 275 && (dget fs name).isNone) = true
      · rw [if_pos g] at h
        cases e3 : es ρ H1 with
        | fault _ _ _ => rw [e3] at h; exact absurd rfl h
        | stuck => rw [e3] at h; exact absurd rfl h
        | ok vs H2 =>
          have g' := Bool.and_eq_true_iff.mp g
          obtain rfl := Nat.beq_eq.mp g'.1
          refine ⟨k, H1, fs, vs, H2, e1, e2, Option.isNone_iff_eq_none.mp g'.2, e3, ?_⟩
          delta bLam
          rw [e1]
          dsimp only
          rw [e2]
          dsimp only
          rw [if_pos g, e3]
      · rw [if_neg g] at h; exact absurd rfl h
theorem lam_spec {w : World} {mean : ExcName → Option Value} {mg mb : Str → Option Value} {fl c' : Addr} {oc : Obj} {pm ctv : Value} {qual : Str} {lscope : Scope} {lvn : List Str} {clos : List (Str × Addr)} {mu tb cs fz : Led} {H : Hp} {ρL : Rho} {oN y : Str} {p0 ap pos : Pos} {args : List Expr} {name : Tx} {fa n n' : Nat} {F : List V → Hp → Out V} {eo : Ex} {es : Exs}
    (objs : Objs w (adr mu) fz H mu) (tabs : TabsOk fz tb) (nd : (adr (mu ++ (tb ++ cs))).Nodup) (off : ∀ p ∈ fz, p.1 ∉ adr (mu ++ (tb ++ cs)))
    (hf : (fl, kla_obj "<lambda>" qual noParams (.Call (.Attribute (.Name oN p0) y ap) args [] pos) lscope clos pm c' ctv) ∈ fz) (hc : (c', oc) ∈ fz) (hl : LamCode oc qual)
    (hcl : ∀ z c, clos.lookup z = some c → ∃ o v₀, (c, o) ∈ cs ∧ o.data = .cell v₀) (hinj : ∀ y z c, clos.lookup y = some c → clos.lookup z = some c → y = z)
    (hvals : ∀ (i : Nat) (v : V), ρL[i]? = some (some v) → ∃ z rv c o, lvn[i]? = some z ∧ (z == ("__debug__" : Str)) = false ∧ VR w (adr mu) fz v rv ∧ lscope.names.lookup z = some .free ∧ clos.lookup z = some c ∧ (c, o) ∈ cs ∧ o.data = .cell (some rv) ∧ (z == ("__classdict__" : Str)) = false)
    (hy : y = tr name) (he : MethCall (.Name oN p0) y ap pos args) (M : MethOk 275 name fa) (C : FC true fa n' F) (hn : n' ≤ n) (h1 : SE ⟨lvn, lscope, true, false, none⟩ n (eval (.Name oN p0)) eo) (ha : SArgs ⟨lvn, lscope, true, false, none⟩ n args es)
    (hk : lscope.kind = .function) (hco : lscope.isCoroutine = false) (hgen : lscope.isGenerator = false) (hcell : ∀ x ∈ lscope.names, x.2 ≠ .cell) (hns : bLam name F eo es ρL H ≠ .stuck) :
    Spec w mean mg mb fl (n + 1) [] (mu ++ (tb ++ (cs ++ fz))) (fun _ => True) (PLam w (bLam name F eo es ρL H) mu cs fz) (XLam w (bLam name F eo es ρL H) mu cs fz) := by
  subst hy
  intro dp un gd cn sc a ccd cl outer A₀ base h₀ L m s Q E B FF XB TB N hK hd hu hG okk err
  have inL : ∀ p ∈ fz, p ∈ mu ++ (tb ++ (cs ++ fz)) := fun p hp => List.mem_append_right _ (List.mem_append_right _ (List.mem_append_right _ hp))
  refine wpAny_call (enter_lam B FF XB TB N rfl rfl hK (inL _ hf) (inL _ hc) hl (Nat.lt_of_le_of_lt (Nat.le_add_right _ _) hd) rfl (fun _ h => nomatch h) (fun g L' h₁ eg S F' N' B' X' T' => ?_) hco hgen hk hcell)
  let fm : Fm := ⟨w, mean, mg, mb, dp + 1, un + 3, gd, qual, lscope, L', fl, .ref c', clos, envX cn sc L a ccd cl :: outer, ktrTop dp un gd cn sc L a ccd cl outer, base, g, true, false⟩
  let x : St := ⟨g, fun y => ([] : List (Str × Value)).reverse.lookup y, mu, tb, cs, fz⟩
  have ncell : ∀ y, lscope.names.lookup y = some .cell → False := fun y h => by
    obtain ⟨l1, l2, he, _⟩ := List.lookup_eq_some_iff.mp h
    exact hcell (y, .cell) (by rw [he]; simp) rfl
  have ok : fm.Ok n := ⟨rfl, fun y h => (ncell y h).elim, hinj, hk, by show dp + 1 + n < _; omega, by show un + 3 + 16 * n < _; omega, XB, TB⟩
  have S' : Std fm h₁ H x := ⟨B', Slip.refl, fun _ => rfl, F', N', objs, tabs, nd, off, hcl⟩
  have Vs : Vars ⟨lvn, lscope, true, false, none⟩ fm fm.env x ρL := fun i v e => by
    obtain ⟨z, rv, c, o, g1, g2, g3, g4, g5, g6, g7, g8⟩ := hvals i v e
    exact ⟨z, rv, g1, g2, g3, .free g4 g5 g6 g7 g8⟩
  have ei : EnvIs ⟨lvn, lscope, true, false, none⟩ fm fm.env := ⟨rfl, hk, rfl, rfl, rfl, fun p h => by cases h⟩
  obtain ⟨k, H1, fs, vs, H2, e1, e2, gd1, e3, eb⟩ := bLam_sh hns
  rw [eb] at hns okk err
  refine methCall (env := fm.env) he fun pl => h1 fm fm.env _ ρL H x _ _ ok ⟨rfl, rfl⟩ ei S' Vs ?_
  rw [e1]
  intro rv h1' tk1 x1 S1 X1 R1
  have E1 : ExtE fm x x1 := ⟨X1, R1.1, R1.2.1, R1.2.2.1⟩
  cases R1.2.2.2
  rename_i ao hao
  obtain ⟨dx, ds, nn, I0, Fl⟩ := S1.inst e2 hao
  obtain ⟨m1, m2, m3, m4⟩ := M.at_ w
  refine method_inst S1.fr (S1.X (s := { s with heap := h1', toks := tk1 }) ok) I0 m1 m2 m3 ((Fl.get name).2 gd1) ?_
  have X2 : (KF w).In h1' := fun a o e => S1.fr.keep a o (S1.X (s := { s with heap := h1', toks := tk1 }) ok a o e)
  refine callWith_of (by rw [ha.plain]; rfl) (keeps_K m4) ?_
  have fin : ∀ (s2 : Shared) (hs2 : s2 = { s with heap := s2.heap, toks := s2.toks }) (x2 : St) (rvs : List Value), Std fm s2.heap H2 x2 → ExtE fm x x2 → VRs w x2.al x2.fz (.ref k :: vs) rvs →
      wpAny (model prog w) fm.A (call (.ref fa) rvs) (fun v s' => Q v s') (fun e s' => wpAny (model prog w) fm.A (leaving fm.env e) (fun _ s'' => E e s'') (fun e' s'' => E e' s'') s') s2 := by
    intro s2 hs2 x2 rvs S2 X2 R2
    have sp := C.spec w mean mg mb _ rvs H2 x2.mu x2.tb x2.fz R2 S2.hok hns
    have ok' := ok.less hn
    have xcs : x2.cs = cs := X2.cs
    refine sp fm.dp fm.un fm.gd fm.cn fm.cs fm.a fm.ccd fm.cl fm.outer fm.A₀ fm.base x2.gc fm.L x2.m s2 _ _ S2.below S2.fr ok.XB ok.TB S2.part ok.kind ok'.room ok'.units trivial ?_ ?_
    · rintro v h' tk' led' T ⟨v', H', mu', tb', fz', e4, rfl, K', X', R'⟩
      have S3 := S2.back S2.below S2.slip S2.quiet T.fr T.news (fun p hp => ⟨T.keep _ _ (S2.csOut hp) (S2.here hp), (S2.news p (by simp [St.led, hp])).2.2⟩) T.fresh K'
      have N3 := S3.news
      have dis : ∀ p ∈ mu' ++ (tb' ++ fz'), p.1 ∉ adr cs := fun p hp q => by
        obtain ⟨c, hc, e⟩ := List.mem_map.mp q
        exact S3.csOut (p := c) (by rw [← xcs] at hc; exact hc) (by rw [e]; exact List.mem_map_of_mem hp)
      rw [hs2]
      refine fin (Q := Q) okk FF N (s' := { s with heap := h', toks := tk' }) rfl T.fr ((S2.quiet rfl).trans eg) ?_ ⟨v', H', mu', tb', fz', e4, rfl, K', X2.ext.trans X', dis⟩
      have : x2.cs = cs := xcs
      intro p hp
      refine N3 p ?_
      show p ∈ mu' ++ (tb' ++ (x2.cs ++ fz'))
      rw [xcs]; exact hp
    · rintro e d h' tk' led' Rs ⟨mm, i, H', mu', tb', fz', tm, ti, u1, u2, e4, rfl, K', X'⟩
      have dis : ∀ p ∈ mu' ++ (tb' ++ fz'), p.1 ∉ adr cs := fun p hp q => by
        obtain ⟨⟨_, _, _, h3, _⟩, _⟩ := Rs
        obtain ⟨c, hc, e⟩ := List.mem_map.mp q
        have z := (h3 p (.tail _ hp)).2
        rw [← e] at z
        rw [hideAll_get _ (S2.here (p := c) (by rw [xcs]; exact hc)) (S2.csOut (p := c) (by rw [xcs]; exact hc))] at z
        cases z
      rw [ok.hA]
      refine on_leave (rest := cs) S2.below S2.fr S2.part Rs (fun q hq => ?_) fun h'' R' => ?_
      · have hq' : q ∈ x2.cs := by rw [xcs]; exact hq
        have z := S2.news q (by simp [St.led, hq'])
        exact ⟨z.1, S2.csOut hq', z.2⟩
      · rw [hs2]
        have eg2 : x2.gc = hideAll s.heap (adr (mu ++ (tb ++ (cs ++ fz)))) := (S2.quiet rfl).trans eg
        exact err e d h'' tk' _ (eg2 ▸ R') ⟨mm, i, H', mu', tb', fz', tm, ti, u1, u2, e4, rfl, K', X2.ext.trans X', dis⟩
  cases ha with
  | nil =>
    cases e3
    exact evalArgs_nil3 ⟨X2, fin { s with heap := h1', toks := tk1 } rfl x1 _ S1 E1 (.cons (.ref hao) .nil)⟩
  | @cons e es b bs g1 g2 g3 g4 =>
    have e0 : backTo pos (starEach (e :: es) fm.env) = (false, eval e fm.env) :: backTo pos (starEach es fm.env) := by rw [g3]; rfl
    rw [e0]
    refine evalArgs_plain ?_
    rw [← e0]
    refine (ses_cons g1 g2 g3 pos) fm fm.env _ ρL H1 x1 _ _ ok ⟨rfl, rfl⟩ ei S1 (Vs.mono E1) ?_
    rw [e3]
    intro rvs h2' tk2 x2 S2 X3 R2
    have E2 : ExtE fm x1 x2 := ⟨X3, R2.1, R2.2.1, R2.2.2.1⟩
    exact ⟨fun a o e => S2.fr.keep a o (S2.X (s := { s with heap := h2', toks := tk2 }) ok a o e), fin { s with heap := h2', toks := tk2 } rfl x2 _ S2 (E1.trans E2) (.cons (.ref (X3.at hao)) R2.2.2.2)⟩
end

section
open PySem PySem.W PySem.Calls PyProof.Rows PySem.Spec
theorem heard_kept (w : World) : keepIn (KK w.params) (.ref 307) = true := by k_is
section
variable {M : Model} {A : Around} {E : Value → Shared → Prop} {s : Shared} {h₀ : Heap} {L a c P : Addr} {m mg mb : Str → Option Value} {cn : Str} {cs : Scope} {ccd : Value} {cl : List (Str × Addr)} {news blk : Led} {g : Obj → Led}
  {p : Program} {loose : List Str} {mean : ExcName → Option Value} {name qual : Str} {params : Arguments} {body : PySem.Expr} {scope : Scope} {ps : Array Value} {pos : Pos} {firstLine : Nat} {clos : List (Str × Addr)}
theorem lam_any2 {Q : Value → Shared → Prop} (F : Fr h₀ L s.heap m) (N : News h₀ L s.heap news) (T : Top p loose mean mg mb h₀) (C : CodeHd h₀ c P) (hcd : ccd = .ref c) (U : UpdF P (tabObj ps) news g) (hps : TabOk blk pos.line pos.col qual ps) (hsub : ∀ q ∈ blk, q ∈ news)
    (hcl : closureFor scope (envX cn cs L a ccd cl) = pure clos) (hqn : (envX cn cs L a ccd cl).qual ++ "<lambda>" = qual) (hdef : defaultsOf params (envX cn cs L a ccd cl) = ([], []))
    (h : ∀ f c' oc ctv h' tk, Fr h₀ L h' m → News h₀ L h' ((f, kla_obj "<lambda>" qual params body scope clos ((mg "__name__").getD .none) c' ctv) :: (c', oc) :: g (tabObj #[rawInt pos.line, rawInt pos.col, .ref c'])) →
      LamCode oc qual → (∀ q ∈ news, q.1 < f) → ((c', oc) ∈ blk ∨ ∀ q ∈ news, q.1 < c') → Q (.ref f) { s with heap := h', toks := tk }) :
    wpAny M A (eval (.Lambda params body scope pos) (envX cn cs L a ccd cl)) Q E s := by
  refine kla_eval hdef ?_
  rw [hqn]
  rcases hps with rfl | ⟨c', oc, rfl, hm, vs, t, hd, hv⟩
  · refine kla_nest F N T C hcd U (by exact True.intro) (by rfl) hcl fun f c' oc vs t ctv h' tk F' N' hd hv l1 l2 => ?_
    exact h f c' oc ctv h' tk F' N' ⟨vs, t, hd, hv⟩ (fun q hq => Nat.lt_trans (l1 q hq) l2) (.inr l1)
  · have hmem : (P, tabObj #[rawInt pos.line, rawInt pos.col, .ref c']) ∈ news := by
      obtain ⟨own, rest, rfl, _⟩ := U.split
      exact List.mem_append_right _ (.head _)
    refine kla_hit (c' := c') F N T C hcd hmem (by simp [TriplesOk, rawInt]) (by simp [codeAmong, rawInt]) hcl fun f ctv h' tk F' N' l1 => ?_
    refine h f c' oc ctv h' tk F' (fun q hq => ?_) ⟨vs, t, hd, hv⟩ l1 (.inl hm)
    rcases List.mem_cons.mp hq with rfl | hq
    · exact N' _ (.head _)
    · rcases List.mem_cons.mp hq with rfl | hq
      · exact N' _ (.tail _ (hsub _ hm))
      · rw [UpdF.self U] at hq
        exact N' _ (.tail _ hq)
end
noncomputable def TabAtP (P : Addr) (line col : Nat) (lq : Str) : Prop := ∀ fz tb, TabsOk fz tb → ∃ ps pre post, tb = pre ++ (P, tabObj ps) :: post ∧ TabOk fz line col lq ps ∧ ∀ fz' ps', (∀ x ∈ fz, x ∈ fz') → TabOk fz' line col lq ps' → TabsOk fz' (pre ++ (P, tabObj ps') :: post)
theorem tab_chain : TabAtP 371 307 26 "_law_chain_right.<locals>.<lambda>" := fun fz tb h => by
  cases h with
  | @mk p0 p1 p2 p3 a b c d => exact ⟨p0, [], _, rfl, a, fun fz' ps' k t => .mk t (b.mono k) (c.mono k) (d.mono k)⟩
theorem tab_use : TabAtP 352 276 22 "_law_use_right.<locals>.<lambda>" := fun fz tb h => by
  cases h with
  | @mk p0 p1 p2 p3 a b c d => exact ⟨p1, [(371, tabObj p0)], _, rfl, b, fun fz' ps' k t => .mk (a.mono k) t (c.mono k) (d.mono k)⟩
theorem tab_vars : TabAtP 347 264 22 "_law_variants_right.<locals>.<lambda>" := fun fz tb h => by
  cases h with
  | @mk p0 p1 p2 p3 a b c d => exact ⟨p2, [(371, tabObj p0), (352, tabObj p1)], _, rfl, c, fun fz' ps' k t => .mk (a.mono k) (b.mono k) t (d.mono k)⟩
theorem tab_type : TabAtP 342 247 18 "_law_type_right.<locals>.<lambda>" := fun fz tb h => by
  cases h with
  | @mk p0 p1 p2 p3 a b c d => exact ⟨p3, [(371, tabObj p0), (352, tabObj p1), (347, tabObj p2)], _, rfl, d, fun fz' ps' k t => .mk (a.mono k) (b.mono k) (c.mono k) t⟩
structure LamOk (I : Info) (lscope : Scope) (lvn : List Str) (caps : List Nat) (qual : Str) (c P : Addr) (lpos : Pos) (lq : Str) : Prop where
  own : I.own = some (qual, .ref c)
  q : I.q = false
  ro : I.ro = false
  hd : ∀ (w : World) (h : Heap), (KF w).In h → CodeHd h c P
  tab : TabAtP P lpos.line lpos.col lq
  hqn : ∀ cs L a cl, (envX qual cs L a (.ref c) cl).qual ++ "<lambda>" = lq
  len : lvn.length = caps.length
  cv : ∀ (j i : Nat), caps[j]? = some i → ∃ y, I.vn[i]? = some y ∧ lvn[j]? = some y ∧ I.cs.names.lookup y = some .cell ∧ lscope.names.lookup y = some .free ∧ (y == ("__classdict__" : Str)) = false
  kind : lscope.kind = .function
  co : lscope.isCoroutine = false
  gen : lscope.isGenerator = false
  cell : ∀ x ∈ lscope.names, x.2 ≠ .cell
  clos : ∀ env : Env, (∀ y ∈ lvn, ∃ c, env.cells.lookup y = some c) → ∃ cl, closureFor lscope env = pure cl ∧ (∀ y ∈ lvn, cl.lookup y = env.cells.lookup y) ∧ ∀ y c, cl.lookup y = some c → env.cells.lookup y = some c
theorem Std.back2 {f : Fm} {h h' : Heap} {H H' : Hp} {x : St} {h₀' : Heap} {mu' tb' fz' led led' : Led} (S : Std f h H x) (hq : f.q = false) (T : Turned f.A₀ f.base f.outer x.gc f.L x.m led h h' led' h₀') (hs : ∀ p ∈ mu' ++ (tb' ++ (x.cs ++ fz')), p ∈ led') (K : HOk f.w H' mu' tb' fz') (dis : ∀ p ∈ mu' ++ (tb' ++ fz'), p.1 ∉ adr x.cs) :
    Std f h' H' { x with gc := h₀', mu := mu', tb := tb', fz := fz' } := by
  refine ⟨T.below, S.slip.trans (Slip.of_turn T.turn), fun z => (by rw [hq] at z; cases z), T.fr, fun p hp => T.news p (hs p hp), K.objs, K.tabs, ?_, fun p hp q => ?_, S.cells⟩
  · show (adr (mu' ++ (tb' ++ x.cs))).Nodup
    rw [← List.append_assoc, adr_app]
    have nd := S.nd
    rw [← List.append_assoc, adr_app] at nd
    refine List.nodup_append.mpr ⟨K.nd, (List.nodup_append.mp nd).2.1, fun a ha b hb e => ?_⟩
    obtain ⟨p, hp, rfl⟩ := List.mem_map.mp ha
    refine dis p ?_ (e ▸ hb)
    rcases List.mem_append.mp hp with hp | hp <;> simp [hp]
  · have q' : p.1 ∈ adr (mu' ++ (tb' ++ x.cs)) := q
    rw [← List.append_assoc, adr_app] at q'
    rcases List.mem_append.mp q' with q' | q'
    · exact K.off p hp q'
    · exact dis p (List.mem_append_right _ (List.mem_append_right _ hp)) q'
noncomputable def bHeard (caps : List Nat) (e : Ex) : Ex := fun ρ H => if allSome (capsOf caps ρ) then (match e (capsOf caps ρ) H with
  | .ok _ H1 => .ok .none H1
  | .fault m i H1 => .ok (.lst [.str m, .int i]) H1
  | .stuck => .stuck) else .stuck
theorem lam_cells {I : Info} {lscope : Scope} {lvn : List Str} {caps : List Nat} {qual : Str} {c P : Addr} {lpos : Pos} {lq : Str} (K : LamOk I lscope lvn caps qual c P lpos lq) {f : Fm} {env : Env} {x : St} {ρ : Rho} (ei : EnvIs I f env) (Vs : Vars I f env x ρ) :
    (∀ (j : Nat) (v : V), (capsOf caps ρ)[j]? = some (some v) → ∃ z rv cc o, lvn[j]? = some z ∧ (z == ("__debug__" : Str)) = false ∧ VR f.w x.al x.fz v rv ∧ lscope.names.lookup z = some .free ∧ env.cells.lookup z = some cc ∧ (cc, o) ∈ x.cs ∧ o.data = .cell (some rv) ∧ (z == ("__classdict__" : Str)) = false) ∧
    (allSome (capsOf caps ρ) = true → ∀ y ∈ lvn, ∃ c, env.cells.lookup y = some c) := by
  have main : ∀ (j : Nat) (v : V), (capsOf caps ρ)[j]? = some (some v) → ∃ z rv cc o, lvn[j]? = some z ∧ (z == ("__debug__" : Str)) = false ∧ VR f.w x.al x.fz v rv ∧ lscope.names.lookup z = some .free ∧ env.cells.lookup z = some cc ∧ (cc, o) ∈ x.cs ∧ o.data = .cell (some rv) ∧ (z == ("__classdict__" : Str)) = false := by
    intro j v hv
    simp only [capsOf, List.getElem?_map, Option.map_eq_some_iff] at hv
    obtain ⟨k, hk, hj⟩ := hv
    obtain ⟨z, h1, h2, h3, h4, h5⟩ := K.cv _ _ hk
    have hρ : ρ[k]? = some (some v) := by
      cases e : ρ[k]? with
      | none => rw [e] at hj; cases hj
      | some o => rw [e] at hj; exact congrArg some hj
    obtain ⟨z', rv, g1, g2, g3, g4⟩ := Vs k v hρ
    rw [h1] at g1; cases g1
    have kz : env.kindOf z = some .cell := by show env.scope.names.lookup z = _; rw [ei.scope]; exact h3
    cases g4 with
    | own a b c => rw [kz] at a; cases a
    | @cell cc o a b d e => exact ⟨z, rv, cc, o, h2, g2, g3, h4, b, d, e, h5⟩
    | free a b c d e => rw [kz] at a; cases a
    | comp a b c d => rw [kz] at a; cases a
  refine ⟨main, fun ha y hy => ?_⟩
  obtain ⟨j, hj⟩ := List.getElem?_of_mem hy
  have hjl : j < caps.length := by rw [← K.len]; exact (List.getElem?_eq_some_iff.mp hj).1
  have hjc : j < (capsOf caps ρ).length := by simp only [capsOf, List.length_map]; exact hjl
  have hs := List.all_eq_true.mp ha _ (List.getElem_mem hjc)
  obtain ⟨v, hv⟩ := Option.isSome_iff_exists.mp hs
  obtain ⟨z, rv, cc, o, g1, g2, g3, g4, g5, _⟩ := main j v (by rw [List.getElem?_eq_getElem hjc, hv])
  rw [hj] at g1; cases g1
  exact ⟨cc, g5⟩
theorem se_heard {I : Info} {n nL n' : Nat} {lscope : Scope} {lvn : List Str} {caps : List Nat} {qual : Str} {c P : Addr} {lpos : Pos} {lq : Str} (K : LamOk I lscope lvn caps qual c P lpos lq) {g oN y : Str} {p p0 ap pos cpos : Pos} {args : List Expr} {name : Tx} {fa : Nat} {F : List V → Hp → Out V} {eo : Ex} {es : Exs} (G : GName I g (.ref 307))
    (hy : y = tr name) (he : MethCall (.Name oN p0) y ap pos args) (M : MethOk 275 name fa) (C : FC true fa n' F) (hn : n' ≤ nL) (hnn : nL + 2 ≤ n) (h1 : SE ⟨lvn, lscope, true, false, none⟩ nL (eval (.Name oN p0)) eo) (ha : SArgs ⟨lvn, lscope, true, false, none⟩ nL args es)
    (hs : ∀ env, starEach [.Lambda noParams (.Call (.Attribute (.Name oN p0) y ap) args [] pos) lscope lpos] env = [(false, eval (.Lambda noParams (.Call (.Attribute (.Name oN p0) y ap) args [] pos) lscope lpos) env)] := by intro _; rfl) :
    SE I n (eval (.Call (.Name g p) [.Lambda noParams (.Call (.Attribute (.Name oN p0) y ap) args [] pos) lscope lpos] [] cpos)) (bHeard caps (bLam name F eo es)) := by
  intro f env s ρ H x Q E ok q ei S Vs Pp
  obtain ⟨henv, hcn, hccd⟩ := ei.own _ K.own
  subst henv
  unfold bHeard at Pp
  obtain ⟨gd1, Pp⟩ := PE.guard Pp
  obtain ⟨hvals, hcells⟩ := lam_cells K ei Vs
  obtain ⟨clos, cl1, cl2, cl3⟩ := K.clos f.env (hcells gd1)
  refine Call_ (S.name ok ei G ?_)
  refine callWith_of (by rw [hs]; rfl) (keeps_K (heard_kept f.w)) ?_
  have b1 : backTo cpos (starEach [.Lambda noParams (.Call (.Attribute (.Name oN p0) y ap) args [] pos) lscope lpos] f.env) = [(false, eval (.Lambda noParams (.Call (.Attribute (.Name oN p0) y ap) args [] pos) lscope lpos) f.env)] := by rw [hs]; rfl
  rw [b1]
  refine evalArgs_plain ?_
  rw [← b1]
  refine spliced_more ?_ (hs _)
  obtain ⟨ps, pre, post, etb, tok, tmk⟩ := K.tab x.fz x.tb S.tabs
  have nd := S.nd
  have hne : ∀ p ∈ x.mu ++ pre, p.1 ≠ P := fun p hp e => by
    rw [etb] at nd
    have nd' : ((adr x.mu ++ adr pre) ++ P :: (adr post ++ adr x.cs)).Nodup := by simpa [adr, List.append_assoc] using nd
    obtain ⟨n1, n2⟩ := nodup_mid nd'
    refine n1 ?_
    rw [← adr_app]
    exact e ▸ List.mem_map_of_mem hp
  have hne2 : ∀ p ∈ post ++ (x.cs ++ x.fz), p.1 ≠ P := fun p hp e => by
    have nd2 := nd
    rw [etb] at nd2
    have nd' : ((adr x.mu ++ adr pre) ++ P :: (adr post ++ adr x.cs)).Nodup := by simpa [adr, List.append_assoc] using nd2
    obtain ⟨n1, n2⟩ := nodup_mid nd'
    rw [← List.append_assoc] at hp
    rcases List.mem_append.mp hp with hp | hp
    · refine n2 ?_
      rw [← adr_app]
      exact e ▸ List.mem_map_of_mem hp
    · refine S.off p hp ?_
      rw [e, etb]
      simp [adr]
  have eled : x.led = (x.mu ++ pre) ++ (P, tabObj ps) :: (post ++ (x.cs ++ x.fz)) := by simp [St.led, etb]
  have U : UpdF P (tabObj ps) x.led (fun o' => (x.mu ++ pre) ++ (P, o') :: (post ++ (x.cs ++ x.fz))) := by
    rw [eled]; exact mk_updF _ _ hne hne2
  have hCd : CodeHd x.gc c P := K.hd f.w _ (S.X ok)
  refine lam_any2 (clos := clos) S.fr S.news (S.T ok) hCd hccd U tok (fun q hq => mem_led.mpr (.inr hq)) cl1 (by rw [hcn]; exact hccd ▸ K.hqn _ _ _ _) rfl fun fl c' oc ctv h' tk F' N' LC l1 fresh => ?_
  refine spliced_none ?_
  let lob : Obj := kla_obj "<lambda>" lq noParams (.Call (.Attribute (.Name oN p0) y ap) args [] pos) lscope clos ((f.mg "__name__").getD .none) c' ctv
  let tab' : Obj := tabObj #[rawInt lpos.line, rawInt lpos.col, .ref c']
  let fz1 : Led := (fl, lob) :: (c', oc) :: x.fz
  let tb1 : Led := pre ++ (P, tab') :: post
  have sub : ∀ p ∈ x.fz, p ∈ fz1 := fun p hp => .tail _ (.tail _ hp)
  have atb : adr tb1 = adr x.tb := by rw [etb]; simp [tb1, adr]
  have ach : adr (x.mu ++ (tb1 ++ x.cs)) = adr (x.mu ++ (x.tb ++ x.cs)) := by rw [adr_app, adr_app, atb, ← adr_app, ← adr_app]
  have X1 : Ext x.al x.fz x.al fz1 := ⟨⟨[], by simp⟩, sub⟩
  have off1 : ∀ p ∈ fz1, p.1 ∉ adr (x.mu ++ (tb1 ++ x.cs)) := fun p hp q => by
    rw [ach] at q
    rcases List.mem_cons.mp hp with rfl | hp
    · obtain ⟨r, hr, e⟩ := List.mem_map.mp q
      exact absurd e (Nat.ne_of_lt (l1 r (mem_led.mpr (.inl hr))))
    · rcases List.mem_cons.mp hp with rfl | hp
      · rcases fresh with fr | fr
        · exact S.off _ fr q
        · obtain ⟨r, hr, e⟩ := List.mem_map.mp q
          exact absurd e (Nat.ne_of_lt (fr r (mem_led.mpr (.inl hr))))
      · exact S.off p hp q
  have S1 : Std f h' H { x with tb := tb1, fz := fz1 } := by
    refine ⟨S.below, S.slip, S.quiet, F', fun p hp => N' p ?_, S.objs.mono X1, tmk fz1 _ sub (.inr ⟨c', oc, rfl, .tail _ (.head _), LC⟩), ?_, off1, S.cells⟩
    · simp only [St.led, tb1, fz1, List.mem_append, List.mem_cons] at hp ⊢
      rcases hp with hp | (hp | hp | hp) | hp | hp | hp | hp
      · exact .inr (.inr (.inl (.inl hp)))
      · exact .inr (.inr (.inl (.inr hp)))
      · exact .inr (.inr (.inr (.inl hp)))
      · exact .inr (.inr (.inr (.inr (.inl hp))))
      · exact .inr (.inr (.inr (.inr (.inr (.inl hp)))))
      · exact .inl hp
      · exact .inr (.inl hp)
      · exact .inr (.inr (.inr (.inr (.inr (.inr hp)))))
    · show (adr (x.mu ++ (tb1 ++ x.cs))).Nodup
      rw [ach]; exact S.nd
  have E1 : ExtE f x { x with tb := tb1, fz := fz1 } := ⟨X1, rfl, rfl, fun _ => rfl⟩
  have X2 : (KF f.w).In h' := fun a o e => F'.keep a o (S.X (s := s) ok a o e)
  refine ⟨X2, ?_⟩
  have hns : bLam name F eo es (capsOf caps ρ) H ≠ .stuck := fun e => by rw [e] at Pp; exact Pp
  have C0 := lam_spec (w := f.w) (mean := f.mean) (mg := f.mg) (mb := f.mb) (mu := x.mu) (tb := tb1) (cs := x.cs) (fz := fz1) (ρL := capsOf caps ρ) (H := H) (lvn := lvn) (clos := clos) (n := nL) S1.objs S1.tabs (by rw [ach]; exact S.nd) off1 (.head _) (.tail _ (.head _)) LC
    (fun z cc hz => S.cells z cc (cl3 z cc hz)) (fun y z cc h1 h2 => ok.inj y z cc (cl3 _ _ h1) (cl3 _ _ h2))
    (fun i v e => by
      obtain ⟨z, rv, cc, o, g1, g2, g3, g4, g5, g6, g7, g8⟩ := hvals i v e
      exact ⟨z, rv, cc, o, g1, g2, g3.mono X1, g4, (cl2 z (List.mem_of_getElem? g1)).trans g5, g6, g7, g8⟩)
    hy he M C hn h1 ha K.kind K.co K.gen K.cell hns
  have hfq : f.q = false := q.1.trans K.q
  have HS := heard_specB (oc := .type "function") (od := none) (osl := #[]) C0 (by
    show (fl, lob) ∈ x.mu ++ (tb1 ++ (x.cs ++ fz1))
    exact List.mem_append_right _ (List.mem_append_right _ (List.mem_append_right _ (.head _)))) says_lam
  have hro : f.ro = false := q.2.trans K.ro
  have okn := ok.room
  have okm := ok.units
  refine HS f.dp f.un f.gd f.cn f.cs f.a f.ccd f.cl f.outer f.A₀ f.base x.gc f.L x.m { s with heap := h', toks := tk } Q E S1.below S1.fr ok.XB ok.TB S1.news ok.kind (by omega) (by omega) trivial ?_ (fun _ _ _ _ _ _ z => z.elim)
  rintro v h2 tk2 led' h₀' T (⟨rfl, v0, v', H', mu', tb', fz', e, rfl, K', X', dis⟩ | ⟨d, mv, sv, u1, u2, rest, l, ⟨mm, i, H', mu', tb', fz', tm, ti, u1', u2', e, eled, K', X', dis⟩, rfl, rfl, lo⟩)
  · rw [e] at Pp
    have S2 := S1.back2 hfq T (fun p hp => hp) K' dis
    exact Pp .none h2 tk2 _ S2 (X1.trans X') ⟨rfl, rfl, fun h => by (rw [hro] at h; cases h), .none⟩
  · rw [e] at Pp
    obtain ⟨e1, e2⟩ := List.cons.inj eled
    have e3 : mv = .str (tr mm) tm ∧ sv = .int i ti := by
      have := congrArg (fun o : Obj => o.data) (congrArg Prod.snd e1)
      simp only [dictOf, Data.dict.injEq, and_true] at this
      have h3 := congrArg Array.toList this
      simp only [List.cons.injEq, DictEntry.mk.injEq, and_true, true_and] at h3
      exact ⟨h3.1.2, h3.2.2⟩
    obtain ⟨rfl, rfl⟩ := e3
    have e2' : rest = (mu' ++ (tb' ++ fz')) ++ x.cs := e2
    subst e2'
    have mem9 : ∀ p, p ∈ mu' ++ (tb' ++ (x.cs ++ fz')) → p ∈ (mu' ++ (tb' ++ fz')) ++ x.cs := fun p hp => by
      simp only [List.mem_append] at hp ⊢
      rcases hp with hp | hp | hp | hp
      · exact .inl (.inl hp)
      · exact .inl (.inr (.inl hp))
      · exact .inr hp
      · exact .inl (.inr (.inr hp))
    have S2 := S1.back2 hfq T (fun p hp => .tail _ (mem9 p hp)) K' dis
    obtain ⟨S3, X3⟩ := S2.frz (D := l) S2.fr (fun p hp => by
      rcases List.mem_cons.mp hp with rfl | hp
      · exact T.news _ (.head _)
      · exact S2.news p hp) (fun p hp => lo p (mem9 p hp))
    exact Pp (.ref l) h2 tk2 _ S3 ((X1.trans X').trans X3.ext) ⟨rfl, rfl, fun h => by (rw [hro] at h; cases h), .lst (rs := [.str (tr mm) tm, .int i ti]) (n := 0) (.head _) (.cons (.str _ _) (.cons (.int _ _) .nil))⟩
end

section
open PySem PySem.W PySem.Calls PyProof.Rows PySem.Spec
theorem gl_PLAIN_NAMES (w : World) : nsIn (KK w.params) mainGlobals "PLAIN_NAMES" = some (some (.ref 71)) := by k_is
theorem gl_WAYS (w : World) : nsIn (KK w.params) mainGlobals "WAYS" = some (some (.ref 69)) := by k_is
theorem gl_PRELUDE_NAMES (w : World) : nsIn (KK w.params) mainGlobals "PRELUDE_NAMES" = some (some (.ref 68)) := by k_is
theorem gl_joined (w : World) : nsIn (KK w.params) mainGlobals "joined" = some (some (.ref 78)) := by k_is
theorem gl_parent_of (w : World) : nsIn (KK w.params) mainGlobals "parent_of" = some (some (.ref 85)) := by k_is
theorem gl_is_within (w : World) : nsIn (KK w.params) mainGlobals "is_within" = some (some (.ref 92)) := by k_is
theorem gl_Use (w : World) : nsIn (KK w.params) mainGlobals "Use" = some (some (.ref 109)) := by k_is
theorem gl_Table (w : World) : nsIn (KK w.params) mainGlobals "Table" = some (some (.ref 142)) := by k_is
theorem gl_Modules (w : World) : nsIn (KK w.params) mainGlobals "Modules" = some (some (.ref 275)) := by k_is
theorem gl_NameFault (w : World) : nsIn (KK w.params) mainGlobals "NameFault" = some (some (.ref 52)) := by k_is
theorem gl__law_pool (w : World) : nsIn (KK w.params) mainGlobals "_law_pool" = some (some (.ref 286)) := by k_is
theorem gl__law_take (w : World) : nsIn (KK w.params) mainGlobals "_law_take" = some (some (.ref 293)) := by k_is
theorem gl__law_one (w : World) : nsIn (KK w.params) mainGlobals "_law_one" = some (some (.ref 300)) := by k_is
theorem gl__law_heard (w : World) : nsIn (KK w.params) mainGlobals "_law_heard" = some (some (.ref 307)) := by k_is
theorem gl__law_modules (w : World) : nsIn (KK w.params) mainGlobals "_law_modules" = some (some (.ref 314)) := by k_is
theorem gl__law_path (w : World) : nsIn (KK w.params) mainGlobals "_law_path" = some (some (.ref 321)) := by k_is
theorem gl__law_book (w : World) : nsIn (KK w.params) mainGlobals "_law_book" = some (some (.ref 328)) := by k_is
theorem gl__law_is_alike (w : World) : nsIn (KK w.params) mainGlobals "_law_is_alike" = some (some (.ref 335)) := by k_is
theorem gl__law_refusal (w : World) : nsIn (KK w.params) mainGlobals "_law_refusal" = some (some (.ref 340)) := by k_is
theorem gl__law_type_right (w : World) : nsIn (KK w.params) mainGlobals "_law_type_right" = some (some (.ref 345)) := by k_is
theorem gl__law_variants_right (w : World) : nsIn (KK w.params) mainGlobals "_law_variants_right" = some (some (.ref 350)) := by k_is
theorem gl__law_use_right (w : World) : nsIn (KK w.params) mainGlobals "_law_use_right" = some (some (.ref 357)) := by k_is
theorem gl__law_item (w : World) : nsIn (KK w.params) mainGlobals "_law_item" = some (some (.ref 364)) := by k_is
theorem gl__law_deed_right (w : World) : nsIn (KK w.params) mainGlobals "_law_deed_right" = some (some (.ref 369)) := by k_is
theorem gl__law_chain_right (w : World) : nsIn (KK w.params) mainGlobals "_law_chain_right" = some (some (.ref 374)) := by k_is
theorem gl__law_told_right (w : World) : nsIn (KK w.params) mainGlobals "_law_told_right" = some (some (.ref 381)) := by k_is
theorem gl_MOST_USES (w : World) : nsIn (KK w.params) mainGlobals "MOST_USES" = some (some (.int 30 286)) := by k_is
theorem bl_len (w : World) : nsIn (KK w.params) mainGlobals "len" = some none := by k_is
theorem bt_len : bootBuiltins "len" = some (.builtin "len") := PySem.boot_len
theorem bl_sorted (w : World) : nsIn (KK w.params) mainGlobals "sorted" = some none := by k_is
theorem bt_sorted : bootBuiltins "sorted" = some (.builtin "sorted") := PyProof.Rows.Boot.sorted
theorem bl_max (w : World) : nsIn (KK w.params) mainGlobals "max" = some none := by k_is
theorem bt_max : bootBuiltins "max" = some (.builtin "max") := by kernel_rfl
theorem bl_range (w : World) : nsIn (KK w.params) mainGlobals "range" = some none := by k_is
theorem bt_range : bootBuiltins "range" = some (.type "range") := by kernel_rfl
theorem bl_str (w : World) : nsIn (KK w.params) mainGlobals "str" = some none := by k_is
theorem bt_str : bootBuiltins "str" = some (.type "str") := by kernel_rfl
theorem bl_list (w : World) : nsIn (KK w.params) mainGlobals "list" = some none := by k_is
theorem bt_list : bootBuiltins "list" = some (.type "list") := by kernel_rfl
theorem bl_tuple (w : World) : nsIn (KK w.params) mainGlobals "tuple" = some none := by k_is
theorem bt_tuple : bootBuiltins "tuple" = some (.type "tuple") := PyProof.Rows.boot_tuple
theorem bl_int (w : World) : nsIn (KK w.params) mainGlobals "int" = some none := by k_is
theorem bt_int : bootBuiltins "int" = some (.type "int") := by kernel_rfl
theorem kp_joined (w : World) : keepIn (KK w.params) (.ref 78) = true := by k_is
theorem kp_parent_of (w : World) : keepIn (KK w.params) (.ref 85) = true := by k_is
theorem kp_is_within (w : World) : keepIn (KK w.params) (.ref 92) = true := by k_is
theorem kp__law_pool (w : World) : keepIn (KK w.params) (.ref 286) = true := by k_is
theorem kp__law_take (w : World) : keepIn (KK w.params) (.ref 293) = true := by k_is
theorem kp__law_one (w : World) : keepIn (KK w.params) (.ref 300) = true := by k_is
theorem kp__law_modules (w : World) : keepIn (KK w.params) (.ref 314) = true := by k_is
theorem kp__law_path (w : World) : keepIn (KK w.params) (.ref 321) = true := by k_is
theorem kp__law_book (w : World) : keepIn (KK w.params) (.ref 328) = true := by k_is
theorem kp__law_is_alike (w : World) : keepIn (KK w.params) (.ref 335) = true := by k_is
theorem kp__law_refusal (w : World) : keepIn (KK w.params) (.ref 340) = true := by k_is
theorem kp__law_type_right (w : World) : keepIn (KK w.params) (.ref 345) = true := by k_is
theorem kp__law_variants_right (w : World) : keepIn (KK w.params) (.ref 350) = true := by k_is
theorem kp__law_use_right (w : World) : keepIn (KK w.params) (.ref 357) = true := by k_is
theorem kp__law_item (w : World) : keepIn (KK w.params) (.ref 364) = true := by k_is
theorem kp__law_deed_right (w : World) : keepIn (KK w.params) (.ref 369) = true := by k_is
theorem kp__law_chain_right (w : World) : keepIn (KK w.params) (.ref 374) = true := by k_is
theorem kp__law_told_right (w : World) : keepIn (KK w.params) (.ref 381) = true := by k_is
theorem me_space : MethOk 142 [115, 112, 97, 99, 101] 134 := ⟨fun w => show plainGet (KK w.params) 142 "space" = true ∧ findIn (KK w.params) (.ref 142) "space" = some (some (.ref 134)) ∧ isFn (KK w.params) (.ref 134) = true ∧ keepIn (KK w.params) (.ref 134) = true from ⟨by k_is, by k_is, by k_is, by k_is⟩⟩
theorem me_is_taken : MethOk 142 [105, 115, 95, 116, 97, 107, 101, 110] 139 := ⟨fun w => show plainGet (KK w.params) 142 "is_taken" = true ∧ findIn (KK w.params) (.ref 142) "is_taken" = some (some (.ref 139)) ∧ isFn (KK w.params) (.ref 139) = true ∧ keepIn (KK w.params) (.ref 139) = true from ⟨by k_is, by k_is, by k_is, by k_is⟩⟩
theorem me_enter : MethOk 275 [101, 110, 116, 101, 114] 167 := ⟨fun w => show plainGet (KK w.params) 275 "enter" = true ∧ findIn (KK w.params) (.ref 275) "enter" = some (some (.ref 167)) ∧ isFn (KK w.params) (.ref 167) = true ∧ keepIn (KK w.params) (.ref 167) = true from ⟨by k_is, by k_is, by k_is, by k_is⟩⟩
theorem me_declare : MethOk 275 [100, 101, 99, 108, 97, 114, 101] 174 := ⟨fun w => show plainGet (KK w.params) 275 "declare" = true ∧ findIn (KK w.params) (.ref 275) "declare" = some (some (.ref 174)) ∧ isFn (KK w.params) (.ref 174) = true ∧ keepIn (KK w.params) (.ref 174) = true from ⟨by k_is, by k_is, by k_is, by k_is⟩⟩
theorem me_declare_type : MethOk 275 [100, 101, 99, 108, 97, 114, 101, 95, 116, 121, 112, 101] 179 := ⟨fun w => show plainGet (KK w.params) 275 "declare_type" = true ∧ findIn (KK w.params) (.ref 275) "declare_type" = some (some (.ref 179)) ∧ isFn (KK w.params) (.ref 179) = true ∧ keepIn (KK w.params) (.ref 179) = true from ⟨by k_is, by k_is, by k_is, by k_is⟩⟩
theorem me_enter_variants : MethOk 275 [101, 110, 116, 101, 114, 95, 118, 97, 114, 105, 97, 110, 116, 115] 186 := ⟨fun w => show plainGet (KK w.params) 275 "enter_variants" = true ∧ findIn (KK w.params) (.ref 275) "enter_variants" = some (some (.ref 186)) ∧ isFn (KK w.params) (.ref 186) = true ∧ keepIn (KK w.params) (.ref 186) = true from ⟨by k_is, by k_is, by k_is, by k_is⟩⟩
theorem me_enter_use : MethOk 275 [101, 110, 116, 101, 114, 95, 117, 115, 101] 193 := ⟨fun w => show plainGet (KK w.params) 275 "enter_use" = true ∧ findIn (KK w.params) (.ref 275) "enter_use" = some (some (.ref 193)) ∧ isFn (KK w.params) (.ref 193) = true ∧ keepIn (KK w.params) (.ref 193) = true from ⟨by k_is, by k_is, by k_is, by k_is⟩⟩
theorem me_can_see : MethOk 275 [99, 97, 110, 95, 115, 101, 101] 200 := ⟨fun w => show plainGet (KK w.params) 275 "can_see" = true ∧ findIn (KK w.params) (.ref 275) "can_see" = some (some (.ref 200)) ∧ isFn (KK w.params) (.ref 200) = true ∧ keepIn (KK w.params) (.ref 200) = true from ⟨by k_is, by k_is, by k_is, by k_is⟩⟩
theorem me_walk : MethOk 275 [119, 97, 108, 107] 215 := ⟨fun w => show plainGet (KK w.params) 275 "walk" = true ∧ findIn (KK w.params) (.ref 275) "walk" = some (some (.ref 215)) ∧ isFn (KK w.params) (.ref 215) = true ∧ keepIn (KK w.params) (.ref 215) = true from ⟨by k_is, by k_is, by k_is, by k_is⟩⟩
theorem me_begin : MethOk 275 [98, 101, 103, 105, 110] 222 := ⟨fun w => show plainGet (KK w.params) 275 "begin" = true ∧ findIn (KK w.params) (.ref 275) "begin" = some (some (.ref 222)) ∧ isFn (KK w.params) (.ref 222) = true ∧ keepIn (KK w.params) (.ref 222) = true from ⟨by k_is, by k_is, by k_is, by k_is⟩⟩
theorem me_step : MethOk 275 [115, 116, 101, 112] 229 := ⟨fun w => show plainGet (KK w.params) 275 "step" = true ∧ findIn (KK w.params) (.ref 275) "step" = some (some (.ref 229)) ∧ isFn (KK w.params) (.ref 229) = true ∧ keepIn (KK w.params) (.ref 229) = true from ⟨by k_is, by k_is, by k_is, by k_is⟩⟩
theorem me_look : MethOk 275 [108, 111, 111, 107] 236 := ⟨fun w => show plainGet (KK w.params) 275 "look" = true ∧ findIn (KK w.params) (.ref 275) "look" = some (some (.ref 236)) ∧ isFn (KK w.params) (.ref 236) = true ∧ keepIn (KK w.params) (.ref 236) = true from ⟨by k_is, by k_is, by k_is, by k_is⟩⟩
theorem me_follow : MethOk 275 [102, 111, 108, 108, 111, 119] 243 := ⟨fun w => show plainGet (KK w.params) 275 "follow" = true ∧ findIn (KK w.params) (.ref 275) "follow" = some (some (.ref 243)) ∧ isFn (KK w.params) (.ref 243) = true ∧ keepIn (KK w.params) (.ref 243) = true from ⟨by k_is, by k_is, by k_is, by k_is⟩⟩
theorem co_Table : ClsOk 142 127 := ⟨fun w => ⟨show keepIn (KK w.params) _ = _ by k_is, show makesIn (KK w.params) _ = _ by k_is, show findIn (KK w.params) _ _ = _ by k_is, show isFn (KK w.params) _ = _ by k_is⟩⟩
theorem co_Modules : ClsOk 275 160 := ⟨fun w => ⟨show keepIn (KK w.params) _ = _ by k_is, show makesIn (KK w.params) _ = _ by k_is, show findIn (KK w.params) _ _ = _ by k_is, show isFn (KK w.params) _ = _ by k_is⟩⟩
theorem at_types : AttrOk [116, 121, 112, 101, 115] := ⟨fun w c hc => by
  rcases hc with rfl | rfl | rfl
  · exact (show plainGet (KK w.params) 275 "types" = true ∧ hasDictIn (KK w.params) 275 = true ∧ ∃ attr, findIn (KK w.params) (.ref 275) "types" = some attr ∧ noGet (KK w.params) attr = true from ⟨by k_is, by k_is, _, by k_is, by k_is⟩)
  · exact (show plainGet (KK w.params) 142 "types" = true ∧ hasDictIn (KK w.params) 142 = true ∧ ∃ attr, findIn (KK w.params) (.ref 142) "types" = some attr ∧ noGet (KK w.params) attr = true from ⟨by k_is, by k_is, _, by k_is, by k_is⟩)
  · exact (show plainGet (KK w.params) 109 "types" = true ∧ hasDictIn (KK w.params) 109 = true ∧ ∃ attr, findIn (KK w.params) (.ref 109) "types" = some attr ∧ noGet (KK w.params) attr = true from ⟨by k_is, by k_is, _, by k_is, by k_is⟩)⟩
theorem at_values : AttrOk [118, 97, 108, 117, 101, 115] := ⟨fun w c hc => by
  rcases hc with rfl | rfl | rfl
  · exact (show plainGet (KK w.params) 275 "values" = true ∧ hasDictIn (KK w.params) 275 = true ∧ ∃ attr, findIn (KK w.params) (.ref 275) "values" = some attr ∧ noGet (KK w.params) attr = true from ⟨by k_is, by k_is, _, by k_is, by k_is⟩)
  · exact (show plainGet (KK w.params) 142 "values" = true ∧ hasDictIn (KK w.params) 142 = true ∧ ∃ attr, findIn (KK w.params) (.ref 142) "values" = some attr ∧ noGet (KK w.params) attr = true from ⟨by k_is, by k_is, _, by k_is, by k_is⟩)
  · exact (show plainGet (KK w.params) 109 "values" = true ∧ hasDictIn (KK w.params) 109 = true ∧ ∃ attr, findIn (KK w.params) (.ref 109) "values" = some attr ∧ noGet (KK w.params) attr = true from ⟨by k_is, by k_is, _, by k_is, by k_is⟩)⟩
theorem at_uses : AttrOk [117, 115, 101, 115] := ⟨fun w c hc => by
  rcases hc with rfl | rfl | rfl
  · exact (show plainGet (KK w.params) 275 "uses" = true ∧ hasDictIn (KK w.params) 275 = true ∧ ∃ attr, findIn (KK w.params) (.ref 275) "uses" = some attr ∧ noGet (KK w.params) attr = true from ⟨by k_is, by k_is, _, by k_is, by k_is⟩)
  · exact (show plainGet (KK w.params) 142 "uses" = true ∧ hasDictIn (KK w.params) 142 = true ∧ ∃ attr, findIn (KK w.params) (.ref 142) "uses" = some attr ∧ noGet (KK w.params) attr = true from ⟨by k_is, by k_is, _, by k_is, by k_is⟩)
  · exact (show plainGet (KK w.params) 109 "uses" = true ∧ hasDictIn (KK w.params) 109 = true ∧ ∃ attr, findIn (KK w.params) (.ref 109) "uses" = some attr ∧ noGet (KK w.params) attr = true from ⟨by k_is, by k_is, _, by k_is, by k_is⟩)⟩
theorem at_kinds : AttrOk [107, 105, 110, 100, 115] := ⟨fun w c hc => by
  rcases hc with rfl | rfl | rfl
  · exact (show plainGet (KK w.params) 275 "kinds" = true ∧ hasDictIn (KK w.params) 275 = true ∧ ∃ attr, findIn (KK w.params) (.ref 275) "kinds" = some attr ∧ noGet (KK w.params) attr = true from ⟨by k_is, by k_is, _, by k_is, by k_is⟩)
  · exact (show plainGet (KK w.params) 142 "kinds" = true ∧ hasDictIn (KK w.params) 142 = true ∧ ∃ attr, findIn (KK w.params) (.ref 142) "kinds" = some attr ∧ noGet (KK w.params) attr = true from ⟨by k_is, by k_is, _, by k_is, by k_is⟩)
  · exact (show plainGet (KK w.params) 109 "kinds" = true ∧ hasDictIn (KK w.params) 109 = true ∧ ∃ attr, findIn (KK w.params) (.ref 109) "kinds" = some attr ∧ noGet (KK w.params) attr = true from ⟨by k_is, by k_is, _, by k_is, by k_is⟩)⟩
theorem at_publics : AttrOk [112, 117, 98, 108, 105, 99, 115] := ⟨fun w c hc => by
  rcases hc with rfl | rfl | rfl
  · exact (show plainGet (KK w.params) 275 "publics" = true ∧ hasDictIn (KK w.params) 275 = true ∧ ∃ attr, findIn (KK w.params) (.ref 275) "publics" = some attr ∧ noGet (KK w.params) attr = true from ⟨by k_is, by k_is, _, by k_is, by k_is⟩)
  · exact (show plainGet (KK w.params) 142 "publics" = true ∧ hasDictIn (KK w.params) 142 = true ∧ ∃ attr, findIn (KK w.params) (.ref 142) "publics" = some attr ∧ noGet (KK w.params) attr = true from ⟨by k_is, by k_is, _, by k_is, by k_is⟩)
  · exact (show plainGet (KK w.params) 109 "publics" = true ∧ hasDictIn (KK w.params) 109 = true ∧ ∃ attr, findIn (KK w.params) (.ref 109) "publics" = some attr ∧ noGet (KK w.params) attr = true from ⟨by k_is, by k_is, _, by k_is, by k_is⟩)⟩
theorem at_tables : AttrOk [116, 97, 98, 108, 101, 115] := ⟨fun w c hc => by
  rcases hc with rfl | rfl | rfl
  · exact (show plainGet (KK w.params) 275 "tables" = true ∧ hasDictIn (KK w.params) 275 = true ∧ ∃ attr, findIn (KK w.params) (.ref 275) "tables" = some attr ∧ noGet (KK w.params) attr = true from ⟨by k_is, by k_is, _, by k_is, by k_is⟩)
  · exact (show plainGet (KK w.params) 142 "tables" = true ∧ hasDictIn (KK w.params) 142 = true ∧ ∃ attr, findIn (KK w.params) (.ref 142) "tables" = some attr ∧ noGet (KK w.params) attr = true from ⟨by k_is, by k_is, _, by k_is, by k_is⟩)
  · exact (show plainGet (KK w.params) 109 "tables" = true ∧ hasDictIn (KK w.params) 109 = true ∧ ∃ attr, findIn (KK w.params) (.ref 109) "tables" = some attr ∧ noGet (KK w.params) attr = true from ⟨by k_is, by k_is, _, by k_is, by k_is⟩)⟩
theorem at_generics : AttrOk [103, 101, 110, 101, 114, 105, 99, 115] := ⟨fun w c hc => by
  rcases hc with rfl | rfl | rfl
  · exact (show plainGet (KK w.params) 275 "generics" = true ∧ hasDictIn (KK w.params) 275 = true ∧ ∃ attr, findIn (KK w.params) (.ref 275) "generics" = some attr ∧ noGet (KK w.params) attr = true from ⟨by k_is, by k_is, _, by k_is, by k_is⟩)
  · exact (show plainGet (KK w.params) 142 "generics" = true ∧ hasDictIn (KK w.params) 142 = true ∧ ∃ attr, findIn (KK w.params) (.ref 142) "generics" = some attr ∧ noGet (KK w.params) attr = true from ⟨by k_is, by k_is, _, by k_is, by k_is⟩)
  · exact (show plainGet (KK w.params) 109 "generics" = true ∧ hasDictIn (KK w.params) 109 = true ∧ ∃ attr, findIn (KK w.params) (.ref 109) "generics" = some attr ∧ noGet (KK w.params) attr = true from ⟨by k_is, by k_is, _, by k_is, by k_is⟩)⟩
theorem at_items : AttrOk [105, 116, 101, 109, 115] := ⟨fun w c hc => by
  rcases hc with rfl | rfl | rfl
  · exact (show plainGet (KK w.params) 275 "items" = true ∧ hasDictIn (KK w.params) 275 = true ∧ ∃ attr, findIn (KK w.params) (.ref 275) "items" = some attr ∧ noGet (KK w.params) attr = true from ⟨by k_is, by k_is, _, by k_is, by k_is⟩)
  · exact (show plainGet (KK w.params) 142 "items" = true ∧ hasDictIn (KK w.params) 142 = true ∧ ∃ attr, findIn (KK w.params) (.ref 142) "items" = some attr ∧ noGet (KK w.params) attr = true from ⟨by k_is, by k_is, _, by k_is, by k_is⟩)
  · exact (show plainGet (KK w.params) 109 "items" = true ∧ hasDictIn (KK w.params) 109 = true ∧ ∃ attr, findIn (KK w.params) (.ref 109) "items" = some attr ∧ noGet (KK w.params) attr = true from ⟨by k_is, by k_is, _, by k_is, by k_is⟩)⟩
theorem at_kept : AttrOk [107, 101, 112, 116] := ⟨fun w c hc => by
  rcases hc with rfl | rfl | rfl
  · exact (show plainGet (KK w.params) 275 "kept" = true ∧ hasDictIn (KK w.params) 275 = true ∧ ∃ attr, findIn (KK w.params) (.ref 275) "kept" = some attr ∧ noGet (KK w.params) attr = true from ⟨by k_is, by k_is, _, by k_is, by k_is⟩)
  · exact (show plainGet (KK w.params) 142 "kept" = true ∧ hasDictIn (KK w.params) 142 = true ∧ ∃ attr, findIn (KK w.params) (.ref 142) "kept" = some attr ∧ noGet (KK w.params) attr = true from ⟨by k_is, by k_is, _, by k_is, by k_is⟩)
  · exact (show plainGet (KK w.params) 109 "kept" = true ∧ hasDictIn (KK w.params) 109 = true ∧ ∃ attr, findIn (KK w.params) (.ref 109) "kept" = some attr ∧ noGet (KK w.params) attr = true from ⟨by k_is, by k_is, _, by k_is, by k_is⟩)⟩
theorem at_names : AttrOk [110, 97, 109, 101, 115] := ⟨fun w c hc => by
  rcases hc with rfl | rfl | rfl
  · exact (show plainGet (KK w.params) 275 "names" = true ∧ hasDictIn (KK w.params) 275 = true ∧ ∃ attr, findIn (KK w.params) (.ref 275) "names" = some attr ∧ noGet (KK w.params) attr = true from ⟨by k_is, by k_is, _, by k_is, by k_is⟩)
  · exact (show plainGet (KK w.params) 142 "names" = true ∧ hasDictIn (KK w.params) 142 = true ∧ ∃ attr, findIn (KK w.params) (.ref 142) "names" = some attr ∧ noGet (KK w.params) attr = true from ⟨by k_is, by k_is, _, by k_is, by k_is⟩)
  · exact (show plainGet (KK w.params) 109 "names" = true ∧ hasDictIn (KK w.params) 109 = true ∧ ∃ attr, findIn (KK w.params) (.ref 109) "names" = some attr ∧ noGet (KK w.params) attr = true from ⟨by k_is, by k_is, _, by k_is, by k_is⟩)⟩
theorem at_is_pub : AttrOk [105, 115, 95, 112, 117, 98] := ⟨fun w c hc => by
  rcases hc with rfl | rfl | rfl
  · exact (show plainGet (KK w.params) 275 "is_pub" = true ∧ hasDictIn (KK w.params) 275 = true ∧ ∃ attr, findIn (KK w.params) (.ref 275) "is_pub" = some attr ∧ noGet (KK w.params) attr = true from ⟨by k_is, by k_is, _, by k_is, by k_is⟩)
  · exact (show plainGet (KK w.params) 142 "is_pub" = true ∧ hasDictIn (KK w.params) 142 = true ∧ ∃ attr, findIn (KK w.params) (.ref 142) "is_pub" = some attr ∧ noGet (KK w.params) attr = true from ⟨by k_is, by k_is, _, by k_is, by k_is⟩)
  · exact (show plainGet (KK w.params) 109 "is_pub" = true ∧ hasDictIn (KK w.params) 109 = true ∧ ∃ attr, findIn (KK w.params) (.ref 109) "is_pub" = some attr ∧ noGet (KK w.params) attr = true from ⟨by k_is, by k_is, _, by k_is, by k_is⟩)⟩
theorem at_spot : AttrOk [115, 112, 111, 116] := ⟨fun w c hc => by
  rcases hc with rfl | rfl | rfl
  · exact (show plainGet (KK w.params) 275 "spot" = true ∧ hasDictIn (KK w.params) 275 = true ∧ ∃ attr, findIn (KK w.params) (.ref 275) "spot" = some attr ∧ noGet (KK w.params) attr = true from ⟨by k_is, by k_is, _, by k_is, by k_is⟩)
  · exact (show plainGet (KK w.params) 142 "spot" = true ∧ hasDictIn (KK w.params) 142 = true ∧ ∃ attr, findIn (KK w.params) (.ref 142) "spot" = some attr ∧ noGet (KK w.params) attr = true from ⟨by k_is, by k_is, _, by k_is, by k_is⟩)
  · exact (show plainGet (KK w.params) 109 "spot" = true ∧ hasDictIn (KK w.params) 109 = true ∧ ∃ attr, findIn (KK w.params) (.ref 109) "spot" = some attr ∧ noGet (KK w.params) attr = true from ⟨by k_is, by k_is, _, by k_is, by k_is⟩)⟩
theorem so_types : SetOk [116, 121, 112, 101, 115] := ⟨fun w c hc => by
  rcases hc with rfl | rfl | rfl
  · exact (show findIn (KK w.params) (.ref 275) "__setattr__" = some (some (.builtin "object.__setattr__")) ∧ plainOver (KK w.params) 275 = true ∧ takerIn (KK w.params) 275 "types" = some none ∧ hasDictIn (KK w.params) 275 = true from ⟨by k_is, by k_is, by k_is, by k_is⟩)
  · exact (show findIn (KK w.params) (.ref 142) "__setattr__" = some (some (.builtin "object.__setattr__")) ∧ plainOver (KK w.params) 142 = true ∧ takerIn (KK w.params) 142 "types" = some none ∧ hasDictIn (KK w.params) 142 = true from ⟨by k_is, by k_is, by k_is, by k_is⟩)
  · exact (show findIn (KK w.params) (.ref 109) "__setattr__" = some (some (.builtin "object.__setattr__")) ∧ plainOver (KK w.params) 109 = true ∧ takerIn (KK w.params) 109 "types" = some none ∧ hasDictIn (KK w.params) 109 = true from ⟨by k_is, by k_is, by k_is, by k_is⟩)⟩
theorem so_values : SetOk [118, 97, 108, 117, 101, 115] := ⟨fun w c hc => by
  rcases hc with rfl | rfl | rfl
  · exact (show findIn (KK w.params) (.ref 275) "__setattr__" = some (some (.builtin "object.__setattr__")) ∧ plainOver (KK w.params) 275 = true ∧ takerIn (KK w.params) 275 "values" = some none ∧ hasDictIn (KK w.params) 275 = true from ⟨by k_is, by k_is, by k_is, by k_is⟩)
  · exact (show findIn (KK w.params) (.ref 142) "__setattr__" = some (some (.builtin "object.__setattr__")) ∧ plainOver (KK w.params) 142 = true ∧ takerIn (KK w.params) 142 "values" = some none ∧ hasDictIn (KK w.params) 142 = true from ⟨by k_is, by k_is, by k_is, by k_is⟩)
  · exact (show findIn (KK w.params) (.ref 109) "__setattr__" = some (some (.builtin "object.__setattr__")) ∧ plainOver (KK w.params) 109 = true ∧ takerIn (KK w.params) 109 "values" = some none ∧ hasDictIn (KK w.params) 109 = true from ⟨by k_is, by k_is, by k_is, by k_is⟩)⟩
theorem so_uses : SetOk [117, 115, 101, 115] := ⟨fun w c hc => by
  rcases hc with rfl | rfl | rfl
  · exact (show findIn (KK w.params) (.ref 275) "__setattr__" = some (some (.builtin "object.__setattr__")) ∧ plainOver (KK w.params) 275 = true ∧ takerIn (KK w.params) 275 "uses" = some none ∧ hasDictIn (KK w.params) 275 = true from ⟨by k_is, by k_is, by k_is, by k_is⟩)
  · exact (show findIn (KK w.params) (.ref 142) "__setattr__" = some (some (.builtin "object.__setattr__")) ∧ plainOver (KK w.params) 142 = true ∧ takerIn (KK w.params) 142 "uses" = some none ∧ hasDictIn (KK w.params) 142 = true from ⟨by k_is, by k_is, by k_is, by k_is⟩)
  · exact (show findIn (KK w.params) (.ref 109) "__setattr__" = some (some (.builtin "object.__setattr__")) ∧ plainOver (KK w.params) 109 = true ∧ takerIn (KK w.params) 109 "uses" = some none ∧ hasDictIn (KK w.params) 109 = true from ⟨by k_is, by k_is, by k_is, by k_is⟩)⟩
theorem so_kinds : SetOk [107, 105, 110, 100, 115] := ⟨fun w c hc => by
  rcases hc with rfl | rfl | rfl
  · exact (show findIn (KK w.params) (.ref 275) "__setattr__" = some (some (.builtin "object.__setattr__")) ∧ plainOver (KK w.params) 275 = true ∧ takerIn (KK w.params) 275 "kinds" = some none ∧ hasDictIn (KK w.params) 275 = true from ⟨by k_is, by k_is, by k_is, by k_is⟩)
  · exact (show findIn (KK w.params) (.ref 142) "__setattr__" = some (some (.builtin "object.__setattr__")) ∧ plainOver (KK w.params) 142 = true ∧ takerIn (KK w.params) 142 "kinds" = some none ∧ hasDictIn (KK w.params) 142 = true from ⟨by k_is, by k_is, by k_is, by k_is⟩)
  · exact (show findIn (KK w.params) (.ref 109) "__setattr__" = some (some (.builtin "object.__setattr__")) ∧ plainOver (KK w.params) 109 = true ∧ takerIn (KK w.params) 109 "kinds" = some none ∧ hasDictIn (KK w.params) 109 = true from ⟨by k_is, by k_is, by k_is, by k_is⟩)⟩
theorem so_publics : SetOk [112, 117, 98, 108, 105, 99, 115] := ⟨fun w c hc => by
  rcases hc with rfl | rfl | rfl
  · exact (show findIn (KK w.params) (.ref 275) "__setattr__" = some (some (.builtin "object.__setattr__")) ∧ plainOver (KK w.params) 275 = true ∧ takerIn (KK w.params) 275 "publics" = some none ∧ hasDictIn (KK w.params) 275 = true from ⟨by k_is, by k_is, by k_is, by k_is⟩)
  · exact (show findIn (KK w.params) (.ref 142) "__setattr__" = some (some (.builtin "object.__setattr__")) ∧ plainOver (KK w.params) 142 = true ∧ takerIn (KK w.params) 142 "publics" = some none ∧ hasDictIn (KK w.params) 142 = true from ⟨by k_is, by k_is, by k_is, by k_is⟩)
  · exact (show findIn (KK w.params) (.ref 109) "__setattr__" = some (some (.builtin "object.__setattr__")) ∧ plainOver (KK w.params) 109 = true ∧ takerIn (KK w.params) 109 "publics" = some none ∧ hasDictIn (KK w.params) 109 = true from ⟨by k_is, by k_is, by k_is, by k_is⟩)⟩
theorem so_tables : SetOk [116, 97, 98, 108, 101, 115] := ⟨fun w c hc => by
  rcases hc with rfl | rfl | rfl
  · exact (show findIn (KK w.params) (.ref 275) "__setattr__" = some (some (.builtin "object.__setattr__")) ∧ plainOver (KK w.params) 275 = true ∧ takerIn (KK w.params) 275 "tables" = some none ∧ hasDictIn (KK w.params) 275 = true from ⟨by k_is, by k_is, by k_is, by k_is⟩)
  · exact (show findIn (KK w.params) (.ref 142) "__setattr__" = some (some (.builtin "object.__setattr__")) ∧ plainOver (KK w.params) 142 = true ∧ takerIn (KK w.params) 142 "tables" = some none ∧ hasDictIn (KK w.params) 142 = true from ⟨by k_is, by k_is, by k_is, by k_is⟩)
  · exact (show findIn (KK w.params) (.ref 109) "__setattr__" = some (some (.builtin "object.__setattr__")) ∧ plainOver (KK w.params) 109 = true ∧ takerIn (KK w.params) 109 "tables" = some none ∧ hasDictIn (KK w.params) 109 = true from ⟨by k_is, by k_is, by k_is, by k_is⟩)⟩
theorem so_generics : SetOk [103, 101, 110, 101, 114, 105, 99, 115] := ⟨fun w c hc => by
  rcases hc with rfl | rfl | rfl
  · exact (show findIn (KK w.params) (.ref 275) "__setattr__" = some (some (.builtin "object.__setattr__")) ∧ plainOver (KK w.params) 275 = true ∧ takerIn (KK w.params) 275 "generics" = some none ∧ hasDictIn (KK w.params) 275 = true from ⟨by k_is, by k_is, by k_is, by k_is⟩)
  · exact (show findIn (KK w.params) (.ref 142) "__setattr__" = some (some (.builtin "object.__setattr__")) ∧ plainOver (KK w.params) 142 = true ∧ takerIn (KK w.params) 142 "generics" = some none ∧ hasDictIn (KK w.params) 142 = true from ⟨by k_is, by k_is, by k_is, by k_is⟩)
  · exact (show findIn (KK w.params) (.ref 109) "__setattr__" = some (some (.builtin "object.__setattr__")) ∧ plainOver (KK w.params) 109 = true ∧ takerIn (KK w.params) 109 "generics" = some none ∧ hasDictIn (KK w.params) 109 = true from ⟨by k_is, by k_is, by k_is, by k_is⟩)⟩
theorem so_items : SetOk [105, 116, 101, 109, 115] := ⟨fun w c hc => by
  rcases hc with rfl | rfl | rfl
  · exact (show findIn (KK w.params) (.ref 275) "__setattr__" = some (some (.builtin "object.__setattr__")) ∧ plainOver (KK w.params) 275 = true ∧ takerIn (KK w.params) 275 "items" = some none ∧ hasDictIn (KK w.params) 275 = true from ⟨by k_is, by k_is, by k_is, by k_is⟩)
  · exact (show findIn (KK w.params) (.ref 142) "__setattr__" = some (some (.builtin "object.__setattr__")) ∧ plainOver (KK w.params) 142 = true ∧ takerIn (KK w.params) 142 "items" = some none ∧ hasDictIn (KK w.params) 142 = true from ⟨by k_is, by k_is, by k_is, by k_is⟩)
  · exact (show findIn (KK w.params) (.ref 109) "__setattr__" = some (some (.builtin "object.__setattr__")) ∧ plainOver (KK w.params) 109 = true ∧ takerIn (KK w.params) 109 "items" = some none ∧ hasDictIn (KK w.params) 109 = true from ⟨by k_is, by k_is, by k_is, by k_is⟩)⟩
theorem so_kept : SetOk [107, 101, 112, 116] := ⟨fun w c hc => by
  rcases hc with rfl | rfl | rfl
  · exact (show findIn (KK w.params) (.ref 275) "__setattr__" = some (some (.builtin "object.__setattr__")) ∧ plainOver (KK w.params) 275 = true ∧ takerIn (KK w.params) 275 "kept" = some none ∧ hasDictIn (KK w.params) 275 = true from ⟨by k_is, by k_is, by k_is, by k_is⟩)
  · exact (show findIn (KK w.params) (.ref 142) "__setattr__" = some (some (.builtin "object.__setattr__")) ∧ plainOver (KK w.params) 142 = true ∧ takerIn (KK w.params) 142 "kept" = some none ∧ hasDictIn (KK w.params) 142 = true from ⟨by k_is, by k_is, by k_is, by k_is⟩)
  · exact (show findIn (KK w.params) (.ref 109) "__setattr__" = some (some (.builtin "object.__setattr__")) ∧ plainOver (KK w.params) 109 = true ∧ takerIn (KK w.params) 109 "kept" = some none ∧ hasDictIn (KK w.params) 109 = true from ⟨by k_is, by k_is, by k_is, by k_is⟩)⟩
theorem to_WAYS : TopTup 69 [[99, 114, 97, 116, 101], [115, 101, 108, 102], [115, 117, 112, 101, 114]] := ⟨fun w => ⟨_, _, _, _, show (KK w.params).lookup 69 = _ by k_is, by repeat (first | exact .nil | refine .cons ?_)⟩⟩
theorem to_PLAIN_NAMES : TopTup 71 [[105, 56], [105, 49, 54], [105, 51, 50], [105, 54, 52], [117, 56], [117, 49, 54], [117, 51, 50], [117, 54, 52], [117, 115, 105, 122, 101], [98, 111, 111, 108], [66, 111, 120]] := ⟨fun w => ⟨_, _, _, _, show (KK w.params).lookup 71 = _ by k_is, by repeat (first | exact .nil | refine .cons ?_)⟩⟩
theorem to_PRELUDE_NAMES : TopTup 68 [[67, 108, 111, 110, 101], [67, 111, 112, 121], [68, 101, 102, 97, 117, 108, 116], [68, 114, 111, 112], [69, 114, 114], [78, 111, 110, 101], [79, 107], [79, 112, 116, 105, 111, 110], [82, 97, 110, 103, 101, 56], [82, 101, 115, 117, 108, 116], [83, 111, 109, 101], [86, 101, 99, 56], [115, 119, 97, 112, 112, 101, 100]] := ⟨fun w => ⟨_, _, _, _, show (KK w.params).lookup 68 = _ by k_is, by repeat (first | exact .nil | refine .cons ?_)⟩⟩
end

section
open PySem PySem.W PySem.Calls PyProof.Rows PySem.Spec
mutual
noncomputable def noRef : V → Bool
  | .ref _ => false
  | .tup vs => noRefs vs
  | .lst vs => noRefs vs
  | .use a b c => noRef a && (noRef b && noRef c)
  | _ => true
noncomputable def noRefs : List V → Bool
  | [] => true
  | v :: vs => noRef v && noRefs vs
end
section
variable {w : World} {al al' : List Addr} {fz : Led}
theorem and2 {a b : Bool} (h : (a && b) = true) : a = true ∧ b = true := Bool.and_eq_true_iff.mp h
theorem VR.alone {v : V} {r : Value} (h : VR w al fz v r) : noRef v = true → VR w al' fz v r :=
  VR.rec (motive_1 := fun v r _ => noRef v = true → VR w al' fz v r) (motive_2 := fun vs rs _ => noRefs vs = true → VRs w al' fz vs rs) (fun _ => .none) (fun b _ => .bool b) (fun i t _ => .int i t) (fun s t _ => .str s t) (fun h _ k e => .tup h (k e)) (fun h _ k e => .lst h (k e))
    (fun h d _ _ _ a b c e => .use h d (a (and2 e).1) (b (and2 (and2 e).2).1) (c (and2 (and2 e).2).2)) (fun e h => Bool.noConfusion (show false = true from h)) (fun h _ => .rng h) (fun _ => .nil) (fun _ _ a b e => .cons (a (and2 e).1) (b (and2 e).2)) h
theorem VRs.alone {vs : List V} {rs : List Value} (h : VRs w al fz vs rs) : noRefs vs = true → VRs w al' fz vs rs :=
  VRs.rec (motive_1 := fun v r _ => noRef v = true → VR w al' fz v r) (motive_2 := fun vs rs _ => noRefs vs = true → VRs w al' fz vs rs) (fun _ => .none) (fun b _ => .bool b) (fun i t _ => .int i t) (fun s t _ => .str s t) (fun h _ k e => .tup h (k e)) (fun h _ k e => .lst h (k e))
    (fun h d _ _ _ a b c e => .use h d (a (and2 e).1) (b (and2 (and2 e).2).1) (c (and2 (and2 e).2).2)) (fun e h => Bool.noConfusion (show false = true from h)) (fun h _ => .rng h) (fun _ => .nil) (fun _ _ a b e => .cons (a (and2 e).1) (b (and2 e).2)) h
end
theorem TabsOk.adr {fz tb : Led} (h : TabsOk fz tb) : Mine.adr tb = [371, 352, 347, 342] := by cases h; rfl
noncomputable def isoF (F : List V → Hp → Out V) : List V → Hp → Out V := fun vs H => match F vs [] with
  | .ok v _ => if noRefs vs && noRef v then .ok v H else .stuck
  | _ => .stuck
theorem fc_iso {f : Fm} {s : Shared} {H : Hp} {x : St} {n fa n' : Nat} {F : List V → Hp → Out V} (C : FC false fa n' F) (hq : f.q = false) (hro : f.ro = false) (ok : f.Ok n) (hn : n' ≤ n) (S : Std f s.heap H x) {vs : List V} {rvs : List Value} (R : VRs f.w x.al x.fz vs rvs) {Q E : Value → Shared → Prop} (P : PE RV f x s (isoF F vs H) Q E) :
    wpAny (model prog f.w) f.A (call (.ref fa) rvs) Q E s := by
  delta isoF at P
  cases ev : F vs [] with
  | fault => rw [ev] at P; exact P.elim
  | stuck => rw [ev] at P; exact P.elim
  | ok v H2 =>
  rw [ev] at P
  obtain ⟨g, P⟩ := PE.guard P
  rw [Bool.and_eq_true] at g
  have nd := S.nd
  have K0 : HOk f.w [] [] x.tb x.fz := by
    refine ⟨.nil, S.tabs, ?_, fun p hp q => S.off p hp ?_⟩
    · rw [adr_app, adr_app] at nd
      exact (List.nodup_append.mp (List.nodup_append.mp nd).2.1).1
    · have q' : p.1 ∈ adr x.tb := q
      rw [adr_app, adr_app]
      exact List.mem_append_right _ (List.mem_append_left _ q')
  have hns : F vs [] ≠ .stuck := fun e => by rw [ev] at e; cases e
  have sp := C.spec f.w f.mean f.mg f.mb vs rvs [] [] x.tb x.fz (R.alone g.1) K0 hns
  have ok' := ok.less hn
  have N0 : News x.gc f.L s.heap ([] ++ (x.tb ++ x.fz)) := fun p hp => S.part p (List.mem_append_right _ hp)
  refine sp f.dp f.un f.gd f.cn f.cs f.a f.ccd f.cl f.outer f.A₀ f.base x.gc f.L x.m s Q E S.below S.fr ok.XB ok.TB N0 ok.kind ok'.room ok'.units trivial ?_ ?_
  · rintro rv h' tk' led' h₀' T ⟨v', H', mu', tb', fz', e1, rfl, K', X', R'⟩
    rw [ev] at e1
    cases e1
    have eadr : adr tb' = adr x.tb := K'.tabs.adr.trans S.tabs.adr.symm
    have outside : ∀ p, p ∈ x.mu ∨ p ∈ x.cs → p.1 ∉ adr ([] ++ (x.tb ++ x.fz)) := fun p hp q => by
      have q' : p.1 ∈ adr (x.tb ++ x.fz) := q
      rw [adr_app] at q'
      rw [adr_app, adr_app] at nd
      obtain ⟨n1, n2, n3⟩ := List.nodup_append.mp nd
      rcases List.mem_append.mp q' with q' | q'
      · rcases hp with hp | hp
        · exact n3 _ (List.mem_map_of_mem hp) _ (List.mem_append_left _ q') rfl
        · exact (List.nodup_append.mp n2).2.2 _ q' _ (List.mem_map_of_mem hp) rfl
      · obtain ⟨r, hr, e⟩ := List.mem_map.mp q'
        refine S.off r hr ?_
        rw [e, adr_app, adr_app]
        rcases hp with hp | hp
        · exact List.mem_append_left _ (List.mem_map_of_mem hp)
        · exact List.mem_append_right _ (List.mem_append_right _ (List.mem_map_of_mem hp))
    have kept : ∀ p, p ∈ x.mu ∨ p ∈ x.cs → h'.get? p.1 = some p.2 ∧ p.1 ≠ f.L ∧ h₀'.get? p.1 = none := fun p hp => by
      obtain ⟨n1, n2, n3⟩ := S.news p (by
        simp only [St.led, List.mem_append]
        rcases hp with hp | hp
        · exact .inl hp
        · exact .inr (.inr (.inl hp)))
      refine ⟨T.keep _ _ (outside p hp) (fun q => ?_) n1, n2, T.turn.none_ _ n3⟩
      rcases List.mem_cons.mp q with q | q
      · exact n2 q
      · obtain ⟨_, o, ho, _⟩ := frames_old S.below q
        rw [n3] at ho; cases ho
    have Xe : Ext x.al x.fz x.al fz' := ⟨⟨[], by simp⟩, X'.fz⟩
    have S2 : Std f h' H { x with gc := h₀', tb := tb', fz := fz' } := by
      refine ⟨T.below, S.slip.trans (Slip.of_turn T.turn), fun z => (by rw [hq] at z; cases z), T.fr, fun p hp => ?_, S.objs.mono Xe, K'.tabs, ?_, fun p hp q => ?_, S.cells⟩
      · simp only [St.led, List.mem_append] at hp
        rcases hp with hp | hp | hp | hp
        · exact kept p (.inl hp)
        · exact T.news p (by simp [hp])
        · exact kept p (.inr hp)
        · exact T.news p (by simp [hp])
      · show (adr (x.mu ++ (tb' ++ x.cs))).Nodup
        rw [adr_app, adr_app, eadr, ← adr_app, ← adr_app]; exact S.nd
      · have q' : p.1 ∈ adr (x.mu ++ (tb' ++ x.cs)) := q
        rw [adr_app, adr_app] at q'
        have mc : ∀ r, r ∈ x.mu ∨ r ∈ x.cs → r.1 ≠ p.1 := fun r hr e => by
          rcases T.fresh p (by simp [hp]) with z | z
          · exact outside r hr (e ▸ z)
          · have := (S.news r (by
              simp only [St.led, List.mem_append]
              rcases hr with hr | hr
              · exact .inl hr
              · exact .inr (.inr (.inl hr)))).1
            rw [e, z] at this; cases this
        rcases List.mem_append.mp q' with q' | q'
        · obtain ⟨r, hr, e⟩ := List.mem_map.mp q'
          exact mc r (.inl hr) e
        · rcases List.mem_append.mp q' with q' | q'
          · refine K'.off p hp ?_
            rw [adr_app]; exact List.mem_append_right _ q'
          · obtain ⟨r, hr, e⟩ := List.mem_map.mp q'
            exact mc r (.inr hr) e
    exact P rv h' tk' _ S2 Xe ⟨rfl, rfl, fun h => absurd h (by rw [hro]; exact Bool.false_ne_true), R'.alone g.2⟩
  · rintro e d h' tk' led' Rs ⟨m, i, H', mu', tb', fz', tm, ti, u1, u2, e1, _⟩
    rw [ev] at e1; cases e1
theorem se_callIso {I : Info} {n : Nat} (hq : I.q = false) (hro : I.ro = false) {g : Str} {fa n' : Nat} {p pos : Pos} {args : List Expr} {es : Exs} {F : List V → Hp → Out V} (G : GName I g (.ref fa)) (hk : ∀ w, keepIn (KF w) (.ref fa) = true) (C : FC false fa n' F) (hn : n' ≤ n) (ha : SArgs I n args es) :
    SE I n (eval (.Call (.Name g p) args [] pos)) (bWith (isoF F) es) := by
  intro f env s ρ H x Q E ok q ei S Vs P
  refine Call_ (S.name ok ei G ?_)
  exact call_args (F := isoF F) (fv := []) (hk f.w) ha ok q ei S Vs .nil P fun s' H' x' vs rvs S' R' P' => fc_iso C (q.1.trans hq) (q.2.trans hro) ok hn S' R' P'
noncomputable def orG1 {β : Type} (g1 g2 : V → Hp → Out β) : V → Hp → Out β := fun a H => match g1 a H with | .stuck => g2 a H | r => r
noncomputable def orG2 {β : Type} (g1 g2 : V → V → Hp → Out β) : V → V → Hp → Out β := fun a b H => match g1 a b H with | .stuck => g2 a b H | r => r
noncomputable def orG3 {β : Type} (g1 g2 : V → V → V → Hp → Out β) : V → V → V → Hp → Out β := fun a b c H => match g1 a b c H with | .stuck => g2 a b c H | r => r
section
variable {I : Info} {n : Nat}
theorem Op2.or {β γ : Type} {R : REL β γ} {t : Value → Value → Sem γ} {g1 g2 : V → V → Hp → Out β} (h1 : Op2 R I n t g1) (h2 : Op2 R I n t g2) : Op2 R I n t (orG2 g1 g2) := by
  intro f s H x Q E a b ra rb ok q S Ra Rb P
  cases e : g1 a b H with
  | stuck => exact h2 f s H x Q E a b ra rb ok q S Ra Rb (by unfold orG2 at P; rw [e] at P; exact P)
  | ok v H' => exact h1 f s H x Q E a b ra rb ok q S Ra Rb (by unfold orG2 at P; rw [e] at P; rw [e]; exact P)
  | fault m i H' => exact h1 f s H x Q E a b ra rb ok q S Ra Rb (by unfold orG2 at P; rw [e] at P; rw [e]; exact P)
theorem Op3.or {t : Value → Value → Value → Sem Unit} {g1 g2 : V → V → V → Hp → Out Unit} (h1 : Op3 I n t g1) (h2 : Op3 I n t g2) : Op3 I n t (orG3 g1 g2) := by
  intro f s H x Q E a b c ra rb rc ok q S Ra Rb Rc P
  cases e : g1 a b c H with
  | stuck => exact h2 f s H x Q E a b c ra rb rc ok q S Ra Rb Rc (by unfold orG3 at P; rw [e] at P; exact P)
  | ok v H' => exact h1 f s H x Q E a b c ra rb rc ok q S Ra Rb Rc (by unfold orG3 at P; rw [e] at P; rw [e]; exact P)
  | fault m i H' => exact h1 f s H x Q E a b c ra rb rc ok q S Ra Rb Rc (by unfold orG3 at P; rw [e] at P; rw [e]; exact P)
theorem Op3.less {t : Value → Value → Value → Sem Unit} {g : V → V → V → Hp → Out Unit} {n' : Nat} (h : Op3 I n t g) (k : n ≤ n') : Op3 I n' t g := fun f s H x Q E a b c ra rb rc ok => h f s H x Q E a b c ra rb rc (ok.less k)
noncomputable def vGetA := orG2 vGet vGetL
theorem se_getA {o i : Expr} {pos : Pos} {e1 e2 : Ex} (h1 : SE I n (eval o) e1) (h2 : SE I n (eval i) e2) (hn : 2 ≤ n) (hs : ∀ a b, subscripted i false a b = operate [a, b] (getItem a b) := by intro _ _; rfl) : SE I n (eval (.Subscript o i pos)) (bOp2 vGetA e1 e2) :=
  se_two (preX _) h1 h2 (((op_get hs).less hn).or (op_getL hs)) Subscript_
noncomputable def vInA := orG2 vIn vInL
theorem op_inA : Op2 RV I 2 (compareOp .In) vInA := op_in.or op_inL
noncomputable def vSet2 := orG3 vSet vSetL
theorem op_set2 (hro : I.ro = false) : Op3 I 2 setItem vSet2 := (op_set hro).or (op_setL hro)
noncomputable def TxIs (y : Str) (l : Tx) : Prop := y = tr l
theorem sps_consB {y : Str} {kk : Nat} {kp : Pos} {v : Expr} {keys : List (Option Expr)} {values : List Expr} {l : Tx} {ls : List Tx} {b : Ex} {bs : Exs} (hy : TxIs y l) (h1 : SE I n (eval v) b) (h2 : SPs I n keys values ls bs) : SPs I n (some (.Constant (.str y) kk kp) :: keys) (v :: values) (l :: ls) (bCons b bs) := sps_cons hy h1 h2
noncomputable def DictOk (keys : List (Option Expr)) (values : List Expr) (ks : List Tx) : Prop := (nodupTx ks && (keys.all (·.isSome) && (Nat.beq keys.length values.length && (!keys.isEmpty && Nat.ble keys.length 15)))) = true
theorem se_dictB (hro : I.ro = false) {keys : List (Option Expr)} {values : List Expr} {pos : Pos} {ks : List Tx} {es : Exs} (h : SPs I n keys values ks es) (hn : DictOk keys values ks) : SE I n (eval (.Dict keys values pos)) (bDict ks es) := by
  unfold DictOk at hn
  simp only [Bool.and_eq_true] at hn
  exact se_dict hro h hn.1 hn.2.1 (Nat.eq_of_beq_eq_true hn.2.2.1) (fun e => by rw [e] at hn; simp at hn) (Nat.le_of_ble_eq_true hn.2.2.2.2)
noncomputable def vNeg : V → Hp → Out V
  | .int a, H => .ok (.int (-a)) H
  | _, _ => .stuck
theorem op_neg : Op1 RV I n (unaryOp .USub) vNeg := by
  intro f s H x Q E a ra ok q S Ra P
  cases Ra <;> first | exact P.elim | skip
  exact neg_int (PE.done (R0 := fun f x v rv => VR f.w x.al x.fz v rv) P S (.int _ _) _)
end
end

section
open PySem PySem.W PySem.Calls PyProof.Rows PySem.Spec
noncomputable def closL (c : Str → Addr) : List (Str × NameKind) → List (Str × Addr) → List (Str × Addr)
  | [], cs => cs
  | (y, k) :: r, cs => if k == .free then closL c r ((y, c y) :: cs) else closL c r cs
theorem clos_of {scope : Scope} {env : Env} {c : Str → Addr} (h : ∀ y ∈ scope.names, y.2 = .free → env.cells.lookup y.1 = some (c y.1)) : closureFor scope env = pure (closL c scope.names []) := by
  unfold closureFor
  have key : ∀ (l : List (Str × NameKind)) (cs : List (Str × Addr)), (∀ y ∈ l, y.2 = .free → env.cells.lookup y.1 = some (c y.1)) →
      (forIn l cs fun x r => match x with | (name, kind) => if (kind == .free) = true then do let a ← cellOf env name; pure (ForInStep.yield ((name, a) :: r)) else pure (ForInStep.yield r)) = (pure (closL c l cs) : Sem _) := by
    intro l
    induction l with
    | nil => intro cs _; rfl
    | cons x l ih =>
      intro cs h
      obtain ⟨y, k⟩ := x
      rw [List.forIn_cons]
      dsimp only
      unfold closL
      by_cases hk : (k == NameKind.free) = true
      · rw [if_pos hk, if_pos hk]
        have e := h (y, k) (.head _) (by simpa using hk)
        unfold cellOf
        dsimp only at e
        rw [e]
        exact ih _ fun z hz => h z (.tail _ hz)
      · rw [if_neg hk, if_neg hk]
        exact ih _ fun z hz => h z (.tail _ hz)
  exact (congrArg (fun m => m >>= fun cs => pure cs) (key scope.names [] h)).trans rfl
theorem closL_old {c : Str → Addr} : ∀ {l : List (Str × NameKind)} {cs : List (Str × Addr)} {env : Str → Option Addr}, (∀ y ∈ l, y.2 = .free → env y.1 = some (c y.1)) → (∀ y a, cs.lookup y = some a → env y = some a) → ∀ y a, (closL c l cs).lookup y = some a → env y = some a
  | [], cs, env, _, h2, y, a, e => h2 y a e
  | (z, k) :: l, cs, env, h1, h2, y, a, e => by
    unfold closL at e
    split at e
    · rename_i hk
      refine closL_old (fun w hw => h1 w (.tail _ hw)) (fun w b hb => ?_) y a e
      rw [List.lookup_cons] at hb
      split at hb
      · rename_i hw
        cases hb
        rw [beq_iff_eq.mp hw]
        exact h1 (z, k) (.head _) (by simpa using hk)
      · exact h2 w b hb
    · exact closL_old (fun w hw => h1 w (.tail _ hw)) h2 y a e
theorem closL_has {c : Str → Addr} {y : Str} : ∀ {l : List (Str × NameKind)} {cs : List (Str × Addr)}, (y, NameKind.free) ∈ l ∨ (cs.lookup y).isSome = true → ((closL c l cs).lookup y).isSome = true
  | [], cs, h => by
    rcases h with h | h
    · cases h
    · exact h
  | (z, k) :: l, cs, h => by
    unfold closL
    split
    · rename_i hk
      refine closL_has ?_
      rcases h with h | h
      · rcases List.mem_cons.mp h with e | h
        · cases e; right; rw [List.lookup_cons]; simp
        · exact .inl h
      · right
        rw [List.lookup_cons]
        split
        · rfl
        · exact h
    · rename_i hk
      refine closL_has ?_
      rcases h with h | h
      · rcases List.mem_cons.mp h with e | h
        · cases e; exact absurd rfl hk
        · exact .inl h
      · exact .inr h
theorem clos_all {scope : Scope} {cns : List Str} (h1 : ∀ y ∈ scope.names, y.2 = .free → y.1 ∈ cns) (h2 : ∀ y ∈ cns, (y, NameKind.free) ∈ scope.names) (env : Env) (h : ∀ y ∈ cns, ∃ c, env.cells.lookup y = some c) :
    ∃ cl, closureFor scope env = pure cl ∧ (∀ y ∈ cns, cl.lookup y = env.cells.lookup y) ∧ ∀ y c, cl.lookup y = some c → env.cells.lookup y = some c := by
  have hc : ∀ y ∈ scope.names, y.2 = .free → env.cells.lookup y.1 = some ((fun z => (env.cells.lookup z).getD 0) y.1) := fun y hy hk => by
    obtain ⟨c, e⟩ := h _ (h1 y hy hk)
    simp [e]
  have old : ∀ y c, (closL (fun z => (env.cells.lookup z).getD 0) scope.names []).lookup y = some c → env.cells.lookup y = some c := closL_old (env := fun z => env.cells.lookup z) hc (fun y a e => by simp at e)
  refine ⟨_, clos_of hc, fun y hy => ?_, old⟩
  obtain ⟨a, ha⟩ := Option.isSome_iff_exists.mp (closL_has (c := fun z => (env.cells.lookup z).getD 0) (cs := []) (.inl (h2 y hy)))
  rw [ha, old y a ha]
noncomputable def CapsOk (I : Info) (cs2 : Scope) (k2 : NameKind) : List Nat → List Str → Prop
  | [], [] => True
  | i :: is, y :: ys => (I.vn[i]? = some y ∧ I.cs.names.lookup y = some .cell ∧ cs2.names.lookup y = some k2 ∧ (y == ("__classdict__" : Str)) = false) ∧ CapsOk I cs2 k2 is ys
  | _, _ => False
theorem CapsOk.at {I : Info} {cs2 : Scope} {k2 : NameKind} : ∀ {is : List Nat} {ys : List Str}, CapsOk I cs2 k2 is ys → ∀ {j i : Nat}, is[j]? = some i → ∃ y, I.vn[i]? = some y ∧ ys[j]? = some y ∧ I.cs.names.lookup y = some .cell ∧ cs2.names.lookup y = some k2 ∧ (y == ("__classdict__" : Str)) = false
  | [], [], _, j, i, e => by simp at e
  | a :: is, y :: ys, h, 0, i, e => by
    simp at e; subst e
    exact ⟨y, h.1.1, rfl, h.1.2⟩
  | a :: is, y :: ys, h, j + 1, i, e => by
    rw [List.getElem?_cons_succ] at e ⊢
    exact h.2.at e
theorem comp_ok {I : Info} {scope cs2 : Scope} {names cns : List Str} {caps : List Nat} (h : CapsOk I cs2 .cell caps cns) (rel : ∀ env : Env, env.scope = I.cs → relabel scope env = cs2) (kind : scope.kind = .function) (cell : ∀ y ∈ scope.names, y.2 ≠ .cell) (nms : ∀ y ∈ scope.names, y.2 = .local → scope.names.lookup y.1 = some .local) (loc : ∀ y ∈ names, cs2.names.lookup y = some .local) (dbg : ∀ y ∈ names ++ cns, (y == ("__debug__" : Str)) = false)
    (h1 : ∀ y ∈ scope.names, y.2 = .free → y.1 ∈ cns) (h2 : ∀ y ∈ cns, (y, NameKind.free) ∈ scope.names) : CompOk I ⟨names ++ cns, cs2, I.q, I.ro, none⟩ scope names cns caps :=
  ⟨rfl, fun j i e => let ⟨y, a, b, c, d, _⟩ := h.at e; ⟨y, a, b, c, d⟩, rfl, rfl, rfl, rel, kind, cell, nms, loc, dbg, fun env h => let ⟨cl, a, b, _⟩ := clos_all h1 h2 env h; ⟨cl, a, b⟩⟩
theorem lam_ok {I : Info} {lscope : Scope} {lvn : List Str} {caps : List Nat} {qual : Str} {c P : Addr} {lpos : Pos} {lq : Str} (own : I.own = some (qual, .ref c)) (q : I.q = false) (ro : I.ro = false) (hd : ∀ (w : World) (h : Heap), (KF w).In h → CodeHd h c P) (tab : TabAtP P lpos.line lpos.col lq) (hqn : ∀ cs L a cl, (envX qual cs L a (.ref c) cl).qual ++ "<lambda>" = lq)
    (h : CapsOk I lscope .free caps lvn) (len : lvn.length = caps.length) (kind : lscope.kind = .function) (co : lscope.isCoroutine = false) (gen : lscope.isGenerator = false) (cell : ∀ x ∈ lscope.names, x.2 ≠ .cell) (h1 : ∀ y ∈ lscope.names, y.2 = .free → y.1 ∈ lvn) (h2 : ∀ y ∈ lvn, (y, NameKind.free) ∈ lscope.names) : LamOk I lscope lvn caps qual c P lpos lq :=
  ⟨own, q, ro, hd, tab, hqn, len, fun j i e => h.at e, kind, co, gen, cell, clos_all h1 h2⟩
end

section
open PySem PySem.W PySem.Calls PyProof.Rows PySem.Spec
theorem call_any {q : Bool} {fa n : Nat} {F : List V → Hp → Out V} (C : FC true fa n F) : FC q fa n F := C.any q
noncomputable def cellS (s : Scope) : Scope := { s with names := s.names.map fun p => (p.1, match p.2 with | .free => .cell | k => k) }
section
variable {I : Info} {n : Nat} {elt target iter : Expr} {ifs : List Expr} {scope : Scope} {pos : Pos} {bd : V → Option (List V)} {c : Bx} {b e : Ex}
structure CompB (scope : Scope) (names cns : List Str) : Prop where
  kind : scope.kind = .function
  cell : ∀ y ∈ scope.names, y.2 ≠ .cell
  nms : ∀ y ∈ scope.names, y.2 = .local → scope.names.lookup y.1 = some .local
  loc : ∀ y ∈ names, (cellS scope).names.lookup y = some .local
  dbg : ∀ y ∈ names ++ cns, (y == ("__debug__" : Str)) = false
  h1 : ∀ y ∈ scope.names, y.2 = .free → y.1 ∈ cns
  h2 : ∀ y ∈ cns, (y, NameKind.free) ∈ scope.names
theorem se_compC (names cns : List Str) (caps : List Nat) (T : TgC target names bd) (rel : ∀ env : Env, env.scope = I.cs → relabel scope env = cellS scope) (B : CompB scope names cns) (hc : CapsOk I (cellS scope) .cell caps cns) (hl : cns.length = caps.length)
    (hs : ∀ env x, foldedSetIterable iter env x = pure x) (h1 : SE I n (eval iter) e) (hct : CTest ⟨names ++ cns, cellS scope, I.q, I.ro, none⟩ n ifs c) (hb : SE ⟨names ++ cns, cellS scope, I.q, I.ro, none⟩ n (eval elt) b) : SE I n (eval (.ListComp elt [⟨target, iter, ifs, 0⟩] scope pos)) (bComp caps bd c b e) :=
  se_comp h1 T (comp_ok hc rel B.kind B.cell B.nms B.loc B.dbg B.h1 B.h2) hl hct hb hs
theorem ss_compC (names cns : List Str) (caps : List Nat) {i : Nat} {y : Str} {py spos : Pos} (hy : NameOk I i y) (T : TgC target names bd) (rel : ∀ env : Env, env.scope = I.cs → relabel scope env = cellS scope) (B : CompB scope names cns) (hc : CapsOk I (cellS scope) .cell caps cns) (hl : cns.length = caps.length)
    (hsw : ∀ env : Env, env.scope = I.cs → swapsWith (.ListComp elt [⟨target, iter, ifs, 0⟩] scope pos) (some (.Name y py)) spos.line env = pure true)
    (hs : ∀ env x, foldedSetIterable iter env x = pure x) (h1 : SE I n (eval iter) e) (hct : CTest ⟨names ++ cns, cellS scope, I.q, I.ro, none⟩ n ifs c) (hb : SE ⟨names ++ cns, cellS scope, I.q, I.ro, none⟩ n (eval elt) b) :
    SS I n (exec (.Assign [.Name y py] (.ListComp elt [⟨target, iter, ifs, 0⟩] scope pos) spos)) (sAssign (bComp caps bd c b e) (tName i)) :=
  ss_compAs hy h1 T (comp_ok hc rel B.kind B.cell B.nms B.loc B.dbg B.h1 B.h2) hl hct hb hsw hs
end
theorem binds_nil {P : List Value → Prop} (h : P []) : ∀ l : List Value, l.length = 0 → P l := fun l q => by rw [List.eq_nil_of_length_eq_zero q]; exact h
theorem binds_cons {n : Nat} {P : List Value → Prop} (h : ∀ a l, l.length = n → P (a :: l)) : ∀ l : List Value, l.length = n + 1 → P l := fun l q => by
  cases l with
  | nil => cases q
  | cons a l => exact h a l (Nat.succ.inj q)
theorem binds0 {fd : FuncData} {ps : List Str} (h : bindArgs fd ⟨[], []⟩ = pure (ps.zip [])) : ∀ rvs : List Value, rvs.length = 0 → ∀ s, BindsTo s fd ⟨rvs, []⟩ (ps.zip rvs) :=
  binds_nil fun s => BindsTo.of_eq h
theorem binds1 {fd : FuncData} {ps : List Str} (h : ∀ a : Value, bindArgs fd ⟨[a], []⟩ = pure (ps.zip [a])) : ∀ rvs : List Value, rvs.length = 1 → ∀ s, BindsTo s fd ⟨rvs, []⟩ (ps.zip rvs) :=
  binds_cons fun a => binds_nil fun s => BindsTo.of_eq (h a)
theorem binds2 {fd : FuncData} {ps : List Str} (h : ∀ a b : Value, bindArgs fd ⟨[a, b], []⟩ = pure (ps.zip [a, b])) : ∀ rvs : List Value, rvs.length = 2 → ∀ s, BindsTo s fd ⟨rvs, []⟩ (ps.zip rvs) :=
  binds_cons fun a => binds_cons fun b => binds_nil fun s => BindsTo.of_eq (h a b)
theorem binds3 {fd : FuncData} {ps : List Str} (h : ∀ a b c : Value, bindArgs fd ⟨[a, b, c], []⟩ = pure (ps.zip [a, b, c])) : ∀ rvs : List Value, rvs.length = 3 → ∀ s, BindsTo s fd ⟨rvs, []⟩ (ps.zip rvs) :=
  binds_cons fun a => binds_cons fun b => binds_cons fun c => binds_nil fun s => BindsTo.of_eq (h a b c)
theorem binds4 {fd : FuncData} {ps : List Str} (h : ∀ a b c d : Value, bindArgs fd ⟨[a, b, c, d], []⟩ = pure (ps.zip [a, b, c, d])) : ∀ rvs : List Value, rvs.length = 4 → ∀ s, BindsTo s fd ⟨rvs, []⟩ (ps.zip rvs) :=
  binds_cons fun a => binds_cons fun b => binds_cons fun c => binds_cons fun d => binds_nil fun s => BindsTo.of_eq (h a b c d)
theorem binds5 {fd : FuncData} {ps : List Str} (h : ∀ a b c d e : Value, bindArgs fd ⟨[a, b, c, d, e], []⟩ = pure (ps.zip [a, b, c, d, e])) : ∀ rvs : List Value, rvs.length = 5 → ∀ s, BindsTo s fd ⟨rvs, []⟩ (ps.zip rvs) :=
  binds_cons fun a => binds_cons fun b => binds_cons fun c => binds_cons fun d => binds_cons fun e => binds_nil fun s => BindsTo.of_eq (h a b c d e)
theorem binds6 {fd : FuncData} {ps : List Str} (h : ∀ a b c d e f : Value, bindArgs fd ⟨[a, b, c, d, e, f], []⟩ = pure (ps.zip [a, b, c, d, e, f])) : ∀ rvs : List Value, rvs.length = 6 → ∀ s, BindsTo s fd ⟨rvs, []⟩ (ps.zip rvs) :=
  binds_cons fun a => binds_cons fun b => binds_cons fun c => binds_cons fun d => binds_cons fun e => binds_cons fun f => binds_nil fun s => BindsTo.of_eq (h a b c d e f)
theorem binds7 {fd : FuncData} {ps : List Str} (h : ∀ a b c d e f g : Value, bindArgs fd ⟨[a, b, c, d, e, f, g], []⟩ = pure (ps.zip [a, b, c, d, e, f, g])) : ∀ rvs : List Value, rvs.length = 7 → ∀ s, BindsTo s fd ⟨rvs, []⟩ (ps.zip rvs) :=
  binds_cons fun a => binds_cons fun b => binds_cons fun c => binds_cons fun d => binds_cons fun e => binds_cons fun f => binds_cons fun g => binds_nil fun s => BindsTo.of_eq (h a b c d e f g)
end

section
open PySem PySem.W PySem.Calls PyProof.Rows PySem.Spec
noncomputable def bTrue : Bx := fun _ H => .ok true H
noncomputable def f_joined : List V → Hp → Out V := runF 2 0 (sSeq (sRet (bIf (bOp2 (boolG vEqO) (bVar 0) (bVal (V.str []))) (bVar 1) (bOp2 vAdd (bOp2 vAdd (bVar 0) (bVal (V.str [58, 58]))) (bVar 1)))) sSkip)
noncomputable def f_parent_of : List V → Hp → Out V := fun _ _ => .stuck
noncomputable def f_is_within : List V → Hp → Out V := fun _ _ => .stuck
noncomputable def f_Table : List V → Hp → Out V := runF 1 0 (sSeq (sAssign bDict0 (tAttr (vSetA [116, 121, 112, 101, 115]) (bVar 0))) (sSeq (sAssign bDict0 (tAttr (vSetA [118, 97, 108, 117, 101, 115]) (bVar 0))) (sSeq (sAssign bDict0 (tAttr (vSetA [117, 115, 101, 115]) (bVar 0))) sSkip)))
noncomputable def f_space : List V → Hp → Out V := runF 2 0 (sSeq (sRet (bIf (bOp2 (boolG vEqO) (bVar 1) (bVal (V.str [116, 121, 112, 101]))) (bOp1 (vAttr [116, 121, 112, 101, 115]) (bVar 0)) (bOp1 (vAttr [118, 97, 108, 117, 101, 115]) (bVar 0)))) sSkip)
noncomputable def f_is_taken : List V → Hp → Out V := runF 3 0 (sSeq (sRet (bOrV (bOp2 vInA (bVar 1) (bOp1 (vAttr [117, 115, 101, 115]) (bVar 0))) (bOp2 vNeO (bComp [1, 0] bdName (bOp2 (boolG vInA) (bVar 1) (bMeth 142 [115, 112, 97, 99, 101] f_space (bVar 2) (bCons (bVar 0) bNil))) (bVar 0) (bVar 2)) (bLst bNil)))) sSkip)
noncomputable def f_can_see : List V → Hp → Out V := runF 4 0 (sSeq (sRet (bOrV (bVar 3) (bWith f_is_within (bCons (bVar 1) (bCons (bVar 2) bNil))))) sSkip)
noncomputable def f_begin : List V → Hp → Out V := runF 4 2 (sSeq (bIf (bOp2 (boolG vEqO) (bVar 2) (bTup bNil)) (sSeq (sRaise (bVal (V.str [97, 32, 112, 97, 116, 104, 32, 119, 105, 116, 104, 111, 117, 116, 32, 97, 32, 110, 97, 109, 101])) (bVar 3)) sSkip) sSkip) (sSeq (bIf (bOp2 (boolG vEqO) (bOp2 vGetA (bVar 2) (bVal (V.int 0))) (bVal (V.str [99, 114, 97, 116, 101]))) (sSeq (sRet (bTup (bCons (bVal (V.str [])) (bCons (bVal (V.int 1)) bNil)))) sSkip) sSkip) (sSeq (bIf (bTest (bOp1 (vInG [[99, 114, 97, 116, 101], [115, 101, 108, 102], [115, 117, 112, 101, 114]] true) (bOp2 vGetA (bVar 2) (bVal (V.int 0))))) (sSeq (sRet (bTup (bCons (bVal V.none) (bCons (bVal (V.int 0)) bNil)))) sSkip) sSkip) (sSeq (sSwap (bTup (bCons (bVar 1) (bCons (bIf (bOp2 (boolG vEqO) (bOp2 vGetA (bVar 2) (bVal (V.int 0))) (bVal (V.str [115, 101, 108, 102]))) (bVal (V.int 1)) (bVal (V.int 0))) bNil))) 2 (tCons (tName 5) (tCons (tName 4) tNil))) (sSeq (whileM (bAnd (bOp2 (boolG vLt) (bVar 5) (bWith fLen (bCons (bVar 2) bNil))) (bAnd (bOp2 (boolG vEqO) (bOp2 vGetA (bVar 2) (bVar 5)) (bVal (V.str [115, 117, 112, 101, 114]))) (bB true))) (sSeq (bIf (bOp2 (boolG vEqO) (bVar 4) (bVal (V.str []))) (sSeq (sRaise (bVal (V.str [116, 104, 101, 114, 101, 32, 105, 115, 32, 110, 111, 116, 104, 105, 110, 103, 32, 97, 98, 111, 118, 101, 32, 116, 104, 101, 32, 114, 111, 111, 116])) (bVar 3)) sSkip) sSkip) (sSeq (sSwap (bTup (bCons (bWith f_parent_of (bCons (bVar 4) bNil)) (bCons (bOp2 vAdd (bVar 5) (bVal (V.int 1))) bNil))) 2 (tCons (tName 5) (tCons (tName 4) tNil))) sSkip)) 40) (sSeq (sRet (bTup (bCons (bVar 4) (bCons (bVar 5) bNil)))) sSkip))))))
noncomputable def f_declare : List V → Hp → Out V := runF 7 3 (sSeq (sSwap (bTup (bCons (bOp2 vGetA (bOp1 (vAttr [116, 97, 98, 108, 101, 115]) (bVar 0)) (bVar 1)) (bCons (bWith f_joined (bCons (bVar 1) (bCons (bVar 2) bNil))) bNil))) 2 (tCons (tName 8) (tCons (tName 7) tNil))) (sSeq (bIf (bAnd (bOp2 (boolG vInA) (bVal (V.str [116, 121, 112, 101])) (bVar 4)) (bAnd (bTest (bOp1 (vInG [[105, 56], [105, 49, 54], [105, 51, 50], [105, 54, 52], [117, 56], [117, 49, 54], [117, 51, 50], [117, 54, 52], [117, 115, 105, 122, 101], [98, 111, 111, 108], [66, 111, 120]] false) (bVar 2))) (bB true))) (sSeq (sRaise (bOp2 vAdd (bOp2 vAdd (bVal (V.str [116, 104, 101, 32, 110, 97, 109, 101, 32])) (bVar 2)) (bVal (V.str [32, 105, 115, 32, 116, 104, 97, 116, 32, 111, 102, 32, 97, 32, 112, 108, 97, 105, 110, 32, 116, 121, 112, 101]))) (bVar 6)) sSkip) sSkip) (sSeq (bIf (bOr (bTest (bMeth 142 [105, 115, 95, 116, 97, 107, 101, 110] f_is_taken (bVar 7) (bCons (bVar 2) (bCons (bVar 4) bNil)))) (bOr (bOp2 (boolG vInA) (bVar 8) (bOp1 (vAttr [107, 105, 110, 100, 115]) (bVar 0))) (bB false))) (sSeq (sRaise (bOp2 vAdd (bOp2 vAdd (bVal (V.str [116, 104, 101, 32, 110, 97, 109, 101, 32])) (bVar 2)) (bVal (V.str [32, 105, 115, 32, 116, 111, 108, 100, 32, 116, 119, 105, 99, 101]))) (bVar 6)) sSkip) sSkip) (sSeq (sFor false (bVar 4) (tName 9) (sSeq (sAssign (bVar 8) (tSub vSet2 (bMeth 142 [115, 112, 97, 99, 101] f_space (bVar 7) (bCons (bVar 9) bNil)) (bVar 2))) sSkip)) (sSeq (sAssign (bVar 3) (tSub vSet2 (bOp1 (vAttr [107, 105, 110, 100, 115]) (bVar 0)) (bVar 8))) (sSeq (sAssign (bVar 5) (tSub vSet2 (bOp1 (vAttr [112, 117, 98, 108, 105, 99, 115]) (bVar 0)) (bVar 8))) sSkip))))))
noncomputable def f_declare_type : List V → Hp → Out V := runF 5 3 (sSeq (sExpr (bMeth 275 [100, 101, 99, 108, 97, 114, 101] f_declare (bVar 0) (bCons (bVar 1) (bCons (bOp2 vGetA (bVar 2) (bVal (V.int 2))) (bCons (bOp2 vGetA (bVar 2) (bVal (V.int 0))) (bCons (bVar 3) (bCons (bVar 4) (bCons (bOp2 vGetA (bVar 2) (bVal (V.int 1))) bNil)))))))) (sSeq (sAssign (bWith f_joined (bCons (bVar 1) (bCons (bOp2 vGetA (bVar 2) (bVal (V.int 2))) bNil))) (tName 5)) (sSeq (sAssign (bOp2 vGetA (bVar 2) (bVal (V.int 3))) (tTup 2 (tCons (tName 6) (tCons (tName 7) tNil)))) (sSeq (sAssign (bTup (bCons (bWith fTuple (bCons (bVar 6) bNil)) (bCons (bWith fTuple (bCons (bComp [] bdName bTrue (bOp2 vGetA (bVar 0) (bVal (V.int 0))) (bVar 7)) bNil)) bNil))) (tSub vSet2 (bOp1 (vAttr [103, 101, 110, 101, 114, 105, 99, 115]) (bVar 0)) (bVar 5))) (sSeq (sAssign (bVar 2) (tSub vSet2 (bOp1 (vAttr [105, 116, 101, 109, 115]) (bVar 0)) (bVar 5))) sSkip)))))
noncomputable def f_enter_variants : List V → Hp → Out V := runF 3 1 (sSeq (sFor false (bOp2 vGetA (bVar 2) (bVal (V.int 4))) (tName 3) (sSeq (bIf (bOp2 (boolG vInA) (bWith f_joined (bCons (bVar 1) (bCons (bOp2 vGetA (bVar 3) (bVal (V.int 0))) bNil))) (bOp1 (vAttr [107, 105, 110, 100, 115]) (bVar 0))) (sSeq (sRaise (bOp2 vAdd (bOp2 vAdd (bVal (V.str [116, 104, 101, 32, 118, 97, 114, 105, 97, 110, 116, 32])) (bOp2 vGetA (bVar 3) (bVal (V.int 0)))) (bVal (V.str [32, 105, 115, 32, 116, 111, 108, 100, 32, 116, 119, 105, 99, 101]))) (bOp2 vGetA (bVar 2) (bVal (V.int 1)))) sSkip) sSkip) (sSeq (sAssign (bVal (V.str [118, 97, 114, 105, 97, 110, 116])) (tSub vSet2 (bOp1 (vAttr [107, 105, 110, 100, 115]) (bVar 0)) (bWith f_joined (bCons (bVar 1) (bCons (bOp2 vGetA (bVar 3) (bVal (V.int 0))) bNil))))) sSkip))) sSkip)
noncomputable def f_enter_use : List V → Hp → Out V := runF 3 6 (sSeq (sAssign (bTup (bCons (bOp2 vGetA (bVar 2) (bVal (V.int 1))) (bCons (bOp2 vGetA (bVar 2) (bVal (V.int 2))) (bCons (bOp2 vGetA (bVar 2) (bVal (V.int 3))) (bCons (bOp2 vGetA (bVar 2) (bVal (V.int 4))) bNil))))) (tTup 4 (tCons (tName 3) (tCons (tName 4) (tCons (tName 5) (tCons (tName 6) tNil)))))) (sSeq (sAssign (bIf (bOp2 (boolG (vIsNone false)) (bVar 5) (bVal V.none)) (bOp2 vGetA (bVar 4) (bOp1 vNeg (bVal (V.int 1)))) (bVar 5)) (tName 7)) (sSeq (sAssign (bOp2 vGetA (bOp1 (vAttr [116, 97, 98, 108, 101, 115]) (bVar 0)) (bVar 1)) (tName 8)) (sSeq (bIf (bTest (bOp1 (vInG [[105, 56], [105, 49, 54], [105, 51, 50], [105, 54, 52], [117, 56], [117, 49, 54], [117, 51, 50], [117, 54, 52], [117, 115, 105, 122, 101], [98, 111, 111, 108], [66, 111, 120]] false) (bVar 7))) (sSeq (sRaise (bOp2 vAdd (bOp2 vAdd (bVal (V.str [116, 104, 101, 32, 110, 97, 109, 101, 32])) (bVar 7)) (bVal (V.str [32, 105, 115, 32, 116, 104, 97, 116, 32, 111, 102, 32, 97, 32, 112, 108, 97, 105, 110, 32, 116, 121, 112, 101]))) (bVar 3)) sSkip) sSkip) (sSeq (bIf (bOr (bTest (bOp1 (vInG [[99, 114, 97, 116, 101], [115, 101, 108, 102], [115, 117, 112, 101, 114]] false) (bVar 7))) (bOr (bTest (bMeth 142 [105, 115, 95, 116, 97, 107, 101, 110] f_is_taken (bVar 8) (bCons (bVar 7) (bCons (bTup (bCons (bVal (V.str [116, 121, 112, 101])) (bCons (bVal (V.str [118, 97, 108, 117, 101])) bNil))) bNil)))) (bB false))) (sSeq (sRaise (bOp2 vAdd (bOp2 vAdd (bVal (V.str [116, 104, 101, 32, 110, 97, 109, 101, 32])) (bVar 7)) (bVal (V.str [32, 105, 115, 32, 116, 111, 108, 100, 32, 116, 119, 105, 99, 101]))) (bVar 3)) sSkip) sSkip) (sSeq (sAssign (bWith fUse (bCons (bWith fTuple (bCons (bVar 4) bNil)) (bCons (bVar 6) (bCons (bVar 3) bNil)))) (tSub vSet2 (bOp1 (vAttr [117, 115, 101, 115]) (bVar 8)) (bVar 7))) sSkip))))))
noncomputable def f_enter : List V → Hp → Out V := runF 3 3 (sSeq (sSwap (bTup (bCons (bOp2 vGetA (bVar 2) (bVal (V.int 0))) (bCons (bOp2 vGetA (bVar 2) (bVal (V.int 1))) bNil))) 2 (tCons (tName 4) (tCons (tName 3) tNil))) (sSeq (bIf (bOp2 (boolG vEqO) (bVar 3) (bVal (V.str [117, 115, 101]))) (sSeq (sExpr (bMeth 275 [101, 110, 116, 101, 114, 95, 117, 115, 101] f_enter_use (bVar 0) (bCons (bVar 1) (bCons (bVar 2) bNil)))) sSkip) (sSeq (bIf (bOp2 (boolG vEqO) (bVar 3) (bVal (V.str [109, 111, 100]))) (sSeq (sExpr (bMeth 275 [100, 101, 99, 108, 97, 114, 101] f_declare (bVar 0) (bCons (bVar 1) (bCons (bOp2 vGetA (bVar 2) (bVal (V.int 2))) (bCons (bVar 3) (bCons (bTup (bCons (bVal (V.str [116, 121, 112, 101])) bNil)) (bCons (bOp2 vGetA (bVar 2) (bVal (V.int 4))) (bCons (bVar 4) bNil)))))))) (sSeq (sAssign (bWith (fMake 142 f_Table) bNil) (tSub vSet2 (bOp1 (vAttr [116, 97, 98, 108, 101, 115]) (bVar 0)) (bWith f_joined (bCons (bVar 1) (bCons (bOp2 vGetA (bVar 2) (bVal (V.int 2))) bNil))))) sSkip)) (sSeq (bIf (bOp2 (boolG vEqO) (bVar 3) (bVal (V.str [115, 116, 114, 117, 99, 116]))) (sSeq (sAssign (bIf (bOp2 (boolG vEqO) (bOp2 vGetA (bVar 2) (bVal (V.int 4))) (bVal (V.str [110, 97, 109, 101, 100]))) (bTup (bCons (bVal (V.str [116, 121, 112, 101])) bNil)) (bTup (bCons (bVal (V.str [116, 121, 112, 101])) (bCons (bVal (V.str [118, 97, 108, 117, 101])) bNil)))) (tName 5)) (sSeq (sExpr (bMeth 275 [100, 101, 99, 108, 97, 114, 101, 95, 116, 121, 112, 101] f_declare_type (bVar 0) (bCons (bVar 1) (bCons (bVar 2) (bCons (bVar 5) (bCons (bOp2 vGetA (bVar 2) (bVal (V.int 6))) bNil)))))) sSkip)) (sSeq (bIf (bOp2 (boolG vEqO) (bVar 3) (bVal (V.str [101, 110, 117, 109]))) (sSeq (sExpr (bMeth 275 [100, 101, 99, 108, 97, 114, 101, 95, 116, 121, 112, 101] f_declare_type (bVar 0) (bCons (bVar 1) (bCons (bVar 2) (bCons (bTup (bCons (bVal (V.str [116, 121, 112, 101])) bNil)) (bCons (bOp2 vGetA (bVar 2) (bVal (V.int 5))) bNil)))))) (sSeq (sExpr (bMeth 275 [101, 110, 116, 101, 114, 95, 118, 97, 114, 105, 97, 110, 116, 115] f_enter_variants (bVar 0) (bCons (bWith f_joined (bCons (bVar 1) (bCons (bOp2 vGetA (bVar 2) (bVal (V.int 2))) bNil))) (bCons (bVar 2) bNil)))) sSkip)) (sSeq (bIf (bOp2 (boolG vEqO) (bVar 3) (bVal (V.str [116, 114, 97, 105, 116]))) (sSeq (sExpr (bMeth 275 [100, 101, 99, 108, 97, 114, 101, 95, 116, 121, 112, 101] f_declare_type (bVar 0) (bCons (bVar 1) (bCons (bVar 2) (bCons (bTup (bCons (bVal (V.str [116, 121, 112, 101])) bNil)) (bCons (bOp2 vGetA (bVar 2) (bVal (V.int 5))) bNil)))))) sSkip) (sSeq (bIf (bOp2 (boolG vInA) (bVar 3) (bTup (bCons (bVal (V.str [102, 110])) (bCons (bVal (V.str [99, 111, 110, 115, 116])) bNil)))) (sSeq (sExpr (bMeth 275 [100, 101, 99, 108, 97, 114, 101] f_declare (bVar 0) (bCons (bVar 1) (bCons (bOp2 vGetA (bVar 2) (bVal (V.int 2))) (bCons (bVar 3) (bCons (bTup (bCons (bVal (V.str [118, 97, 108, 117, 101])) bNil)) (bCons (bIf (bOp2 (boolG vEqO) (bVar 3) (bVal (V.str [102, 110]))) (bOp2 vGetA (bVar 2) (bVal (V.int 8))) (bOp2 vGetA (bVar 2) (bVal (V.int 5)))) (bCons (bVar 4) bNil)))))))) (sSeq (sAssign (bVar 2) (tSub vSet2 (bOp1 (vAttr [105, 116, 101, 109, 115]) (bVar 0)) (bWith f_joined (bCons (bVar 1) (bCons (bOp2 vGetA (bVar 2) (bVal (V.int 2))) bNil))))) sSkip)) sSkip) sSkip)) sSkip)) sSkip)) sSkip)) sSkip)) sSkip))
noncomputable def f_Modules : List V → Hp → Out V := runF 2 4 (sSeq (sAssign (bDict [[]] (bCons (bVal (V.str [109, 111, 100])) bNil)) (tAttr (vSetA [107, 105, 110, 100, 115]) (bVar 0))) (sSeq (sAssign (bDict [[]] (bCons (bVal (V.bool true)) bNil)) (tAttr (vSetA [112, 117, 98, 108, 105, 99, 115]) (bVar 0))) (sSeq (sAssign (bDict [[]] (bCons (bWith (fMake 142 f_Table) bNil) bNil)) (tAttr (vSetA [116, 97, 98, 108, 101, 115]) (bVar 0))) (sSeq (sAssign bDict0 (tAttr (vSetA [103, 101, 110, 101, 114, 105, 99, 115]) (bVar 0))) (sSeq (sAssign bDict0 (tAttr (vSetA [105, 116, 101, 109, 115]) (bVar 0))) (sSeq (sAssign bDict0 (tAttr (vSetA [107, 101, 112, 116]) (bVar 0))) (sSeq (sAssign (bLstM (bCons (bTup (bCons (bVal (V.str [])) (bCons (bWith fList (bCons (bVar 1) bNil)) bNil))) bNil)) (tName 2)) (sSeq (whileM (bOp2 (boolG vNeO) (bVar 2) (bLst bNil)) (sSeq (sAssign (bMethB isList fPop (bVar 2) bNil) (tTup 2 (tCons (tName 3) (tCons (tName 4) tNil)))) (sSeq (sFor false (bVar 4) (tName 5) (sSeq (bIf (bOp2 (boolG vEqO) (bOp2 vGetA (bVar 5) (bVal (V.int 0))) (bVal (V.str [109, 111, 100]))) (sSeq (sExpr (bMethB isList fAppend (bVar 2) (bCons (bTup (bCons (bWith f_joined (bCons (bVar 3) (bCons (bOp2 vGetA (bVar 5) (bVal (V.int 2))) bNil))) (bCons (bWith fList (bCons (bOp2 vGetA (bVar 5) (bVal (V.int 3))) bNil)) bNil))) bNil))) sSkip) sSkip) (sSeq (sExpr (bMeth 275 [101, 110, 116, 101, 114] f_enter (bVar 0) (bCons (bVar 3) (bCons (bVar 5) bNil)))) sSkip))) sSkip)) 40) sSkip))))))))
noncomputable def f_look (g_follow : List V → Hp → Out V) : List V → Hp → Out V := runF 7 3 (sSeq (bIf (bOp2 (boolG vEqO) (bOp2 vGetA (bOp1 (vAttr [107, 105, 110, 100, 115]) (bVar 0)) (bVar 2)) (bVal (V.str [101, 110, 117, 109]))) (sSeq (sAssign (bWith f_joined (bCons (bVar 2) (bCons (bVar 3) bNil))) (tName 7)) (sSeq (sRet (bIf (bOp2 (boolG vEqO) (bMethB isDict fGet (bOp1 (vAttr [107, 105, 110, 100, 115]) (bVar 0)) (bCons (bVar 7) bNil)) (bVal (V.str [118, 97, 114, 105, 97, 110, 116]))) (bVar 7) (bVal V.none))) sSkip)) sSkip) (sSeq (bIf (bOp2 (boolG vNeO) (bOp2 vGetA (bOp1 (vAttr [107, 105, 110, 100, 115]) (bVar 0)) (bVar 2)) (bVal (V.str [109, 111, 100]))) (sSeq (sRet (bVal V.none)) sSkip) sSkip) (sSeq (sAssign (bOp2 vGetA (bOp1 (vAttr [116, 97, 98, 108, 101, 115]) (bVar 0)) (bVar 2)) (tName 8)) (sSeq (sAssign (bMethB isDict fGet (bMeth 142 [115, 112, 97, 99, 101] f_space (bVar 8) (bCons (bVar 4) bNil)) (bCons (bVar 3) bNil)) (tName 7)) (sSeq (bIf (bOp2 (boolG (vIsNone true)) (bVar 7) (bVal V.none)) (sSeq (bIf (bNotT (bTest (bMeth 275 [99, 97, 110, 95, 115, 101, 101] f_can_see (bVar 0) (bCons (bVar 1) (bCons (bVar 2) (bCons (bOp2 vGetA (bOp1 (vAttr [112, 117, 98, 108, 105, 99, 115]) (bVar 0)) (bVar 7)) bNil)))))) (sSeq (fun _ _ => .stuck) sSkip) sSkip) (sSeq (sRet (bVar 7)) sSkip)) sSkip) (sSeq (sAssign (bMethB isDict fGet (bOp1 (vAttr [117, 115, 101, 115]) (bVar 8)) (bCons (bVar 3) bNil)) (tName 9)) (sSeq (bIf (bOp2 (boolG (vIsNone false)) (bVar 9) (bVal V.none)) (sSeq (sRet (bVal V.none)) sSkip) sSkip) (sSeq (bIf (bNotT (bTest (bMeth 275 [99, 97, 110, 95, 115, 101, 101] f_can_see (bVar 0) (bCons (bVar 1) (bCons (bVar 2) (bCons (bOp1 (vAttr [105, 115, 95, 112, 117, 98]) (bVar 9)) bNil)))))) (sSeq (fun _ _ => .stuck) sSkip) sSkip) (sSeq (sRet (bMeth 275 [102, 111, 108, 108, 111, 119] g_follow (bVar 0) (bCons (bVar 2) (bCons (bVar 3) (bCons (bVar 9) (bCons (bVar 4) (bCons (bVar 6) bNil))))))) sSkip)))))))))
noncomputable def f_step (g_look : List V → Hp → Out V) : List V → Hp → Out V := runF 7 1 (sSeq (bIf (bOp2 (boolG (vIsNone true)) (bVar 2) (bVal V.none)) (sSeq (sRet (bMeth 275 [108, 111, 111, 107] g_look (bVar 0) (bCons (bVar 1) (bCons (bVar 2) (bCons (bVar 3) (bCons (bVar 4) (bCons (bVar 5) (bCons (bVar 6) bNil)))))))) sSkip) sSkip) (sSeq (sAssign (bMeth 275 [108, 111, 111, 107] g_look (bVar 0) (bCons (bVar 1) (bCons (bVar 1) (bCons (bVar 3) (bCons (bVar 4) (bCons (bVar 5) (bCons (bVar 6) bNil))))))) (tName 7)) (sSeq (bIf (bAnd (bOp2 (boolG (vIsNone false)) (bVar 7) (bVal V.none)) (bAnd (bTest (bOp1 (vInG [[67, 108, 111, 110, 101], [67, 111, 112, 121], [68, 101, 102, 97, 117, 108, 116], [68, 114, 111, 112], [69, 114, 114], [78, 111, 110, 101], [79, 107], [79, 112, 116, 105, 111, 110], [82, 97, 110, 103, 101, 56], [82, 101, 115, 117, 108, 116], [83, 111, 109, 101], [86, 101, 99, 56], [115, 119, 97, 112, 112, 101, 100]] false) (bVar 3))) (bB true))) (sSeq (sAssign (bMeth 275 [108, 111, 111, 107] g_look (bVar 0) (bCons (bVar 1) (bCons (bVal (V.str [])) (bCons (bVar 3) (bCons (bVar 4) (bCons (bVar 5) (bCons (bVar 6) bNil))))))) (tName 7)) sSkip) sSkip) (sSeq (sRet (bVar 7)) sSkip))))
noncomputable def f_walk (g_step : List V → Hp → Out V) : List V → Hp → Out V := runF 6 4 (sSeq (sAssign (bMeth 275 [98, 101, 103, 105, 110] f_begin (bVar 0) (bCons (bVar 1) (bCons (bVar 2) (bCons (bVar 4) bNil)))) (tTup 2 (tCons (tName 6) (tCons (tName 7) tNil)))) (sSeq (whileM (bOp2 (boolG vLt) (bVar 7) (bWith fLen (bCons (bVar 2) bNil))) (sSeq (sAssign (bIf (bOp2 (boolG vEqO) (bOp2 vAdd (bVar 7) (bVal (V.int 1))) (bWith fLen (bCons (bVar 2) bNil))) (bVar 3) (bVal (V.str [116, 121, 112, 101]))) (tName 8)) (sSeq (sAssign (bMeth 275 [115, 116, 101, 112] g_step (bVar 0) (bCons (bVar 1) (bCons (bVar 6) (bCons (bOp2 vGetA (bVar 2) (bVar 7)) (bCons (bVar 8) (bCons (bVar 4) (bCons (bVar 5) bNil))))))) (tName 9)) (sSeq (bIf (bOp2 (boolG (vIsNone false)) (bVar 9) (bVal V.none)) (sSeq (sRaise (bOp2 vAdd (bVal (V.str [110, 111, 116, 104, 105, 110, 103, 32, 105, 115, 32, 110, 97, 109, 101, 100, 32])) (bMethB isStr fJoin (bVal (V.str [58, 58])) (bCons (bVar 2) bNil))) (bVar 4)) sSkip) sSkip) (sSeq (sSwap (bTup (bCons (bVar 9) (bCons (bOp2 vAdd (bVar 7) (bVal (V.int 1))) bNil))) 2 (tCons (tName 7) (tCons (tName 6) tNil))) sSkip)))) 40) (sSeq (bIf (bOr (bOp2 (boolG (vIsNone false)) (bVar 6) (bVal V.none)) (bOr (bAnd (bOp2 (boolG vEqO) (bVar 3) (bVal (V.str [118, 97, 108, 117, 101]))) (bAnd (bOp2 (boolG vEqO) (bOp2 vGetA (bOp1 (vAttr [107, 105, 110, 100, 115]) (bVar 0)) (bVar 6)) (bVal (V.str [109, 111, 100]))) (bB true))) (bB false))) (sSeq (sRaise (bOp2 vAdd (bVal (V.str [110, 111, 116, 104, 105, 110, 103, 32, 105, 115, 32, 110, 97, 109, 101, 100, 32])) (bMethB isStr fJoin (bVal (V.str [58, 58])) (bCons (bVar 2) bNil))) (bVar 4)) sSkip) sSkip) (sSeq (sRet (bVar 6)) sSkip))))
noncomputable def f_followS (g_walk : List V → Hp → Out V) : List V → Hp → Out V := runF 6 1 (sSeq (bIf (bOp2 (boolG vInA) (bTup (bCons (bVar 1) (bCons (bVar 2) (bCons (bVar 4) bNil)))) (bOp1 (vAttr [107, 101, 112, 116]) (bVar 0))) (sSeq (sRet (bOp2 vGetA (bOp1 (vAttr [107, 101, 112, 116]) (bVar 0)) (bTup (bCons (bVar 1) (bCons (bVar 2) (bCons (bVar 4) bNil)))))) sSkip) sSkip) (sSeq (bIf (bOr (bOp2 (boolG vInA) (bTup (bCons (bVar 1) (bCons (bVar 2) bNil))) (bVar 5)) (bOr (bOp2 (boolG vGe) (bWith fLen (bCons (bVar 5) bNil)) (bVal (V.int 30))) (bB false))) (sSeq (sRaise (bOp2 vAdd (bVal (V.str (have y := have y := have y := [116, 104, 101, 109, 58, 32]; 121 :: 32 :: 111 :: 102 :: 32 :: y; have y := 111 :: 32 :: 109 :: 97 :: 110 :: y; 111 :: 114 :: 32 :: 116 :: 111 :: y; have y := have y := 32 :: 101 :: 110 :: 100 :: 44 :: 32 :: y; 117 :: 116 :: 32 :: 97 :: 110 :: y; have y := 119 :: 105 :: 116 :: 104 :: 111 :: y; 117 :: 115 :: 101 :: 115 :: 32 :: y))) (bVar 2)) (bOp1 (vAttr [115, 112, 111, 116]) (bVar 3))) sSkip) sSkip) (sSeq (sAssign (bMeth 275 [119, 97, 108, 107] g_walk (bVar 0) (bCons (bVar 1) (bCons (bOp1 (vAttr [110, 97, 109, 101, 115]) (bVar 3)) (bCons (bVar 4) (bCons (bOp1 (vAttr [115, 112, 111, 116]) (bVar 3)) (bCons (bOp2 vAdd (bVar 5) (bLst (bCons (bTup (bCons (bVar 1) (bCons (bVar 2) bNil))) bNil))) bNil)))))) (tName 6)) (sSeq (sAssign (bVar 6) (tSub vSet2 (bOp1 (vAttr [107, 101, 112, 116]) (bVar 0)) (bTup (bCons (bVar 1) (bCons (bVar 2) (bCons (bVar 4) bNil)))))) (sSeq (sRet (bVar 6)) sSkip)))))
noncomputable def f_follow0 : Nat → List V → Hp → Out V
  | 0 => fun _ _ => .stuck
  | k + 1 => f_followS (f_walk (f_step (f_look (f_follow0 k))))
noncomputable def f_follow : List V → Hp → Out V := f_follow0 33
noncomputable def f__law_take : List V → Hp → Out V := runF 2 1 (sSeq (bIf (bOp2 (boolG vGt) (bOp2 vGetA (bVar 0) (bVal (V.int 0))) (bVal (V.int 0))) (sSeq (sAssign (bOp2 vMod (bOp2 vGetA (bVar 0) (bVal (V.int 0))) (bVar 1)) (tName 2)) (sSeq (sAssign (bOp2 vFdiv (bOp2 vGetA (bVar 0) (bVal (V.int 0))) (bVar 1)) (tSub vSet2 (bVar 0) (bVal (V.int 0)))) (sSeq (sRet (bVar 2)) sSkip))) sSkip) (sSeq (sAssign (bOp2 vMod (bOp2 vAdd (bOp2 vMul (bOp2 vGetA (bVar 0) (bVal (V.int 1))) (bVal (V.int 39373))) (bVal (V.int 7))) (bVal (V.int 2147483647))) (tSub vSet2 (bVar 0) (bVal (V.int 1)))) (sSeq (sRet (bOp2 vMod (bOp2 vFdiv (bOp2 vMod (bOp2 vMul (bOp2 vGetA (bVar 0) (bVal (V.int 1))) (bOp2 vGetA (bVar 0) (bVal (V.int 1)))) (bVal (V.int 2147483629))) (bVal (V.int 32))) (bVar 1))) sSkip)))
noncomputable def f__law_one : List V → Hp → Out V := runF 2 0 (sSeq (sRet (bOp2 vGetA (bVar 1) (bWith f__law_take (bCons (bVar 0) (bCons (bWith fLen (bCons (bVar 1) bNil)) bNil))))) sSkip)
noncomputable def f__law_pool : List V → Hp → Out V := runF 1 2 (sSeq (sAssign (bIf (bOp2 (boolG vNeO) (bVar 0) (bLst bNil)) (bOp2 vGetA (bVar 0) (bVal (V.int 0))) (bVal (V.int 0))) (tName 1)) (sSeq (sAssign (bWith fMax (bCons (bVar 1) (bCons (bOp2 vSub (bOp1 vNeg (bVal (V.int 1))) (bVar 1)) bNil))) (tName 2)) (sSeq (sRet (bLstM (bCons (bOp2 vMul (bVar 2) (bWith fIntB (bCons (bOp2 vGe (bVar 2) (bOp2 vPow (bVal (V.int 10)) (bVal (V.int 18)))) bNil))) (bCons (bOp2 vMod (bOp2 vMul (bOp2 vAdd (bOp2 vMod (bVar 2) (bVal (V.int 2147483629))) (bVal (V.int 17))) (bVal (V.int 48271))) (bVal (V.int 2147483647))) bNil)))) sSkip)))
noncomputable def f__law_modules : List V → Hp → Out V := runF 0 0 (sSeq (sRet (bWith (fMake 275 f_Modules) (bCons (bLst (bCons (bTup (bCons (bVal (V.str [109, 111, 100])) (bCons (bVal (V.int 0)) (bCons (bVal (V.str [109])) (bCons (bTup bNil) (bCons (bVal (V.bool true)) bNil)))))) bNil)) bNil))) sSkip)
noncomputable def f__law_path : List V → Hp → Out V := runF 2 0 (sSeq (sRet (bIf (bOp2 (boolG vEqO) (bVar 0) (bVal (V.str []))) (bVar 1) (bOp2 vAdd (bOp2 vAdd (bVar 0) (bVal (V.str [58, 58]))) (bVar 1)))) sSkip)
noncomputable def f__law_book : List V → Hp → Out V := runF 0 1 (sSeq (sAssign (bDict [[], [109]] (bCons (bDict [[116, 121, 112, 101], [118, 97, 108, 117, 101], [117, 115, 101]] (bCons (bDict [[109]] (bCons (bVal (V.str [109])) bNil)) (bCons bDict0 (bCons bDict0 bNil)))) (bCons (bDict [[116, 121, 112, 101], [118, 97, 108, 117, 101], [117, 115, 101]] (bCons bDict0 (bCons bDict0 (bCons bDict0 bNil)))) bNil))) (tName 0)) (sSeq (sRet (bTup (bCons (bVar 0) (bCons (bDict [[], [109]] (bCons (bVal (V.str [109, 111, 100])) (bCons (bVal (V.str [109, 111, 100])) bNil))) (bCons bDict0 (bCons (bDict [[], [109]] (bCons (bVal (V.bool true)) (bCons (bVal (V.bool true)) bNil))) (bCons bDict0 bNil))))))) sSkip))
noncomputable def f__law_is_alike : List V → Hp → Out V := runF 2 10 (sSeq (sAssign (bVar 1) (tTup 5 (tCons (tName 2) (tCons (tName 3) (tCons (tName 4) (tCons (tName 5) (tCons (tName 6) tNil))))))) (sSeq (sFor true (bLst (bCons (bVal (V.str [])) (bCons (bVal (V.str [109])) bNil))) (tName 7) (sSeq (sSwap (bTup (bCons (bOp2 vGetA (bOp1 (vAttr [116, 97, 98, 108, 101, 115]) (bVar 0)) (bVar 7)) (bCons (bOp2 vGetA (bVar 2) (bVar 7)) bNil))) 2 (tCons (tName 9) (tCons (tName 8) tNil))) (sSeq (bIf (bOr (bOp2 (boolG vNeO) (bOp1 (vAttr [116, 121, 112, 101, 115]) (bVar 8)) (bOp2 vGetA (bVar 9) (bVal (V.str [116, 121, 112, 101])))) (bOr (bOp2 (boolG vNeO) (bOp1 (vAttr [118, 97, 108, 117, 101, 115]) (bVar 8)) (bOp2 vGetA (bVar 9) (bVal (V.str [118, 97, 108, 117, 101])))) (bOr (bSortedNe (bOp1 (vAttr [117, 115, 101, 115]) (bVar 8)) (bOp2 vGetA (bVar 9) (bVal (V.str [117, 115, 101])))) (bB false)))) (sSeq (sRet (bVal (V.bool false))) sSkip) sSkip) (sSeq (sFor true (bOp2 vGetA (bVar 9) (bVal (V.str [117, 115, 101]))) (tName 10) (sSeq (sAssign (bOp2 vGetA (bOp1 (vAttr [117, 115, 101, 115]) (bVar 8)) (bVar 10)) (tName 11)) (sSeq (bIf (bOp2 (boolG vNeO) (bTup (bCons (bOp1 (vAttr [110, 97, 109, 101, 115]) (bVar 11)) (bCons (bOp1 (vAttr [105, 115, 95, 112, 117, 98]) (bVar 11)) (bCons (bOp1 (vAttr [115, 112, 111, 116]) (bVar 11)) bNil)))) (bOp2 vGetA (bOp2 vGetA (bVar 9) (bVal (V.str [117, 115, 101]))) (bVar 10))) (sSeq (sRet (bVal (V.bool false))) sSkip) sSkip) sSkip))) sSkip)))) (sSeq (bIf (bOr (bOp2 (boolG vNeO) (bOp1 (vAttr [107, 105, 110, 100, 115]) (bVar 0)) (bVar 3)) (bOr (bOp2 (boolG vNeO) (bOp1 (vAttr [105, 116, 101, 109, 115]) (bVar 0)) (bVar 6)) (bB false))) (sSeq (sRet (bVal (V.bool false))) sSkip) sSkip) (sSeq (sRet (bAndV (bOp2 vEqO (bOp1 (vAttr [103, 101, 110, 101, 114, 105, 99, 115]) (bVar 0)) (bVar 4)) (bOp2 vEqO (bOp1 (vAttr [112, 117, 98, 108, 105, 99, 115]) (bVar 0)) (bVar 5)))) sSkip))))
noncomputable def f__law_refusal : List V → Hp → Out V := runF 6 2 (sSeq (sAssign (bOp2 vGetA (bVar 0) (bVar 2)) (tName 6)) (sSeq (bIf (bAnd (bOp2 (boolG vInA) (bVal (V.str [116, 121, 112, 101])) (bVar 4)) (bAnd (bOp2 (boolG vInA) (bVar 3) (bLst (bCons (bVal (V.str [117, 56])) (bCons (bVal (V.str [66, 111, 120])) (bCons (bVal (V.str [98, 111, 111, 108])) bNil))))) (bB true))) (sSeq (sRet (bLst (bCons (bOp2 vAdd (bOp2 vAdd (bVal (V.str [116, 104, 101, 32, 110, 97, 109, 101, 32])) (bVar 3)) (bVal (V.str [32, 105, 115, 32, 116, 104, 97, 116, 32, 111, 102, 32, 97, 32, 112, 108, 97, 105, 110, 32, 116, 121, 112, 101]))) (bCons (bVar 5) bNil)))) sSkip) sSkip) (sSeq (sAssign (bComp [3, 6] bdName (bOp2 (boolG vInA) (bVar 1) (bOp2 vGetA (bVar 2) (bVar 0))) (bVar 0) (bVar 4)) (tName 7)) (sSeq (bIf (bOr (bOp2 (boolG vInA) (bVar 3) (bOp2 vGetA (bVar 6) (bVal (V.str [117, 115, 101])))) (bOr (bOp2 (boolG vNeO) (bVar 7) (bLst bNil)) (bOr (bOp2 (boolG vInA) (bWith f__law_path (bCons (bVar 2) (bCons (bVar 3) bNil))) (bVar 1)) (bB false)))) (sSeq (sRet (bLst (bCons (bOp2 vAdd (bOp2 vAdd (bVal (V.str [116, 104, 101, 32, 110, 97, 109, 101, 32])) (bVar 3)) (bVal (V.str [32, 105, 115, 32, 116, 111, 108, 100, 32, 116, 119, 105, 99, 101]))) (bCons (bVar 5) bNil)))) sSkip) sSkip) (sSeq (sRet (bVal V.none)) sSkip)))))
noncomputable def f__law_item : List V → Hp → Out V := runF 3 2 (sSeq (sAssign (bWith f__law_one (bCons (bVar 0) (bCons (bLst (bCons (bVal (V.str [115, 116, 114, 117, 99, 116])) (bCons (bVal (V.str [101, 110, 117, 109])) (bCons (bVal (V.str [116, 114, 97, 105, 116])) bNil)))) bNil))) (tName 3)) (sSeq (sAssign (bWith f__law_one (bCons (bVar 0) (bCons (bLst (bCons (bTup (bCons (bTup bNil) (bCons (bTup bNil) bNil))) (bCons (bTup (bCons (bTup (bCons (bVal (V.str [39, 97])) bNil)) (bCons (bTup (bCons (bTup (bCons (bVal (V.str [84])) (bCons (bTup bNil) bNil))) bNil)) bNil))) (bCons (bTup (bCons (bTup bNil) (bCons (bTup (bCons (bTup (bCons (bVal (V.str [84])) (bCons (bTup bNil) bNil))) (bCons (bTup (bCons (bVal (V.str [85])) (bCons (bTup bNil) bNil))) bNil))) bNil))) bNil)))) bNil))) (tName 4)) (sSeq (sRet (bTup (bCons (bVar 3) (bCons (bVar 2) (bCons (bVar 1) (bCons (bVar 4) (bCons (bTup bNil) (bCons (bVal (V.bool true)) bNil)))))))) sSkip)))
noncomputable def f__law_type_right : List V → Hp → Out V := runF 6 8 (sSeq (sAssign (bVar 1) (tTup 5 (tCons (tName 6) (tCons (tName 7) (tCons (tName 8) (tCons (tName 9) (tCons (tName 10) tNil))))))) (sSeq (sAssign (bWith f__law_path (bCons (bVar 2) (bCons (bOp2 vGetA (bVar 3) (bVal (V.int 2))) bNil))) (tName 11)) (sSeq (sAssign (bWith f__law_refusal (bCons (bVar 6) (bCons (bVar 7) (bCons (bVar 2) (bCons (bOp2 vGetA (bVar 3) (bVal (V.int 2))) (bCons (bVar 4) (bCons (bOp2 vGetA (bVar 3) (bVal (V.int 1))) bNil))))))) (tName 12)) (sSeq (bIf (bOp2 (boolG vNeO) (bHeard [5, 3, 2, 0, 4] (bLam [100, 101, 99, 108, 97, 114, 101, 95, 116, 121, 112, 101] f_declare_type (bVar 3) (bCons (bVar 2) (bCons (bVar 1) (bCons (bVar 4) (bCons (bVar 0) bNil)))))) (bVar 12)) (sSeq (sRet (bVal (V.bool false))) sSkip) sSkip) (sSeq (bIf (bOp2 (boolG (vIsNone false)) (bVar 12) (bVal V.none)) (sSeq (sFor false (bVar 4) (tName 13) (sSeq (sAssign (bVar 11) (tSub vSet2 (bOp2 vGetA (bOp2 vGetA (bVar 6) (bVar 2)) (bVar 13)) (bOp2 vGetA (bVar 3) (bVal (V.int 2))))) sSkip)) (sSeq (sAssign (bTup (bCons (bOp2 vGetA (bVar 3) (bVal (V.int 0))) (bCons (bVar 5) bNil))) (tTup 2 (tCons (tSub vSet2 (bVar 7) (bVar 11)) (tCons (tSub vSet2 (bVar 9) (bVar 11)) tNil)))) (sSeq (sAssign (bTup (bCons (bOp2 vGetA (bOp2 vGetA (bVar 3) (bVal (V.int 3))) (bVal (V.int 0))) (bCons (bWith fTuple (bCons (bComp [] bdPair bTrue (bVar 0) (bOp2 vGetA (bOp2 vGetA (bVar 3) (bVal (V.int 3))) (bVal (V.int 1)))) bNil)) bNil))) (tSub vSet2 (bVar 8) (bVar 11))) (sSeq (sAssign (bVar 3) (tSub vSet2 (bVar 10) (bVar 11))) sSkip)))) sSkip) (sSeq (sRet (bWith f__law_is_alike (bCons (bVar 0) (bCons (bVar 1) bNil)))) sSkip))))))
noncomputable def f__law_variants_right : List V → Hp → Out V := runF 5 4 (sSeq (sSwap (bTup (bCons (bOp2 vGetA (bVar 1) (bVal (V.int 1))) (bCons (bVal V.none) bNil))) 2 (tCons (tName 6) (tCons (tName 5) tNil))) (sSeq (sAssign (bTup (bCons (bVal (V.str [101, 110, 117, 109])) (bCons (bVar 4) (bCons (bVal (V.str [69])) (bCons (bTup (bCons (bTup bNil) (bCons (bTup bNil) bNil))) (bCons (bWith fTuple (bCons (bComp [] bdName bTrue (bTup (bCons (bVar 0) (bCons (bVal (V.str [117, 110, 105, 116])) (bCons (bTup bNil) bNil)))) (bVar 3)) bNil)) (bCons (bVal (V.bool true)) bNil))))))) (tName 7)) (sSeq (sFor false (bVar 3) (tName 8) (sSeq (bIf (bOp2 (boolG vInA) (bOp2 vAdd (bOp2 vAdd (bVar 2) (bVal (V.str [58, 58]))) (bVar 8)) (bVar 5)) (sSeq (sAssign (bLst (bCons (bOp2 vAdd (bOp2 vAdd (bVal (V.str [116, 104, 101, 32, 118, 97, 114, 105, 97, 110, 116, 32])) (bVar 8)) (bVal (V.str [32, 105, 115, 32, 116, 111, 108, 100, 32, 116, 119, 105, 99, 101]))) (bCons (bVar 4) bNil))) (tName 6)) (sSeq sBrk sSkip)) sSkip) (sSeq (sAssign (bVal (V.str [118, 97, 114, 105, 97, 110, 116])) (tSub vSet2 (bVar 5) (bOp2 vAdd (bOp2 vAdd (bVar 2) (bVal (V.str [58, 58]))) (bVar 8)))) sSkip))) (sSeq (sRet (bAndV (bOp2 vEqO (bHeard [7, 0, 2] (bLam [101, 110, 116, 101, 114, 95, 118, 97, 114, 105, 97, 110, 116, 115] f_enter_variants (bVar 1) (bCons (bVar 2) (bCons (bVar 0) bNil)))) (bVar 6)) (bWith f__law_is_alike (bCons (bVar 0) (bCons (bVar 1) bNil))))) sSkip))))
noncomputable def f__law_use_right : List V → Hp → Out V := runF 4 8 (sSeq (sAssign (bVar 3) (tTup 4 (tCons (tName 4) (tCons (tName 5) (tCons (tName 6) (tCons (tName 7) tNil)))))) (sSeq (sSwap (bTup (bCons (bOp2 vGetA (bOp2 vGetA (bVar 1) (bVal (V.int 0))) (bVar 2)) (bCons (bIf (bOp2 (boolG (vIsNone false)) (bVar 5) (bVal V.none)) (bOp2 vGetA (bVar 4) (bOp1 vNeg (bVal (V.int 1)))) (bVar 5)) bNil))) 2 (tCons (tName 9) (tCons (tName 8) tNil))) (sSeq (sAssign (bVal V.none) (tName 10)) (sSeq (bIf (bOp2 (boolG vInA) (bVar 9) (bLst (bCons (bVal (V.str [117, 56])) (bCons (bVal (V.str [66, 111, 120])) (bCons (bVal (V.str [98, 111, 111, 108])) bNil))))) (sSeq (sAssign (bLst (bCons (bOp2 vAdd (bOp2 vAdd (bVal (V.str [116, 104, 101, 32, 110, 97, 109, 101, 32])) (bVar 9)) (bVal (V.str [32, 105, 115, 32, 116, 104, 97, 116, 32, 111, 102, 32, 97, 32, 112, 108, 97, 105, 110, 32, 116, 121, 112, 101]))) (bCons (bVar 7) bNil))) (tName 10)) sSkip) (sSeq (bIf (bOr (bOp2 (boolG vInA) (bVar 9) (bLst (bCons (bVal (V.str [99, 114, 97, 116, 101])) (bCons (bVal (V.str [115, 101, 108, 102])) (bCons (bVal (V.str [115, 117, 112, 101, 114])) bNil))))) (bOr (bOp2 (boolG vInA) (bVar 9) (bOp2 vGetA (bVar 8) (bVal (V.str [117, 115, 101])))) (bOr (bOp2 (boolG vInA) (bVar 9) (bOp2 vGetA (bVar 8) (bVal (V.str [116, 121, 112, 101])))) (bOr (bOp2 (boolG vInA) (bVar 9) (bOp2 vGetA (bVar 8) (bVal (V.str [118, 97, 108, 117, 101])))) (bB false))))) (sSeq (sAssign (bLst (bCons (bOp2 vAdd (bOp2 vAdd (bVal (V.str [116, 104, 101, 32, 110, 97, 109, 101, 32])) (bVar 9)) (bVal (V.str [32, 105, 115, 32, 116, 111, 108, 100, 32, 116, 119, 105, 99, 101]))) (bCons (bVar 7) bNil))) (tName 10)) sSkip) sSkip) sSkip)) (sSeq (bIf (bOp2 (boolG (vIsNone false)) (bVar 10) (bVal V.none)) (sSeq (sAssign (bTup (bCons (bVar 4) (bCons (bVar 6) (bCons (bVar 7) bNil)))) (tSub vSet2 (bOp2 vGetA (bVar 8) (bVal (V.str [117, 115, 101]))) (bVar 9))) sSkip) sSkip) (sSeq (sAssign (bTup (bCons (bVal (V.str [117, 115, 101])) (bCons (bVar 7) (bCons (bVar 4) (bCons (bVar 5) (bCons (bVar 6) bNil)))))) (tName 11)) (sSeq (sRet (bAndV (bOp2 vEqO (bHeard [11, 2, 0] (bLam [101, 110, 116, 101, 114, 95, 117, 115, 101] f_enter_use (bVar 2) (bCons (bVar 1) (bCons (bVar 0) bNil)))) (bVar 10)) (bWith f__law_is_alike (bCons (bVar 0) (bCons (bVar 1) bNil))))) sSkip)))))))
noncomputable def f__law_deed_right : List V → Hp → Out V := runF 3 7 (sSeq (sSwap (bTup (bCons (bWith f__law_take (bCons (bVar 0) (bCons (bVal (V.int 4)) bNil))) (bCons (bWith f__law_one (bCons (bVar 0) (bCons (bLst (bCons (bVal (V.str [])) (bCons (bVal (V.str [109])) bNil))) bNil))) (bCons (bWith f__law_take (bCons (bVar 0) (bCons (bVal (V.int 99)) bNil))) bNil)))) 3 (tCons (tName 5) (tCons (tName 4) (tCons (tName 3) tNil)))) (sSeq (sSwap (bTup (bCons (bWith f__law_one (bCons (bVar 0) (bCons (bLst (bCons (bVal (V.str [65])) (bCons (bVal (V.str [66])) (bCons (bVal (V.str [109])) (bCons (bVal (V.str [117, 56])) (bCons (bVal (V.str [67])) bNil)))))) bNil))) (bCons (bOp2 vEqO (bWith f__law_take (bCons (bVar 0) (bCons (bVal (V.int 2)) bNil))) (bVal (V.int 0))) bNil))) 2 (tCons (tName 7) (tCons (tName 6) tNil))) (sSeq (bIf (bOp2 (boolG vLt) (bVar 3) (bVal (V.int 2))) (sSeq (sAssign (bWith f__law_one (bCons (bVar 0) (bCons (bLst (bCons (bTup (bCons (bVal (V.str [116, 121, 112, 101])) bNil)) (bCons (bTup (bCons (bVal (V.str [116, 121, 112, 101])) (bCons (bVal (V.str [118, 97, 108, 117, 101])) bNil))) (bCons (bTup (bCons (bVal (V.str [118, 97, 108, 117, 101])) bNil)) bNil)))) bNil))) (tName 8)) (sSeq (sRet (bWith f__law_type_right (bCons (bVar 1) (bCons (bVar 2) (bCons (bVar 4) (bCons (bWith f__law_item (bCons (bVar 0) (bCons (bVar 6) (bCons (bVar 5) bNil)))) (bCons (bVar 8) (bCons (bVar 7) bNil)))))))) sSkip)) sSkip) (sSeq (bIf (bOp2 (boolG vEqO) (bVar 3) (bVal (V.int 2))) (sSeq (sAssign (bComp [0] bdName bTrue (bWith f__law_one (bCons (bVar 1) (bCons (bLst (bCons (bVal (V.str [65])) (bCons (bVal (V.str [66])) (bCons (bVal (V.str [86])) bNil)))) bNil))) (bWith fRange (bCons (bWith f__law_take (bCons (bVar 0) (bCons (bVal (V.int 4)) bNil))) bNil))) (tName 9)) (sSeq (sRet (bWith f__law_variants_right (bCons (bVar 1) (bCons (bVar 2) (bCons (bWith f__law_path (bCons (bVar 4) (bCons (bVar 6) bNil))) (bCons (bVar 9) (bCons (bVar 5) bNil))))))) sSkip)) sSkip) (sSeq (sAssign (bWith f__law_one (bCons (bVar 0) (bCons (bLst (bCons (bTup (bCons (bVal (V.str [109])) (bCons (bVar 6) bNil))) (bCons (bTup (bCons (bVar 6) bNil)) (bCons (bTup (bCons (bVal (V.str [115, 117, 112, 101, 114])) bNil)) (bCons (bTup (bCons (bVal (V.str [65])) (bCons (bVal (V.str [66])) bNil))) bNil))))) bNil))) (tName 9)) (sSeq (sRet (bWith f__law_use_right (bCons (bVar 1) (bCons (bVar 2) (bCons (bVar 4) (bCons (bTup (bCons (bVar 9) (bCons (bWith f__law_one (bCons (bVar 0) (bCons (bLst (bCons (bVal V.none) (bCons (bVal (V.str [66])) (bCons (bVal (V.str [81])) bNil)))) bNil))) (bCons (bVar 7) (bCons (bVar 5) bNil))))) bNil)))))) sSkip))))))
noncomputable def f__law_chain_right : List V → Hp → Out V := runF 4 8 (sSeq (sAssign (bWith (fMake 275 f_Modules) (bCons (bLst (bCons (bTup (bCons (bVal (V.str [109, 111, 100])) (bCons (bVal (V.int 0)) (bCons (bVal (V.str [109])) (bCons (bTup (bCons (bTup (bCons (bVal (V.str [115, 116, 114, 117, 99, 116])) (bCons (bVal (V.int 0)) (bCons (bVal (V.str [83])) (bCons (bTup (bCons (bTup bNil) (bCons (bTup bNil) bNil))) (bCons (bVal (V.str [110, 97, 109, 101, 100])) (bCons (bTup bNil) (bCons (bVal (V.bool true)) bNil)))))))) bNil)) (bCons (bVal (V.bool true)) bNil)))))) bNil)) bNil)) (tName 4)) (sSeq (sAssign (bOp2 vGetA (bLst (bCons (bTup (bCons (bVal (V.str [109])) (bCons (bVal (V.str [83])) bNil))) (bCons (bTup (bCons (bVal (V.str [109])) (bCons (bVal (V.str [78])) bNil))) (bCons (bTup (bCons (bVal (V.str [117, 48])) bNil)) bNil)))) (bVar 1)) (tName 5)) (sSeq (sFor false (bWith fRange (bCons (bVar 0) bNil)) (tName 6) (sSeq (sAssign (bIf (bOp2 (boolG vLt) (bOp2 vAdd (bVar 6) (bVal (V.int 1))) (bVar 0)) (bTup (bCons (bOp2 vAdd (bVal (V.str [117])) (bWith fStr (bCons (bOp2 vAdd (bVar 6) (bVal (V.int 1))) bNil))) bNil)) (bVar 5)) (tName 7)) (sSeq (sExpr (bMeth 275 [101, 110, 116, 101, 114, 95, 117, 115, 101] f_enter_use (bVar 4) (bCons (bVal (V.str [])) (bCons (bTup (bCons (bVal (V.str [117, 115, 101])) (bCons (bOp2 vAdd (bVal (V.int 10)) (bVar 6)) (bCons (bVar 7) (bCons (bOp2 vAdd (bVal (V.str [117])) (bWith fStr (bCons (bVar 6) bNil))) (bCons (bVal (V.bool true)) bNil)))))) bNil)))) sSkip))) (sSeq (sAssign (bTup (bCons (bOp2 vGetA (bOp1 (vAttr [117, 115, 101, 115]) (bOp2 vGetA (bOp1 (vAttr [116, 97, 98, 108, 101, 115]) (bVar 4)) (bVal (V.str [])))) (bVal (V.str [117, 48]))) (bCons (bComp [] bdName bTrue (bTup (bCons (bVal (V.str [])) (bCons (bOp2 vAdd (bVal (V.str [120])) (bWith fStr (bCons (bVar 0) bNil))) bNil))) (bWith fRange (bCons (bVar 3) bNil))) bNil))) (tTup 2 (tCons (tName 8) (tCons (tName 9) tNil)))) (sSeq (sAssign (bVal V.none) (tName 10)) (sSeq (bIf (bOp2 (boolG vEqO) (bVar 1) (bVal (V.int 2))) (sSeq (sAssign (bLst (bCons (bVal (V.str (have y := have y := have y := [101, 109, 58, 32, 117, 48]; 111 :: 102 :: 32 :: 116 :: 104 :: y; have y := 32 :: 109 :: 97 :: 110 :: 121 :: 32 :: y; 114 :: 32 :: 116 :: 111 :: 111 :: y; have y := have y := 101 :: 110 :: 100 :: 44 :: 32 :: 111 :: y; 116 :: 32 :: 97 :: 110 :: 32 :: y; have y := 119 :: 105 :: 116 :: 104 :: 111 :: 117 :: y; 117 :: 115 :: 101 :: 115 :: 32 :: y))) (bCons (bVal (V.int 10)) bNil))) (tName 10)) sSkip) (sSeq (bIf (bOr (bOp2 (boolG vEqO) (bVar 1) (bVal (V.int 1))) (bOr (bOp2 (boolG vEqO) (bVar 2) (bVal (V.str [118, 97, 108, 117, 101]))) (bB false))) (sSeq (sAssign (bLst (bCons (bOp2 vAdd (bVal (V.str [110, 111, 116, 104, 105, 110, 103, 32, 105, 115, 32, 110, 97, 109, 101, 100, 32])) (bMethB isStr fJoin (bVal (V.str [58, 58])) (bCons (bVar 5) bNil))) (bCons (bOp2 vAdd (bVal (V.int 9)) (bVar 0)) bNil))) (tName 10)) sSkip) sSkip) sSkip)) (sSeq (bIf (bOp2 (boolG vGt) (bOp2 vAdd (bVar 3) (bVar 0)) (bVal (V.int 30))) (sSeq (sAssign (bLst (bCons (bOp2 vAdd (bVal (V.str (have y := have y := have y := [104, 101, 109, 58, 32, 117]; 32 :: 111 :: 102 :: 32 :: 116 :: y; have y := 111 :: 32 :: 109 :: 97 :: 110 :: 121 :: y; 111 :: 114 :: 32 :: 116 :: 111 :: y; have y := have y := 32 :: 101 :: 110 :: 100 :: 44 :: 32 :: y; 117 :: 116 :: 32 :: 97 :: 110 :: y; have y := 119 :: 105 :: 116 :: 104 :: 111 :: y; 117 :: 115 :: 101 :: 115 :: 32 :: y))) (bWith fStr (bCons (bOp2 vSub (bVal (V.int 30)) (bVar 3)) bNil))) (bCons (bOp2 vSub (bOp2 vAdd (bVal (V.int 10)) (bVal (V.int 30))) (bVar 3)) bNil))) (tName 10)) sSkip) sSkip) (sSeq (bIf (bOp2 (boolG (vIsNone true)) (bVar 10) (bVal V.none)) (sSeq (sRet (bOp2 vEqO (bHeard [4, 9, 2, 8] (bLam [102, 111, 108, 108, 111, 119] f_follow (bVar 0) (bCons (bVal (V.str [])) (bCons (bVal (V.str [117, 48])) (bCons (bVar 3) (bCons (bVar 2) (bCons (bVar 1) bNil))))))) (bVar 10))) sSkip) sSkip) (sSeq (sFor false (bWith fRange (bCons (bVal (V.int 2)) bNil)) (tName 11) (sSeq (bIf (bOp2 (boolG vNeO) (bMeth 275 [102, 111, 108, 108, 111, 119] f_follow (bVar 4) (bCons (bVal (V.str [])) (bCons (bVal (V.str [117, 48])) (bCons (bVar 8) (bCons (bVar 2) (bCons (bVar 9) bNil)))))) (bVal (V.str [109, 58, 58, 83]))) (sSeq (sRet (bVal (V.bool false))) sSkip) sSkip) sSkip)) (sSeq (sRet (bOp2 vEqO (bOp2 vGetA (bOp1 (vAttr [107, 101, 112, 116]) (bVar 4)) (bTup (bCons (bVal (V.str [])) (bCons (bVal (V.str [117, 48])) (bCons (bVar 2) bNil))))) (bVal (V.str [109, 58, 58, 83])))) sSkip))))))))))
noncomputable def f__law_told_right : List V → Hp → Out V := runF 0 5 (sSeq (sSwap (bTup (bCons (bWith f__law_modules bNil) (bCons (bWith f__law_book bNil) bNil))) 2 (tCons (tName 1) (tCons (tName 0) tNil))) (sSeq (sAssign (bTup (bCons (bVal (V.str [115, 116, 114, 117, 99, 116])) (bCons (bVal (V.int 3)) (bCons (bVal (V.str [65])) (bCons (bTup (bCons (bTup (bCons (bVal (V.str [39, 97])) bNil)) (bCons (bTup (bCons (bTup (bCons (bVal (V.str [84])) (bCons (bTup bNil) bNil))) bNil)) bNil))) (bCons (bVal (V.str [116, 117, 112, 108, 101])) (bCons (bTup bNil) (bCons (bVal (V.bool true)) bNil)))))))) (tName 2)) (sSeq (bIf (bNotT (bTest (bWith f__law_type_right (bCons (bVar 0) (bCons (bVar 1) (bCons (bVal (V.str [])) (bCons (bVar 2) (bCons (bTup (bCons (bVal (V.str [116, 121, 112, 101])) (bCons (bVal (V.str [118, 97, 108, 117, 101])) bNil))) (bCons (bVal (V.bool true)) bNil))))))))) (sSeq (sRet (bVal (V.bool false))) sSkip) sSkip) (sSeq (bIf (bNotT (bTest (bWith f__law_type_right (bCons (bVar 0) (bCons (bVar 1) (bCons (bVal (V.str [])) (bCons (bVar 2) (bCons (bTup (bCons (bVal (V.str [118, 97, 108, 117, 101])) bNil)) (bCons (bVal (V.bool true)) bNil))))))))) (sSeq (sRet (bVal (V.bool false))) sSkip) sSkip) (sSeq (bIf (bNotT (bTest (bWith f__law_type_right (bCons (bVar 0) (bCons (bVar 1) (bCons (bVal (V.str [109])) (bCons (bTup (bCons (bVal (V.str [116, 114, 97, 105, 116])) (bCons (bVal (V.int 4)) (bCons (bVal (V.str [117, 56])) (bCons (bTup (bCons (bTup bNil) (bCons (bTup bNil) bNil))) (bCons (bTup bNil) (bCons (bVal (V.bool false)) bNil))))))) (bCons (bTup (bCons (bVal (V.str [116, 121, 112, 101])) bNil)) (bCons (bVal (V.bool false)) bNil))))))))) (sSeq (sRet (bVal (V.bool false))) sSkip) sSkip) (sSeq (bIf (bNotT (bTest (bWith f__law_variants_right (bCons (bVar 0) (bCons (bVar 1) (bCons (bVal (V.str [69])) (bCons (bLst (bCons (bVal (V.str [86])) (bCons (bVal (V.str [87])) (bCons (bVal (V.str [86])) (bCons (bVal (V.str [88])) bNil))))) (bCons (bVal (V.int 5)) bNil)))))))) (sSeq (sRet (bVal (V.bool false))) sSkip) sSkip) (sSeq (sAssign (bLst (bCons (bTup (bCons (bTup (bCons (bVal (V.str [109])) (bCons (bVal (V.str [88])) bNil))) (bCons (bVal (V.str [66])) (bCons (bVal (V.bool true)) (bCons (bVal (V.int 6)) bNil))))) (bCons (bTup (bCons (bTup (bCons (bVal (V.str [109])) (bCons (bVal (V.str [66])) bNil))) (bCons (bVal V.none) (bCons (bVal (V.bool true)) (bCons (bVal (V.int 7)) bNil))))) (bCons (bTup (bCons (bTup (bCons (bVal (V.str [115, 117, 112, 101, 114])) bNil)) (bCons (bVal V.none) (bCons (bVal (V.bool true)) (bCons (bVal (V.int 8)) bNil))))) bNil)))) (tName 3)) (sSeq (sFor false (bOp2 vAdd (bVar 3) (bLst (bCons (bTup (bCons (bTup (bCons (bVal (V.str [113])) bNil)) (bCons (bVal (V.str [66, 111, 120])) (bCons (bVal (V.bool true)) (bCons (bVal (V.int 9)) bNil))))) bNil))) (tName 4) (sSeq (bIf (bNotT (bTest (bWith f__law_use_right (bCons (bVar 0) (bCons (bVar 1) (bCons (bVal (V.str [])) (bCons (bVar 4) bNil))))))) (sSeq (sRet (bVal (V.bool false))) sSkip) sSkip) sSkip)) (sSeq (bIf (bOr (bNotT (bTest (bWith (isoF f__law_chain_right) (bCons (bVal (V.int 2)) (bCons (bVal (V.int 0)) (bCons (bVal (V.str [116, 121, 112, 101])) (bCons (bVal (V.int 0)) bNil))))))) (bOr (bNotT (bTest (bWith (isoF f__law_chain_right) (bCons (bVal (V.int 1)) (bCons (bVal (V.int 0)) (bCons (bVal (V.str [116, 121, 112, 101])) (bCons (bVal (V.int 30)) bNil))))))) (bB false))) (sSeq (sRet (bVal (V.bool false))) sSkip) sSkip) (sSeq (sRet (bAndV (bWith (isoF f__law_chain_right) (bCons (bVal (V.int 3)) (bCons (bVal (V.int 2)) (bCons (bVal (V.str [116, 121, 112, 101])) (bCons (bVal (V.int 0)) bNil))))) (bWith (isoF f__law_chain_right) (bCons (bVal (V.int 2)) (bCons (bVal (V.int 1)) (bCons (bVal (V.str [118, 97, 108, 117, 101])) (bCons (bVal (V.int 0)) bNil))))))) sSkip))))))))))
noncomputable def f_law : List V → Hp → Out V := runF 1 5 (sSeq (bIf (bNotT (bTest (bWith (isoF f__law_told_right) bNil))) (sSeq (sRet (bVal (V.bool false))) sSkip) sSkip) (sSeq (sSwap (bTup (bCons (bWith f__law_pool (bCons (bVar 0) bNil)) (bCons (bWith f__law_modules bNil) (bCons (bWith f__law_book bNil) bNil)))) 3 (tCons (tName 3) (tCons (tName 2) (tCons (tName 1) tNil)))) (sSeq (sFor false (bWith fRange (bCons (bOp2 vAdd (bVal (V.int 6)) (bWith f__law_take (bCons (bVar 1) (bCons (bVal (V.int 4)) bNil)))) bNil)) (tName 4) (sSeq (bIf (bNotT (bTest (bWith f__law_deed_right (bCons (bVar 1) (bCons (bVar 2) (bCons (bVar 3) bNil)))))) (sSeq (sRet (bVal (V.bool false))) sSkip) sSkip) sSkip)) (sSeq (sAssign (bWith f__law_one (bCons (bVar 1) (bCons (bLst (bCons (bVal (V.int 0)) (bCons (bVal (V.int 0)) (bCons (bVal (V.int 25)) (bCons (bVal (V.int 28)) (bCons (bVal (V.int 29)) (bCons (bVal (V.int 30)) bNil))))))) bNil))) (tName 5)) (sSeq (sRet (bWith (isoF f__law_chain_right) (bCons (bOp2 vAdd (bVal (V.int 1)) (bWith f__law_take (bCons (bVar 1) (bCons (bVal (V.int 5)) bNil)))) (bCons (bWith f__law_take (bCons (bVar 1) (bCons (bVal (V.int 3)) bNil))) (bCons (bWith f__law_one (bCons (bVar 1) (bCons (bLst (bCons (bVal (V.str [116, 121, 112, 101])) (bCons (bVal (V.str [118, 97, 108, 117, 101])) bNil))) bNil))) (bCons (bVar 5) bNil)))))) sSkip)))))
end

section
open PySem PySem.W PySem.Calls PyProof.Rows PySem.Spec
section
variable {α β γ : Type} {H H1 H2 H3 : Hp} {ρ ρ1 ρ2 : Rho} {v u o : V} {vs ws us : List V} {e e1 e2 : Ex} {es : Exs} {b1 b2 c : Bx} {c1 c2 : Bool} {s1 s2 : Sx} {t : Tx_} {ts : Txs} {k : Nat}
theorem ob_ok' (a : α) (k : α → Hp → Out β) : (Out.ok a H).bind k = k a H := rfl
noncomputable def RF (a b : α) : Prop := a = b
theorem rf (a : α) : RF a a := rfl
noncomputable def ifO (c : Bool) (a b : Out β) : Out β := if c then a else b
theorem ifO_t {a b r : Out β} (h : c1 = true) (g : a = r) : ifO c1 a b = r := by rw [h]; exact g
theorem ifO_f {a b r : Out β} (h : c1 = false) (g : b = r) : ifO c1 a b = r := by rw [h]; exact g
theorem e_var {i : Nat} (h : RF ρ[i]? (some (some v))) : bVar i ρ H = Out.ok v H := by
  have h : ρ[i]? = some (some v) := h
  unfold bVar; rw [h]
theorem e_val : bVal v ρ H = Out.ok v H := rfl
theorem e_op1 {g : V → Hp → Out β} {r : Out β} (h1 : e ρ H = Out.ok v H1) (h2 : g v H1 = r) : bOp1 g e ρ H = r := by unfold bOp1; rw [h1]; exact h2
theorem e_op2 {g : V → V → Hp → Out β} {r : Out β} (h1 : e1 ρ H = Out.ok v H1) (h2 : e2 ρ H1 = Out.ok u H2) (h3 : g v u H2 = r) : bOp2 g e1 e2 ρ H = r := by
  unfold bOp2; rw [h1]; show (e2 ρ H1).bind _ = r; rw [h2]; exact h3
theorem e_nil : bNil ρ H = Out.ok [] H := rfl
theorem e_cons (h1 : e ρ H = Out.ok v H1) (h2 : es ρ H1 = Out.ok vs H2) : bCons e es ρ H = Out.ok (v :: vs) H2 := by
  unfold bCons; rw [h1]; show (es ρ H1).bind _ = _; rw [h2]; rfl
theorem e_tup (h1 : es ρ H = Out.ok vs H1) (hz : RF (Nat.ble vs.length 16384) true) : bTup es ρ H = Out.ok (.tup vs) H1 := by
  unfold bTup; rw [h1]; exact if_pos hz
theorem e_lst (h1 : es ρ H = Out.ok vs H1) (hz : RF (Nat.ble vs.length 16384) true) : bLst es ρ H = Out.ok (V.lst vs) H1 := by
  unfold bLst; rw [h1]; exact if_pos hz
theorem e_with {F : List V → Hp → Out V} {r : Out V} (h1 : es ρ H = Out.ok vs H1) (h2 : F vs H1 = r) : bWith F es ρ H = r := by
  unfold bWith; rw [h1]; exact h2
theorem i_at {d cl : Nat} {fs : List (Tx × V)} (h1 : H[k]? = some (.inst cl d)) (h2 : H[d]? = some (.fld fs)) : instAt H k = some (cl, fs) := by
  unfold instAt; rw [h1]; show (match H[d]? with | some (.fld fs) => some (cl, fs) | _ => none) = _; rw [h2]
theorem e_meth {cl d : Nat} {name : Tx} {F : List V → Hp → Out V} {fs : List (Tx × V)} {r : Out V} (h1 : e ρ H = Out.ok (.ref k) H1) (hi : instAt H1 k = some (cl, fs)) (hc : RF (Nat.beq cl d && (dget fs name).isNone) true) (h2 : es ρ H1 = Out.ok vs H2) (h3 : F (.ref k :: vs) H2 = r) : bMeth d name F e es ρ H = r := by
  unfold bMeth; rw [h1]
  show (match instAt H1 k with
    | some (c', fs) => if Nat.beq c' d && (dget fs name).isNone then bWith (fun vs => F (.ref k :: vs)) es ρ H1 else Out.stuck
    | none => Out.stuck) = r
  rw [hi]; exact (if_pos hc).trans (e_with h2 h3)
theorem e_lam {cl : Nat} {name : Tx} {F : List V → Hp → Out V} {fs : List (Tx × V)} {r : Out V} (h1 : e ρ H = Out.ok (.ref k) H1) (hi : instAt H1 k = some (cl, fs)) (hc : RF (Nat.beq cl 275 && (dget fs name).isNone) true) (h2 : es ρ H1 = Out.ok vs H2) (h3 : F (.ref k :: vs) H2 = r) : bLam name F e es ρ H = r := by
  unfold bLam; rw [h1]
  show (match instAt H1 k with
    | some (c', fs) => if Nat.beq c' 275 && (dget fs name).isNone then (match es ρ H1 with | Out.ok vs H2 => F (.ref k :: vs) H2 | _ => Out.stuck) else Out.stuck
    | none => Out.stuck) = r
  rw [hi]
  show (if _ then (match es ρ H1 with | Out.ok vs H2 => F (.ref k :: vs) H2 | _ => Out.stuck) else Out.stuck) = r
  rw [h2]; exact (if_pos hc).trans h3
theorem e_test (h : e ρ H = Out.ok (V.bool c1) H1) : bTest e ρ H = Out.ok c1 H1 := by unfold bTest; rw [h]; rfl
theorem e_notT (h : c ρ H = Out.ok c1 H1) : bNotT c ρ H = Out.ok (!c1) H1 := by unfold bNotT; rw [h]; rfl
theorem e_bB : bB c1 ρ H = Out.ok c1 H := rfl
theorem e_and {r : Out Bool} (h : b1 ρ H = Out.ok c1 H1) (g : ifO c1 (b2 ρ H1) (Out.ok false H1) = r) : bAnd b1 b2 ρ H = r := by unfold bAnd; rw [h]; exact g
theorem e_or {r : Out Bool} (h : b1 ρ H = Out.ok c1 H1) (g : ifO c1 (Out.ok true H1) (b2 ρ H1) = r) : bOr b1 b2 ρ H = r := by unfold bOr; rw [h]; exact g
theorem e_if {x y : Rho → Hp → Out β} {r : Out β} (h : c ρ H = Out.ok c1 H1) (g : ifO c1 (x ρ H1) (y ρ H1) = r) : bIf c x y ρ H = r := by unfold bIf; rw [h]; exact g
theorem e_andV {r : Out V} (h : e1 ρ H = Out.ok (V.bool c1) H1) (g : ifO c1 (e2 ρ H1) (Out.ok (V.bool false) H1) = r) : bAndV e1 e2 ρ H = r := by unfold bAndV; rw [h]; cases c1 <;> exact g
theorem e_orV {r : Out V} (h : e1 ρ H = Out.ok (V.bool c1) H1) (g : ifO c1 (Out.ok (V.bool true) H1) (e2 ρ H1) = r) : bOrV e1 e2 ρ H = r := by unfold bOrV; rw [h]; cases c1 <;> exact g
theorem e_boolG {g : V → V → Hp → Out V} (h : g u v H = Out.ok (V.bool c1) H1) : boolG g u v H = Out.ok c1 H1 := by unfold boolG; rw [h]; rfl
theorem e_true : bTrue ρ H = Out.ok true H := rfl
noncomputable def seqO (r : Out (Fl × Rho)) (b : Sx) : Out (Fl × Rho) := r.bind fun r H' => match r.1 with | .next => b r.2 H' | _ => Out.ok r H'
theorem s_seq {r1 r : Out (Fl × Rho)} (h : s1 ρ H = r1) (g : seqO r1 s2 = r) : sSeq s1 s2 ρ H = r := by rw [← g, ← h]; rfl
theorem o_next {r : Out (Fl × Rho)} (h : s2 ρ H = r) : seqO (Out.ok (.next, ρ) H) s2 = r := h
theorem o_ret : seqO (Out.ok (.ret v, ρ) H) s2 = Out.ok (.ret v, ρ) H := rfl
theorem o_brk : seqO (Out.ok (.brk, ρ) H) s2 = Out.ok (.brk, ρ) H := rfl
theorem o_fault {m : Tx} {i : Int} : seqO (.fault m i H) s2 = .fault m i H := rfl
theorem s_skip : sSkip ρ H = Out.ok (.next, ρ) H := rfl
theorem s_brk : sBrk ρ H = Out.ok (.brk, ρ) H := rfl
theorem s_assign (h1 : e ρ H = Out.ok v H1) (h2 : t v ρ H1 = Out.ok ρ1 H2) : sAssign e t ρ H = Out.ok (.next, ρ1) H2 := by
  unfold sAssign; rw [h1]; show (t v ρ H1).bind _ = _; rw [h2]; rfl
theorem s_swap2 (h1 : e ρ H = Out.ok (.tup [u, v]) H1) (h2 : ts [v, u] ρ H1 = Out.ok ρ1 H2) : sSwap e 2 ts ρ H = Out.ok (.next, ρ1) H2 := by
  unfold sSwap; rw [h1]; show (ts [v, u] ρ H1).bind _ = _; rw [h2]; rfl
theorem s_swap3 (h1 : e ρ H = Out.ok (.tup [u, v, o]) H1) (h2 : ts [o, v, u] ρ H1 = Out.ok ρ1 H2) : sSwap e 3 ts ρ H = Out.ok (.next, ρ1) H2 := by
  unfold sSwap; rw [h1]; show (ts [o, v, u] ρ H1).bind _ = _; rw [h2]; rfl
noncomputable def retE (r : Out V) (ρ : Rho) : Out (Fl × Rho) := r.bind fun v H1 => Out.ok (.ret v, ρ) H1
theorem s_ret {r1 : Out V} {r : Out (Fl × Rho)} (h : e ρ H = r1) (g : retE r1 ρ = r) : sRet e ρ H = r := by rw [← g, ← h]; rfl
theorem re_ok : retE (Out.ok v H) ρ = Out.ok (.ret v, ρ) H := rfl
noncomputable def exE (r : Out V) (ρ : Rho) : Out (Fl × Rho) := r.bind fun _ H1 => Out.ok (.next, ρ) H1
theorem s_expr {r1 : Out V} {r : Out (Fl × Rho)} (h : e ρ H = r1) (g : exE r1 ρ = r) : sExpr e ρ H = r := by rw [← g, ← h]; rfl
theorem xe_ok : exE (Out.ok v H) ρ = Out.ok (.next, ρ) H := rfl
theorem xe_fault {m : Tx} {i : Int} : exE (.fault m i H) ρ = .fault m i H := rfl
theorem s_raise {m : Tx} {i : Int} (h1 : e1 ρ H = Out.ok (.str m) H1) (h2 : e2 ρ H1 = Out.ok (.int i) H2) : sRaise e1 e2 ρ H = .fault m i H2 := by
  unfold sRaise; rw [h1]; show (e2 ρ H1).bind _ = _; rw [h2]; rfl
theorem s_for {ro : Bool} {r : Out (Fl × Rho)} (h1 : e ρ H = Out.ok v H1) (h2 : RF (itemsOf v ro H1) (some vs)) (h3 : forM t s1 vs ρ H1 = r) : sFor ro e t s1 ρ H = r := by
  have h2 : itemsOf v ro H1 = some vs := h2
  unfold sFor; rw [h1]; show (match itemsOf v ro H1 with | some vs => forM t s1 vs ρ H1 | none => Out.stuck) = r; rw [h2]; exact h3
theorem m_nil : forM t s1 [] ρ H = Out.ok (.next, ρ) H := rfl
noncomputable def forO (r : Out (Fl × Rho)) (t : Tx_) (b : Sx) (vs : List V) : Out (Fl × Rho) := r.bind fun r H2 => match r.1 with
  | .next => forM t b vs r.2 H2
  | .brk => Out.ok (.next, r.2) H2
  | .ret u => Out.ok (.ret u, r.2) H2
theorem m_cons {r1 r : Out (Fl × Rho)} (h1 : t v ρ H = Out.ok ρ1 H1) (h2 : s1 ρ1 H1 = r1) (h3 : forO r1 t s1 vs = r) : forM t s1 (v :: vs) ρ H = r := by
  show (t v ρ H).bind _ = r; rw [h1]; rw [← h3, ← h2]; rfl
theorem mo_next {r : Out (Fl × Rho)} (h : forM t s1 vs ρ H = r) : forO (Out.ok (.next, ρ) H) t s1 vs = r := h
theorem r_run {np : Nat} {r1 : Out (Fl × Rho)} {r : Out V} (hn : RF (Nat.beq vs.length np) true) (h : s1 (vs.map some ++ List.replicate k none) H = r1) (g : retOf r1 = r) : runF np k s1 vs H = r := by
  rw [← g, ← h]; exact if_pos hn
theorem r_ret : retOf (Out.ok (.ret v, ρ) H) = Out.ok v H := rfl
theorem r_next : retOf (Out.ok (.next, ρ) H) = Out.ok .none H := rfl
theorem r_fault {m : Tx} {i : Int} : retOf (.fault m i H) = .fault m i H := rfl
theorem t_name {i : Nat} (h : RF (Nat.blt i ρ.length) true) : tName i v ρ H = Out.ok (ρ.set i (some v)) H := if_pos h
theorem t_tup {r : Out Rho} (hn : RF (Nat.beq vs.length k) true) (h : ts vs ρ H = r) : tTup k ts (.tup vs) ρ H = r := (if_pos hn).trans h
theorem t_nil : tNil [] ρ H = Out.ok ρ H := rfl
theorem t_cons {r : Out Rho} (h1 : t v ρ H = Out.ok ρ1 H1) (h2 : ts vs ρ1 H1 = r) : tCons t ts (v :: vs) ρ H = r := by
  show (t v ρ H).bind _ = r; rw [h1]; exact h2
theorem t_sub {g : V → V → V → Hp → Out Unit} {i : V} {z : Unit} (h1 : e1 ρ H = Out.ok o H1) (h2 : e2 ρ H1 = Out.ok i H2) (h3 : g o i v H2 = Out.ok z H3) : tSub g e1 e2 v ρ H = Out.ok ρ H3 := by
  unfold tSub; rw [h1]; show (e2 ρ H1).bind _ = _; rw [h2]; show (g o i v H2).bind _ = _; rw [h3]; rfl
theorem k_nil {bd : V → Option (List V)} : compM bd ρ c e [] vs H = some (vs, H) := rfl
noncomputable def cO (bd : V → Option (List V)) (ρc : Rho) (c : Bx) (b : Ex) (us acc ws : List V) (H1 : Hp) : Bool → Option (List V × Hp)
  | true => (match b (ws.map some ++ ρc) H1 with | Out.ok v H2 => compM bd ρc c b us (acc ++ [v]) H2 | _ => none)
  | false => compM bd ρc c b us acc H1
theorem k_cons {bd : V → Option (List V)} {r : Option (List V × Hp)} (h1 : RF (bd u) (some ws)) (h2 : c (ws.map some ++ ρ) H = Out.ok c1 H1) (h3 : cO bd ρ c e us vs ws H1 c1 = r) : compM bd ρ c e (u :: us) vs H = r := by
  have h1 : bd u = some ws := h1
  rw [← h3]
  show (match bd u with
    | none => none
    | some ws => match c (ws.map some ++ ρ) H with
      | Out.ok true H1 => (match e (ws.map some ++ ρ) H1 with | Out.ok v H2 => compM bd ρ c e us (vs ++ [v]) H2 | _ => none)
      | Out.ok false H1 => compM bd ρ c e us vs H1
      | _ => none) = _
  rw [h1]
  show (match c (ws.map some ++ ρ) H with
      | Out.ok true H1 => (match e (ws.map some ++ ρ) H1 with | Out.ok v H2 => compM bd ρ c e us (vs ++ [v]) H2 | _ => none)
      | Out.ok false H1 => compM bd ρ c e us vs H1
      | _ => none) = _
  rw [h2]
  cases c1 <;> rfl
theorem k_t {bd : V → Option (List V)} {r : Option (List V × Hp)} (h : c1 = true) (h2 : e (ws.map some ++ ρ) H = Out.ok v H1) (h3 : compM bd ρ c e us (vs ++ [v]) H1 = r) : cO bd ρ c e us vs ws H c1 = r := by
  subst h
  show (match e (ws.map some ++ ρ) H with | Out.ok v H2 => compM bd ρ c e us (vs ++ [v]) H2 | _ => none) = r
  rw [h2]; exact h3
theorem k_f {bd : V → Option (List V)} {r : Option (List V × Hp)} (h : c1 = false) (h3 : compM bd ρ c e us vs H = r) : cO bd ρ c e us vs ws H c1 = r := by
  subst h; exact h3
theorem e_comp {caps : List Nat} {bd : V → Option (List V)} {r : List V × Hp} (ha : RF (allSome (capsOf caps ρ)) true) (h1 : e ρ H = Out.ok v H1) (h2 : RF (itemsOf v false H1) (some us)) (hz : RF (Nat.ble us.length 16384) true) (h3 : compM bd (capsOf caps ρ) c e2 us [] H1 = some r) : bComp caps bd c e2 e ρ H = Out.ok (V.lst r.1) r.2 := by
  have h2 : itemsOf v false H1 = some us := h2
  refine (if_pos ha).trans ?_
  rw [h1]
  show (match itemsOf v false H1 with
  | some vs => if Nat.ble vs.length 16384 then (match compM bd (capsOf caps ρ) c e2 vs [] H1 with | some r => Out.ok (V.lst r.1) r.2 | none => Out.stuck) else Out.stuck
  | none => Out.stuck) = _
  rw [h2]
  refine (if_pos hz).trans ?_
  rw [h3]
noncomputable def heO : Out V → Out V
  | Out.ok _ H1 => Out.ok .none H1
  | .fault m i H1 => Out.ok (V.lst [.str m, .int i]) H1
  | Out.stuck => Out.stuck
theorem e_heard {caps : List Nat} {r1 r : Out V} (ha : RF (allSome (capsOf caps ρ)) true) (h : e (capsOf caps ρ) H = r1) (g : heO r1 = r) : bHeard caps e ρ H = r := by
  refine (if_pos ha).trans ?_
  rw [h, ← g]; cases r1 <;> rfl
theorem he_ok : heO (Out.ok v H) = Out.ok .none H := rfl
theorem he_fault {m : Tx} {i : Int} : heO (.fault m i H) = Out.ok (V.lst [.str m, .int i]) H := rfl
theorem g_d {es : List (Tx × V)} {y : Tx} (h : H[k]? = some (.dict es)) (g : dget es y = some v) : vGetA (.ref k) (.str y) H = Out.ok v H := by
  have : vGet (.ref k) (.str y) H = Out.ok v H := by
    show (match H[k]? with | some (.dict es) => (match dget es y with | some v => Out.ok v H | none => Out.stuck) | _ => Out.stuck) = _
    rw [h]; show (match dget es y with | some v => Out.ok v H | none => Out.stuck) = _; rw [g]
  unfold vGetA orG2; rw [this]
theorem g_t {i : Int} (g : RF (vIdx vs i) (some v)) : vGetA (.tup vs) (.int i) H = Out.ok v H := by
  have g : vIdx vs i = some v := g
  have : vGet (.tup vs) (.int i) H = Out.ok v H := by
    show (match vIdx vs i with | some v => Out.ok v H | none => Out.stuck) = _; rw [g]
  unfold vGetA orG2; rw [this]
theorem g_l {i : Int} (g : RF (vIdx vs i) (some v)) : vGetA (V.lst vs) (.int i) H = Out.ok v H := by
  have g : vIdx vs i = some v := g
  have : vGet (V.lst vs) (.int i) H = Out.ok v H := by
    show (match vIdx vs i with | some v => Out.ok v H | none => Out.stuck) = _; rw [g]
  unfold vGetA orG2; rw [this]
theorem g_r {i : Int} (h : H[k]? = some (.list vs)) (g : RF (vIdx vs i) (some v)) : vGetA (.ref k) (.int i) H = Out.ok v H := by
  have g : vIdx vs i = some v := g
  show vGetL (.ref k) (.int i) H = _
  show (match H[k]? with | some (.list vs) => (match vIdx vs i with | some v => Out.ok v H | none => Out.stuck) | _ => Out.stuck) = _
  rw [h]; show (match vIdx vs i with | some v => Out.ok v H | none => Out.stuck) = _; rw [g]
theorem a_at {cl : Nat} {name : Tx} {fs : List (Tx × V)} (hi : instAt H k = some (cl, fs)) (hc : RF (Nat.beq cl 275 || Nat.beq cl 142) true) (hv : dget fs name = some v) : vAttr name (.ref k) H = Out.ok v H := by
  show (match instAt H k with | some (c, fs) => if Nat.beq c 275 || Nat.beq c 142 then (match dget fs name with | some v => Out.ok v H | none => Out.stuck) else Out.stuck | none => Out.stuck) = _
  rw [hi]; refine (if_pos hc).trans ?_; rw [hv]
theorem a_use {name : Tx} {p q : V} (g : RF (dget [([110, 97, 109, 101, 115], v), ([105, 115, 95, 112, 117, 98], p), ([115, 112, 111, 116], q)] name) (some u)) : vAttr name (.use v p q) H = Out.ok u H := by
  have g : dget [([110, 97, 109, 101, 115], v), ([105, 115, 95, 112, 117, 98], p), ([115, 112, 111, 116], q)] name = some u := g
  show (match dget _ name with | some v => Out.ok v H | none => Out.stuck) = _
  rw [g]
theorem f_tup (hz : RF (Nat.ble vs.length 16384) true) : fTuple [.lst vs] H = Out.ok (.tup vs) H := if_pos hz
theorem f_tupt : fTuple [.tup vs] H = Out.ok (.tup vs) H := rfl
theorem f_lenl (hz : RF (Nat.ble vs.length 16384) true) : fLen [.lst vs] H = Out.ok (.int (vs.length : Int)) H := if_pos hz
theorem f_use {p q : V} : fUse [v, p, q] H = Out.ok (.use v p q) H := rfl
theorem n_d {es : List (Tx × V)} {y : Tx} (h : H[k]? = some (.dict es)) : vInA (.str y) (.ref k) H = Out.ok (V.bool (dget es y).isSome) H := by
  have : vIn (.str y) (.ref k) H = Out.ok (V.bool (dget es y).isSome) H := by
    show (match H[k]? with | some (.dict es) => Out.ok (V.bool (dget es y).isSome) H | _ => Out.stuck) = _
    rw [h]
  unfold vInA orG2; rw [this]
theorem n_t {y : Tx} {l : List Tx} (g : RF (txsOf vs) (some l)) : vInA (.str y) (.tup vs) H = Out.ok (V.bool (l.any (txEq y))) H := by
  have g : txsOf vs = some l := g
  have : vIn (.str y) (.tup vs) H = Out.ok (V.bool (l.any (txEq y))) H := by
    show (match txsOf vs with | some l => Out.ok (V.bool (l.any (txEq y))) H | none => Out.stuck) = _
    rw [g]
  unfold vInA orG2; rw [this]
theorem n_l {y : Tx} {l : List Tx} (g : RF (txsOf vs) (some l)) : vInA (.str y) (V.lst vs) H = Out.ok (V.bool (l.any (txEq y))) H := by
  have g : txsOf vs = some l := g
  have : vIn (.str y) (V.lst vs) H = Out.ok (V.bool (l.any (txEq y))) H := by
    show (match txsOf vs with | some l => Out.ok (V.bool (l.any (txEq y))) H | none => Out.stuck) = _
    rw [g]
  unfold vInA orG2; rw [this]
theorem n_g {y : Tx} {ys : List Tx} {neg : Bool} : vInG ys neg (.str y) H = Out.ok (V.bool (if neg then !ys.any (txEq y) else ys.any (txEq y))) H := rfl
noncomputable def isN : V → Bool
  | .none => true
  | _ => false
theorem n_none {neg : Bool} (h : RF (isN v) c1) : vIsNone neg v .none H = Out.ok (V.bool (if c1 then !neg else neg)) H := by
  have h : isN v = c1 := h
  rw [← h]; cases v <;> rfl
theorem q_eq (h : vCmp u v H = some c1) : vEqO u v H = Out.ok (V.bool c1) H := by unfold vEqO; rw [h]
theorem q_ne (h : vCmp u v H = some c1) : vNeO u v H = Out.ok (V.bool (!c1)) H := by unfold vNeO; rw [h]
theorem c_d {a b : List (Tx × V)} {i j : Nat} (h1 : H[i]? = some (.dict a)) (h2 : H[j]? = some (.dict b)) (h3 : dsEq a b = true) : vCmp (.ref i) (.ref j) H = some true := by
  show (match H[i]?, H[j]? with | some (.dict a), some (.dict b) => if dsEq a b then some true else none | _, _ => none) = _
  rw [h1, h2]; exact if_pos h3
theorem c_l {a b : List V} (hl : RF (Nat.beq a.length b.length) true) (h : vsEq (vEq 9) a b = true) : vCmp (V.lst a) (V.lst b) H = some true := (if_pos hl).trans (if_pos h)
theorem c_s {a b : Tx} : vCmp (.str a) (.str b) H = some (txEq a b) := rfl
theorem c_i {a b : Int} : vCmp (.int a) (.int b) H = some (a == b) := rfl
theorem x_set {es : List (Tx × V)} {y : Tx} (h : H[k]? = some (.dict es)) (hz : Nat.ble es.length 16384 = true) (hs : H.set k (.dict (dput es y v)) = H1) : vSet2 (.ref k) (.str y) v H = Out.ok () H1 := by
  have : vSet (.ref k) (.str y) v H = Out.ok () H1 := by
    show (match H[k]? with | some (.dict es) => if Nat.ble es.length 16384 then Out.ok () (H.set k (.dict (dput es y v))) else Out.stuck | _ => Out.stuck) = _
    rw [h, ← hs]; exact if_pos hz
  unfold vSet2 orG3; rw [this]
theorem a_ss {a b : Tx} (hz : RF (Nat.ble (a.length + b.length) 16384) true) : vAdd (.str a) (.str b) H = Out.ok (.str (a ++ b)) H := if_pos hz
theorem a_ii {a b : Int} : vAdd (.int a) (.int b) H = Out.ok (.int (a + b)) H := rfl
theorem o_gt {a b : Int} : vGt (.int a) (.int b) H = Out.ok (V.bool (decide (b < a))) H := rfl
theorem o_mod {a b : Int} (h : decide (0 < b) = true) : vMod (.int a) (.int b) H = Out.ok (V.int (a.fmod b)) H := if_pos h
theorem o_fdiv {a b : Int} (h1 : decide (0 < b) = true) (h2 : decide (b < 1000) = true) : vFdiv (.int a) (.int b) H = Out.ok (V.int (a.fdiv b)) H := if_pos (by rw [h1, h2]; rfl)
theorem o_mul {a b : Int} (h1 : decide (-4294967296 < b) = true) (h2 : decide (b < 4294967296) = true) : vMul (.int a) (.int b) H = Out.ok (V.int (a * b)) H := if_pos (by rw [h1, h2]; rfl)
theorem x_setL {i : Int} (h : H[k]? = some (.list vs)) (hk : RF (decide (0 ≤ i) && decide (i < 1000)) true) (hs : RF (setV vs i.toNat v) (some us)) (hh : H.set k (.list us) = H1) : vSet2 (.ref k) (.int i) v H = Out.ok () H1 := by
  have hs : setV vs i.toNat v = some us := hs
  show vSetL (.ref k) (.int i) v H = _
  show (match H[k]? with | some (.list vs) => if decide (0 ≤ i) && decide (i < 1000) then (match setV vs i.toNat v with | some us => Out.ok () (H.set k (.list us)) | none => Out.stuck) else Out.stuck | _ => Out.stuck) = _
  rw [h]; refine (if_pos hk).trans ?_; rw [hs, ← hh]
theorem s_ne {i j : Nat} {a b : List (Tx × V)} (h1 : e1 ρ H = Out.ok (.ref i) H1) (h2 : H1[i]? = some (.dict a)) (z1 : Nat.blt a.length 64 = true) (h3 : e2 ρ H1 = Out.ok (.ref j) H2) (h4 : H2[j]? = some (.dict b)) (z2 : Nat.blt b.length 64 = true) (z3 : keysEq a b = true) : bSortedNe e1 e2 ρ H = Out.ok false H2 := by
  unfold bSortedNe; rw [h1]
  simp only [ob_ok', h2, z1, h3, h4, z2, z3, Bool.and_self, if_true]
theorem it_d {es : List (Tx × V)} (h : H[k]? = some (.dict es)) (hz : Nat.ble es.length 64 = true) : RF (itemsOf (.ref k) true H) (some (es.map fun (p : Tx × V) => V.str p.1)) := by
  show (match H[k]? with | some (.dict es) => if Nat.ble es.length 64 then some (es.map fun (p : Tx × V) => V.str p.1) else none | _ => none) = _
  rw [h]; exact if_pos hz
theorem v_si {m : Tx} {i : Int} : vsEq (vEq 9) [V.str m, .int i] [V.str m, .int i] = true := by
  show (txEq m m && (decide (i = i) && true)) = true
  rw [txEq_self, decide_eq_true rfl]; rfl
end
end

section
open PySem PySem.W PySem.Calls PyProof.Rows PySem.Spec
theorem sv {I : Info} {n : Nat} {y : Str} {pos : Pos} (i : Nat) (h : I.vn[i]? = some y) : SE I n (eval (.Name y pos)) (bVar i) := se_var h
theorem st {I : Info} {n : Nat} {y : Str} {k : Nat} {pos : Pos} (l : Tx) (h : y = tr l) : SE I n (eval (.Constant (.str y) k pos)) (bVal (.str l)) := se_str h
theorem c_joined : FC true 78 10 f_joined := by
  refine' fc_plain (q := true) (ps := ["module", "name"]) (rest := []) (n := 9) (ro := false) ⟨⟨_, _, _, _, _, _, _, _, _, _, _, fun w => ⟨by k_is, by k_is⟩, binds2 (by intros; rfl)⟩, by decide, rfl, rfl, rfl⟩ (by decide) (by decide) (by decide) ?_
  refine' ss_cons ?_ ?_
  refine' ss_ret ?_
  refine' se_ifExp ?_ ?_ ?_
  refine' sb_cmp ?_ ?_ (op_eq.less (by decide))
  exact sv 0 rfl
  exact st [] rfl
  exact sv 1 rfl
  refine' se_bin ?_ ?_ op_add
  refine' se_bin ?_ ?_ op_add
  exact sv 0 rfl
  exact st [58, 58] rfl
  exact sv 1 rfl
  exact ss_nil
theorem c_parent_of : FC true 85 10 f_parent_of := ⟨fun _ _ _ _ _ _ _ _ _ _ _ _ h => absurd rfl h⟩
theorem c_is_within : FC true 92 10 f_is_within := ⟨fun _ _ _ _ _ _ _ _ _ _ _ _ h => absurd rfl h⟩
theorem c_Table : FCc 127 10 f_Table := by
  refine' fcc_plain (ps := ["self"]) (rest := []) (n := 9) (ro := false) ⟨⟨_, _, _, _, _, _, _, _, _, _, _, fun w => ⟨by k_is, by k_is⟩, binds1 (by intros; rfl)⟩, by decide, rfl, rfl, rfl⟩ (by decide) (by decide) (by decide) ?_
  refine' ss_cons ?_ ?_
  refine' ss_assign ?_ ?_
  exact se_dict0 rfl
  refine' ta_attr ?_ (op_setA rfl so_types rfl)
  exact sv 0 rfl
  refine' ss_cons ?_ ?_
  refine' ss_assign ?_ ?_
  exact se_dict0 rfl
  refine' ta_attr ?_ (op_setA rfl so_values rfl)
  exact sv 0 rfl
  refine' ss_cons ?_ ?_
  refine' ss_assign ?_ ?_
  exact se_dict0 rfl
  refine' ta_attr ?_ (op_setA rfl so_uses rfl)
  exact sv 0 rfl
  exact ss_nil
theorem c_space : FC true 134 10 f_space := by
  refine' fc_plain (q := true) (ps := ["self", "space"]) (rest := []) (n := 9) (ro := false) ⟨⟨_, _, _, _, _, _, _, _, _, _, _, fun w => ⟨by k_is, by k_is⟩, binds2 (by intros; rfl)⟩, by decide, rfl, rfl, rfl⟩ (by decide) (by decide) (by decide) ?_
  refine' ss_cons ?_ ?_
  refine' ss_ret ?_
  refine' se_ifExp ?_ ?_ ?_
  refine' sb_cmp ?_ ?_ (op_eq.less (by decide))
  exact sv 1 rfl
  exact st [116, 121, 112, 101] rfl
  refine' se_attr ?_ at_types rfl
  exact sv 0 rfl
  refine' se_attr ?_ at_values rfl
  exact sv 0 rfl
  exact ss_nil
theorem c_is_taken : FC true 139 12 f_is_taken := by
  refine' fc_cells (q := true) (ps := ["self", "name", "spaces"]) (rest := []) (n := 11) (ro := false) ⟨⟨_, _, _, _, _, _, _, _, _, _, _, fun w => ⟨by k_is, by k_is⟩, binds3 (by intros; rfl)⟩, by decide, rfl, rfl, rfl⟩ (by decide) (by decide) (by decide) ?_
  refine' ss_cons ?_ ?_
  refine' ss_ret ?_
  refine' se_or ?_ ?_
  refine' se_cmp ?_ ?_ (op_inA.less (by decide))
  exact sv 1 rfl
  refine' se_attr ?_ at_uses rfl
  exact sv 0 rfl
  refine' se_one1 ?_
  refine' se_cmp ?_ ?_ (op_ne.less (by decide))
  refine' se_compC ["space"] ["name", "self"] [1, 0] tg_name (by intro env h; cases env; subst h; rfl) ⟨rfl, by decide, by decide, by decide, by decide, by decide, by decide⟩ ⟨⟨rfl, rfl, rfl, rfl⟩, ⟨⟨rfl, rfl, rfl, rfl⟩, True.intro⟩⟩ rfl (fun _ _ => rfl) ?_ ?_ ?_
  exact sv 2 rfl
  refine' .one ?_
  refine' sb_cmp ?_ ?_ (op_inA.less (by decide))
  exact sv 1 rfl
  refine' se_meth rfl ?_ me_space rfl (call_any c_space) (by decide) ?_ (fun _ => ⟨_, rfl⟩)
  exact sv 2 rfl
  refine' sargs_cons ?_ ?_
  exact sv 0 rfl
  exact .nil
  exact sv 0 rfl
  refine' se_lst ?_
  exact ses_nil
  exact ss_nil
theorem c_can_see : FC true 200 12 f_can_see := by
  refine' fc_plain (q := true) (ps := ["self", "asker", "owner", "is_pub"]) (rest := []) (n := 11) (ro := false) ⟨⟨_, _, _, _, _, _, _, _, _, _, _, fun w => ⟨by k_is, by k_is⟩, binds4 (by intros; rfl)⟩, by decide, rfl, rfl, rfl⟩ (by decide) (by decide) (by decide) ?_
  refine' ss_cons ?_ ?_
  refine' ss_ret ?_
  refine' se_or ?_ ?_
  exact sv 3 rfl
  refine' se_one1 ?_
  refine' se_call rfl ⟨rfl, gl_is_within, rfl⟩ kp_is_within (call_any c_is_within) (by decide) ?_
  refine' sargs_cons ?_ ?_
  exact sv 1 rfl
  refine' sargs_cons ?_ ?_
  exact sv 2 rfl
  exact .nil
  exact ss_nil
theorem c_begin : FC true 222 12 f_begin := by
  refine' fc_plain (q := true) (ps := ["self", "module", "names", "spot"]) (rest := ["here", "at"]) (n := 11) (ro := false) ⟨⟨_, _, _, _, _, _, _, _, _, _, _, fun w => ⟨by k_is, by k_is⟩, binds4 (by intros; rfl)⟩, by decide, rfl, rfl, rfl⟩ (by decide) (by decide) (by decide) ?_
  refine' ss_cons ?_ ?_
  refine' ss_if ?_ ?_ ?_
  refine' sb_cmp ?_ ?_ (op_eq.less (by decide))
  exact sv 2 rfl
  refine' se_tup ?_
  exact ses_nil
  refine' ss_cons ?_ ?_
  refine' ss_raise (by decide) ⟨rfl, gl_NameFault, rfl⟩ ?_ ?_
  exact st [97, 32, 112, 97, 116, 104, 32, 119, 105, 116, 104, 111, 117, 116, 32, 97, 32, 110, 97, 109, 101] rfl
  exact sv 3 rfl
  exact ss_nil
  exact ss_nil
  refine' ss_cons ?_ ?_
  refine' ss_if ?_ ?_ ?_
  refine' sb_cmp ?_ ?_ (op_eq.less (by decide))
  refine' se_getA ?_ ?_ (by decide)
  exact sv 2 rfl
  exact se_int
  exact st [99, 114, 97, 116, 101] rfl
  refine' ss_cons ?_ ?_
  refine' ss_ret ?_
  refine' se_tup ?_
  refine' ses_cons ?_ ?_
  exact st [] rfl
  refine' ses_cons ?_ ?_
  exact se_int
  exact ses_nil
  exact ss_nil
  exact ss_nil
  refine' ss_cons ?_ ?_
  refine' ss_if ?_ ?_ ?_
  refine' sb_notInG ?_ ⟨rfl, gl_WAYS, rfl⟩ to_WAYS
  refine' se_getA ?_ ?_ (by decide)
  exact sv 2 rfl
  exact se_int
  refine' ss_cons ?_ ?_
  refine' ss_ret ?_
  refine' se_tup ?_
  refine' ses_cons ?_ ?_
  exact se_none
  refine' ses_cons ?_ ?_
  exact se_int
  exact ses_nil
  exact ss_nil
  exact ss_nil
  refine' ss_cons ?_ ?_
  first | refine' ss_swap (names := ["here", "at"]) ?_ (io_cons (ta_bind (show NameOk _ 5 "at" from ⟨rfl, by decide, rfl, by first | exact .inl rfl | exact .inr rfl⟩)) (io_cons (ta_bind (show NameOk _ 4 "here" from ⟨rfl, by decide, rfl, by first | exact .inl rfl | exact .inr rfl⟩)) io_nil)) | refine' ss_assign ?_ ?_
  refine' se_tup ?_
  refine' ses_cons ?_ ?_
  exact sv 1 rfl
  refine' ses_cons ?_ ?_
  refine' se_ifExp ?_ ?_ ?_
  refine' sb_cmp ?_ ?_ (op_eq.less (by decide))
  refine' se_getA ?_ ?_ (by decide)
  exact sv 2 rfl
  exact se_int
  exact st [115, 101, 108, 102] rfl
  exact se_int
  exact se_int
  exact ses_nil
  refine' ss_cons ?_ ?_
  refine' ss_while 40 ?_ ?_
  refine' sa_bool ?_
  refine' sa_and ?_ ?_
  refine' sb_cmp ?_ ?_ op_lt
  exact sv 5 rfl
  refine' se_callB ⟨rfl, bl_len, bt_len, by decide, rfl⟩ (.b _) op_len ?_
  refine' sargs_cons ?_ ?_
  exact sv 2 rfl
  exact .nil
  refine' sa_and ?_ ?_
  refine' sb_cmp ?_ ?_ (op_eq.less (by decide))
  refine' se_getA ?_ ?_ (by decide)
  exact sv 2 rfl
  exact sv 5 rfl
  exact st [115, 117, 112, 101, 114] rfl
  exact sa_nil
  refine' ss_cons ?_ ?_
  refine' ss_if ?_ ?_ ?_
  refine' sb_cmp ?_ ?_ (op_eq.less (by decide))
  exact sv 4 rfl
  exact st [] rfl
  refine' ss_cons ?_ ?_
  refine' ss_raise (by decide) ⟨rfl, gl_NameFault, rfl⟩ ?_ ?_
  exact st [116, 104, 101, 114, 101, 32, 105, 115, 32, 110, 111, 116, 104, 105, 110, 103, 32, 97, 98, 111, 118, 101, 32, 116, 104, 101, 32, 114, 111, 111, 116] rfl
  exact sv 3 rfl
  exact ss_nil
  exact ss_nil
  refine' ss_cons ?_ ?_
  first | refine' ss_swap (names := ["here", "at"]) ?_ (io_cons (ta_bind (show NameOk _ 5 "at" from ⟨rfl, by decide, rfl, by first | exact .inl rfl | exact .inr rfl⟩)) (io_cons (ta_bind (show NameOk _ 4 "here" from ⟨rfl, by decide, rfl, by first | exact .inl rfl | exact .inr rfl⟩)) io_nil)) | refine' ss_assign ?_ ?_
  refine' se_tup ?_
  refine' ses_cons ?_ ?_
  refine' se_call rfl ⟨rfl, gl_parent_of, rfl⟩ kp_parent_of (call_any c_parent_of) (by decide) ?_
  refine' sargs_cons ?_ ?_
  exact sv 4 rfl
  exact .nil
  refine' ses_cons ?_ ?_
  refine' se_bin ?_ ?_ op_add
  exact sv 5 rfl
  exact se_int
  exact ses_nil
  exact ss_nil
  refine' ss_cons ?_ ?_
  refine' ss_ret ?_
  refine' se_tup ?_
  refine' ses_cons ?_ ?_
  exact sv 4 rfl
  refine' ses_cons ?_ ?_
  exact sv 5 rfl
  exact ses_nil
  exact ss_nil
theorem c_declare : FC true 174 14 f_declare := by
  refine' fc_plain (q := true) (ps := ["self", "module", "name", "kind", "spaces", "is_pub", "spot"]) (rest := ["table", "path", "space"]) (n := 13) (ro := false) ⟨⟨_, _, _, _, _, _, _, _, _, _, _, fun w => ⟨by k_is, by k_is⟩, binds7 (by intros; rfl)⟩, by decide, rfl, rfl, rfl⟩ (by decide) (by decide) (by decide) ?_
  refine' ss_cons ?_ ?_
  first | refine' ss_swap (names := ["table", "path"]) ?_ (io_cons (ta_bind (show NameOk _ 8 "path" from ⟨rfl, by decide, rfl, by first | exact .inl rfl | exact .inr rfl⟩)) (io_cons (ta_bind (show NameOk _ 7 "table" from ⟨rfl, by decide, rfl, by first | exact .inl rfl | exact .inr rfl⟩)) io_nil)) | refine' ss_assign ?_ ?_
  refine' se_tup ?_
  refine' ses_cons ?_ ?_
  refine' se_getA ?_ ?_ (by decide)
  refine' se_attr ?_ at_tables rfl
  exact sv 0 rfl
  exact sv 1 rfl
  refine' ses_cons ?_ ?_
  refine' se_call rfl ⟨rfl, gl_joined, rfl⟩ kp_joined (call_any c_joined) (by decide) ?_
  refine' sargs_cons ?_ ?_
  exact sv 1 rfl
  refine' sargs_cons ?_ ?_
  exact sv 2 rfl
  exact .nil
  exact ses_nil
  refine' ss_cons ?_ ?_
  refine' ss_if ?_ ?_ ?_
  refine' sa_bool ?_
  refine' sa_and ?_ ?_
  refine' sb_cmp ?_ ?_ (op_inA.less (by decide))
  exact st [116, 121, 112, 101] rfl
  exact sv 4 rfl
  refine' sa_and ?_ ?_
  refine' sb_inG ?_ ⟨rfl, gl_PLAIN_NAMES, rfl⟩ to_PLAIN_NAMES
  exact sv 2 rfl
  exact sa_nil
  refine' ss_cons ?_ ?_
  refine' ss_raise (by decide) ⟨rfl, gl_NameFault, rfl⟩ ?_ ?_
  refine' se_bin ?_ ?_ op_add
  refine' se_bin ?_ ?_ op_add
  exact st [116, 104, 101, 32, 110, 97, 109, 101, 32] rfl
  exact sv 2 rfl
  exact st [32, 105, 115, 32, 116, 104, 97, 116, 32, 111, 102, 32, 97, 32, 112, 108, 97, 105, 110, 32, 116, 121, 112, 101] rfl
  exact sv 6 rfl
  exact ss_nil
  exact ss_nil
  refine' ss_cons ?_ ?_
  refine' ss_if ?_ ?_ ?_
  refine' sa_bool ?_
  refine' sa_or ?_ ?_
  refine' sb_plain ?_ (by intro _; rfl)
  refine' se_meth rfl ?_ me_is_taken rfl (call_any c_is_taken) (by decide) ?_ (fun _ => ⟨_, rfl⟩)
  exact sv 7 rfl
  refine' sargs_cons ?_ ?_
  exact sv 2 rfl
  refine' sargs_cons ?_ ?_
  exact sv 4 rfl
  exact .nil
  refine' sa_or ?_ ?_
  refine' sb_cmp ?_ ?_ (op_inA.less (by decide))
  exact sv 8 rfl
  refine' se_attr ?_ at_kinds rfl
  exact sv 0 rfl
  exact sa_nil
  refine' ss_cons ?_ ?_
  refine' ss_raise (by decide) ⟨rfl, gl_NameFault, rfl⟩ ?_ ?_
  refine' se_bin ?_ ?_ op_add
  refine' se_bin ?_ ?_ op_add
  exact st [116, 104, 101, 32, 110, 97, 109, 101, 32] rfl
  exact sv 2 rfl
  exact st [32, 105, 115, 32, 116, 111, 108, 100, 32, 116, 119, 105, 99, 101] rfl
  exact sv 6 rfl
  exact ss_nil
  exact ss_nil
  refine' ss_cons ?_ ?_
  refine' ss_for ?_ ?_ ?_
  exact sv 4 rfl
  exact ta_name (show NameOk _ 9 "space" from ⟨rfl, by decide, rfl, by first | exact .inl rfl | exact .inr rfl⟩)
  refine' ss_cons ?_ ?_
  refine' ss_assign ?_ ?_
  exact sv 8 rfl
  refine' ta_sub ?_ ?_ ((op_set2 rfl).less (by decide))
  refine' se_meth rfl ?_ me_space rfl (call_any c_space) (by decide) ?_ (fun _ => ⟨_, rfl⟩)
  exact sv 7 rfl
  refine' sargs_cons ?_ ?_
  exact sv 9 rfl
  exact .nil
  exact sv 2 rfl
  exact ss_nil
  refine' ss_cons ?_ ?_
  refine' ss_assign ?_ ?_
  exact sv 3 rfl
  refine' ta_sub ?_ ?_ ((op_set2 rfl).less (by decide))
  refine' se_attr ?_ at_kinds rfl
  exact sv 0 rfl
  exact sv 8 rfl
  refine' ss_cons ?_ ?_
  refine' ss_assign ?_ ?_
  exact sv 5 rfl
  refine' ta_sub ?_ ?_ ((op_set2 rfl).less (by decide))
  refine' se_attr ?_ at_publics rfl
  exact sv 0 rfl
  exact sv 8 rfl
  exact ss_nil
theorem c_declare_type : FC true 179 16 f_declare_type := by
  refine' fc_plain (q := true) (ps := ["self", "module", "item", "spaces", "is_pub"]) (rest := ["path", "regions", "params"]) (n := 15) (ro := false) ⟨⟨_, _, _, _, _, _, _, _, _, _, _, fun w => ⟨by k_is, by k_is⟩, binds5 (by intros; rfl)⟩, by decide, rfl, rfl, rfl⟩ (by decide) (by decide) (by decide) ?_
  refine' ss_cons ?_ ?_
  refine' ss_expr ?_
  refine' se_meth rfl ?_ me_declare rfl (call_any c_declare) (by decide) ?_ (fun _ => ⟨_, rfl⟩)
  exact sv 0 rfl
  refine' sargs_cons ?_ ?_
  exact sv 1 rfl
  refine' sargs_cons ?_ ?_
  refine' se_getA ?_ ?_ (by decide)
  exact sv 2 rfl
  exact se_int
  refine' sargs_cons ?_ ?_
  refine' se_getA ?_ ?_ (by decide)
  exact sv 2 rfl
  exact se_int
  refine' sargs_cons ?_ ?_
  exact sv 3 rfl
  refine' sargs_cons ?_ ?_
  exact sv 4 rfl
  refine' sargs_cons ?_ ?_
  refine' se_getA ?_ ?_ (by decide)
  exact sv 2 rfl
  exact se_int
  exact .nil
  refine' ss_cons ?_ ?_
  refine' ss_assign ?_ ?_
  refine' se_call rfl ⟨rfl, gl_joined, rfl⟩ kp_joined (call_any c_joined) (by decide) ?_
  refine' sargs_cons ?_ ?_
  exact sv 1 rfl
  refine' sargs_cons ?_ ?_
  refine' se_getA ?_ ?_ (by decide)
  exact sv 2 rfl
  exact se_int
  exact .nil
  exact ta_name (show NameOk _ 5 "path" from ⟨rfl, by decide, rfl, by first | exact .inl rfl | exact .inr rfl⟩)
  refine' ss_cons ?_ ?_
  refine' ss_assign ?_ ?_
  refine' se_getA ?_ ?_ (by decide)
  exact sv 2 rfl
  exact se_int
  refine' ta_tup ?_
  refine' tas_cons ?_ ?_
  exact ta_name (show NameOk _ 6 "regions" from ⟨rfl, by decide, rfl, by first | exact .inl rfl | exact .inr rfl⟩)
  refine' tas_cons ?_ ?_
  exact ta_name (show NameOk _ 7 "params" from ⟨rfl, by decide, rfl, by first | exact .inl rfl | exact .inr rfl⟩)
  exact tas_nil
  refine' ss_cons ?_ ?_
  refine' ss_assign ?_ ?_
  refine' se_tup ?_
  refine' ses_cons ?_ ?_
  refine' se_callB ⟨rfl, bl_tuple, bt_tuple, by decide, rfl⟩ (.t _) op_tuple ?_
  refine' sargs_cons ?_ ?_
  exact sv 6 rfl
  exact .nil
  refine' ses_cons ?_ ?_
  refine' se_callB ⟨rfl, bl_tuple, bt_tuple, by decide, rfl⟩ (.t _) op_tuple ?_
  refine' sargs_cons ?_ ?_
  refine' se_compC ["row"] [] [] tg_name (by intro env h; cases env; subst h; rfl) ⟨rfl, by decide, by decide, by decide, by decide, by decide, by decide⟩ True.intro rfl (fun _ _ => rfl) ?_ ?_ ?_
  exact sv 7 rfl
  exact .nil
  refine' se_getA ?_ ?_ (by decide)
  exact sv 0 rfl
  exact se_int
  exact .nil
  exact ses_nil
  refine' ta_sub ?_ ?_ ((op_set2 rfl).less (by decide))
  refine' se_attr ?_ at_generics rfl
  exact sv 0 rfl
  exact sv 5 rfl
  refine' ss_cons ?_ ?_
  refine' ss_assign ?_ ?_
  exact sv 2 rfl
  refine' ta_sub ?_ ?_ ((op_set2 rfl).less (by decide))
  refine' se_attr ?_ at_items rfl
  exact sv 0 rfl
  exact sv 5 rfl
  exact ss_nil
theorem c_enter_variants : FC true 186 12 f_enter_variants := by
  refine' fc_plain (q := true) (ps := ["self", "path", "item"]) (rest := ["row"]) (n := 11) (ro := false) ⟨⟨_, _, _, _, _, _, _, _, _, _, _, fun w => ⟨by k_is, by k_is⟩, binds3 (by intros; rfl)⟩, by decide, rfl, rfl, rfl⟩ (by decide) (by decide) (by decide) ?_
  refine' ss_cons ?_ ?_
  refine' ss_for ?_ ?_ ?_
  refine' se_getA ?_ ?_ (by decide)
  exact sv 2 rfl
  exact se_int
  exact ta_name (show NameOk _ 3 "row" from ⟨rfl, by decide, rfl, by first | exact .inl rfl | exact .inr rfl⟩)
  refine' ss_cons ?_ ?_
  refine' ss_if ?_ ?_ ?_
  refine' sb_cmp ?_ ?_ (op_inA.less (by decide))
  refine' se_call rfl ⟨rfl, gl_joined, rfl⟩ kp_joined (call_any c_joined) (by decide) ?_
  refine' sargs_cons ?_ ?_
  exact sv 1 rfl
  refine' sargs_cons ?_ ?_
  refine' se_getA ?_ ?_ (by decide)
  exact sv 3 rfl
  exact se_int
  exact .nil
  refine' se_attr ?_ at_kinds rfl
  exact sv 0 rfl
  refine' ss_cons ?_ ?_
  refine' ss_raise (by decide) ⟨rfl, gl_NameFault, rfl⟩ ?_ ?_
  refine' se_bin ?_ ?_ op_add
  refine' se_bin ?_ ?_ op_add
  exact st [116, 104, 101, 32, 118, 97, 114, 105, 97, 110, 116, 32] rfl
  refine' se_getA ?_ ?_ (by decide)
  exact sv 3 rfl
  exact se_int
  exact st [32, 105, 115, 32, 116, 111, 108, 100, 32, 116, 119, 105, 99, 101] rfl
  refine' se_getA ?_ ?_ (by decide)
  exact sv 2 rfl
  exact se_int
  exact ss_nil
  exact ss_nil
  refine' ss_cons ?_ ?_
  refine' ss_assign ?_ ?_
  exact st [118, 97, 114, 105, 97, 110, 116] rfl
  refine' ta_sub ?_ ?_ ((op_set2 rfl).less (by decide))
  refine' se_attr ?_ at_kinds rfl
  exact sv 0 rfl
  refine' se_call rfl ⟨rfl, gl_joined, rfl⟩ kp_joined (call_any c_joined) (by decide) ?_
  refine' sargs_cons ?_ ?_
  exact sv 1 rfl
  refine' sargs_cons ?_ ?_
  refine' se_getA ?_ ?_ (by decide)
  exact sv 3 rfl
  exact se_int
  exact .nil
  exact ss_nil
  exact ss_nil
theorem c_enter_use : FC true 193 16 f_enter_use := by
  refine' fc_plain (q := true) (ps := ["self", "module", "item"]) (rest := ["spot", "names", "alias", "is_pub", "name", "table"]) (n := 15) (ro := false) ⟨⟨_, _, _, _, _, _, _, _, _, _, _, fun w => ⟨by k_is, by k_is⟩, binds3 (by intros; rfl)⟩, by decide, rfl, rfl, rfl⟩ (by decide) (by decide) (by decide) ?_
  refine' ss_cons ?_ ?_
  refine' ss_assign ?_ ?_
  refine' se_tup ?_
  refine' ses_cons ?_ ?_
  refine' se_getA ?_ ?_ (by decide)
  exact sv 2 rfl
  exact se_int
  refine' ses_cons ?_ ?_
  refine' se_getA ?_ ?_ (by decide)
  exact sv 2 rfl
  exact se_int
  refine' ses_cons ?_ ?_
  refine' se_getA ?_ ?_ (by decide)
  exact sv 2 rfl
  exact se_int
  refine' ses_cons ?_ ?_
  refine' se_getA ?_ ?_ (by decide)
  exact sv 2 rfl
  exact se_int
  exact ses_nil
  refine' ta_tup ?_
  refine' tas_cons ?_ ?_
  exact ta_name (show NameOk _ 3 "spot" from ⟨rfl, by decide, rfl, by first | exact .inl rfl | exact .inr rfl⟩)
  refine' tas_cons ?_ ?_
  exact ta_name (show NameOk _ 4 "names" from ⟨rfl, by decide, rfl, by first | exact .inl rfl | exact .inr rfl⟩)
  refine' tas_cons ?_ ?_
  exact ta_name (show NameOk _ 5 "alias" from ⟨rfl, by decide, rfl, by first | exact .inl rfl | exact .inr rfl⟩)
  refine' tas_cons ?_ ?_
  exact ta_name (show NameOk _ 6 "is_pub" from ⟨rfl, by decide, rfl, by first | exact .inl rfl | exact .inr rfl⟩)
  exact tas_nil
  refine' ss_cons ?_ ?_
  refine' ss_assign ?_ ?_
  refine' se_ifExp ?_ ?_ ?_
  refine' sb_cmp ?_ ?_ op_isNone
  exact sv 5 rfl
  exact se_none
  refine' se_getA ?_ ?_ (by decide)
  exact sv 4 rfl
  refine' se_un ?_ op_neg
  exact se_int
  exact sv 5 rfl
  exact ta_name (show NameOk _ 7 "name" from ⟨rfl, by decide, rfl, by first | exact .inl rfl | exact .inr rfl⟩)
  refine' ss_cons ?_ ?_
  refine' ss_assign ?_ ?_
  refine' se_getA ?_ ?_ (by decide)
  refine' se_attr ?_ at_tables rfl
  exact sv 0 rfl
  exact sv 1 rfl
  exact ta_name (show NameOk _ 8 "table" from ⟨rfl, by decide, rfl, by first | exact .inl rfl | exact .inr rfl⟩)
  refine' ss_cons ?_ ?_
  refine' ss_if ?_ ?_ ?_
  refine' sb_inG ?_ ⟨rfl, gl_PLAIN_NAMES, rfl⟩ to_PLAIN_NAMES
  exact sv 7 rfl
  refine' ss_cons ?_ ?_
  refine' ss_raise (by decide) ⟨rfl, gl_NameFault, rfl⟩ ?_ ?_
  refine' se_bin ?_ ?_ op_add
  refine' se_bin ?_ ?_ op_add
  exact st [116, 104, 101, 32, 110, 97, 109, 101, 32] rfl
  exact sv 7 rfl
  exact st [32, 105, 115, 32, 116, 104, 97, 116, 32, 111, 102, 32, 97, 32, 112, 108, 97, 105, 110, 32, 116, 121, 112, 101] rfl
  exact sv 3 rfl
  exact ss_nil
  exact ss_nil
  refine' ss_cons ?_ ?_
  refine' ss_if ?_ ?_ ?_
  refine' sa_bool ?_
  refine' sa_or ?_ ?_
  refine' sb_inG ?_ ⟨rfl, gl_WAYS, rfl⟩ to_WAYS
  exact sv 7 rfl
  refine' sa_or ?_ ?_
  refine' sb_plain ?_ (by intro _; rfl)
  refine' se_meth rfl ?_ me_is_taken rfl (call_any c_is_taken) (by decide) ?_ (fun _ => ⟨_, rfl⟩)
  exact sv 8 rfl
  refine' sargs_cons ?_ ?_
  exact sv 7 rfl
  refine' sargs_cons ?_ ?_
  refine' se_tup ?_
  refine' ses_cons ?_ ?_
  exact st [116, 121, 112, 101] rfl
  refine' ses_cons ?_ ?_
  exact st [118, 97, 108, 117, 101] rfl
  exact ses_nil
  exact .nil
  exact sa_nil
  refine' ss_cons ?_ ?_
  refine' ss_raise (by decide) ⟨rfl, gl_NameFault, rfl⟩ ?_ ?_
  refine' se_bin ?_ ?_ op_add
  refine' se_bin ?_ ?_ op_add
  exact st [116, 104, 101, 32, 110, 97, 109, 101, 32] rfl
  exact sv 7 rfl
  exact st [32, 105, 115, 32, 116, 111, 108, 100, 32, 116, 119, 105, 99, 101] rfl
  exact sv 3 rfl
  exact ss_nil
  exact ss_nil
  refine' ss_cons ?_ ?_
  refine' ss_assign ?_ ?_
  refine' se_use ⟨rfl, gl_Use, rfl⟩ (by decide) ?_
  refine' sargs_cons ?_ ?_
  refine' se_callB ⟨rfl, bl_tuple, bt_tuple, by decide, rfl⟩ (.t _) op_tuple ?_
  refine' sargs_cons ?_ ?_
  exact sv 4 rfl
  exact .nil
  refine' sargs_cons ?_ ?_
  exact sv 6 rfl
  refine' sargs_cons ?_ ?_
  exact sv 3 rfl
  exact .nil
  refine' ta_sub ?_ ?_ ((op_set2 rfl).less (by decide))
  refine' se_attr ?_ at_uses rfl
  exact sv 8 rfl
  exact sv 7 rfl
  exact ss_nil
theorem c_enter : FC true 167 20 f_enter := by
  refine' fc_plain (q := true) (ps := ["self", "module", "item"]) (rest := ["kind", "spot", "spaces"]) (n := 19) (ro := false) ⟨⟨_, _, _, _, _, _, _, _, _, _, _, fun w => ⟨by k_is, by k_is⟩, binds3 (by intros; rfl)⟩, by decide, rfl, rfl, rfl⟩ (by decide) (by decide) (by decide) ?_
  refine' ss_cons ?_ ?_
  first | refine' ss_swap (names := ["kind", "spot"]) ?_ (io_cons (ta_bind (show NameOk _ 4 "spot" from ⟨rfl, by decide, rfl, by first | exact .inl rfl | exact .inr rfl⟩)) (io_cons (ta_bind (show NameOk _ 3 "kind" from ⟨rfl, by decide, rfl, by first | exact .inl rfl | exact .inr rfl⟩)) io_nil)) | refine' ss_assign ?_ ?_
  refine' se_tup ?_
  refine' ses_cons ?_ ?_
  refine' se_getA ?_ ?_ (by decide)
  exact sv 2 rfl
  exact se_int
  refine' ses_cons ?_ ?_
  refine' se_getA ?_ ?_ (by decide)
  exact sv 2 rfl
  exact se_int
  exact ses_nil
  refine' ss_cons ?_ ?_
  refine' ss_if ?_ ?_ ?_
  refine' sb_cmp ?_ ?_ (op_eq.less (by decide))
  exact sv 3 rfl
  exact st [117, 115, 101] rfl
  refine' ss_cons ?_ ?_
  refine' ss_expr ?_
  refine' se_meth rfl ?_ me_enter_use rfl (call_any c_enter_use) (by decide) ?_ (fun _ => ⟨_, rfl⟩)
  exact sv 0 rfl
  refine' sargs_cons ?_ ?_
  exact sv 1 rfl
  refine' sargs_cons ?_ ?_
  exact sv 2 rfl
  exact .nil
  exact ss_nil
  refine' ss_cons ?_ ?_
  refine' ss_if ?_ ?_ ?_
  refine' sb_cmp ?_ ?_ (op_eq.less (by decide))
  exact sv 3 rfl
  exact st [109, 111, 100] rfl
  refine' ss_cons ?_ ?_
  refine' ss_expr ?_
  refine' se_meth rfl ?_ me_declare rfl (call_any c_declare) (by decide) ?_ (fun _ => ⟨_, rfl⟩)
  exact sv 0 rfl
  refine' sargs_cons ?_ ?_
  exact sv 1 rfl
  refine' sargs_cons ?_ ?_
  refine' se_getA ?_ ?_ (by decide)
  exact sv 2 rfl
  exact se_int
  refine' sargs_cons ?_ ?_
  exact sv 3 rfl
  refine' sargs_cons ?_ ?_
  refine' se_tup ?_
  refine' ses_cons ?_ ?_
  exact st [116, 121, 112, 101] rfl
  exact ses_nil
  refine' sargs_cons ?_ ?_
  refine' se_getA ?_ ?_ (by decide)
  exact sv 2 rfl
  exact se_int
  refine' sargs_cons ?_ ?_
  exact sv 4 rfl
  exact .nil
  refine' ss_cons ?_ ?_
  refine' ss_assign ?_ ?_
  refine' se_make rfl ⟨rfl, gl_Table, rfl⟩ co_Table c_Table (by decide) ?_
  exact .nil
  refine' ta_sub ?_ ?_ ((op_set2 rfl).less (by decide))
  refine' se_attr ?_ at_tables rfl
  exact sv 0 rfl
  refine' se_call rfl ⟨rfl, gl_joined, rfl⟩ kp_joined (call_any c_joined) (by decide) ?_
  refine' sargs_cons ?_ ?_
  exact sv 1 rfl
  refine' sargs_cons ?_ ?_
  refine' se_getA ?_ ?_ (by decide)
  exact sv 2 rfl
  exact se_int
  exact .nil
  exact ss_nil
  refine' ss_cons ?_ ?_
  refine' ss_if ?_ ?_ ?_
  refine' sb_cmp ?_ ?_ (op_eq.less (by decide))
  exact sv 3 rfl
  exact st [115, 116, 114, 117, 99, 116] rfl
  refine' ss_cons ?_ ?_
  refine' ss_assign ?_ ?_
  refine' se_ifExp ?_ ?_ ?_
  refine' sb_cmp ?_ ?_ (op_eq.less (by decide))
  refine' se_getA ?_ ?_ (by decide)
  exact sv 2 rfl
  exact se_int
  exact st [110, 97, 109, 101, 100] rfl
  refine' se_tup ?_
  refine' ses_cons ?_ ?_
  exact st [116, 121, 112, 101] rfl
  exact ses_nil
  refine' se_tup ?_
  refine' ses_cons ?_ ?_
  exact st [116, 121, 112, 101] rfl
  refine' ses_cons ?_ ?_
  exact st [118, 97, 108, 117, 101] rfl
  exact ses_nil
  exact ta_name (show NameOk _ 5 "spaces" from ⟨rfl, by decide, rfl, by first | exact .inl rfl | exact .inr rfl⟩)
  refine' ss_cons ?_ ?_
  refine' ss_expr ?_
  refine' se_meth rfl ?_ me_declare_type rfl (call_any c_declare_type) (by decide) ?_ (fun _ => ⟨_, rfl⟩)
  exact sv 0 rfl
  refine' sargs_cons ?_ ?_
  exact sv 1 rfl
  refine' sargs_cons ?_ ?_
  exact sv 2 rfl
  refine' sargs_cons ?_ ?_
  exact sv 5 rfl
  refine' sargs_cons ?_ ?_
  refine' se_getA ?_ ?_ (by decide)
  exact sv 2 rfl
  exact se_int
  exact .nil
  exact ss_nil
  refine' ss_cons ?_ ?_
  refine' ss_if ?_ ?_ ?_
  refine' sb_cmp ?_ ?_ (op_eq.less (by decide))
  exact sv 3 rfl
  exact st [101, 110, 117, 109] rfl
  refine' ss_cons ?_ ?_
  refine' ss_expr ?_
  refine' se_meth rfl ?_ me_declare_type rfl (call_any c_declare_type) (by decide) ?_ (fun _ => ⟨_, rfl⟩)
  exact sv 0 rfl
  refine' sargs_cons ?_ ?_
  exact sv 1 rfl
  refine' sargs_cons ?_ ?_
  exact sv 2 rfl
  refine' sargs_cons ?_ ?_
  refine' se_tup ?_
  refine' ses_cons ?_ ?_
  exact st [116, 121, 112, 101] rfl
  exact ses_nil
  refine' sargs_cons ?_ ?_
  refine' se_getA ?_ ?_ (by decide)
  exact sv 2 rfl
  exact se_int
  exact .nil
  refine' ss_cons ?_ ?_
  refine' ss_expr ?_
  refine' se_meth rfl ?_ me_enter_variants rfl (call_any c_enter_variants) (by decide) ?_ (fun _ => ⟨_, rfl⟩)
  exact sv 0 rfl
  refine' sargs_cons ?_ ?_
  refine' se_call rfl ⟨rfl, gl_joined, rfl⟩ kp_joined (call_any c_joined) (by decide) ?_
  refine' sargs_cons ?_ ?_
  exact sv 1 rfl
  refine' sargs_cons ?_ ?_
  refine' se_getA ?_ ?_ (by decide)
  exact sv 2 rfl
  exact se_int
  exact .nil
  refine' sargs_cons ?_ ?_
  exact sv 2 rfl
  exact .nil
  exact ss_nil
  refine' ss_cons ?_ ?_
  refine' ss_if ?_ ?_ ?_
  refine' sb_cmp ?_ ?_ (op_eq.less (by decide))
  exact sv 3 rfl
  exact st [116, 114, 97, 105, 116] rfl
  refine' ss_cons ?_ ?_
  refine' ss_expr ?_
  refine' se_meth rfl ?_ me_declare_type rfl (call_any c_declare_type) (by decide) ?_ (fun _ => ⟨_, rfl⟩)
  exact sv 0 rfl
  refine' sargs_cons ?_ ?_
  exact sv 1 rfl
  refine' sargs_cons ?_ ?_
  exact sv 2 rfl
  refine' sargs_cons ?_ ?_
  refine' se_tup ?_
  refine' ses_cons ?_ ?_
  exact st [116, 121, 112, 101] rfl
  exact ses_nil
  refine' sargs_cons ?_ ?_
  refine' se_getA ?_ ?_ (by decide)
  exact sv 2 rfl
  exact se_int
  exact .nil
  exact ss_nil
  refine' ss_cons ?_ ?_
  refine' ss_if ?_ ?_ ?_
  refine' sb_cmp ?_ ?_ (op_inA.less (by decide))
  exact sv 3 rfl
  refine' se_tup ?_
  refine' ses_cons ?_ ?_
  exact st [102, 110] rfl
  refine' ses_cons ?_ ?_
  exact st [99, 111, 110, 115, 116] rfl
  exact ses_nil
  refine' ss_cons ?_ ?_
  refine' ss_expr ?_
  refine' se_meth rfl ?_ me_declare rfl (call_any c_declare) (by decide) ?_ (fun _ => ⟨_, rfl⟩)
  exact sv 0 rfl
  refine' sargs_cons ?_ ?_
  exact sv 1 rfl
  refine' sargs_cons ?_ ?_
  refine' se_getA ?_ ?_ (by decide)
  exact sv 2 rfl
  exact se_int
  refine' sargs_cons ?_ ?_
  exact sv 3 rfl
  refine' sargs_cons ?_ ?_
  refine' se_tup ?_
  refine' ses_cons ?_ ?_
  exact st [118, 97, 108, 117, 101] rfl
  exact ses_nil
  refine' sargs_cons ?_ ?_
  refine' se_ifExp ?_ ?_ ?_
  refine' sb_cmp ?_ ?_ (op_eq.less (by decide))
  exact sv 3 rfl
  exact st [102, 110] rfl
  refine' se_getA ?_ ?_ (by decide)
  exact sv 2 rfl
  exact se_int
  refine' se_getA ?_ ?_ (by decide)
  exact sv 2 rfl
  exact se_int
  refine' sargs_cons ?_ ?_
  exact sv 4 rfl
  exact .nil
  refine' ss_cons ?_ ?_
  refine' ss_assign ?_ ?_
  exact sv 2 rfl
  refine' ta_sub ?_ ?_ ((op_set2 rfl).less (by decide))
  refine' se_attr ?_ at_items rfl
  exact sv 0 rfl
  refine' se_call rfl ⟨rfl, gl_joined, rfl⟩ kp_joined (call_any c_joined) (by decide) ?_
  refine' sargs_cons ?_ ?_
  exact sv 1 rfl
  refine' sargs_cons ?_ ?_
  refine' se_getA ?_ ?_ (by decide)
  exact sv 2 rfl
  exact se_int
  exact .nil
  exact ss_nil
  exact ss_nil
  exact ss_nil
  exact ss_nil
  exact ss_nil
  exact ss_nil
  exact ss_nil
  exact ss_nil
theorem c_Modules : FCc 160 24 f_Modules := by
  refine' fcc_plain (ps := ["self", "items"]) (rest := ["left", "module", "inner", "item"]) (n := 23) (ro := false) ⟨⟨_, _, _, _, _, _, _, _, _, _, _, fun w => ⟨by k_is, by k_is⟩, binds2 (by intros; rfl)⟩, by decide, rfl, rfl, rfl⟩ (by decide) (by decide) (by decide) ?_
  refine' ss_cons ?_ ?_
  refine' ss_assign ?_ ?_
  refine' se_dictB (ks := [[]]) rfl ?_ ?_
  refine' sps_consB ?_ ?_ ?_
  exact (rfl : _ = _)
  exact st [109, 111, 100] rfl
  exact sps_nil
  exact (rfl : _ = true)
  refine' ta_attr ?_ (op_setA rfl so_kinds rfl)
  exact sv 0 rfl
  refine' ss_cons ?_ ?_
  refine' ss_assign ?_ ?_
  refine' se_dictB (ks := [[]]) rfl ?_ ?_
  refine' sps_consB ?_ ?_ ?_
  exact (rfl : _ = _)
  exact se_bool
  exact sps_nil
  exact (rfl : _ = true)
  refine' ta_attr ?_ (op_setA rfl so_publics rfl)
  exact sv 0 rfl
  refine' ss_cons ?_ ?_
  refine' ss_assign ?_ ?_
  refine' se_dictB (ks := [[]]) rfl ?_ ?_
  refine' sps_consB ?_ ?_ ?_
  exact (rfl : _ = _)
  refine' se_make rfl ⟨rfl, gl_Table, rfl⟩ co_Table c_Table (by decide) ?_
  exact .nil
  exact sps_nil
  exact (rfl : _ = true)
  refine' ta_attr ?_ (op_setA rfl so_tables rfl)
  exact sv 0 rfl
  refine' ss_cons ?_ ?_
  refine' ss_assign ?_ ?_
  exact se_dict0 rfl
  refine' ta_attr ?_ (op_setA rfl so_generics rfl)
  exact sv 0 rfl
  refine' ss_cons ?_ ?_
  refine' ss_assign ?_ ?_
  exact se_dict0 rfl
  refine' ta_attr ?_ (op_setA rfl so_items rfl)
  exact sv 0 rfl
  refine' ss_cons ?_ ?_
  refine' ss_assign ?_ ?_
  exact se_dict0 rfl
  refine' ta_attr ?_ (op_setA rfl so_kept rfl)
  exact sv 0 rfl
  refine' ss_cons ?_ ?_
  refine' ss_assign ?_ ?_
  refine' se_lstM rfl ?_
  refine' ses_cons ?_ ?_
  refine' se_tup ?_
  refine' ses_cons ?_ ?_
  exact st [] rfl
  refine' ses_cons ?_ ?_
  refine' se_callB ⟨rfl, bl_list, bt_list, by decide, rfl⟩ (.t _) op_list ?_
  refine' sargs_cons ?_ ?_
  exact sv 1 rfl
  exact .nil
  exact ses_nil
  exact ses_nil
  exact ta_name (show NameOk _ 2 "left" from ⟨rfl, by decide, rfl, by first | exact .inl rfl | exact .inr rfl⟩)
  refine' ss_cons ?_ ?_
  refine' ss_while 40 ?_ ?_
  refine' sb_cmp ?_ ?_ (op_ne.less (by decide))
  exact sv 2 rfl
  refine' se_lst ?_
  exact ses_nil
  refine' ss_cons ?_ ?_
  refine' ss_assign ?_ ?_
  refine' se_methB ?_ om_pop (op_pop rfl) ?_ (fun _ => ⟨_, rfl⟩)
  exact sv 2 rfl
  exact .nil
  refine' ta_tup ?_
  refine' tas_cons ?_ ?_
  exact ta_name (show NameOk _ 3 "module" from ⟨rfl, by decide, rfl, by first | exact .inl rfl | exact .inr rfl⟩)
  refine' tas_cons ?_ ?_
  exact ta_name (show NameOk _ 4 "inner" from ⟨rfl, by decide, rfl, by first | exact .inl rfl | exact .inr rfl⟩)
  exact tas_nil
  refine' ss_cons ?_ ?_
  refine' ss_for ?_ ?_ ?_
  exact sv 4 rfl
  exact ta_name (show NameOk _ 5 "item" from ⟨rfl, by decide, rfl, by first | exact .inl rfl | exact .inr rfl⟩)
  refine' ss_cons ?_ ?_
  refine' ss_if ?_ ?_ ?_
  refine' sb_cmp ?_ ?_ (op_eq.less (by decide))
  refine' se_getA ?_ ?_ (by decide)
  exact sv 5 rfl
  exact se_int
  exact st [109, 111, 100] rfl
  refine' ss_cons ?_ ?_
  refine' ss_expr ?_
  refine' se_methB ?_ om_append (op_append rfl) ?_ (fun _ => ⟨_, rfl⟩)
  exact sv 2 rfl
  refine' sargs_cons ?_ ?_
  refine' se_tup ?_
  refine' ses_cons ?_ ?_
  refine' se_call rfl ⟨rfl, gl_joined, rfl⟩ kp_joined (call_any c_joined) (by decide) ?_
  refine' sargs_cons ?_ ?_
  exact sv 3 rfl
  refine' sargs_cons ?_ ?_
  refine' se_getA ?_ ?_ (by decide)
  exact sv 5 rfl
  exact se_int
  exact .nil
  refine' ses_cons ?_ ?_
  refine' se_callB ⟨rfl, bl_list, bt_list, by decide, rfl⟩ (.t _) op_list ?_
  refine' sargs_cons ?_ ?_
  refine' se_getA ?_ ?_ (by decide)
  exact sv 5 rfl
  exact se_int
  exact .nil
  exact ses_nil
  exact .nil
  exact ss_nil
  exact ss_nil
  refine' ss_cons ?_ ?_
  refine' ss_expr ?_
  refine' se_meth rfl ?_ me_enter rfl (call_any c_enter) (by decide) ?_ (fun _ => ⟨_, rfl⟩)
  exact sv 0 rfl
  refine' sargs_cons ?_ ?_
  exact sv 3 rfl
  refine' sargs_cons ?_ ?_
  exact sv 5 rfl
  exact .nil
  exact ss_nil
  exact ss_nil
  exact ss_nil
theorem c_look {m : Nat} (hm : 12 ≤ m) {F : List V → Hp → Out V} (C_follow : FC true 243 m F) : FC true 236 (m + 1) (f_look F) := by
  refine' fc_plain (q := true) (ps := ["self", "asker", "owner", "name", "space", "spot", "seen"]) (rest := ["path", "table", "use"]) (n := m) (ro := false) ⟨⟨_, _, _, _, _, _, _, _, _, _, _, fun w => ⟨by k_is, by k_is⟩, binds7 (by intros; rfl)⟩, by decide, rfl, rfl, rfl⟩ (by decide) (by decide) (by decide) ?_
  refine' ss_cons ?_ ?_
  refine' ss_if ?_ ?_ ?_
  refine' sb_cmp ?_ ?_ (op_eq.less (by omega))
  refine' se_getA ?_ ?_ (by omega)
  refine' se_attr ?_ at_kinds rfl
  exact sv 0 rfl
  exact sv 2 rfl
  exact st [101, 110, 117, 109] rfl
  refine' ss_cons ?_ ?_
  refine' ss_assign ?_ ?_
  refine' se_call rfl ⟨rfl, gl_joined, rfl⟩ kp_joined (call_any c_joined) (by omega) ?_
  refine' sargs_cons ?_ ?_
  exact sv 2 rfl
  refine' sargs_cons ?_ ?_
  exact sv 3 rfl
  exact .nil
  exact ta_name (show NameOk _ 7 "path" from ⟨rfl, by decide, rfl, by first | exact .inl rfl | exact .inr rfl⟩)
  refine' ss_cons ?_ ?_
  refine' ss_ret ?_
  refine' se_ifExp ?_ ?_ ?_
  refine' sb_cmp ?_ ?_ (op_eq.less (by omega))
  refine' se_methB ?_ om_get op_dget ?_ (fun _ => ⟨_, rfl⟩)
  refine' se_attr ?_ at_kinds rfl
  exact sv 0 rfl
  refine' sargs_cons ?_ ?_
  exact sv 7 rfl
  exact .nil
  exact st [118, 97, 114, 105, 97, 110, 116] rfl
  exact sv 7 rfl
  exact se_none
  exact ss_nil
  exact ss_nil
  refine' ss_cons ?_ ?_
  refine' ss_if ?_ ?_ ?_
  refine' sb_cmp ?_ ?_ (op_ne.less (by omega))
  refine' se_getA ?_ ?_ (by omega)
  refine' se_attr ?_ at_kinds rfl
  exact sv 0 rfl
  exact sv 2 rfl
  exact st [109, 111, 100] rfl
  refine' ss_cons ?_ ?_
  refine' ss_ret ?_
  exact se_none
  exact ss_nil
  exact ss_nil
  refine' ss_cons ?_ ?_
  refine' ss_assign ?_ ?_
  refine' se_getA ?_ ?_ (by omega)
  refine' se_attr ?_ at_tables rfl
  exact sv 0 rfl
  exact sv 2 rfl
  exact ta_name (show NameOk _ 8 "table" from ⟨rfl, by decide, rfl, by first | exact .inl rfl | exact .inr rfl⟩)
  refine' ss_cons ?_ ?_
  refine' ss_assign ?_ ?_
  refine' se_methB ?_ om_get op_dget ?_ (fun _ => ⟨_, rfl⟩)
  refine' se_meth rfl ?_ me_space rfl (call_any c_space) (by omega) ?_ (fun _ => ⟨_, rfl⟩)
  exact sv 8 rfl
  refine' sargs_cons ?_ ?_
  exact sv 4 rfl
  exact .nil
  refine' sargs_cons ?_ ?_
  exact sv 3 rfl
  exact .nil
  exact ta_name (show NameOk _ 7 "path" from ⟨rfl, by decide, rfl, by first | exact .inl rfl | exact .inr rfl⟩)
  refine' ss_cons ?_ ?_
  refine' ss_if ?_ ?_ ?_
  refine' sb_cmp ?_ ?_ op_isNotNone
  exact sv 7 rfl
  exact se_none
  refine' ss_cons ?_ ?_
  refine' ss_if ?_ ?_ ?_
  refine' sb_not ?_
  refine' sb_plain ?_ (by intro _; rfl)
  refine' se_meth rfl ?_ me_can_see rfl (call_any c_can_see) (by omega) ?_ (fun _ => ⟨_, rfl⟩)
  exact sv 0 rfl
  refine' sargs_cons ?_ ?_
  exact sv 1 rfl
  refine' sargs_cons ?_ ?_
  exact sv 2 rfl
  refine' sargs_cons ?_ ?_
  refine' se_getA ?_ ?_ (by omega)
  refine' se_attr ?_ at_publics rfl
  exact sv 0 rfl
  exact sv 7 rfl
  exact .nil
  refine' ss_cons ?_ ?_
  exact ss_no
  exact ss_nil
  exact ss_nil
  refine' ss_cons ?_ ?_
  refine' ss_ret ?_
  exact sv 7 rfl
  exact ss_nil
  exact ss_nil
  refine' ss_cons ?_ ?_
  refine' ss_assign ?_ ?_
  refine' se_methB ?_ om_get op_dget ?_ (fun _ => ⟨_, rfl⟩)
  refine' se_attr ?_ at_uses rfl
  exact sv 8 rfl
  refine' sargs_cons ?_ ?_
  exact sv 3 rfl
  exact .nil
  exact ta_name (show NameOk _ 9 "use" from ⟨rfl, by decide, rfl, by first | exact .inl rfl | exact .inr rfl⟩)
  refine' ss_cons ?_ ?_
  refine' ss_if ?_ ?_ ?_
  refine' sb_cmp ?_ ?_ op_isNone
  exact sv 9 rfl
  exact se_none
  refine' ss_cons ?_ ?_
  refine' ss_ret ?_
  exact se_none
  exact ss_nil
  exact ss_nil
  refine' ss_cons ?_ ?_
  refine' ss_if ?_ ?_ ?_
  refine' sb_not ?_
  refine' sb_plain ?_ (by intro _; rfl)
  refine' se_meth rfl ?_ me_can_see rfl (call_any c_can_see) (by omega) ?_ (fun _ => ⟨_, rfl⟩)
  exact sv 0 rfl
  refine' sargs_cons ?_ ?_
  exact sv 1 rfl
  refine' sargs_cons ?_ ?_
  exact sv 2 rfl
  refine' sargs_cons ?_ ?_
  refine' se_attr ?_ at_is_pub rfl
  exact sv 9 rfl
  exact .nil
  refine' ss_cons ?_ ?_
  exact ss_no
  exact ss_nil
  exact ss_nil
  refine' ss_cons ?_ ?_
  refine' ss_ret ?_
  refine' se_meth rfl ?_ me_follow rfl (call_any C_follow) (by omega) ?_ (fun _ => ⟨_, rfl⟩)
  exact sv 0 rfl
  refine' sargs_cons ?_ ?_
  exact sv 2 rfl
  refine' sargs_cons ?_ ?_
  exact sv 3 rfl
  refine' sargs_cons ?_ ?_
  exact sv 9 rfl
  refine' sargs_cons ?_ ?_
  exact sv 4 rfl
  refine' sargs_cons ?_ ?_
  exact sv 6 rfl
  exact .nil
  exact ss_nil
theorem c_step {m : Nat} (hm : 12 ≤ m) {F : List V → Hp → Out V} (C_look : FC true 236 m F) : FC true 229 (m + 1) (f_step F) := by
  refine' fc_plain (q := true) (ps := ["self", "module", "here", "name", "space", "spot", "seen"]) (rest := ["found"]) (n := m) (ro := false) ⟨⟨_, _, _, _, _, _, _, _, _, _, _, fun w => ⟨by k_is, by k_is⟩, binds7 (by intros; rfl)⟩, by decide, rfl, rfl, rfl⟩ (by decide) (by decide) (by decide) ?_
  refine' ss_cons ?_ ?_
  refine' ss_if ?_ ?_ ?_
  refine' sb_cmp ?_ ?_ op_isNotNone
  exact sv 2 rfl
  exact se_none
  refine' ss_cons ?_ ?_
  refine' ss_ret ?_
  refine' se_meth rfl ?_ me_look rfl (call_any C_look) (by omega) ?_ (fun _ => ⟨_, rfl⟩)
  exact sv 0 rfl
  refine' sargs_cons ?_ ?_
  exact sv 1 rfl
  refine' sargs_cons ?_ ?_
  exact sv 2 rfl
  refine' sargs_cons ?_ ?_
  exact sv 3 rfl
  refine' sargs_cons ?_ ?_
  exact sv 4 rfl
  refine' sargs_cons ?_ ?_
  exact sv 5 rfl
  refine' sargs_cons ?_ ?_
  exact sv 6 rfl
  exact .nil
  exact ss_nil
  exact ss_nil
  refine' ss_cons ?_ ?_
  refine' ss_assign ?_ ?_
  refine' se_meth rfl ?_ me_look rfl (call_any C_look) (by omega) ?_ (fun _ => ⟨_, rfl⟩)
  exact sv 0 rfl
  refine' sargs_cons ?_ ?_
  exact sv 1 rfl
  refine' sargs_cons ?_ ?_
  exact sv 1 rfl
  refine' sargs_cons ?_ ?_
  exact sv 3 rfl
  refine' sargs_cons ?_ ?_
  exact sv 4 rfl
  refine' sargs_cons ?_ ?_
  exact sv 5 rfl
  refine' sargs_cons ?_ ?_
  exact sv 6 rfl
  exact .nil
  exact ta_name (show NameOk _ 7 "found" from ⟨rfl, by decide, rfl, by first | exact .inl rfl | exact .inr rfl⟩)
  refine' ss_cons ?_ ?_
  refine' ss_if ?_ ?_ ?_
  refine' sa_bool ?_
  refine' sa_and ?_ ?_
  refine' sb_cmp ?_ ?_ op_isNone
  exact sv 7 rfl
  exact se_none
  refine' sa_and ?_ ?_
  refine' sb_inG ?_ ⟨rfl, gl_PRELUDE_NAMES, rfl⟩ to_PRELUDE_NAMES
  exact sv 3 rfl
  exact sa_nil
  refine' ss_cons ?_ ?_
  refine' ss_assign ?_ ?_
  refine' se_meth rfl ?_ me_look rfl (call_any C_look) (by omega) ?_ (fun _ => ⟨_, rfl⟩)
  exact sv 0 rfl
  refine' sargs_cons ?_ ?_
  exact sv 1 rfl
  refine' sargs_cons ?_ ?_
  exact st [] rfl
  refine' sargs_cons ?_ ?_
  exact sv 3 rfl
  refine' sargs_cons ?_ ?_
  exact sv 4 rfl
  refine' sargs_cons ?_ ?_
  exact sv 5 rfl
  refine' sargs_cons ?_ ?_
  exact sv 6 rfl
  exact .nil
  exact ta_name (show NameOk _ 7 "found" from ⟨rfl, by decide, rfl, by first | exact .inl rfl | exact .inr rfl⟩)
  exact ss_nil
  exact ss_nil
  refine' ss_cons ?_ ?_
  refine' ss_ret ?_
  exact sv 7 rfl
  exact ss_nil
theorem c_walk {m : Nat} (hm : 12 ≤ m) {F : List V → Hp → Out V} (C_step : FC true 229 m F) : FC true 215 (m + 1) (f_walk F) := by
  refine' fc_plain (q := true) (ps := ["self", "module", "names", "space", "spot", "seen"]) (rest := ["here", "at", "wanted", "found"]) (n := m) (ro := false) ⟨⟨_, _, _, _, _, _, _, _, _, _, _, fun w => ⟨by k_is, by k_is⟩, binds6 (by intros; rfl)⟩, by decide, rfl, rfl, rfl⟩ (by decide) (by decide) (by decide) ?_
  refine' ss_cons ?_ ?_
  refine' ss_assign ?_ ?_
  refine' se_meth rfl ?_ me_begin rfl (call_any c_begin) (by omega) ?_ (fun _ => ⟨_, rfl⟩)
  exact sv 0 rfl
  refine' sargs_cons ?_ ?_
  exact sv 1 rfl
  refine' sargs_cons ?_ ?_
  exact sv 2 rfl
  refine' sargs_cons ?_ ?_
  exact sv 4 rfl
  exact .nil
  refine' ta_tup ?_
  refine' tas_cons ?_ ?_
  exact ta_name (show NameOk _ 6 "here" from ⟨rfl, by decide, rfl, by first | exact .inl rfl | exact .inr rfl⟩)
  refine' tas_cons ?_ ?_
  exact ta_name (show NameOk _ 7 "at" from ⟨rfl, by decide, rfl, by first | exact .inl rfl | exact .inr rfl⟩)
  exact tas_nil
  refine' ss_cons ?_ ?_
  refine' ss_while 40 ?_ ?_
  refine' sb_cmp ?_ ?_ op_lt
  exact sv 7 rfl
  refine' se_callB ⟨rfl, bl_len, bt_len, by decide, rfl⟩ (.b _) op_len ?_
  refine' sargs_cons ?_ ?_
  exact sv 2 rfl
  exact .nil
  refine' ss_cons ?_ ?_
  refine' ss_assign ?_ ?_
  refine' se_ifExp ?_ ?_ ?_
  refine' sb_cmp ?_ ?_ (op_eq.less (by omega))
  refine' se_bin ?_ ?_ op_add
  exact sv 7 rfl
  exact se_int
  refine' se_callB ⟨rfl, bl_len, bt_len, by decide, rfl⟩ (.b _) op_len ?_
  refine' sargs_cons ?_ ?_
  exact sv 2 rfl
  exact .nil
  exact sv 3 rfl
  exact st [116, 121, 112, 101] rfl
  exact ta_name (show NameOk _ 8 "wanted" from ⟨rfl, by decide, rfl, by first | exact .inl rfl | exact .inr rfl⟩)
  refine' ss_cons ?_ ?_
  refine' ss_assign ?_ ?_
  refine' se_meth rfl ?_ me_step rfl (call_any C_step) (by omega) ?_ (fun _ => ⟨_, rfl⟩)
  exact sv 0 rfl
  refine' sargs_cons ?_ ?_
  exact sv 1 rfl
  refine' sargs_cons ?_ ?_
  exact sv 6 rfl
  refine' sargs_cons ?_ ?_
  refine' se_getA ?_ ?_ (by omega)
  exact sv 2 rfl
  exact sv 7 rfl
  refine' sargs_cons ?_ ?_
  exact sv 8 rfl
  refine' sargs_cons ?_ ?_
  exact sv 4 rfl
  refine' sargs_cons ?_ ?_
  exact sv 5 rfl
  exact .nil
  exact ta_name (show NameOk _ 9 "found" from ⟨rfl, by decide, rfl, by first | exact .inl rfl | exact .inr rfl⟩)
  refine' ss_cons ?_ ?_
  refine' ss_if ?_ ?_ ?_
  refine' sb_cmp ?_ ?_ op_isNone
  exact sv 9 rfl
  exact se_none
  refine' ss_cons ?_ ?_
  refine' ss_raise (by omega) ⟨rfl, gl_NameFault, rfl⟩ ?_ ?_
  refine' se_bin ?_ ?_ op_add
  exact st [110, 111, 116, 104, 105, 110, 103, 32, 105, 115, 32, 110, 97, 109, 101, 100, 32] rfl
  refine' se_methB ?_ om_join op_join ?_ (fun _ => ⟨_, rfl⟩)
  exact st [58, 58] rfl
  refine' sargs_cons ?_ ?_
  exact sv 2 rfl
  exact .nil
  exact sv 4 rfl
  exact ss_nil
  exact ss_nil
  refine' ss_cons ?_ ?_
  first | refine' ss_swap (names := ["here", "at"]) ?_ (io_cons (ta_bind (show NameOk _ 7 "at" from ⟨rfl, by decide, rfl, by first | exact .inl rfl | exact .inr rfl⟩)) (io_cons (ta_bind (show NameOk _ 6 "here" from ⟨rfl, by decide, rfl, by first | exact .inl rfl | exact .inr rfl⟩)) io_nil)) | refine' ss_assign ?_ ?_
  refine' se_tup ?_
  refine' ses_cons ?_ ?_
  exact sv 9 rfl
  refine' ses_cons ?_ ?_
  refine' se_bin ?_ ?_ op_add
  exact sv 7 rfl
  exact se_int
  exact ses_nil
  exact ss_nil
  refine' ss_cons ?_ ?_
  refine' ss_if ?_ ?_ ?_
  refine' sa_bool ?_
  refine' sa_or ?_ ?_
  refine' sb_cmp ?_ ?_ op_isNone
  exact sv 6 rfl
  exact se_none
  refine' sa_or ?_ ?_
  refine' sa_bool ?_
  refine' sa_and ?_ ?_
  refine' sb_cmp ?_ ?_ (op_eq.less (by omega))
  exact sv 3 rfl
  exact st [118, 97, 108, 117, 101] rfl
  refine' sa_and ?_ ?_
  refine' sb_cmp ?_ ?_ (op_eq.less (by omega))
  refine' se_getA ?_ ?_ (by omega)
  refine' se_attr ?_ at_kinds rfl
  exact sv 0 rfl
  exact sv 6 rfl
  exact st [109, 111, 100] rfl
  exact sa_nil
  exact sa_nil
  refine' ss_cons ?_ ?_
  refine' ss_raise (by omega) ⟨rfl, gl_NameFault, rfl⟩ ?_ ?_
  refine' se_bin ?_ ?_ op_add
  exact st [110, 111, 116, 104, 105, 110, 103, 32, 105, 115, 32, 110, 97, 109, 101, 100, 32] rfl
  refine' se_methB ?_ om_join op_join ?_ (fun _ => ⟨_, rfl⟩)
  exact st [58, 58] rfl
  refine' sargs_cons ?_ ?_
  exact sv 2 rfl
  exact .nil
  exact sv 4 rfl
  exact ss_nil
  exact ss_nil
  refine' ss_cons ?_ ?_
  refine' ss_ret ?_
  exact sv 6 rfl
  exact ss_nil
theorem c_followS {m : Nat} (hm : 12 ≤ m) {F : List V → Hp → Out V} (C_walk : FC true 215 m F) : FC true 243 (m + 1) (f_followS F) := by
  refine' fc_plain (q := true) (ps := ["self", "owner", "name", "use", "space", "seen"]) (rest := ["found"]) (n := m) (ro := false) ⟨⟨_, _, _, _, _, _, _, _, _, _, _, fun w => ⟨by k_is, by k_is⟩, binds6 (by intros; rfl)⟩, by decide, rfl, rfl, rfl⟩ (by decide) (by decide) (by decide) ?_
  refine' ss_cons ?_ ?_
  refine' ss_if ?_ ?_ ?_
  refine' sb_cmp ?_ ?_ (op_inA.less (by omega))
  refine' se_tup ?_
  refine' ses_cons ?_ ?_
  exact sv 1 rfl
  refine' ses_cons ?_ ?_
  exact sv 2 rfl
  refine' ses_cons ?_ ?_
  exact sv 4 rfl
  exact ses_nil
  refine' se_attr ?_ at_kept rfl
  exact sv 0 rfl
  refine' ss_cons ?_ ?_
  refine' ss_ret ?_
  refine' se_getA ?_ ?_ (by omega)
  refine' se_attr ?_ at_kept rfl
  exact sv 0 rfl
  refine' se_tup ?_
  refine' ses_cons ?_ ?_
  exact sv 1 rfl
  refine' ses_cons ?_ ?_
  exact sv 2 rfl
  refine' ses_cons ?_ ?_
  exact sv 4 rfl
  exact ses_nil
  exact ss_nil
  exact ss_nil
  refine' ss_cons ?_ ?_
  refine' ss_if ?_ ?_ ?_
  refine' sa_bool ?_
  refine' sa_or ?_ ?_
  refine' sb_cmp ?_ ?_ (op_inA.less (by omega))
  refine' se_tup ?_
  refine' ses_cons ?_ ?_
  exact sv 1 rfl
  refine' ses_cons ?_ ?_
  exact sv 2 rfl
  exact ses_nil
  exact sv 5 rfl
  refine' sa_or ?_ ?_
  refine' sb_cmp ?_ ?_ op_ge
  refine' se_callB ⟨rfl, bl_len, bt_len, by decide, rfl⟩ (.b _) op_len ?_
  refine' sargs_cons ?_ ?_
  exact sv 5 rfl
  exact .nil
  exact se_glInt ⟨rfl, gl_MOST_USES, rfl⟩
  exact sa_nil
  refine' ss_cons ?_ ?_
  refine' ss_raise (by omega) ⟨rfl, gl_NameFault, rfl⟩ ?_ ?_
  refine' se_bin ?_ ?_ op_add
  exact st [117, 115, 101, 115, 32, 119, 105, 116, 104, 111, 117, 116, 32, 97, 110, 32, 101, 110, 100, 44, 32, 111, 114, 32, 116, 111, 111, 32, 109, 97, 110, 121, 32, 111, 102, 32, 116, 104, 101, 109, 58, 32] rfl
  exact sv 2 rfl
  refine' se_attr ?_ at_spot rfl
  exact sv 3 rfl
  exact ss_nil
  exact ss_nil
  refine' ss_cons ?_ ?_
  refine' ss_assign ?_ ?_
  refine' se_meth rfl ?_ me_walk rfl (call_any C_walk) (by omega) ?_ (fun _ => ⟨_, rfl⟩)
  exact sv 0 rfl
  refine' sargs_cons ?_ ?_
  exact sv 1 rfl
  refine' sargs_cons ?_ ?_
  refine' se_attr ?_ at_names rfl
  exact sv 3 rfl
  refine' sargs_cons ?_ ?_
  exact sv 4 rfl
  refine' sargs_cons ?_ ?_
  refine' se_attr ?_ at_spot rfl
  exact sv 3 rfl
  refine' sargs_cons ?_ ?_
  refine' se_bin ?_ ?_ op_add
  exact sv 5 rfl
  refine' se_lst ?_
  refine' ses_cons ?_ ?_
  refine' se_tup ?_
  refine' ses_cons ?_ ?_
  exact sv 1 rfl
  refine' ses_cons ?_ ?_
  exact sv 2 rfl
  exact ses_nil
  exact ses_nil
  exact .nil
  exact ta_name (show NameOk _ 6 "found" from ⟨rfl, by decide, rfl, by first | exact .inl rfl | exact .inr rfl⟩)
  refine' ss_cons ?_ ?_
  refine' ss_assign ?_ ?_
  exact sv 6 rfl
  refine' ta_sub ?_ ?_ ((op_set2 rfl).less (by omega))
  refine' se_attr ?_ at_kept rfl
  exact sv 0 rfl
  refine' se_tup ?_
  refine' ses_cons ?_ ?_
  exact sv 1 rfl
  refine' ses_cons ?_ ?_
  exact sv 2 rfl
  refine' ses_cons ?_ ?_
  exact sv 4 rfl
  exact ses_nil
  refine' ss_cons ?_ ?_
  refine' ss_ret ?_
  exact sv 6 rfl
  exact ss_nil
theorem c_follow0 : ∀ k : Nat, FC true 243 (12 + 4 * k) (f_follow0 k)
  | 0 => ⟨fun _ _ _ _ _ _ _ _ _ _ _ _ h => absurd rfl h⟩
  | k + 1 => c_followS (Nat.le_add_right 12 (4 * k + 3)) (c_walk (Nat.le_add_right 12 (4 * k + 2)) (c_step (Nat.le_add_right 12 (4 * k + 1)) (c_look (Nat.le_add_right 12 (4 * k)) (c_follow0 k))))
theorem c_follow : FC true 243 144 f_follow := c_follow0 33
theorem c__law_take : FC true 293 10 f__law_take := by
  refine' fc_plain (q := true) (ps := ["source", "top"]) (rest := ["drawn"]) (n := 9) (ro := false) ⟨⟨_, _, _, _, _, _, _, _, _, _, _, fun w => ⟨by k_is, by k_is⟩, binds2 (by intros; rfl)⟩, by decide, rfl, rfl, rfl⟩ (by decide) (by decide) (by decide) ?_
  refine' ss_cons ?_ ?_
  refine' ss_if ?_ ?_ ?_
  refine' sb_cmp ?_ ?_ op_gt
  refine' se_getA ?_ ?_ (by decide)
  exact sv 0 rfl
  exact se_int
  exact se_int
  refine' ss_cons ?_ ?_
  refine' ss_assign ?_ ?_
  refine' se_bin ?_ ?_ op_mod
  refine' se_getA ?_ ?_ (by decide)
  exact sv 0 rfl
  exact se_int
  exact sv 1 rfl
  exact ta_name (show NameOk _ 2 "drawn" from ⟨rfl, by decide, rfl, by first | exact .inl rfl | exact .inr rfl⟩)
  refine' ss_cons ?_ ?_
  refine' ss_assign ?_ ?_
  refine' se_bin ?_ ?_ op_fdiv
  refine' se_getA ?_ ?_ (by decide)
  exact sv 0 rfl
  exact se_int
  exact sv 1 rfl
  refine' ta_sub ?_ ?_ ((op_set2 rfl).less (by decide))
  exact sv 0 rfl
  exact se_int
  refine' ss_cons ?_ ?_
  refine' ss_ret ?_
  exact sv 2 rfl
  exact ss_nil
  exact ss_nil
  refine' ss_cons ?_ ?_
  refine' ss_assign ?_ ?_
  refine' se_bin ?_ ?_ op_mod
  refine' se_bin ?_ ?_ op_add
  refine' se_bin ?_ ?_ op_mul
  refine' se_getA ?_ ?_ (by decide)
  exact sv 0 rfl
  exact se_int
  exact se_int
  exact se_int
  exact se_int
  refine' ta_sub ?_ ?_ ((op_set2 rfl).less (by decide))
  exact sv 0 rfl
  exact se_int
  refine' ss_cons ?_ ?_
  refine' ss_ret ?_
  refine' se_bin ?_ ?_ op_mod
  refine' se_bin ?_ ?_ op_fdiv
  refine' se_bin ?_ ?_ op_mod
  refine' se_bin ?_ ?_ op_mul
  refine' se_getA ?_ ?_ (by decide)
  exact sv 0 rfl
  exact se_int
  refine' se_getA ?_ ?_ (by decide)
  exact sv 0 rfl
  exact se_int
  exact se_int
  exact se_int
  exact sv 1 rfl
  exact ss_nil
theorem c__law_one : FC true 300 12 f__law_one := by
  refine' fc_plain (q := true) (ps := ["source", "things"]) (rest := []) (n := 11) (ro := false) ⟨⟨_, _, _, _, _, _, _, _, _, _, _, fun w => ⟨by k_is, by k_is⟩, binds2 (by intros; rfl)⟩, by decide, rfl, rfl, rfl⟩ (by decide) (by decide) (by decide) ?_
  refine' ss_cons ?_ ?_
  refine' ss_ret ?_
  refine' se_getA ?_ ?_ (by decide)
  exact sv 1 rfl
  refine' se_call rfl ⟨rfl, gl__law_take, rfl⟩ kp__law_take (call_any c__law_take) (by decide) ?_
  refine' sargs_cons ?_ ?_
  exact sv 0 rfl
  refine' sargs_cons ?_ ?_
  refine' se_callB ⟨rfl, bl_len, bt_len, by decide, rfl⟩ (.b _) op_len ?_
  refine' sargs_cons ?_ ?_
  exact sv 1 rfl
  exact .nil
  exact .nil
  exact ss_nil
theorem c__law_pool : FC true 286 10 f__law_pool := by
  refine' fc_plain (q := true) (ps := ["script"]) (rest := ["cell", "great"]) (n := 9) (ro := false) ⟨⟨_, _, _, _, _, _, _, _, _, _, _, fun w => ⟨by k_is, by k_is⟩, binds1 (by intros; rfl)⟩, by decide, rfl, rfl, rfl⟩ (by decide) (by decide) (by decide) ?_
  refine' ss_cons ?_ ?_
  refine' ss_assign ?_ ?_
  refine' se_ifExp ?_ ?_ ?_
  refine' sb_cmp ?_ ?_ (op_ne.less (by decide))
  exact sv 0 rfl
  refine' se_lst ?_
  exact ses_nil
  refine' se_getA ?_ ?_ (by decide)
  exact sv 0 rfl
  exact se_int
  exact se_int
  exact ta_name (show NameOk _ 1 "cell" from ⟨rfl, by decide, rfl, by first | exact .inl rfl | exact .inr rfl⟩)
  refine' ss_cons ?_ ?_
  refine' ss_assign ?_ ?_
  refine' se_callB ⟨rfl, bl_max, bt_max, by decide, rfl⟩ (.b _) op_max ?_
  refine' sargs_cons ?_ ?_
  exact sv 1 rfl
  refine' sargs_cons ?_ ?_
  refine' se_bin ?_ ?_ op_sub
  refine' se_un ?_ op_neg
  exact se_int
  exact sv 1 rfl
  exact .nil
  exact ta_name (show NameOk _ 2 "great" from ⟨rfl, by decide, rfl, by first | exact .inl rfl | exact .inr rfl⟩)
  refine' ss_cons ?_ ?_
  refine' ss_ret ?_
  refine' se_lstM rfl ?_
  refine' ses_cons ?_ ?_
  refine' se_bin ?_ ?_ op_mul
  exact sv 2 rfl
  refine' se_callB ⟨rfl, bl_int, bt_int, by decide, rfl⟩ (.t _) op_intB ?_
  refine' sargs_cons ?_ ?_
  refine' se_cmp ?_ ?_ op_ge
  exact sv 2 rfl
  refine' se_bin ?_ ?_ op_pow
  exact se_int
  exact se_int
  exact .nil
  refine' ses_cons ?_ ?_
  refine' se_bin ?_ ?_ op_mod
  refine' se_bin ?_ ?_ op_mul
  refine' se_bin ?_ ?_ op_add
  refine' se_bin ?_ ?_ op_mod
  exact sv 2 rfl
  exact se_int
  exact se_int
  exact se_int
  exact se_int
  exact ses_nil
  exact ss_nil
theorem c__law_modules : FC true 314 28 f__law_modules := by
  refine' fc_plain (q := true) (ps := []) (rest := []) (n := 27) (ro := false) ⟨⟨_, _, _, _, _, _, _, _, _, _, _, fun w => ⟨by k_is, by k_is⟩, binds0 (by intros; rfl)⟩, by decide, rfl, rfl, rfl⟩ (by decide) (by decide) (by decide) ?_
  refine' ss_cons ?_ ?_
  refine' ss_ret ?_
  refine' se_make rfl ⟨rfl, gl_Modules, rfl⟩ co_Modules c_Modules (by decide) ?_
  refine' sargs_cons ?_ ?_
  refine' se_lst ?_
  refine' ses_cons ?_ ?_
  refine' se_tup ?_
  refine' ses_cons ?_ ?_
  exact st [109, 111, 100] rfl
  refine' ses_cons ?_ ?_
  exact se_int
  refine' ses_cons ?_ ?_
  exact st [109] rfl
  refine' ses_cons ?_ ?_
  refine' se_tup ?_
  exact ses_nil
  refine' ses_cons ?_ ?_
  exact se_bool
  exact ses_nil
  exact ses_nil
  exact .nil
  exact ss_nil
theorem c__law_path : FC true 321 10 f__law_path := by
  refine' fc_plain (q := true) (ps := ["module", "name"]) (rest := []) (n := 9) (ro := false) ⟨⟨_, _, _, _, _, _, _, _, _, _, _, fun w => ⟨by k_is, by k_is⟩, binds2 (by intros; rfl)⟩, by decide, rfl, rfl, rfl⟩ (by decide) (by decide) (by decide) ?_
  refine' ss_cons ?_ ?_
  refine' ss_ret ?_
  refine' se_ifExp ?_ ?_ ?_
  refine' sb_cmp ?_ ?_ (op_eq.less (by decide))
  exact sv 0 rfl
  exact st [] rfl
  exact sv 1 rfl
  refine' se_bin ?_ ?_ op_add
  refine' se_bin ?_ ?_ op_add
  exact sv 0 rfl
  exact st [58, 58] rfl
  exact sv 1 rfl
  exact ss_nil
theorem c__law_book : FC true 328 10 f__law_book := by
  refine' fc_plain (q := true) (ps := []) (rest := ["book"]) (n := 9) (ro := false) ⟨⟨_, _, _, _, _, _, _, _, _, _, _, fun w => ⟨by k_is, by k_is⟩, binds0 (by intros; rfl)⟩, by decide, rfl, rfl, rfl⟩ (by decide) (by decide) (by decide) ?_
  refine' ss_cons ?_ ?_
  refine' ss_assign ?_ ?_
  refine' se_dictB (ks := [[], [109]]) rfl ?_ ?_
  refine' sps_consB ?_ ?_ ?_
  exact (rfl : _ = _)
  refine' se_dictB (ks := [[116, 121, 112, 101], [118, 97, 108, 117, 101], [117, 115, 101]]) rfl ?_ ?_
  refine' sps_consB ?_ ?_ ?_
  exact (rfl : _ = _)
  refine' se_dictB (ks := [[109]]) rfl ?_ ?_
  refine' sps_consB ?_ ?_ ?_
  exact (rfl : _ = _)
  exact st [109] rfl
  exact sps_nil
  exact (rfl : _ = true)
  refine' sps_consB ?_ ?_ ?_
  exact (rfl : _ = _)
  exact se_dict0 rfl
  refine' sps_consB ?_ ?_ ?_
  exact (rfl : _ = _)
  exact se_dict0 rfl
  exact sps_nil
  exact (rfl : _ = true)
  refine' sps_consB ?_ ?_ ?_
  exact (rfl : _ = _)
  refine' se_dictB (ks := [[116, 121, 112, 101], [118, 97, 108, 117, 101], [117, 115, 101]]) rfl ?_ ?_
  refine' sps_consB ?_ ?_ ?_
  exact (rfl : _ = _)
  exact se_dict0 rfl
  refine' sps_consB ?_ ?_ ?_
  exact (rfl : _ = _)
  exact se_dict0 rfl
  refine' sps_consB ?_ ?_ ?_
  exact (rfl : _ = _)
  exact se_dict0 rfl
  exact sps_nil
  exact (rfl : _ = true)
  exact sps_nil
  exact (rfl : _ = true)
  exact ta_name (show NameOk _ 0 "book" from ⟨rfl, by decide, rfl, by first | exact .inl rfl | exact .inr rfl⟩)
  refine' ss_cons ?_ ?_
  refine' ss_ret ?_
  refine' se_tup ?_
  refine' ses_cons ?_ ?_
  exact sv 0 rfl
  refine' ses_cons ?_ ?_
  refine' se_dictB (ks := [[], [109]]) rfl ?_ ?_
  refine' sps_consB ?_ ?_ ?_
  exact (rfl : _ = _)
  exact st [109, 111, 100] rfl
  refine' sps_consB ?_ ?_ ?_
  exact (rfl : _ = _)
  exact st [109, 111, 100] rfl
  exact sps_nil
  exact (rfl : _ = true)
  refine' ses_cons ?_ ?_
  exact se_dict0 rfl
  refine' ses_cons ?_ ?_
  refine' se_dictB (ks := [[], [109]]) rfl ?_ ?_
  refine' sps_consB ?_ ?_ ?_
  exact (rfl : _ = _)
  exact se_bool
  refine' sps_consB ?_ ?_ ?_
  exact (rfl : _ = _)
  exact se_bool
  exact sps_nil
  exact (rfl : _ = true)
  refine' ses_cons ?_ ?_
  exact se_dict0 rfl
  exact ses_nil
  exact ss_nil
theorem c__law_is_alike : FC true 335 10 f__law_is_alike := by
  refine' fc_plain (q := true) (ps := ["modules", "whole"]) (rest := ["book", "kinds", "generics", "publics", "items", "module", "table", "own", "name", "use"]) (n := 9) (ro := true) ⟨⟨_, _, _, _, _, _, _, _, _, _, _, fun w => ⟨by k_is, by k_is⟩, binds2 (by intros; rfl)⟩, by decide, rfl, rfl, rfl⟩ (by decide) (by decide) (by decide) ?_
  refine' ss_cons ?_ ?_
  refine' ss_assign ?_ ?_
  exact sv 1 rfl
  refine' ta_tup ?_
  refine' tas_cons ?_ ?_
  exact ta_name (show NameOk _ 2 "book" from ⟨rfl, by decide, rfl, by first | exact .inl rfl | exact .inr rfl⟩)
  refine' tas_cons ?_ ?_
  exact ta_name (show NameOk _ 3 "kinds" from ⟨rfl, by decide, rfl, by first | exact .inl rfl | exact .inr rfl⟩)
  refine' tas_cons ?_ ?_
  exact ta_name (show NameOk _ 4 "generics" from ⟨rfl, by decide, rfl, by first | exact .inl rfl | exact .inr rfl⟩)
  refine' tas_cons ?_ ?_
  exact ta_name (show NameOk _ 5 "publics" from ⟨rfl, by decide, rfl, by first | exact .inl rfl | exact .inr rfl⟩)
  refine' tas_cons ?_ ?_
  exact ta_name (show NameOk _ 6 "items" from ⟨rfl, by decide, rfl, by first | exact .inl rfl | exact .inr rfl⟩)
  exact tas_nil
  refine' ss_cons ?_ ?_
  refine' ss_for ?_ ?_ ?_
  refine' se_lst ?_
  refine' ses_cons ?_ ?_
  exact st [] rfl
  refine' ses_cons ?_ ?_
  exact st [109] rfl
  exact ses_nil
  exact ta_name (show NameOk _ 7 "module" from ⟨rfl, by decide, rfl, by first | exact .inl rfl | exact .inr rfl⟩)
  refine' ss_cons ?_ ?_
  first | refine' ss_swap (names := ["table", "own"]) ?_ (io_cons (ta_bind (show NameOk _ 9 "own" from ⟨rfl, by decide, rfl, by first | exact .inl rfl | exact .inr rfl⟩)) (io_cons (ta_bind (show NameOk _ 8 "table" from ⟨rfl, by decide, rfl, by first | exact .inl rfl | exact .inr rfl⟩)) io_nil)) | refine' ss_assign ?_ ?_
  refine' se_tup ?_
  refine' ses_cons ?_ ?_
  refine' se_getA ?_ ?_ (by decide)
  refine' se_attr ?_ at_tables rfl
  exact sv 0 rfl
  exact sv 7 rfl
  refine' ses_cons ?_ ?_
  refine' se_getA ?_ ?_ (by decide)
  exact sv 2 rfl
  exact sv 7 rfl
  exact ses_nil
  refine' ss_cons ?_ ?_
  refine' ss_if ?_ ?_ ?_
  refine' sa_bool ?_
  refine' sa_or ?_ ?_
  refine' sb_cmp ?_ ?_ (op_ne.less (by decide))
  refine' se_attr ?_ at_types rfl
  exact sv 8 rfl
  refine' se_getA ?_ ?_ (by decide)
  exact sv 9 rfl
  exact st [116, 121, 112, 101] rfl
  refine' sa_or ?_ ?_
  refine' sb_cmp ?_ ?_ (op_ne.less (by decide))
  refine' se_attr ?_ at_values rfl
  exact sv 8 rfl
  refine' se_getA ?_ ?_ (by decide)
  exact sv 9 rfl
  exact st [118, 97, 108, 117, 101] rfl
  refine' sa_or ?_ ?_
  refine' sb_sortedNe ⟨rfl, bl_sorted, bt_sorted, by decide, rfl⟩ (by decide) ?_ ?_
  refine' se_attr ?_ at_uses rfl
  exact sv 8 rfl
  refine' se_getA ?_ ?_ (by decide)
  exact sv 9 rfl
  exact st [117, 115, 101] rfl
  exact sa_nil
  refine' ss_cons ?_ ?_
  refine' ss_ret ?_
  exact se_bool
  exact ss_nil
  exact ss_nil
  refine' ss_cons ?_ ?_
  refine' ss_for ?_ ?_ ?_
  refine' se_getA ?_ ?_ (by decide)
  exact sv 9 rfl
  exact st [117, 115, 101] rfl
  exact ta_name (show NameOk _ 10 "name" from ⟨rfl, by decide, rfl, by first | exact .inl rfl | exact .inr rfl⟩)
  refine' ss_cons ?_ ?_
  refine' ss_assign ?_ ?_
  refine' se_getA ?_ ?_ (by decide)
  refine' se_attr ?_ at_uses rfl
  exact sv 8 rfl
  exact sv 10 rfl
  exact ta_name (show NameOk _ 11 "use" from ⟨rfl, by decide, rfl, by first | exact .inl rfl | exact .inr rfl⟩)
  refine' ss_cons ?_ ?_
  refine' ss_if ?_ ?_ ?_
  refine' sb_cmp ?_ ?_ (op_ne.less (by decide))
  refine' se_tup ?_
  refine' ses_cons ?_ ?_
  refine' se_attr ?_ at_names rfl
  exact sv 11 rfl
  refine' ses_cons ?_ ?_
  refine' se_attr ?_ at_is_pub rfl
  exact sv 11 rfl
  refine' ses_cons ?_ ?_
  refine' se_attr ?_ at_spot rfl
  exact sv 11 rfl
  exact ses_nil
  refine' se_getA ?_ ?_ (by decide)
  refine' se_getA ?_ ?_ (by decide)
  exact sv 9 rfl
  exact st [117, 115, 101] rfl
  exact sv 10 rfl
  refine' ss_cons ?_ ?_
  refine' ss_ret ?_
  exact se_bool
  exact ss_nil
  exact ss_nil
  exact ss_nil
  exact ss_nil
  refine' ss_cons ?_ ?_
  refine' ss_if ?_ ?_ ?_
  refine' sa_bool ?_
  refine' sa_or ?_ ?_
  refine' sb_cmp ?_ ?_ (op_ne.less (by decide))
  refine' se_attr ?_ at_kinds rfl
  exact sv 0 rfl
  exact sv 3 rfl
  refine' sa_or ?_ ?_
  refine' sb_cmp ?_ ?_ (op_ne.less (by decide))
  refine' se_attr ?_ at_items rfl
  exact sv 0 rfl
  exact sv 6 rfl
  exact sa_nil
  refine' ss_cons ?_ ?_
  refine' ss_ret ?_
  exact se_bool
  exact ss_nil
  exact ss_nil
  refine' ss_cons ?_ ?_
  refine' ss_ret ?_
  refine' se_and ?_ ?_
  refine' se_cmp ?_ ?_ (op_eq.less (by decide))
  refine' se_attr ?_ at_generics rfl
  exact sv 0 rfl
  exact sv 4 rfl
  refine' se_one1 ?_
  refine' se_cmp ?_ ?_ (op_eq.less (by decide))
  refine' se_attr ?_ at_publics rfl
  exact sv 0 rfl
  exact sv 5 rfl
  exact ss_nil
theorem c__law_refusal : FC true 340 12 f__law_refusal := by
  refine' fc_cells (q := true) (ps := ["book", "kinds", "module", "name", "spaces", "spot"]) (rest := ["own", "in_spaces"]) (n := 11) (ro := false) ⟨⟨_, _, _, _, _, _, _, _, _, _, _, fun w => ⟨by k_is, by k_is⟩, binds6 (by intros; rfl)⟩, by decide, rfl, rfl, rfl⟩ (by decide) (by decide) (by decide) ?_
  refine' ss_cons ?_ ?_
  refine' ss_assign ?_ ?_
  refine' se_getA ?_ ?_ (by decide)
  exact sv 0 rfl
  exact sv 2 rfl
  exact ta_name (show NameOk _ 6 "own" from ⟨rfl, by decide, rfl, by first | exact .inl rfl | exact .inr rfl⟩)
  refine' ss_cons ?_ ?_
  refine' ss_if ?_ ?_ ?_
  refine' sa_bool ?_
  refine' sa_and ?_ ?_
  refine' sb_cmp ?_ ?_ (op_inA.less (by decide))
  exact st [116, 121, 112, 101] rfl
  exact sv 4 rfl
  refine' sa_and ?_ ?_
  refine' sb_cmp ?_ ?_ (op_inA.less (by decide))
  exact sv 3 rfl
  refine' se_lst ?_
  refine' ses_cons ?_ ?_
  exact st [117, 56] rfl
  refine' ses_cons ?_ ?_
  exact st [66, 111, 120] rfl
  refine' ses_cons ?_ ?_
  exact st [98, 111, 111, 108] rfl
  exact ses_nil
  exact sa_nil
  refine' ss_cons ?_ ?_
  refine' ss_ret ?_
  refine' se_lst ?_
  refine' ses_cons ?_ ?_
  refine' se_bin ?_ ?_ op_add
  refine' se_bin ?_ ?_ op_add
  exact st [116, 104, 101, 32, 110, 97, 109, 101, 32] rfl
  exact sv 3 rfl
  exact st [32, 105, 115, 32, 116, 104, 97, 116, 32, 111, 102, 32, 97, 32, 112, 108, 97, 105, 110, 32, 116, 121, 112, 101] rfl
  refine' ses_cons ?_ ?_
  exact sv 5 rfl
  exact ses_nil
  exact ss_nil
  exact ss_nil
  refine' ss_cons ?_ ?_
  refine' ss_compC ["space"] ["name", "own"] [3, 6] (show NameOk _ 7 "in_spaces" from ⟨rfl, by decide, rfl, by first | exact .inl rfl | exact .inr rfl⟩) tg_name (by intro env h; cases env; subst h; rfl) ⟨rfl, by decide, by decide, by decide, by decide, by decide, by decide⟩ ⟨⟨rfl, rfl, rfl, rfl⟩, ⟨⟨rfl, rfl, rfl, rfl⟩, True.intro⟩⟩ rfl (by intro env h; cases env; subst h; rfl) (fun _ _ => rfl) ?_ ?_ ?_
  exact sv 4 rfl
  refine' .one ?_
  refine' sb_cmp ?_ ?_ (op_inA.less (by decide))
  exact sv 1 rfl
  refine' se_getA ?_ ?_ (by decide)
  exact sv 2 rfl
  exact sv 0 rfl
  exact sv 0 rfl
  refine' ss_cons ?_ ?_
  refine' ss_if ?_ ?_ ?_
  refine' sa_bool ?_
  refine' sa_or ?_ ?_
  refine' sb_cmp ?_ ?_ (op_inA.less (by decide))
  exact sv 3 rfl
  refine' se_getA ?_ ?_ (by decide)
  exact sv 6 rfl
  exact st [117, 115, 101] rfl
  refine' sa_or ?_ ?_
  refine' sb_cmp ?_ ?_ (op_ne.less (by decide))
  exact sv 7 rfl
  refine' se_lst ?_
  exact ses_nil
  refine' sa_or ?_ ?_
  refine' sb_cmp ?_ ?_ (op_inA.less (by decide))
  refine' se_call rfl ⟨rfl, gl__law_path, rfl⟩ kp__law_path (call_any c__law_path) (by decide) ?_
  refine' sargs_cons ?_ ?_
  exact sv 2 rfl
  refine' sargs_cons ?_ ?_
  exact sv 3 rfl
  exact .nil
  exact sv 1 rfl
  exact sa_nil
  refine' ss_cons ?_ ?_
  refine' ss_ret ?_
  refine' se_lst ?_
  refine' ses_cons ?_ ?_
  refine' se_bin ?_ ?_ op_add
  refine' se_bin ?_ ?_ op_add
  exact st [116, 104, 101, 32, 110, 97, 109, 101, 32] rfl
  exact sv 3 rfl
  exact st [32, 105, 115, 32, 116, 111, 108, 100, 32, 116, 119, 105, 99, 101] rfl
  refine' ses_cons ?_ ?_
  exact sv 5 rfl
  exact ses_nil
  exact ss_nil
  exact ss_nil
  refine' ss_cons ?_ ?_
  refine' ss_ret ?_
  exact se_none
  exact ss_nil
theorem c__law_item : FC true 364 14 f__law_item := by
  refine' fc_plain (q := true) (ps := ["source", "name", "spot"]) (rest := ["kind", "generics"]) (n := 13) (ro := false) ⟨⟨_, _, _, _, _, _, _, _, _, _, _, fun w => ⟨by k_is, by k_is⟩, binds3 (by intros; rfl)⟩, by decide, rfl, rfl, rfl⟩ (by decide) (by decide) (by decide) ?_
  refine' ss_cons ?_ ?_
  refine' ss_assign ?_ ?_
  refine' se_call rfl ⟨rfl, gl__law_one, rfl⟩ kp__law_one (call_any c__law_one) (by decide) ?_
  refine' sargs_cons ?_ ?_
  exact sv 0 rfl
  refine' sargs_cons ?_ ?_
  refine' se_lst ?_
  refine' ses_cons ?_ ?_
  exact st [115, 116, 114, 117, 99, 116] rfl
  refine' ses_cons ?_ ?_
  exact st [101, 110, 117, 109] rfl
  refine' ses_cons ?_ ?_
  exact st [116, 114, 97, 105, 116] rfl
  exact ses_nil
  exact .nil
  exact ta_name (show NameOk _ 3 "kind" from ⟨rfl, by decide, rfl, by first | exact .inl rfl | exact .inr rfl⟩)
  refine' ss_cons ?_ ?_
  refine' ss_assign ?_ ?_
  refine' se_call rfl ⟨rfl, gl__law_one, rfl⟩ kp__law_one (call_any c__law_one) (by decide) ?_
  refine' sargs_cons ?_ ?_
  exact sv 0 rfl
  refine' sargs_cons ?_ ?_
  refine' se_lst ?_
  refine' ses_cons ?_ ?_
  refine' se_tup ?_
  refine' ses_cons ?_ ?_
  refine' se_tup ?_
  exact ses_nil
  refine' ses_cons ?_ ?_
  refine' se_tup ?_
  exact ses_nil
  exact ses_nil
  refine' ses_cons ?_ ?_
  refine' se_tup ?_
  refine' ses_cons ?_ ?_
  refine' se_tup ?_
  refine' ses_cons ?_ ?_
  exact st [39, 97] rfl
  exact ses_nil
  refine' ses_cons ?_ ?_
  refine' se_tup ?_
  refine' ses_cons ?_ ?_
  refine' se_tup ?_
  refine' ses_cons ?_ ?_
  exact st [84] rfl
  refine' ses_cons ?_ ?_
  refine' se_tup ?_
  exact ses_nil
  exact ses_nil
  exact ses_nil
  exact ses_nil
  refine' ses_cons ?_ ?_
  refine' se_tup ?_
  refine' ses_cons ?_ ?_
  refine' se_tup ?_
  exact ses_nil
  refine' ses_cons ?_ ?_
  refine' se_tup ?_
  refine' ses_cons ?_ ?_
  refine' se_tup ?_
  refine' ses_cons ?_ ?_
  exact st [84] rfl
  refine' ses_cons ?_ ?_
  refine' se_tup ?_
  exact ses_nil
  exact ses_nil
  refine' ses_cons ?_ ?_
  refine' se_tup ?_
  refine' ses_cons ?_ ?_
  exact st [85] rfl
  refine' ses_cons ?_ ?_
  refine' se_tup ?_
  exact ses_nil
  exact ses_nil
  exact ses_nil
  exact ses_nil
  exact ses_nil
  exact .nil
  exact ta_name (show NameOk _ 4 "generics" from ⟨rfl, by decide, rfl, by first | exact .inl rfl | exact .inr rfl⟩)
  refine' ss_cons ?_ ?_
  refine' ss_ret ?_
  refine' se_tup ?_
  refine' ses_cons ?_ ?_
  exact sv 3 rfl
  refine' ses_cons ?_ ?_
  exact sv 2 rfl
  refine' ses_cons ?_ ?_
  exact sv 1 rfl
  refine' ses_cons ?_ ?_
  exact sv 4 rfl
  refine' ses_cons ?_ ?_
  refine' se_tup ?_
  exact ses_nil
  refine' ses_cons ?_ ?_
  exact se_bool
  exact ses_nil
  exact ss_nil
theorem c__law_type_right : FC false 345 20 f__law_type_right := by
  refine' fc_cells (q := false) (ps := ["modules", "whole", "module", "item", "spaces", "is_pub"]) (rest := ["book", "kinds", "generics", "publics", "items", "path", "due", "space"]) (n := 19) (ro := false) ⟨⟨_, _, _, _, _, _, _, _, _, _, _, fun w => ⟨by k_is, by k_is⟩, binds6 (by intros; rfl)⟩, by decide, rfl, rfl, rfl⟩ (by decide) (by decide) (by decide) ?_
  refine' ss_cons ?_ ?_
  refine' ss_assign ?_ ?_
  exact sv 1 rfl
  refine' ta_tup ?_
  refine' tas_cons ?_ ?_
  exact ta_name (show NameOk _ 6 "book" from ⟨rfl, by decide, rfl, by first | exact .inl rfl | exact .inr rfl⟩)
  refine' tas_cons ?_ ?_
  exact ta_name (show NameOk _ 7 "kinds" from ⟨rfl, by decide, rfl, by first | exact .inl rfl | exact .inr rfl⟩)
  refine' tas_cons ?_ ?_
  exact ta_name (show NameOk _ 8 "generics" from ⟨rfl, by decide, rfl, by first | exact .inl rfl | exact .inr rfl⟩)
  refine' tas_cons ?_ ?_
  exact ta_name (show NameOk _ 9 "publics" from ⟨rfl, by decide, rfl, by first | exact .inl rfl | exact .inr rfl⟩)
  refine' tas_cons ?_ ?_
  exact ta_name (show NameOk _ 10 "items" from ⟨rfl, by decide, rfl, by first | exact .inl rfl | exact .inr rfl⟩)
  exact tas_nil
  refine' ss_cons ?_ ?_
  refine' ss_assign ?_ ?_
  refine' se_call rfl ⟨rfl, gl__law_path, rfl⟩ kp__law_path (call_any c__law_path) (by decide) ?_
  refine' sargs_cons ?_ ?_
  exact sv 2 rfl
  refine' sargs_cons ?_ ?_
  refine' se_getA ?_ ?_ (by decide)
  exact sv 3 rfl
  exact se_int
  exact .nil
  exact ta_name (show NameOk _ 11 "path" from ⟨rfl, by decide, rfl, by first | exact .inl rfl | exact .inr rfl⟩)
  refine' ss_cons ?_ ?_
  refine' ss_assign ?_ ?_
  refine' se_call rfl ⟨rfl, gl__law_refusal, rfl⟩ kp__law_refusal (call_any c__law_refusal) (by decide) ?_
  refine' sargs_cons ?_ ?_
  exact sv 6 rfl
  refine' sargs_cons ?_ ?_
  exact sv 7 rfl
  refine' sargs_cons ?_ ?_
  exact sv 2 rfl
  refine' sargs_cons ?_ ?_
  refine' se_getA ?_ ?_ (by decide)
  exact sv 3 rfl
  exact se_int
  refine' sargs_cons ?_ ?_
  exact sv 4 rfl
  refine' sargs_cons ?_ ?_
  refine' se_getA ?_ ?_ (by decide)
  exact sv 3 rfl
  exact se_int
  exact .nil
  exact ta_name (show NameOk _ 12 "due" from ⟨rfl, by decide, rfl, by first | exact .inl rfl | exact .inr rfl⟩)
  refine' ss_cons ?_ ?_
  refine' ss_if ?_ ?_ ?_
  refine' sb_cmp ?_ ?_ (op_ne.less (by decide))
  refine' se_heard (nL := 17) (lvn := ["is_pub", "item", "module", "modules", "spaces"]) (caps := [5, 3, 2, 0, 4]) (lam_ok rfl rfl rfl (fun _ _ => code_type) tab_type (fun _ _ _ _ => rfl) ⟨⟨rfl, rfl, rfl, rfl⟩, ⟨⟨rfl, rfl, rfl, rfl⟩, ⟨⟨rfl, rfl, rfl, rfl⟩, ⟨⟨rfl, rfl, rfl, rfl⟩, ⟨⟨rfl, rfl, rfl, rfl⟩, True.intro⟩⟩⟩⟩⟩ rfl rfl rfl rfl (by decide) (by decide) (by decide)) ⟨rfl, gl__law_heard, rfl⟩ rfl (fun _ => ⟨_, rfl⟩) me_declare_type c_declare_type (by decide) (by decide) ?_ ?_
  exact sv 3 rfl
  refine' sargs_cons ?_ ?_
  exact sv 2 rfl
  refine' sargs_cons ?_ ?_
  exact sv 1 rfl
  refine' sargs_cons ?_ ?_
  exact sv 4 rfl
  refine' sargs_cons ?_ ?_
  exact sv 0 rfl
  exact .nil
  exact sv 12 rfl
  refine' ss_cons ?_ ?_
  refine' ss_ret ?_
  exact se_bool
  exact ss_nil
  exact ss_nil
  refine' ss_cons ?_ ?_
  refine' ss_if ?_ ?_ ?_
  refine' sb_cmp ?_ ?_ op_isNone
  exact sv 12 rfl
  exact se_none
  refine' ss_cons ?_ ?_
  refine' ss_for ?_ ?_ ?_
  exact sv 4 rfl
  exact ta_name (show NameOk _ 13 "space" from ⟨rfl, by decide, rfl, by first | exact .inl rfl | exact .inr rfl⟩)
  refine' ss_cons ?_ ?_
  refine' ss_assign ?_ ?_
  exact sv 11 rfl
  refine' ta_sub ?_ ?_ ((op_set2 rfl).less (by decide))
  refine' se_getA ?_ ?_ (by decide)
  refine' se_getA ?_ ?_ (by decide)
  exact sv 6 rfl
  exact sv 2 rfl
  exact sv 13 rfl
  refine' se_getA ?_ ?_ (by decide)
  exact sv 3 rfl
  exact se_int
  exact ss_nil
  refine' ss_cons ?_ ?_
  refine' ss_assign ?_ ?_
  refine' se_tup ?_
  refine' ses_cons ?_ ?_
  refine' se_getA ?_ ?_ (by decide)
  exact sv 3 rfl
  exact se_int
  refine' ses_cons ?_ ?_
  exact sv 5 rfl
  exact ses_nil
  refine' ta_tup ?_
  refine' tas_cons ?_ ?_
  refine' ta_sub ?_ ?_ ((op_set2 rfl).less (by decide))
  exact sv 7 rfl
  exact sv 11 rfl
  refine' tas_cons ?_ ?_
  refine' ta_sub ?_ ?_ ((op_set2 rfl).less (by decide))
  exact sv 9 rfl
  exact sv 11 rfl
  exact tas_nil
  refine' ss_cons ?_ ?_
  refine' ss_assign ?_ ?_
  refine' se_tup ?_
  refine' ses_cons ?_ ?_
  refine' se_getA ?_ ?_ (by decide)
  refine' se_getA ?_ ?_ (by decide)
  exact sv 3 rfl
  exact se_int
  exact se_int
  refine' ses_cons ?_ ?_
  refine' se_callB ⟨rfl, bl_tuple, bt_tuple, by decide, rfl⟩ (.t _) op_tuple ?_
  refine' sargs_cons ?_ ?_
  refine' se_compC ["name", "bounds"] [] [] (tg_pair (by decide)) (by intro env h; cases env; subst h; rfl) ⟨rfl, by decide, by decide, by decide, by decide, by decide, by decide⟩ True.intro rfl (fun _ _ => rfl) ?_ ?_ ?_
  refine' se_getA ?_ ?_ (by decide)
  refine' se_getA ?_ ?_ (by decide)
  exact sv 3 rfl
  exact se_int
  exact se_int
  exact .nil
  exact sv 0 rfl
  exact .nil
  exact ses_nil
  refine' ta_sub ?_ ?_ ((op_set2 rfl).less (by decide))
  exact sv 8 rfl
  exact sv 11 rfl
  refine' ss_cons ?_ ?_
  refine' ss_assign ?_ ?_
  exact sv 3 rfl
  refine' ta_sub ?_ ?_ ((op_set2 rfl).less (by decide))
  exact sv 10 rfl
  exact sv 11 rfl
  exact ss_nil
  exact ss_nil
  refine' ss_cons ?_ ?_
  refine' ss_ret ?_
  refine' se_call rfl ⟨rfl, gl__law_is_alike, rfl⟩ kp__law_is_alike (call_any c__law_is_alike) (by decide) ?_
  refine' sargs_cons ?_ ?_
  exact sv 0 rfl
  refine' sargs_cons ?_ ?_
  exact sv 1 rfl
  exact .nil
  exact ss_nil
theorem c__law_variants_right : FC false 350 20 f__law_variants_right := by
  refine' fc_cells (q := false) (ps := ["modules", "whole", "path", "names", "spot"]) (rest := ["kinds", "due", "item", "name"]) (n := 19) (ro := false) ⟨⟨_, _, _, _, _, _, _, _, _, _, _, fun w => ⟨by k_is, by k_is⟩, binds5 (by intros; rfl)⟩, by decide, rfl, rfl, rfl⟩ (by decide) (by decide) (by decide) ?_
  refine' ss_cons ?_ ?_
  first | refine' ss_swap (names := ["kinds", "due"]) ?_ (io_cons (ta_bind (show NameOk _ 6 "due" from ⟨rfl, by decide, rfl, by first | exact .inl rfl | exact .inr rfl⟩)) (io_cons (ta_bind (show NameOk _ 5 "kinds" from ⟨rfl, by decide, rfl, by first | exact .inl rfl | exact .inr rfl⟩)) io_nil)) | refine' ss_assign ?_ ?_
  refine' se_tup ?_
  refine' ses_cons ?_ ?_
  refine' se_getA ?_ ?_ (by decide)
  exact sv 1 rfl
  exact se_int
  refine' ses_cons ?_ ?_
  exact se_none
  exact ses_nil
  refine' ss_cons ?_ ?_
  refine' ss_assign ?_ ?_
  refine' se_tup ?_
  refine' ses_cons ?_ ?_
  exact st [101, 110, 117, 109] rfl
  refine' ses_cons ?_ ?_
  exact sv 4 rfl
  refine' ses_cons ?_ ?_
  exact st [69] rfl
  refine' ses_cons ?_ ?_
  refine' se_tup ?_
  refine' ses_cons ?_ ?_
  refine' se_tup ?_
  exact ses_nil
  refine' ses_cons ?_ ?_
  refine' se_tup ?_
  exact ses_nil
  exact ses_nil
  refine' ses_cons ?_ ?_
  refine' se_callB ⟨rfl, bl_tuple, bt_tuple, by decide, rfl⟩ (.t _) op_tuple ?_
  refine' sargs_cons ?_ ?_
  refine' se_compC ["name"] [] [] tg_name (by intro env h; cases env; subst h; rfl) ⟨rfl, by decide, by decide, by decide, by decide, by decide, by decide⟩ True.intro rfl (fun _ _ => rfl) ?_ ?_ ?_
  exact sv 3 rfl
  exact .nil
  refine' se_tup ?_
  refine' ses_cons ?_ ?_
  exact sv 0 rfl
  refine' ses_cons ?_ ?_
  exact st [117, 110, 105, 116] rfl
  refine' ses_cons ?_ ?_
  refine' se_tup ?_
  exact ses_nil
  exact ses_nil
  exact .nil
  refine' ses_cons ?_ ?_
  exact se_bool
  exact ses_nil
  exact ta_name (show NameOk _ 7 "item" from ⟨rfl, by decide, rfl, by first | exact .inl rfl | exact .inr rfl⟩)
  refine' ss_cons ?_ ?_
  refine' ss_for ?_ ?_ ?_
  exact sv 3 rfl
  exact ta_name (show NameOk _ 8 "name" from ⟨rfl, by decide, rfl, by first | exact .inl rfl | exact .inr rfl⟩)
  refine' ss_cons ?_ ?_
  refine' ss_if ?_ ?_ ?_
  refine' sb_cmp ?_ ?_ (op_inA.less (by decide))
  refine' se_bin ?_ ?_ op_add
  refine' se_bin ?_ ?_ op_add
  exact sv 2 rfl
  exact st [58, 58] rfl
  exact sv 8 rfl
  exact sv 5 rfl
  refine' ss_cons ?_ ?_
  refine' ss_assign ?_ ?_
  refine' se_lst ?_
  refine' ses_cons ?_ ?_
  refine' se_bin ?_ ?_ op_add
  refine' se_bin ?_ ?_ op_add
  exact st [116, 104, 101, 32, 118, 97, 114, 105, 97, 110, 116, 32] rfl
  exact sv 8 rfl
  exact st [32, 105, 115, 32, 116, 111, 108, 100, 32, 116, 119, 105, 99, 101] rfl
  refine' ses_cons ?_ ?_
  exact sv 4 rfl
  exact ses_nil
  exact ta_name (show NameOk _ 6 "due" from ⟨rfl, by decide, rfl, by first | exact .inl rfl | exact .inr rfl⟩)
  refine' ss_cons ?_ ?_
  exact ss_brk
  exact ss_nil
  exact ss_nil
  refine' ss_cons ?_ ?_
  refine' ss_assign ?_ ?_
  exact st [118, 97, 114, 105, 97, 110, 116] rfl
  refine' ta_sub ?_ ?_ ((op_set2 rfl).less (by decide))
  exact sv 5 rfl
  refine' se_bin ?_ ?_ op_add
  refine' se_bin ?_ ?_ op_add
  exact sv 2 rfl
  exact st [58, 58] rfl
  exact sv 8 rfl
  exact ss_nil
  refine' ss_cons ?_ ?_
  refine' ss_ret ?_
  refine' se_and ?_ ?_
  refine' se_cmp ?_ ?_ (op_eq.less (by decide))
  refine' se_heard (nL := 17) (lvn := ["item", "modules", "path"]) (caps := [7, 0, 2]) (lam_ok rfl rfl rfl (fun _ _ => code_vars) tab_vars (fun _ _ _ _ => rfl) ⟨⟨rfl, rfl, rfl, rfl⟩, ⟨⟨rfl, rfl, rfl, rfl⟩, ⟨⟨rfl, rfl, rfl, rfl⟩, True.intro⟩⟩⟩ rfl rfl rfl rfl (by decide) (by decide) (by decide)) ⟨rfl, gl__law_heard, rfl⟩ rfl (fun _ => ⟨_, rfl⟩) me_enter_variants c_enter_variants (by decide) (by decide) ?_ ?_
  exact sv 1 rfl
  refine' sargs_cons ?_ ?_
  exact sv 2 rfl
  refine' sargs_cons ?_ ?_
  exact sv 0 rfl
  exact .nil
  exact sv 6 rfl
  refine' se_one1 ?_
  refine' se_call rfl ⟨rfl, gl__law_is_alike, rfl⟩ kp__law_is_alike (call_any c__law_is_alike) (by decide) ?_
  refine' sargs_cons ?_ ?_
  exact sv 0 rfl
  refine' sargs_cons ?_ ?_
  exact sv 1 rfl
  exact .nil
  exact ss_nil
theorem c__law_use_right : FC false 357 20 f__law_use_right := by
  refine' fc_cells (q := false) (ps := ["modules", "whole", "module", "use"]) (rest := ["names", "alias", "is_pub", "spot", "own", "name", "due", "item"]) (n := 19) (ro := false) ⟨⟨_, _, _, _, _, _, _, _, _, _, _, fun w => ⟨by k_is, by k_is⟩, binds4 (by intros; rfl)⟩, by decide, rfl, rfl, rfl⟩ (by decide) (by decide) (by decide) ?_
  refine' ss_cons ?_ ?_
  refine' ss_assign ?_ ?_
  exact sv 3 rfl
  refine' ta_tup ?_
  refine' tas_cons ?_ ?_
  exact ta_name (show NameOk _ 4 "names" from ⟨rfl, by decide, rfl, by first | exact .inl rfl | exact .inr rfl⟩)
  refine' tas_cons ?_ ?_
  exact ta_name (show NameOk _ 5 "alias" from ⟨rfl, by decide, rfl, by first | exact .inl rfl | exact .inr rfl⟩)
  refine' tas_cons ?_ ?_
  exact ta_name (show NameOk _ 6 "is_pub" from ⟨rfl, by decide, rfl, by first | exact .inl rfl | exact .inr rfl⟩)
  refine' tas_cons ?_ ?_
  exact ta_name (show NameOk _ 7 "spot" from ⟨rfl, by decide, rfl, by first | exact .inl rfl | exact .inr rfl⟩)
  exact tas_nil
  refine' ss_cons ?_ ?_
  first | refine' ss_swap (names := ["own", "name"]) ?_ (io_cons (ta_bind (show NameOk _ 9 "name" from ⟨rfl, by decide, rfl, by first | exact .inl rfl | exact .inr rfl⟩)) (io_cons (ta_bind (show NameOk _ 8 "own" from ⟨rfl, by decide, rfl, by first | exact .inl rfl | exact .inr rfl⟩)) io_nil)) | refine' ss_assign ?_ ?_
  refine' se_tup ?_
  refine' ses_cons ?_ ?_
  refine' se_getA ?_ ?_ (by decide)
  refine' se_getA ?_ ?_ (by decide)
  exact sv 1 rfl
  exact se_int
  exact sv 2 rfl
  refine' ses_cons ?_ ?_
  refine' se_ifExp ?_ ?_ ?_
  refine' sb_cmp ?_ ?_ op_isNone
  exact sv 5 rfl
  exact se_none
  refine' se_getA ?_ ?_ (by decide)
  exact sv 4 rfl
  refine' se_un ?_ op_neg
  exact se_int
  exact sv 5 rfl
  exact ses_nil
  refine' ss_cons ?_ ?_
  refine' ss_assign ?_ ?_
  exact se_none
  exact ta_name (show NameOk _ 10 "due" from ⟨rfl, by decide, rfl, by first | exact .inl rfl | exact .inr rfl⟩)
  refine' ss_cons ?_ ?_
  refine' ss_if ?_ ?_ ?_
  refine' sb_cmp ?_ ?_ (op_inA.less (by decide))
  exact sv 9 rfl
  refine' se_lst ?_
  refine' ses_cons ?_ ?_
  exact st [117, 56] rfl
  refine' ses_cons ?_ ?_
  exact st [66, 111, 120] rfl
  refine' ses_cons ?_ ?_
  exact st [98, 111, 111, 108] rfl
  exact ses_nil
  refine' ss_cons ?_ ?_
  refine' ss_assign ?_ ?_
  refine' se_lst ?_
  refine' ses_cons ?_ ?_
  refine' se_bin ?_ ?_ op_add
  refine' se_bin ?_ ?_ op_add
  exact st [116, 104, 101, 32, 110, 97, 109, 101, 32] rfl
  exact sv 9 rfl
  exact st [32, 105, 115, 32, 116, 104, 97, 116, 32, 111, 102, 32, 97, 32, 112, 108, 97, 105, 110, 32, 116, 121, 112, 101] rfl
  refine' ses_cons ?_ ?_
  exact sv 7 rfl
  exact ses_nil
  exact ta_name (show NameOk _ 10 "due" from ⟨rfl, by decide, rfl, by first | exact .inl rfl | exact .inr rfl⟩)
  exact ss_nil
  refine' ss_cons ?_ ?_
  refine' ss_if ?_ ?_ ?_
  refine' sa_bool ?_
  refine' sa_or ?_ ?_
  refine' sb_cmp ?_ ?_ (op_inA.less (by decide))
  exact sv 9 rfl
  refine' se_lst ?_
  refine' ses_cons ?_ ?_
  exact st [99, 114, 97, 116, 101] rfl
  refine' ses_cons ?_ ?_
  exact st [115, 101, 108, 102] rfl
  refine' ses_cons ?_ ?_
  exact st [115, 117, 112, 101, 114] rfl
  exact ses_nil
  refine' sa_or ?_ ?_
  refine' sb_cmp ?_ ?_ (op_inA.less (by decide))
  exact sv 9 rfl
  refine' se_getA ?_ ?_ (by decide)
  exact sv 8 rfl
  exact st [117, 115, 101] rfl
  refine' sa_or ?_ ?_
  refine' sb_cmp ?_ ?_ (op_inA.less (by decide))
  exact sv 9 rfl
  refine' se_getA ?_ ?_ (by decide)
  exact sv 8 rfl
  exact st [116, 121, 112, 101] rfl
  refine' sa_or ?_ ?_
  refine' sb_cmp ?_ ?_ (op_inA.less (by decide))
  exact sv 9 rfl
  refine' se_getA ?_ ?_ (by decide)
  exact sv 8 rfl
  exact st [118, 97, 108, 117, 101] rfl
  exact sa_nil
  refine' ss_cons ?_ ?_
  refine' ss_assign ?_ ?_
  refine' se_lst ?_
  refine' ses_cons ?_ ?_
  refine' se_bin ?_ ?_ op_add
  refine' se_bin ?_ ?_ op_add
  exact st [116, 104, 101, 32, 110, 97, 109, 101, 32] rfl
  exact sv 9 rfl
  exact st [32, 105, 115, 32, 116, 111, 108, 100, 32, 116, 119, 105, 99, 101] rfl
  refine' ses_cons ?_ ?_
  exact sv 7 rfl
  exact ses_nil
  exact ta_name (show NameOk _ 10 "due" from ⟨rfl, by decide, rfl, by first | exact .inl rfl | exact .inr rfl⟩)
  exact ss_nil
  exact ss_nil
  exact ss_nil
  refine' ss_cons ?_ ?_
  refine' ss_if ?_ ?_ ?_
  refine' sb_cmp ?_ ?_ op_isNone
  exact sv 10 rfl
  exact se_none
  refine' ss_cons ?_ ?_
  refine' ss_assign ?_ ?_
  refine' se_tup ?_
  refine' ses_cons ?_ ?_
  exact sv 4 rfl
  refine' ses_cons ?_ ?_
  exact sv 6 rfl
  refine' ses_cons ?_ ?_
  exact sv 7 rfl
  exact ses_nil
  refine' ta_sub ?_ ?_ ((op_set2 rfl).less (by decide))
  refine' se_getA ?_ ?_ (by decide)
  exact sv 8 rfl
  exact st [117, 115, 101] rfl
  exact sv 9 rfl
  exact ss_nil
  exact ss_nil
  refine' ss_cons ?_ ?_
  refine' ss_assign ?_ ?_
  refine' se_tup ?_
  refine' ses_cons ?_ ?_
  exact st [117, 115, 101] rfl
  refine' ses_cons ?_ ?_
  exact sv 7 rfl
  refine' ses_cons ?_ ?_
  exact sv 4 rfl
  refine' ses_cons ?_ ?_
  exact sv 5 rfl
  refine' ses_cons ?_ ?_
  exact sv 6 rfl
  exact ses_nil
  exact ta_name (show NameOk _ 11 "item" from ⟨rfl, by decide, rfl, by first | exact .inl rfl | exact .inr rfl⟩)
  refine' ss_cons ?_ ?_
  refine' ss_ret ?_
  refine' se_and ?_ ?_
  refine' se_cmp ?_ ?_ (op_eq.less (by decide))
  refine' se_heard (nL := 17) (lvn := ["item", "module", "modules"]) (caps := [11, 2, 0]) (lam_ok rfl rfl rfl (fun _ _ => code_use) tab_use (fun _ _ _ _ => rfl) ⟨⟨rfl, rfl, rfl, rfl⟩, ⟨⟨rfl, rfl, rfl, rfl⟩, ⟨⟨rfl, rfl, rfl, rfl⟩, True.intro⟩⟩⟩ rfl rfl rfl rfl (by decide) (by decide) (by decide)) ⟨rfl, gl__law_heard, rfl⟩ rfl (fun _ => ⟨_, rfl⟩) me_enter_use c_enter_use (by decide) (by decide) ?_ ?_
  exact sv 2 rfl
  refine' sargs_cons ?_ ?_
  exact sv 1 rfl
  refine' sargs_cons ?_ ?_
  exact sv 0 rfl
  exact .nil
  exact sv 10 rfl
  refine' se_one1 ?_
  refine' se_call rfl ⟨rfl, gl__law_is_alike, rfl⟩ kp__law_is_alike (call_any c__law_is_alike) (by decide) ?_
  refine' sargs_cons ?_ ?_
  exact sv 0 rfl
  refine' sargs_cons ?_ ?_
  exact sv 1 rfl
  exact .nil
  exact ss_nil
theorem c__law_deed_right : FC false 369 24 f__law_deed_right := by
  refine' fc_cells (q := false) (ps := ["source", "modules", "whole"]) (rest := ["way", "module", "spot", "name", "is_pub", "spaces", "names"]) (n := 23) (ro := false) ⟨⟨_, _, _, _, _, _, _, _, _, _, _, fun w => ⟨by k_is, by k_is⟩, binds3 (by intros; rfl)⟩, by decide, rfl, rfl, rfl⟩ (by decide) (by decide) (by decide) ?_
  refine' ss_cons ?_ ?_
  first | refine' ss_swap (names := ["way", "module", "spot"]) ?_ (io_cons (ta_bind (show NameOk _ 5 "spot" from ⟨rfl, by decide, rfl, by first | exact .inl rfl | exact .inr rfl⟩)) (io_cons (ta_bind (show NameOk _ 4 "module" from ⟨rfl, by decide, rfl, by first | exact .inl rfl | exact .inr rfl⟩)) (io_cons (ta_bind (show NameOk _ 3 "way" from ⟨rfl, by decide, rfl, by first | exact .inl rfl | exact .inr rfl⟩)) io_nil))) | refine' ss_assign ?_ ?_
  refine' se_tup ?_
  refine' ses_cons ?_ ?_
  refine' se_call rfl ⟨rfl, gl__law_take, rfl⟩ kp__law_take (call_any c__law_take) (by decide) ?_
  refine' sargs_cons ?_ ?_
  exact sv 0 rfl
  refine' sargs_cons ?_ ?_
  exact se_int
  exact .nil
  refine' ses_cons ?_ ?_
  refine' se_call rfl ⟨rfl, gl__law_one, rfl⟩ kp__law_one (call_any c__law_one) (by decide) ?_
  refine' sargs_cons ?_ ?_
  exact sv 0 rfl
  refine' sargs_cons ?_ ?_
  refine' se_lst ?_
  refine' ses_cons ?_ ?_
  exact st [] rfl
  refine' ses_cons ?_ ?_
  exact st [109] rfl
  exact ses_nil
  exact .nil
  refine' ses_cons ?_ ?_
  refine' se_call rfl ⟨rfl, gl__law_take, rfl⟩ kp__law_take (call_any c__law_take) (by decide) ?_
  refine' sargs_cons ?_ ?_
  exact sv 0 rfl
  refine' sargs_cons ?_ ?_
  exact se_int
  exact .nil
  exact ses_nil
  refine' ss_cons ?_ ?_
  first | refine' ss_swap (names := ["name", "is_pub"]) ?_ (io_cons (ta_bind (show NameOk _ 7 "is_pub" from ⟨rfl, by decide, rfl, by first | exact .inl rfl | exact .inr rfl⟩)) (io_cons (ta_bind (show NameOk _ 6 "name" from ⟨rfl, by decide, rfl, by first | exact .inl rfl | exact .inr rfl⟩)) io_nil)) | refine' ss_assign ?_ ?_
  refine' se_tup ?_
  refine' ses_cons ?_ ?_
  refine' se_call rfl ⟨rfl, gl__law_one, rfl⟩ kp__law_one (call_any c__law_one) (by decide) ?_
  refine' sargs_cons ?_ ?_
  exact sv 0 rfl
  refine' sargs_cons ?_ ?_
  refine' se_lst ?_
  refine' ses_cons ?_ ?_
  exact st [65] rfl
  refine' ses_cons ?_ ?_
  exact st [66] rfl
  refine' ses_cons ?_ ?_
  exact st [109] rfl
  refine' ses_cons ?_ ?_
  exact st [117, 56] rfl
  refine' ses_cons ?_ ?_
  exact st [67] rfl
  exact ses_nil
  exact .nil
  refine' ses_cons ?_ ?_
  refine' se_cmp ?_ ?_ (op_eq.less (by decide))
  refine' se_call rfl ⟨rfl, gl__law_take, rfl⟩ kp__law_take (call_any c__law_take) (by decide) ?_
  refine' sargs_cons ?_ ?_
  exact sv 0 rfl
  refine' sargs_cons ?_ ?_
  exact se_int
  exact .nil
  exact se_int
  exact ses_nil
  refine' ss_cons ?_ ?_
  refine' ss_if ?_ ?_ ?_
  refine' sb_cmp ?_ ?_ op_lt
  exact sv 3 rfl
  exact se_int
  refine' ss_cons ?_ ?_
  refine' ss_assign ?_ ?_
  refine' se_call rfl ⟨rfl, gl__law_one, rfl⟩ kp__law_one (call_any c__law_one) (by decide) ?_
  refine' sargs_cons ?_ ?_
  exact sv 0 rfl
  refine' sargs_cons ?_ ?_
  refine' se_lst ?_
  refine' ses_cons ?_ ?_
  refine' se_tup ?_
  refine' ses_cons ?_ ?_
  exact st [116, 121, 112, 101] rfl
  exact ses_nil
  refine' ses_cons ?_ ?_
  refine' se_tup ?_
  refine' ses_cons ?_ ?_
  exact st [116, 121, 112, 101] rfl
  refine' ses_cons ?_ ?_
  exact st [118, 97, 108, 117, 101] rfl
  exact ses_nil
  refine' ses_cons ?_ ?_
  refine' se_tup ?_
  refine' ses_cons ?_ ?_
  exact st [118, 97, 108, 117, 101] rfl
  exact ses_nil
  exact ses_nil
  exact .nil
  exact ta_name (show NameOk _ 8 "spaces" from ⟨rfl, by decide, rfl, by first | exact .inl rfl | exact .inr rfl⟩)
  refine' ss_cons ?_ ?_
  refine' ss_ret ?_
  refine' se_call rfl ⟨rfl, gl__law_type_right, rfl⟩ kp__law_type_right c__law_type_right (by decide) ?_
  refine' sargs_cons ?_ ?_
  exact sv 1 rfl
  refine' sargs_cons ?_ ?_
  exact sv 2 rfl
  refine' sargs_cons ?_ ?_
  exact sv 4 rfl
  refine' sargs_cons ?_ ?_
  refine' se_call rfl ⟨rfl, gl__law_item, rfl⟩ kp__law_item (call_any c__law_item) (by decide) ?_
  refine' sargs_cons ?_ ?_
  exact sv 0 rfl
  refine' sargs_cons ?_ ?_
  exact sv 6 rfl
  refine' sargs_cons ?_ ?_
  exact sv 5 rfl
  exact .nil
  refine' sargs_cons ?_ ?_
  exact sv 8 rfl
  refine' sargs_cons ?_ ?_
  exact sv 7 rfl
  exact .nil
  exact ss_nil
  exact ss_nil
  refine' ss_cons ?_ ?_
  refine' ss_if ?_ ?_ ?_
  refine' sb_cmp ?_ ?_ (op_eq.less (by decide))
  exact sv 3 rfl
  exact se_int
  refine' ss_cons ?_ ?_
  refine' ss_compC ["turn"] ["source"] [0] (show NameOk _ 9 "names" from ⟨rfl, by decide, rfl, by first | exact .inl rfl | exact .inr rfl⟩) tg_name (by intro env h; cases env; subst h; rfl) ⟨rfl, by decide, by decide, by decide, by decide, by decide, by decide⟩ ⟨⟨rfl, rfl, rfl, rfl⟩, True.intro⟩ rfl (by intro env h; cases env; subst h; rfl) (fun _ _ => rfl) ?_ ?_ ?_
  refine' se_callB ⟨rfl, bl_range, bt_range, by decide, rfl⟩ (.t _) op_range ?_
  refine' sargs_cons ?_ ?_
  refine' se_call rfl ⟨rfl, gl__law_take, rfl⟩ kp__law_take (call_any c__law_take) (by decide) ?_
  refine' sargs_cons ?_ ?_
  exact sv 0 rfl
  refine' sargs_cons ?_ ?_
  exact se_int
  exact .nil
  exact .nil
  exact .nil
  refine' se_call rfl ⟨rfl, gl__law_one, rfl⟩ kp__law_one (call_any c__law_one) (by decide) ?_
  refine' sargs_cons ?_ ?_
  exact sv 1 rfl
  refine' sargs_cons ?_ ?_
  refine' se_lst ?_
  refine' ses_cons ?_ ?_
  exact st [65] rfl
  refine' ses_cons ?_ ?_
  exact st [66] rfl
  refine' ses_cons ?_ ?_
  exact st [86] rfl
  exact ses_nil
  exact .nil
  refine' ss_cons ?_ ?_
  refine' ss_ret ?_
  refine' se_call rfl ⟨rfl, gl__law_variants_right, rfl⟩ kp__law_variants_right c__law_variants_right (by decide) ?_
  refine' sargs_cons ?_ ?_
  exact sv 1 rfl
  refine' sargs_cons ?_ ?_
  exact sv 2 rfl
  refine' sargs_cons ?_ ?_
  refine' se_call rfl ⟨rfl, gl__law_path, rfl⟩ kp__law_path (call_any c__law_path) (by decide) ?_
  refine' sargs_cons ?_ ?_
  exact sv 4 rfl
  refine' sargs_cons ?_ ?_
  exact sv 6 rfl
  exact .nil
  refine' sargs_cons ?_ ?_
  exact sv 9 rfl
  refine' sargs_cons ?_ ?_
  exact sv 5 rfl
  exact .nil
  exact ss_nil
  exact ss_nil
  refine' ss_cons ?_ ?_
  refine' ss_assign ?_ ?_
  refine' se_call rfl ⟨rfl, gl__law_one, rfl⟩ kp__law_one (call_any c__law_one) (by decide) ?_
  refine' sargs_cons ?_ ?_
  exact sv 0 rfl
  refine' sargs_cons ?_ ?_
  refine' se_lst ?_
  refine' ses_cons ?_ ?_
  refine' se_tup ?_
  refine' ses_cons ?_ ?_
  exact st [109] rfl
  refine' ses_cons ?_ ?_
  exact sv 6 rfl
  exact ses_nil
  refine' ses_cons ?_ ?_
  refine' se_tup ?_
  refine' ses_cons ?_ ?_
  exact sv 6 rfl
  exact ses_nil
  refine' ses_cons ?_ ?_
  refine' se_tup ?_
  refine' ses_cons ?_ ?_
  exact st [115, 117, 112, 101, 114] rfl
  exact ses_nil
  refine' ses_cons ?_ ?_
  refine' se_tup ?_
  refine' ses_cons ?_ ?_
  exact st [65] rfl
  refine' ses_cons ?_ ?_
  exact st [66] rfl
  exact ses_nil
  exact ses_nil
  exact .nil
  exact ta_name (show NameOk _ 9 "names" from ⟨rfl, by decide, rfl, by first | exact .inl rfl | exact .inr rfl⟩)
  refine' ss_cons ?_ ?_
  refine' ss_ret ?_
  refine' se_call rfl ⟨rfl, gl__law_use_right, rfl⟩ kp__law_use_right c__law_use_right (by decide) ?_
  refine' sargs_cons ?_ ?_
  exact sv 1 rfl
  refine' sargs_cons ?_ ?_
  exact sv 2 rfl
  refine' sargs_cons ?_ ?_
  exact sv 4 rfl
  refine' sargs_cons ?_ ?_
  refine' se_tup ?_
  refine' ses_cons ?_ ?_
  exact sv 9 rfl
  refine' ses_cons ?_ ?_
  refine' se_call rfl ⟨rfl, gl__law_one, rfl⟩ kp__law_one (call_any c__law_one) (by decide) ?_
  refine' sargs_cons ?_ ?_
  exact sv 0 rfl
  refine' sargs_cons ?_ ?_
  refine' se_lst ?_
  refine' ses_cons ?_ ?_
  exact se_none
  refine' ses_cons ?_ ?_
  exact st [66] rfl
  refine' ses_cons ?_ ?_
  exact st [81] rfl
  exact ses_nil
  exact .nil
  refine' ses_cons ?_ ?_
  exact sv 7 rfl
  refine' ses_cons ?_ ?_
  exact sv 5 rfl
  exact ses_nil
  exact .nil
  exact ss_nil
theorem c__law_chain_right : FC false 374 150 f__law_chain_right := by
  refine' fc_cells (q := false) (ps := ["many", "way", "space", "ahead"]) (rest := ["modules", "goal", "at", "names", "use", "seen", "due", "turn"]) (n := 149) (ro := false) ⟨⟨_, _, _, _, _, _, _, _, _, _, _, fun w => ⟨by k_is, by k_is⟩, binds4 (by intros; rfl)⟩, by decide, rfl, rfl, rfl⟩ (by decide) (by decide) (by decide) ?_
  refine' ss_cons ?_ ?_
  refine' ss_assign ?_ ?_
  refine' se_make rfl ⟨rfl, gl_Modules, rfl⟩ co_Modules c_Modules (by decide) ?_
  refine' sargs_cons ?_ ?_
  refine' se_lst ?_
  refine' ses_cons ?_ ?_
  refine' se_tup ?_
  refine' ses_cons ?_ ?_
  exact st [109, 111, 100] rfl
  refine' ses_cons ?_ ?_
  exact se_int
  refine' ses_cons ?_ ?_
  exact st [109] rfl
  refine' ses_cons ?_ ?_
  refine' se_tup ?_
  refine' ses_cons ?_ ?_
  refine' se_tup ?_
  refine' ses_cons ?_ ?_
  exact st [115, 116, 114, 117, 99, 116] rfl
  refine' ses_cons ?_ ?_
  exact se_int
  refine' ses_cons ?_ ?_
  exact st [83] rfl
  refine' ses_cons ?_ ?_
  refine' se_tup ?_
  refine' ses_cons ?_ ?_
  refine' se_tup ?_
  exact ses_nil
  refine' ses_cons ?_ ?_
  refine' se_tup ?_
  exact ses_nil
  exact ses_nil
  refine' ses_cons ?_ ?_
  exact st [110, 97, 109, 101, 100] rfl
  refine' ses_cons ?_ ?_
  refine' se_tup ?_
  exact ses_nil
  refine' ses_cons ?_ ?_
  exact se_bool
  exact ses_nil
  exact ses_nil
  refine' ses_cons ?_ ?_
  exact se_bool
  exact ses_nil
  exact ses_nil
  exact .nil
  exact ta_name (show NameOk _ 4 "modules" from ⟨rfl, by decide, rfl, by first | exact .inl rfl | exact .inr rfl⟩)
  refine' ss_cons ?_ ?_
  refine' ss_assign ?_ ?_
  refine' se_getA ?_ ?_ (by decide)
  refine' se_lst ?_
  refine' ses_cons ?_ ?_
  refine' se_tup ?_
  refine' ses_cons ?_ ?_
  exact st [109] rfl
  refine' ses_cons ?_ ?_
  exact st [83] rfl
  exact ses_nil
  refine' ses_cons ?_ ?_
  refine' se_tup ?_
  refine' ses_cons ?_ ?_
  exact st [109] rfl
  refine' ses_cons ?_ ?_
  exact st [78] rfl
  exact ses_nil
  refine' ses_cons ?_ ?_
  refine' se_tup ?_
  refine' ses_cons ?_ ?_
  exact st [117, 48] rfl
  exact ses_nil
  exact ses_nil
  exact sv 1 rfl
  exact ta_name (show NameOk _ 5 "goal" from ⟨rfl, by decide, rfl, by first | exact .inl rfl | exact .inr rfl⟩)
  refine' ss_cons ?_ ?_
  refine' ss_for ?_ ?_ ?_
  refine' se_callB ⟨rfl, bl_range, bt_range, by decide, rfl⟩ (.t _) op_range ?_
  refine' sargs_cons ?_ ?_
  exact sv 0 rfl
  exact .nil
  exact ta_name (show NameOk _ 6 "at" from ⟨rfl, by decide, rfl, by first | exact .inl rfl | exact .inr rfl⟩)
  refine' ss_cons ?_ ?_
  refine' ss_assign ?_ ?_
  refine' se_ifExp ?_ ?_ ?_
  refine' sb_cmp ?_ ?_ op_lt
  refine' se_bin ?_ ?_ op_add
  exact sv 6 rfl
  exact se_int
  exact sv 0 rfl
  refine' se_tup ?_
  refine' ses_cons ?_ ?_
  refine' se_bin ?_ ?_ op_add
  exact st [117] rfl
  refine' se_callB ⟨rfl, bl_str, bt_str, by decide, rfl⟩ (.t _) op_str ?_
  refine' sargs_cons ?_ ?_
  refine' se_bin ?_ ?_ op_add
  exact sv 6 rfl
  exact se_int
  exact .nil
  exact ses_nil
  exact sv 5 rfl
  exact ta_name (show NameOk _ 7 "names" from ⟨rfl, by decide, rfl, by first | exact .inl rfl | exact .inr rfl⟩)
  refine' ss_cons ?_ ?_
  refine' ss_expr ?_
  refine' se_meth rfl ?_ me_enter_use rfl (call_any c_enter_use) (by decide) ?_ (fun _ => ⟨_, rfl⟩)
  exact sv 4 rfl
  refine' sargs_cons ?_ ?_
  exact st [] rfl
  refine' sargs_cons ?_ ?_
  refine' se_tup ?_
  refine' ses_cons ?_ ?_
  exact st [117, 115, 101] rfl
  refine' ses_cons ?_ ?_
  refine' se_bin ?_ ?_ op_add
  exact se_int
  exact sv 6 rfl
  refine' ses_cons ?_ ?_
  exact sv 7 rfl
  refine' ses_cons ?_ ?_
  refine' se_bin ?_ ?_ op_add
  exact st [117] rfl
  refine' se_callB ⟨rfl, bl_str, bt_str, by decide, rfl⟩ (.t _) op_str ?_
  refine' sargs_cons ?_ ?_
  exact sv 6 rfl
  exact .nil
  refine' ses_cons ?_ ?_
  exact se_bool
  exact ses_nil
  exact .nil
  exact ss_nil
  refine' ss_cons ?_ ?_
  first | refine' ss_swap (names := ["use", "seen"]) ?_ (io_cons (ta_bind (show NameOk _ 9 "seen" from ⟨rfl, by decide, rfl, by first | exact .inl rfl | exact .inr rfl⟩)) (io_cons (ta_bind (show NameOk _ 8 "use" from ⟨rfl, by decide, rfl, by first | exact .inl rfl | exact .inr rfl⟩)) io_nil)) | refine' ss_assign ?_ ?_
  refine' se_tup ?_
  refine' ses_cons ?_ ?_
  refine' se_getA ?_ ?_ (by decide)
  refine' se_attr ?_ at_uses rfl
  refine' se_getA ?_ ?_ (by decide)
  refine' se_attr ?_ at_tables rfl
  exact sv 4 rfl
  exact st [] rfl
  exact st [117, 48] rfl
  refine' ses_cons ?_ ?_
  refine' se_compC ["at"] [] [] tg_name (by intro env h; cases env; subst h; rfl) ⟨rfl, by decide, by decide, by decide, by decide, by decide, by decide⟩ True.intro rfl (fun _ _ => rfl) ?_ ?_ ?_
  refine' se_callB ⟨rfl, bl_range, bt_range, by decide, rfl⟩ (.t _) op_range ?_
  refine' sargs_cons ?_ ?_
  exact sv 3 rfl
  exact .nil
  exact .nil
  refine' se_tup ?_
  refine' ses_cons ?_ ?_
  exact st [] rfl
  refine' ses_cons ?_ ?_
  refine' se_bin ?_ ?_ op_add
  exact st [120] rfl
  refine' se_callB ⟨rfl, bl_str, bt_str, by decide, rfl⟩ (.t _) op_str ?_
  refine' sargs_cons ?_ ?_
  exact sv 0 rfl
  exact .nil
  exact ses_nil
  exact ses_nil
  refine' ta_tup ?_
  refine' tas_cons ?_ ?_
  exact ta_name (show NameOk _ 8 "use" from ⟨rfl, by decide, rfl, by first | exact .inl rfl | exact .inr rfl⟩)
  refine' tas_cons ?_ ?_
  exact ta_name (show NameOk _ 9 "seen" from ⟨rfl, by decide, rfl, by first | exact .inl rfl | exact .inr rfl⟩)
  exact tas_nil
  refine' ss_cons ?_ ?_
  refine' ss_assign ?_ ?_
  exact se_none
  exact ta_name (show NameOk _ 10 "due" from ⟨rfl, by decide, rfl, by first | exact .inl rfl | exact .inr rfl⟩)
  refine' ss_cons ?_ ?_
  refine' ss_if ?_ ?_ ?_
  refine' sb_cmp ?_ ?_ (op_eq.less (by decide))
  exact sv 1 rfl
  exact se_int
  refine' ss_cons ?_ ?_
  refine' ss_assign ?_ ?_
  refine' se_lst ?_
  refine' ses_cons ?_ ?_
  exact st [117, 115, 101, 115, 32, 119, 105, 116, 104, 111, 117, 116, 32, 97, 110, 32, 101, 110, 100, 44, 32, 111, 114, 32, 116, 111, 111, 32, 109, 97, 110, 121, 32, 111, 102, 32, 116, 104, 101, 109, 58, 32, 117, 48] rfl
  refine' ses_cons ?_ ?_
  exact se_int
  exact ses_nil
  exact ta_name (show NameOk _ 10 "due" from ⟨rfl, by decide, rfl, by first | exact .inl rfl | exact .inr rfl⟩)
  exact ss_nil
  refine' ss_cons ?_ ?_
  refine' ss_if ?_ ?_ ?_
  refine' sa_bool ?_
  refine' sa_or ?_ ?_
  refine' sb_cmp ?_ ?_ (op_eq.less (by decide))
  exact sv 1 rfl
  exact se_int
  refine' sa_or ?_ ?_
  refine' sb_cmp ?_ ?_ (op_eq.less (by decide))
  exact sv 2 rfl
  exact st [118, 97, 108, 117, 101] rfl
  exact sa_nil
  refine' ss_cons ?_ ?_
  refine' ss_assign ?_ ?_
  refine' se_lst ?_
  refine' ses_cons ?_ ?_
  refine' se_bin ?_ ?_ op_add
  exact st [110, 111, 116, 104, 105, 110, 103, 32, 105, 115, 32, 110, 97, 109, 101, 100, 32] rfl
  refine' se_methB ?_ om_join op_join ?_ (fun _ => ⟨_, rfl⟩)
  exact st [58, 58] rfl
  refine' sargs_cons ?_ ?_
  exact sv 5 rfl
  exact .nil
  refine' ses_cons ?_ ?_
  refine' se_bin ?_ ?_ op_add
  exact se_int
  exact sv 0 rfl
  exact ses_nil
  exact ta_name (show NameOk _ 10 "due" from ⟨rfl, by decide, rfl, by first | exact .inl rfl | exact .inr rfl⟩)
  exact ss_nil
  exact ss_nil
  exact ss_nil
  refine' ss_cons ?_ ?_
  refine' ss_if ?_ ?_ ?_
  refine' sb_cmp ?_ ?_ op_gt
  refine' se_bin ?_ ?_ op_add
  exact sv 3 rfl
  exact sv 0 rfl
  exact se_int
  refine' ss_cons ?_ ?_
  refine' ss_assign ?_ ?_
  refine' se_lst ?_
  refine' ses_cons ?_ ?_
  refine' se_bin ?_ ?_ op_add
  exact st [117, 115, 101, 115, 32, 119, 105, 116, 104, 111, 117, 116, 32, 97, 110, 32, 101, 110, 100, 44, 32, 111, 114, 32, 116, 111, 111, 32, 109, 97, 110, 121, 32, 111, 102, 32, 116, 104, 101, 109, 58, 32, 117] rfl
  refine' se_callB ⟨rfl, bl_str, bt_str, by decide, rfl⟩ (.t _) op_str ?_
  refine' sargs_cons ?_ ?_
  refine' se_bin ?_ ?_ op_sub
  exact se_int
  exact sv 3 rfl
  exact .nil
  refine' ses_cons ?_ ?_
  refine' se_bin ?_ ?_ op_sub
  refine' se_bin ?_ ?_ op_add
  exact se_int
  exact se_int
  exact sv 3 rfl
  exact ses_nil
  exact ta_name (show NameOk _ 10 "due" from ⟨rfl, by decide, rfl, by first | exact .inl rfl | exact .inr rfl⟩)
  exact ss_nil
  exact ss_nil
  refine' ss_cons ?_ ?_
  refine' ss_if ?_ ?_ ?_
  refine' sb_cmp ?_ ?_ op_isNotNone
  exact sv 10 rfl
  exact se_none
  refine' ss_cons ?_ ?_
  refine' ss_ret ?_
  refine' se_cmp ?_ ?_ (op_eq.less (by decide))
  refine' se_heard (nL := 147) (lvn := ["modules", "seen", "space", "use"]) (caps := [4, 9, 2, 8]) (lam_ok rfl rfl rfl (fun _ _ => code_chain) tab_chain (fun _ _ _ _ => rfl) ⟨⟨rfl, rfl, rfl, rfl⟩, ⟨⟨rfl, rfl, rfl, rfl⟩, ⟨⟨rfl, rfl, rfl, rfl⟩, ⟨⟨rfl, rfl, rfl, rfl⟩, True.intro⟩⟩⟩⟩ rfl rfl rfl rfl (by decide) (by decide) (by decide)) ⟨rfl, gl__law_heard, rfl⟩ rfl (fun _ => ⟨_, rfl⟩) me_follow c_follow (by decide) (by decide) ?_ ?_
  exact sv 0 rfl
  refine' sargs_cons ?_ ?_
  exact st [] rfl
  refine' sargs_cons ?_ ?_
  exact st [117, 48] rfl
  refine' sargs_cons ?_ ?_
  exact sv 3 rfl
  refine' sargs_cons ?_ ?_
  exact sv 2 rfl
  refine' sargs_cons ?_ ?_
  exact sv 1 rfl
  exact .nil
  exact sv 10 rfl
  exact ss_nil
  exact ss_nil
  refine' ss_cons ?_ ?_
  refine' ss_for ?_ ?_ ?_
  refine' se_callB ⟨rfl, bl_range, bt_range, by decide, rfl⟩ (.t _) op_range ?_
  refine' sargs_cons ?_ ?_
  exact se_int
  exact .nil
  exact ta_name (show NameOk _ 11 "turn" from ⟨rfl, by decide, rfl, by first | exact .inl rfl | exact .inr rfl⟩)
  refine' ss_cons ?_ ?_
  refine' ss_if ?_ ?_ ?_
  refine' sb_cmp ?_ ?_ (op_ne.less (by decide))
  refine' se_meth rfl ?_ me_follow rfl (call_any c_follow) (by decide) ?_ (fun _ => ⟨_, rfl⟩)
  exact sv 4 rfl
  refine' sargs_cons ?_ ?_
  exact st [] rfl
  refine' sargs_cons ?_ ?_
  exact st [117, 48] rfl
  refine' sargs_cons ?_ ?_
  exact sv 8 rfl
  refine' sargs_cons ?_ ?_
  exact sv 2 rfl
  refine' sargs_cons ?_ ?_
  exact sv 9 rfl
  exact .nil
  exact st [109, 58, 58, 83] rfl
  refine' ss_cons ?_ ?_
  refine' ss_ret ?_
  exact se_bool
  exact ss_nil
  exact ss_nil
  exact ss_nil
  refine' ss_cons ?_ ?_
  refine' ss_ret ?_
  refine' se_cmp ?_ ?_ (op_eq.less (by decide))
  refine' se_getA ?_ ?_ (by decide)
  refine' se_attr ?_ at_kept rfl
  exact sv 4 rfl
  refine' se_tup ?_
  refine' ses_cons ?_ ?_
  exact st [] rfl
  refine' ses_cons ?_ ?_
  exact st [117, 48] rfl
  refine' ses_cons ?_ ?_
  exact sv 2 rfl
  exact ses_nil
  exact st [109, 58, 58, 83] rfl
  exact ss_nil
theorem c__law_told_right : FC false 381 152 f__law_told_right := by
  refine' fc_plain (q := false) (ps := []) (rest := ["modules", "whole", "item", "uses", "use"]) (n := 151) (ro := false) ⟨⟨_, _, _, _, _, _, _, _, _, _, _, fun w => ⟨by k_is, by k_is⟩, binds0 (by intros; rfl)⟩, by decide, rfl, rfl, rfl⟩ (by decide) (by decide) (by decide) ?_
  refine' ss_cons ?_ ?_
  first | refine' ss_swap (names := ["modules", "whole"]) ?_ (io_cons (ta_bind (show NameOk _ 1 "whole" from ⟨rfl, by decide, rfl, by first | exact .inl rfl | exact .inr rfl⟩)) (io_cons (ta_bind (show NameOk _ 0 "modules" from ⟨rfl, by decide, rfl, by first | exact .inl rfl | exact .inr rfl⟩)) io_nil)) | refine' ss_assign ?_ ?_
  refine' se_tup ?_
  refine' ses_cons ?_ ?_
  refine' se_call rfl ⟨rfl, gl__law_modules, rfl⟩ kp__law_modules (call_any c__law_modules) (by decide) ?_
  exact .nil
  refine' ses_cons ?_ ?_
  refine' se_call rfl ⟨rfl, gl__law_book, rfl⟩ kp__law_book (call_any c__law_book) (by decide) ?_
  exact .nil
  exact ses_nil
  refine' ss_cons ?_ ?_
  refine' ss_assign ?_ ?_
  refine' se_tup ?_
  refine' ses_cons ?_ ?_
  exact st [115, 116, 114, 117, 99, 116] rfl
  refine' ses_cons ?_ ?_
  exact se_int
  refine' ses_cons ?_ ?_
  exact st [65] rfl
  refine' ses_cons ?_ ?_
  refine' se_tup ?_
  refine' ses_cons ?_ ?_
  refine' se_tup ?_
  refine' ses_cons ?_ ?_
  exact st [39, 97] rfl
  exact ses_nil
  refine' ses_cons ?_ ?_
  refine' se_tup ?_
  refine' ses_cons ?_ ?_
  refine' se_tup ?_
  refine' ses_cons ?_ ?_
  exact st [84] rfl
  refine' ses_cons ?_ ?_
  refine' se_tup ?_
  exact ses_nil
  exact ses_nil
  exact ses_nil
  exact ses_nil
  refine' ses_cons ?_ ?_
  exact st [116, 117, 112, 108, 101] rfl
  refine' ses_cons ?_ ?_
  refine' se_tup ?_
  exact ses_nil
  refine' ses_cons ?_ ?_
  exact se_bool
  exact ses_nil
  exact ta_name (show NameOk _ 2 "item" from ⟨rfl, by decide, rfl, by first | exact .inl rfl | exact .inr rfl⟩)
  refine' ss_cons ?_ ?_
  refine' ss_if ?_ ?_ ?_
  refine' sb_not ?_
  refine' sb_plain ?_ (by intro _; rfl)
  refine' se_call rfl ⟨rfl, gl__law_type_right, rfl⟩ kp__law_type_right c__law_type_right (by decide) ?_
  refine' sargs_cons ?_ ?_
  exact sv 0 rfl
  refine' sargs_cons ?_ ?_
  exact sv 1 rfl
  refine' sargs_cons ?_ ?_
  exact st [] rfl
  refine' sargs_cons ?_ ?_
  exact sv 2 rfl
  refine' sargs_cons ?_ ?_
  refine' se_tup ?_
  refine' ses_cons ?_ ?_
  exact st [116, 121, 112, 101] rfl
  refine' ses_cons ?_ ?_
  exact st [118, 97, 108, 117, 101] rfl
  exact ses_nil
  refine' sargs_cons ?_ ?_
  exact se_bool
  exact .nil
  refine' ss_cons ?_ ?_
  refine' ss_ret ?_
  exact se_bool
  exact ss_nil
  exact ss_nil
  refine' ss_cons ?_ ?_
  refine' ss_if ?_ ?_ ?_
  refine' sb_not ?_
  refine' sb_plain ?_ (by intro _; rfl)
  refine' se_call rfl ⟨rfl, gl__law_type_right, rfl⟩ kp__law_type_right c__law_type_right (by decide) ?_
  refine' sargs_cons ?_ ?_
  exact sv 0 rfl
  refine' sargs_cons ?_ ?_
  exact sv 1 rfl
  refine' sargs_cons ?_ ?_
  exact st [] rfl
  refine' sargs_cons ?_ ?_
  exact sv 2 rfl
  refine' sargs_cons ?_ ?_
  refine' se_tup ?_
  refine' ses_cons ?_ ?_
  exact st [118, 97, 108, 117, 101] rfl
  exact ses_nil
  refine' sargs_cons ?_ ?_
  exact se_bool
  exact .nil
  refine' ss_cons ?_ ?_
  refine' ss_ret ?_
  exact se_bool
  exact ss_nil
  exact ss_nil
  refine' ss_cons ?_ ?_
  refine' ss_if ?_ ?_ ?_
  refine' sb_not ?_
  refine' sb_plain ?_ (by intro _; rfl)
  refine' se_call rfl ⟨rfl, gl__law_type_right, rfl⟩ kp__law_type_right c__law_type_right (by decide) ?_
  refine' sargs_cons ?_ ?_
  exact sv 0 rfl
  refine' sargs_cons ?_ ?_
  exact sv 1 rfl
  refine' sargs_cons ?_ ?_
  exact st [109] rfl
  refine' sargs_cons ?_ ?_
  refine' se_tup ?_
  refine' ses_cons ?_ ?_
  exact st [116, 114, 97, 105, 116] rfl
  refine' ses_cons ?_ ?_
  exact se_int
  refine' ses_cons ?_ ?_
  exact st [117, 56] rfl
  refine' ses_cons ?_ ?_
  refine' se_tup ?_
  refine' ses_cons ?_ ?_
  refine' se_tup ?_
  exact ses_nil
  refine' ses_cons ?_ ?_
  refine' se_tup ?_
  exact ses_nil
  exact ses_nil
  refine' ses_cons ?_ ?_
  refine' se_tup ?_
  exact ses_nil
  refine' ses_cons ?_ ?_
  exact se_bool
  exact ses_nil
  refine' sargs_cons ?_ ?_
  refine' se_tup ?_
  refine' ses_cons ?_ ?_
  exact st [116, 121, 112, 101] rfl
  exact ses_nil
  refine' sargs_cons ?_ ?_
  exact se_bool
  exact .nil
  refine' ss_cons ?_ ?_
  refine' ss_ret ?_
  exact se_bool
  exact ss_nil
  exact ss_nil
  refine' ss_cons ?_ ?_
  refine' ss_if ?_ ?_ ?_
  refine' sb_not ?_
  refine' sb_plain ?_ (by intro _; rfl)
  refine' se_call rfl ⟨rfl, gl__law_variants_right, rfl⟩ kp__law_variants_right c__law_variants_right (by decide) ?_
  refine' sargs_cons ?_ ?_
  exact sv 0 rfl
  refine' sargs_cons ?_ ?_
  exact sv 1 rfl
  refine' sargs_cons ?_ ?_
  exact st [69] rfl
  refine' sargs_cons ?_ ?_
  refine' se_lst ?_
  refine' ses_cons ?_ ?_
  exact st [86] rfl
  refine' ses_cons ?_ ?_
  exact st [87] rfl
  refine' ses_cons ?_ ?_
  exact st [86] rfl
  refine' ses_cons ?_ ?_
  exact st [88] rfl
  exact ses_nil
  refine' sargs_cons ?_ ?_
  exact se_int
  exact .nil
  refine' ss_cons ?_ ?_
  refine' ss_ret ?_
  exact se_bool
  exact ss_nil
  exact ss_nil
  refine' ss_cons ?_ ?_
  refine' ss_assign ?_ ?_
  refine' se_lst ?_
  refine' ses_cons ?_ ?_
  refine' se_tup ?_
  refine' ses_cons ?_ ?_
  refine' se_tup ?_
  refine' ses_cons ?_ ?_
  exact st [109] rfl
  refine' ses_cons ?_ ?_
  exact st [88] rfl
  exact ses_nil
  refine' ses_cons ?_ ?_
  exact st [66] rfl
  refine' ses_cons ?_ ?_
  exact se_bool
  refine' ses_cons ?_ ?_
  exact se_int
  exact ses_nil
  refine' ses_cons ?_ ?_
  refine' se_tup ?_
  refine' ses_cons ?_ ?_
  refine' se_tup ?_
  refine' ses_cons ?_ ?_
  exact st [109] rfl
  refine' ses_cons ?_ ?_
  exact st [66] rfl
  exact ses_nil
  refine' ses_cons ?_ ?_
  exact se_none
  refine' ses_cons ?_ ?_
  exact se_bool
  refine' ses_cons ?_ ?_
  exact se_int
  exact ses_nil
  refine' ses_cons ?_ ?_
  refine' se_tup ?_
  refine' ses_cons ?_ ?_
  refine' se_tup ?_
  refine' ses_cons ?_ ?_
  exact st [115, 117, 112, 101, 114] rfl
  exact ses_nil
  refine' ses_cons ?_ ?_
  exact se_none
  refine' ses_cons ?_ ?_
  exact se_bool
  refine' ses_cons ?_ ?_
  exact se_int
  exact ses_nil
  exact ses_nil
  exact ta_name (show NameOk _ 3 "uses" from ⟨rfl, by decide, rfl, by first | exact .inl rfl | exact .inr rfl⟩)
  refine' ss_cons ?_ ?_
  refine' ss_for ?_ ?_ ?_
  refine' se_bin ?_ ?_ op_add
  exact sv 3 rfl
  refine' se_lst ?_
  refine' ses_cons ?_ ?_
  refine' se_tup ?_
  refine' ses_cons ?_ ?_
  refine' se_tup ?_
  refine' ses_cons ?_ ?_
  exact st [113] rfl
  exact ses_nil
  refine' ses_cons ?_ ?_
  exact st [66, 111, 120] rfl
  refine' ses_cons ?_ ?_
  exact se_bool
  refine' ses_cons ?_ ?_
  exact se_int
  exact ses_nil
  exact ses_nil
  exact ta_name (show NameOk _ 4 "use" from ⟨rfl, by decide, rfl, by first | exact .inl rfl | exact .inr rfl⟩)
  refine' ss_cons ?_ ?_
  refine' ss_if ?_ ?_ ?_
  refine' sb_not ?_
  refine' sb_plain ?_ (by intro _; rfl)
  refine' se_call rfl ⟨rfl, gl__law_use_right, rfl⟩ kp__law_use_right c__law_use_right (by decide) ?_
  refine' sargs_cons ?_ ?_
  exact sv 0 rfl
  refine' sargs_cons ?_ ?_
  exact sv 1 rfl
  refine' sargs_cons ?_ ?_
  exact st [] rfl
  refine' sargs_cons ?_ ?_
  exact sv 4 rfl
  exact .nil
  refine' ss_cons ?_ ?_
  refine' ss_ret ?_
  exact se_bool
  exact ss_nil
  exact ss_nil
  exact ss_nil
  refine' ss_cons ?_ ?_
  refine' ss_if ?_ ?_ ?_
  refine' sa_bool ?_
  refine' sa_or ?_ ?_
  refine' sb_not ?_
  refine' sb_plain ?_ (by intro _; rfl)
  refine' se_callIso rfl rfl ⟨rfl, gl__law_chain_right, rfl⟩ kp__law_chain_right c__law_chain_right (by decide) ?_
  refine' sargs_cons ?_ ?_
  exact se_int
  refine' sargs_cons ?_ ?_
  exact se_int
  refine' sargs_cons ?_ ?_
  exact st [116, 121, 112, 101] rfl
  refine' sargs_cons ?_ ?_
  exact se_int
  exact .nil
  refine' sa_or ?_ ?_
  refine' sb_not ?_
  refine' sb_plain ?_ (by intro _; rfl)
  refine' se_callIso rfl rfl ⟨rfl, gl__law_chain_right, rfl⟩ kp__law_chain_right c__law_chain_right (by decide) ?_
  refine' sargs_cons ?_ ?_
  exact se_int
  refine' sargs_cons ?_ ?_
  exact se_int
  refine' sargs_cons ?_ ?_
  exact st [116, 121, 112, 101] rfl
  refine' sargs_cons ?_ ?_
  exact se_int
  exact .nil
  exact sa_nil
  refine' ss_cons ?_ ?_
  refine' ss_ret ?_
  exact se_bool
  exact ss_nil
  exact ss_nil
  refine' ss_cons ?_ ?_
  refine' ss_ret ?_
  refine' se_and ?_ ?_
  refine' se_callIso rfl rfl ⟨rfl, gl__law_chain_right, rfl⟩ kp__law_chain_right c__law_chain_right (by decide) ?_
  refine' sargs_cons ?_ ?_
  exact se_int
  refine' sargs_cons ?_ ?_
  exact se_int
  refine' sargs_cons ?_ ?_
  exact st [116, 121, 112, 101] rfl
  refine' sargs_cons ?_ ?_
  exact se_int
  exact .nil
  refine' se_one1 ?_
  refine' se_callIso rfl rfl ⟨rfl, gl__law_chain_right, rfl⟩ kp__law_chain_right c__law_chain_right (by decide) ?_
  refine' sargs_cons ?_ ?_
  exact se_int
  refine' sargs_cons ?_ ?_
  exact se_int
  refine' sargs_cons ?_ ?_
  exact st [118, 97, 108, 117, 101] rfl
  refine' sargs_cons ?_ ?_
  exact se_int
  exact .nil
  exact ss_nil
end

section
open PySem PySem.W PySem.Calls PyProof.Rows PySem.Spec
noncomputable def isTrueO (r : Out V) : Bool := match r with
  | .ok (.bool b) _ => b
  | _ => false
theorem isTrueO_iff {r : Out V} (h : isTrueO r = true) : ∃ H, r = .ok (.bool true) H := by
  unfold isTrueO at h
  split at h
  · subst h; exact ⟨_, rfl⟩
  · cases h
noncomputable def chainOf (many way : Int) : Bool := [[116, 121, 112, 101], [118, 97, 108, 117, 101]].all fun sp => [0, 25, 28, 29, 30].all fun (ahead : Int) => isTrueO (f__law_chain_right [.int many, .int way, .str sp, .int ahead] [])
theorem chain_1_0 : chainOf 1 0 = true := by decide +kernel
theorem chain_1_1 : chainOf 1 1 = true := by decide +kernel
theorem chain_1_2 : chainOf 1 2 = true := by decide +kernel
theorem chain_2_0 : chainOf 2 0 = true := by decide +kernel
theorem chain_2_1 : chainOf 2 1 = true := by decide +kernel
theorem chain_2_2 : chainOf 2 2 = true := by decide +kernel
theorem chain_3_0 : chainOf 3 0 = true := by decide +kernel
theorem chain_3_1 : chainOf 3 1 = true := by decide +kernel
theorem chain_3_2 : chainOf 3 2 = true := by decide +kernel
theorem chain_4_0 : chainOf 4 0 = true := by decide +kernel
theorem chain_4_1 : chainOf 4 1 = true := by decide +kernel
theorem chain_4_2 : chainOf 4 2 = true := by decide +kernel
theorem chain_5_0 : chainOf 5 0 = true := by decide +kernel
theorem chain_5_1 : chainOf 5 1 = true := by decide +kernel
theorem chain_5_2 : chainOf 5 2 = true := by decide +kernel
theorem told : isTrueO (f__law_told_right [] []) = true := by decide +kernel
theorem chain_at {m w : Int} (m0 : 1 ≤ m) (m1 : m < 6) (w0 : 0 ≤ w) (w1 : w < 3) : chainOf m w = true := by
  have hm : m = 1 ∨ m = 2 ∨ m = 3 ∨ m = 4 ∨ m = 5 := by omega
  have hw : w = 0 ∨ w = 1 ∨ w = 2 := by omega
  rcases hm with rfl | rfl | rfl | rfl | rfl <;> rcases hw with rfl | rfl | rfl
  · exact chain_1_0
  · exact chain_1_1
  · exact chain_1_2
  · exact chain_2_0
  · exact chain_2_1
  · exact chain_2_2
  · exact chain_3_0
  · exact chain_3_1
  · exact chain_3_2
  · exact chain_4_0
  · exact chain_4_1
  · exact chain_4_2
  · exact chain_5_0
  · exact chain_5_1
  · exact chain_5_2
theorem chain_ok {m w : Int} (m0 : 1 ≤ m) (m1 : m < 6) (w0 : 0 ≤ w) (w1 : w < 3) {v a : V} (hv : v ∈ [V.str [116, 121, 112, 101], .str [118, 97, 108, 117, 101]]) (ha : a ∈ [V.int 0, .int 0, .int 25, .int 28, .int 29, .int 30]) (H : Hp) : isoF f__law_chain_right [.int m, .int w, v, a] H = .ok (.bool true) H := by
  have h := chain_at m0 m1 w0 w1
  unfold chainOf at h
  simp only [List.all_cons, List.all_nil, Bool.and_true, Bool.and_eq_true] at h
  simp only [List.mem_cons, List.not_mem_nil, or_false] at hv ha
  have e : ∃ H1, f__law_chain_right [.int m, .int w, v, a] [] = .ok (.bool true) H1 := by
    rcases hv with rfl | rfl <;> rcases ha with rfl | rfl | rfl | rfl | rfl | rfl <;> simp only [isTrueO_iff, h]
  obtain ⟨H1, e⟩ := e
  unfold isoF
  rw [e]
  rcases hv with rfl | rfl <;> rcases ha with rfl | rfl | rfl | rfl | rfl | rfl <;> rfl
theorem told_ok (H : Hp) : isoF f__law_told_right [] H = .ok (.bool true) H := by
  obtain ⟨H1, e⟩ := isTrueO_iff told
  unfold isoF
  rw [e]
  rfl
end

section
open PySem PySem.W PySem.Calls PyProof.Rows PySem.Spec
structure Wd where
  (p q : Int) (kd pb ty va us gn it ty1 va1 us1 bt bv bu bt1 bv1 bu1 lk lg lp li : List (Tx × V))
noncomputable def modsD : List (Tx × V) := [([], .ref 7), ([109], .ref 16)]
noncomputable def bookD : List (Tx × V) := [([], .ref 21), ([109], .ref 25)]
noncomputable def W : Bool → Wd → Hp
  | false, x => [.list [.int x.p, .int x.q], .fld [([107, 105, 110, 100, 115], .ref 3), ([112, 117, 98, 108, 105, 99, 115], .ref 4), ([116, 97, 98, 108, 101, 115], .ref 5), ([103, 101, 110, 101, 114, 105, 99, 115], .ref 11), ([105, 116, 101, 109, 115], .ref 12), ([107, 101, 112, 116], .ref 13)], .inst 275 1, .dict x.kd, .dict x.pb, .dict modsD, .fld [([116, 121, 112, 101, 115], .ref 8), ([118, 97, 108, 117, 101, 115], .ref 9), ([117, 115, 101, 115], .ref 10)], .inst 142 6, .dict x.ty, .dict x.va, .dict x.us, .dict x.gn, .dict x.it, .dict [], .list [], .fld [([116, 121, 112, 101, 115], .ref 17), ([118, 97, 108, 117, 101, 115], .ref 18), ([117, 115, 101, 115], .ref 19)], .inst 142 15, .dict x.ty1, .dict x.va1, .dict x.us1, .dict bookD, .dict [([116, 121, 112, 101], .ref 22), ([118, 97, 108, 117, 101], .ref 23), ([117, 115, 101], .ref 24)], .dict x.bt, .dict x.bv, .dict x.bu, .dict [([116, 121, 112, 101], .ref 26), ([118, 97, 108, 117, 101], .ref 27), ([117, 115, 101], .ref 28)], .dict x.bt1, .dict x.bv1, .dict x.bu1, .dict x.lk, .dict x.lg, .dict x.lp, .dict x.li]
  | true, x => [.list [.int x.p, .int x.q], .fld [([107, 105, 110, 100, 115], .ref 3), ([112, 117, 98, 108, 105, 99, 115], .ref 4), ([116, 97, 98, 108, 101, 115], .ref 5), ([103, 101, 110, 101, 114, 105, 99, 115], .ref 11), ([105, 116, 101, 109, 115], .ref 12), ([107, 101, 112, 116], .ref 13)], .inst 275 1, .dict x.kd, .dict x.pb, .dict modsD, .fld [([116, 121, 112, 101, 115], .ref 8), ([118, 97, 108, 117, 101, 115], .ref 9), ([117, 115, 101, 115], .ref 10)], .inst 142 6, .dict x.ty1, .dict x.va1, .dict x.us1, .dict x.gn, .dict x.it, .dict [], .list [], .fld [([116, 121, 112, 101, 115], .ref 17), ([118, 97, 108, 117, 101, 115], .ref 18), ([117, 115, 101, 115], .ref 19)], .inst 142 15, .dict x.ty, .dict x.va, .dict x.us, .dict bookD, .dict [([116, 121, 112, 101], .ref 22), ([118, 97, 108, 117, 101], .ref 23), ([117, 115, 101], .ref 24)], .dict x.bt1, .dict x.bv1, .dict x.bu1, .dict [([116, 121, 112, 101], .ref 26), ([118, 97, 108, 117, 101], .ref 27), ([117, 115, 101], .ref 28)], .dict x.bt, .dict x.bv, .dict x.bu, .dict x.lk, .dict x.lg, .dict x.lp, .dict x.li]
noncomputable def mn : Bool → Tx
  | false => []
  | true => [109]
noncomputable def tb : Bool → Nat
  | false => 7
  | true => 16
noncomputable def tf : Bool → Nat
  | false => 6
  | true => 15
noncomputable def rt : Bool → Nat
  | false => 8
  | true => 17
noncomputable def rv : Bool → Nat
  | false => 9
  | true => 18
noncomputable def ru : Bool → Nat
  | false => 10
  | true => 19
noncomputable def bb : Bool → Nat
  | false => 21
  | true => 25
noncomputable def xt : Bool → Nat
  | false => 22
  | true => 26
noncomputable def xv : Bool → Nat
  | false => 23
  | true => 27
noncomputable def xu : Bool → Nat
  | false => 24
  | true => 28
theorem w0 (m : Bool) (x : Wd) : (W m x)[0]? = some (.list [.int x.p, .int x.q]) := by cases m <;> rfl
theorem w1 (m : Bool) (x : Wd) : (W m x)[1]? = some (.fld [([107, 105, 110, 100, 115], .ref 3), ([112, 117, 98, 108, 105, 99, 115], .ref 4), ([116, 97, 98, 108, 101, 115], .ref 5), ([103, 101, 110, 101, 114, 105, 99, 115], .ref 11), ([105, 116, 101, 109, 115], .ref 12), ([107, 101, 112, 116], .ref 13)]) := by cases m <;> rfl
theorem w2 (m : Bool) (x : Wd) : (W m x)[2]? = some (.inst 275 1) := by cases m <;> rfl
theorem w3 (m : Bool) (x : Wd) : (W m x)[3]? = some (.dict x.kd) := by cases m <;> rfl
theorem w4 (m : Bool) (x : Wd) : (W m x)[4]? = some (.dict x.pb) := by cases m <;> rfl
theorem w5 (m : Bool) (x : Wd) : (W m x)[5]? = some (.dict modsD) := by cases m <;> rfl
theorem w11 (m : Bool) (x : Wd) : (W m x)[11]? = some (.dict x.gn) := by cases m <;> rfl
theorem w12 (m : Bool) (x : Wd) : (W m x)[12]? = some (.dict x.it) := by cases m <;> rfl
theorem w20 (m : Bool) (x : Wd) : (W m x)[20]? = some (.dict bookD) := by cases m <;> rfl
theorem w29 (m : Bool) (x : Wd) : (W m x)[29]? = some (.dict x.lk) := by cases m <;> rfl
theorem w30 (m : Bool) (x : Wd) : (W m x)[30]? = some (.dict x.lg) := by cases m <;> rfl
theorem w31 (m : Bool) (x : Wd) : (W m x)[31]? = some (.dict x.lp) := by cases m <;> rfl
theorem w32 (m : Bool) (x : Wd) : (W m x)[32]? = some (.dict x.li) := by cases m <;> rfl
theorem wtb (m : Bool) (x : Wd) : (W m x)[tb m]? = some (.inst 142 (tf m)) := by cases m <;> rfl
theorem wtf (m : Bool) (x : Wd) : (W m x)[tf m]? = some (.fld [([116, 121, 112, 101, 115], .ref (rt m)), ([118, 97, 108, 117, 101, 115], .ref (rv m)), ([117, 115, 101, 115], .ref (ru m))]) := by cases m <;> rfl
theorem wrt (m : Bool) (x : Wd) : (W m x)[rt m]? = some (.dict x.ty) := by cases m <;> rfl
theorem wrv (m : Bool) (x : Wd) : (W m x)[rv m]? = some (.dict x.va) := by cases m <;> rfl
theorem wru (m : Bool) (x : Wd) : (W m x)[ru m]? = some (.dict x.us) := by cases m <;> rfl
theorem wbb (m : Bool) (x : Wd) : (W m x)[bb m]? = some (.dict [([116, 121, 112, 101], .ref (xt m)), ([118, 97, 108, 117, 101], .ref (xv m)), ([117, 115, 101], .ref (xu m))]) := by cases m <;> rfl
theorem wxt (m : Bool) (x : Wd) : (W m x)[xt m]? = some (.dict x.bt) := by cases m <;> rfl
theorem wxv (m : Bool) (x : Wd) : (W m x)[xv m]? = some (.dict x.bv) := by cases m <;> rfl
theorem wxu (m : Bool) (x : Wd) : (W m x)[xu m]? = some (.dict x.bu) := by cases m <;> rfl
theorem wmo (m : Bool) : dget modsD (mn m) = some (.ref (tb m)) := by cases m <;> rfl
theorem wbo (m : Bool) : dget bookD (mn m) = some (.ref (bb m)) := by cases m <;> rfl
theorem ws3 (m : Bool) (x : Wd) (d : List (Tx × V)) : (W m x).set 3 (.dict d) = W m { x with kd := d } := by cases m <;> rfl
theorem ws4 (m : Bool) (x : Wd) (d : List (Tx × V)) : (W m x).set 4 (.dict d) = W m { x with pb := d } := by cases m <;> rfl
theorem ws11 (m : Bool) (x : Wd) (d : List (Tx × V)) : (W m x).set 11 (.dict d) = W m { x with gn := d } := by cases m <;> rfl
theorem ws12 (m : Bool) (x : Wd) (d : List (Tx × V)) : (W m x).set 12 (.dict d) = W m { x with it := d } := by cases m <;> rfl
theorem ws29 (m : Bool) (x : Wd) (d : List (Tx × V)) : (W m x).set 29 (.dict d) = W m { x with lk := d } := by cases m <;> rfl
theorem ws30 (m : Bool) (x : Wd) (d : List (Tx × V)) : (W m x).set 30 (.dict d) = W m { x with lg := d } := by cases m <;> rfl
theorem ws31 (m : Bool) (x : Wd) (d : List (Tx × V)) : (W m x).set 31 (.dict d) = W m { x with lp := d } := by cases m <;> rfl
theorem ws32 (m : Bool) (x : Wd) (d : List (Tx × V)) : (W m x).set 32 (.dict d) = W m { x with li := d } := by cases m <;> rfl
theorem wsrt (m : Bool) (x : Wd) (d : List (Tx × V)) : (W m x).set (rt m) (.dict d) = W m { x with ty := d } := by cases m <;> rfl
theorem wsrv (m : Bool) (x : Wd) (d : List (Tx × V)) : (W m x).set (rv m) (.dict d) = W m { x with va := d } := by cases m <;> rfl
theorem wsru (m : Bool) (x : Wd) (d : List (Tx × V)) : (W m x).set (ru m) (.dict d) = W m { x with us := d } := by cases m <;> rfl
theorem wsxt (m : Bool) (x : Wd) (d : List (Tx × V)) : (W m x).set (xt m) (.dict d) = W m { x with bt := d } := by cases m <;> rfl
theorem wsxv (m : Bool) (x : Wd) (d : List (Tx × V)) : (W m x).set (xv m) (.dict d) = W m { x with bv := d } := by cases m <;> rfl
theorem wsxu (m : Bool) (x : Wd) (d : List (Tx × V)) : (W m x).set (xu m) (.dict d) = W m { x with bu := d } := by cases m <;> rfl
theorem ws0 (m : Bool) (x : Wd) (p : Int) (q : Int) : (W m x).set 0 (.list [.int p, .int q]) = W m { x with p := p, q := q } := by cases m <;> rfl
end

section
open PySem PySem.W PySem.Calls PyProof.Rows PySem.Spec
noncomputable def jn (m n : Tx) : Tx := if txEq m [] then n else (m ++ [58, 58]) ++ n
theorem joined_at (m n : Tx) (H : Hp) (h : m.length + n.length ≤ 1000) : f_joined [.str m, .str n] H = .ok (.str (jn m n)) H := by
  have h1 : Nat.ble (m.length + [58, 58].length) 16384 = true := by rw [Nat.ble_eq]; show m.length + 2 ≤ _; omega
  have h2 : Nat.ble ((m ++ [58, 58]).length + n.length) 16384 = true := by rw [Nat.ble_eq, List.length_append]; show m.length + 2 + n.length ≤ _; omega
  unfold jn f_joined
  cases e : txEq m [] with
  | true => exact Eq.trans (r_run rfl (s_seq (s_ret (e_if (e_op2 (e_var rfl) e_val (e_boolG (q_eq c_s))) (ifO_t e (e_var rfl))) re_ok) o_ret) r_ret) rfl
  | false => exact Eq.trans (r_run rfl (s_seq (s_ret (e_if (e_op2 (e_var rfl) e_val (e_boolG (q_eq c_s))) (ifO_f e (e_op2 (e_op2 (e_var rfl) e_val (a_ss h1)) (e_var rfl) (a_ss h2)))) re_ok) o_ret) r_ret) rfl
theorem path_eq : f__law_path = f_joined := by kernel_rfl
theorem path_at (m n : Tx) (H : Hp) (h : m.length + n.length ≤ 1000) : f__law_path [.str m, .str n] H = .ok (.str (jn m n)) H := by rw [path_eq]; exact joined_at m n H h
theorem mn_len (m : Bool) : (mn m).length ≤ 1 := by cases m <;> decide
theorem jn_at (m : Bool) {n : Tx} (h : n.length ≤ 100) (H : Hp) : f_joined [.str (mn m), .str n] H = .ok (.str (jn (mn m) n)) H ∧ f__law_path [.str (mn m), .str n] H = .ok (.str (jn (mn m) n)) H :=
  ⟨joined_at _ _ _ (by have := mn_len m; omega), path_at _ _ _ (by have := mn_len m; omega)⟩
noncomputable def q1 (q : Int) : Int := (q * 39373 + 7).fmod 2147483647
theorem q1_lo (q : Int) : 0 ≤ q1 q := Int.fmod_nonneg_of_pos _ (by decide)
theorem q1_hi (q : Int) : q1 q < 2147483647 := Int.fmod_lt_of_pos _ (by decide)
noncomputable def Qs (q : Int) : Prop := 0 ≤ q ∧ q < 2147483647
theorem take_at (m : Bool) (x : Wd) (top : Int) (h0 : 0 < top) (h1 : top < 200) (hq : Qs x.q) : ∃ k p q, 0 ≤ k ∧ k < top ∧ Qs q ∧ f__law_take [.ref 0, .int top] (W m x) = .ok (.int k) (W m { x with p := p, q := q }) := by
  have g1 : decide (0 < top) = true := decide_eq_true h0
  have g2 : decide (top < 1000) = true := decide_eq_true (by omega)
  by_cases hp : 0 < x.p
  · have e : decide (0 < x.p) = true := decide_eq_true hp
    refine ⟨x.p.fmod top, x.p.fdiv top, x.q, Int.fmod_nonneg_of_pos _ h0, Int.fmod_lt_of_pos _ h0, hq, ?_⟩
    clear hp h0 h1 hq
    unfold f__law_take
    exact Eq.trans (r_run rfl (s_seq (e_if (e_op2 (e_op2 (e_var rfl) e_val (g_r (w0 _ _) rfl)) e_val (e_boolG o_gt)) (ifO_t e (s_seq (s_assign (e_op2 (e_op2 (e_var rfl) e_val (g_r (w0 _ _) rfl)) (e_var rfl) (o_mod g1)) (t_name rfl)) (o_next (s_seq (s_assign (e_op2 (e_op2 (e_var rfl) e_val (g_r (w0 _ _) rfl)) (e_var rfl) (o_fdiv g1 g2)) (t_sub (e_var rfl) e_val (x_setL (w0 _ _) rfl rfl (ws0 _ _ _ _)))) (o_next (s_seq (s_ret (e_var rfl) re_ok) o_ret))))))) o_ret) r_ret) rfl
  · have e : decide (0 < x.p) = false := decide_eq_false hp
    have b1 : decide (-4294967296 < (x.q * 39373 + 7).fmod 2147483647) = true := decide_eq_true (by have := q1_lo x.q; unfold q1 at this; omega)
    have b2 : decide ((x.q * 39373 + 7).fmod 2147483647 < 4294967296) = true := decide_eq_true (by have := q1_hi x.q; unfold q1 at this; omega)
    refine ⟨(((q1 x.q * q1 x.q).fmod 2147483629).fdiv 32).fmod top, x.p, q1 x.q, Int.fmod_nonneg_of_pos _ h0, Int.fmod_lt_of_pos _ h0, ⟨q1_lo _, q1_hi _⟩, ?_⟩
    clear hp h0 h1 hq
    unfold q1
    unfold f__law_take
    exact Eq.trans (r_run rfl (s_seq (e_if (e_op2 (e_op2 (e_var rfl) e_val (g_r (w0 _ _) rfl)) e_val (e_boolG o_gt)) (ifO_f e s_skip)) (o_next (s_seq (s_assign (e_op2 (e_op2 (e_op2 (e_op2 (e_var rfl) e_val (g_r (w0 _ _) rfl)) e_val (o_mul rfl rfl)) e_val a_ii) e_val (o_mod rfl)) (t_sub (e_var rfl) e_val (x_setL (w0 _ _) rfl rfl (ws0 _ _ _ _)))) (o_next (s_seq (s_ret (e_op2 (e_op2 (e_op2 (e_op2 (e_op2 (e_var rfl) e_val (g_r (w0 _ _) rfl)) (e_op2 (e_var rfl) e_val (g_r (w0 _ _) rfl)) (o_mul b1 b2)) e_val (o_mod rfl)) e_val (o_fdiv rfl rfl)) (e_var rfl) (o_mod g1)) re_ok) o_ret))))) r_ret) rfl
theorem one_at (m : Bool) (x : Wd) (vs : List V) (h0 : 0 < vs.length) (h1 : vs.length < 200) (hq : Qs x.q) : ∃ v p q, v ∈ vs ∧ Qs q ∧ f__law_one [.ref 0, .lst vs] (W m x) = .ok v (W m { x with p := p, q := q }) := by
  obtain ⟨k, p, q, k0, k1, hq', e⟩ := take_at m x (vs.length : Int) (by omega) (by omega) hq
  obtain ⟨j, rfl⟩ := Int.eq_ofNat_of_zero_le k0
  have hj : j < vs.length := by omega
  refine ⟨vs[j], p, q, List.getElem_mem hj, hq', ?_⟩
  have g : Nat.ble vs.length 16384 = true := by rw [Nat.ble_eq]; omega
  have gi : vIdx vs (j : Int) = some vs[j] := by
    unfold vIdx
    rw [if_pos (by rw [Bool.and_eq_true]; exact ⟨decide_eq_true (by omega), decide_eq_true (by omega)⟩)]
    have : seqIndex? (j : Int) vs.length = some j := by
      have a : ¬ ((j : Int) < 0) := by omega
      have b : (decide (0 ≤ (j : Int)) && decide ((j : Int) < (vs.length : Int))) = true := by rw [decide_eq_true (by omega), decide_eq_true (by omega)]; rfl
      simp only [seqIndex?, if_neg a, b, if_true]; rfl
    rw [this]; exact List.getElem?_eq_getElem hj
  clear h0 h1 hq k0 k1
  unfold f__law_one
  exact Eq.trans (r_run rfl (s_seq (s_ret (e_op2 (e_var rfl) (e_with (e_cons (e_var rfl) (e_cons (e_with (e_cons (e_var rfl) e_nil) (f_lenl g)) e_nil)) e) (g_l gi)) re_ok) o_ret) r_ret) rfl
structure Yd where
  (p q : Int) (kd pb ty va us gn it ty1 va1 us1 bu bu1 : List (Tx × V))
noncomputable def Yd.w (y : Yd) : Wd := { p := y.p, q := y.q, kd := y.kd, pb := y.pb, ty := y.ty, va := y.va, us := y.us, gn := y.gn, it := y.it, ty1 := y.ty1, va1 := y.va1, us1 := y.us1, bu := y.bu, bu1 := y.bu1, bt := y.ty, bv := y.va, bt1 := y.ty1, bv1 := y.va1, lk := y.kd, lg := y.gn, lp := y.pb, li := y.it }
noncomputable def Yd.swap (y : Yd) : Yd := { y with ty := y.ty1, va := y.va1, us := y.us1, bu := y.bu1, ty1 := y.ty, va1 := y.va, us1 := y.us, bu1 := y.bu }
theorem W_swap (m : Bool) (y : Yd) : W m y.w = W (!m) y.swap.w := by cases m <;> rfl
inductive URel : List (Tx × V) → List (Tx × V) → Prop
  | nil : URel [] []
  | cons (k : Tx) (a b c : V) {us ts : List (Tx × V)} : vsEq (vEq 8) [a, b, c] [a, b, c] = true → URel us ts → URel ((k, .use a b c) :: us) ((k, .tup [a, b, c]) :: ts)
theorem vsEq_mono {p q : V → V → Bool} (h : ∀ a b, p a b = true → q a b = true) : ∀ {a b : List V}, vsEq p a b = true → vsEq q a b = true
  | [], [], _ => rfl
  | a :: as, b :: bs, e => by
    have e := Bool.and_eq_true_iff.mp e
    exact Bool.and_eq_true_iff.mpr ⟨h _ _ e.1, vsEq_mono h e.2⟩
  | [], _ :: _, e => absurd e Bool.false_ne_true
  | _ :: _, [], e => absurd e Bool.false_ne_true
theorem vEq_up : ∀ (d : Nat) (a b : V), vEq d a b = true → vEq (d + 1) a b = true
  | 0, _, _, h => absurd h Bool.false_ne_true
  | d + 1, a, b, h => by
    cases a <;> cases b <;> first | exact h | exact vsEq_mono (vEq_up d) h | exact absurd h Bool.false_ne_true
theorem vsEq_up {d : Nat} {a b : List V} (h : vsEq (vEq d) a b = true) : vsEq (vEq (d + 1)) a b = true := vsEq_mono (vEq_up d) h
structure Fit (k : Nat) (es : List (Tx × V)) : Prop where
  d : dsEq es es = true
  z : es.length ≤ k
structure URk (k : Nat) (us ts : List (Tx × V)) : Prop where
  r : URel us ts
  z : us.length ≤ k
structure Gd (k : Nat) (y : Yd) : Prop where
  kd : Fit k y.kd
  pb : Fit k y.pb
  gn : Fit k y.gn
  it : Fit k y.it
  ty : Fit k y.ty
  va : Fit k y.va
  ty1 : Fit k y.ty1
  va1 : Fit k y.va1
  u : URk k y.us y.bu
  u1 : URk k y.us1 y.bu1
  qs : Qs y.q
theorem dsEq_put {v : V} (x : Tx) (hv : vEq 9 v v = true) : ∀ {es : List (Tx × V)}, dsEq es es = true → dsEq (dput es x v) (dput es x v) = true
  | [], _ => by show (txEq x x && vEq 9 v v && true) = true; rw [txEq_self, hv]; rfl
  | (k, u) :: es, h => by
    have h1 := and2 (show (txEq k k && vEq 9 u u && dsEq es es) = true from h)
    show dsEq (if txEq k x = true then _ else _) (if txEq k x = true then _ else _) = true
    by_cases g : txEq k x = true
    · rw [if_pos g]; show (txEq k k && vEq 9 v v && dsEq es es) = true; rw [(and2 h1.1).1, hv, h1.2]; rfl
    · rw [if_neg g]; show (txEq k k && vEq 9 u u && dsEq (dput es x v) (dput es x v)) = true; rw [h1.1, dsEq_put x hv h1.2]; rfl
theorem dput_len (x : Tx) (v : V) : ∀ (es : List (Tx × V)), (dput es x v).length ≤ es.length + 1
  | [] => Nat.le_refl _
  | (k, u) :: es => by
    show (if txEq k x = true then _ else _ : List (Tx × V)).length ≤ _
    by_cases g : txEq k x = true
    · rw [if_pos g]; exact Nat.le_succ _
    · rw [if_neg g]; exact Nat.succ_le_succ (dput_len x v es)
theorem Fit.put {k : Nat} {es : List (Tx × V)} (h : Fit k es) (x : Tx) {v : V} (hv : vEq 9 v v = true) : Fit (k + 1) (dput es x v) := ⟨dsEq_put x hv h.d, Nat.le_trans (dput_len x v es) (Nat.succ_le_succ h.z)⟩
theorem Fit.mono {k m : Nat} {es : List (Tx × V)} (h : Fit k es) (l : k ≤ m) : Fit m es := ⟨h.d, Nat.le_trans h.z l⟩
theorem ble_of {n k m : Nat} (h : n ≤ k) (hk : k ≤ m) : Nat.ble n m = true := by rw [Nat.ble_eq]; omega
theorem Fit.ble {k : Nat} {es : List (Tx × V)} (h : Fit k es) (hk : k ≤ 60) : Nat.ble es.length 16384 = true := ble_of h.z (Nat.le_trans hk (Nat.le_of_ble_eq_true rfl))
theorem URel.len : ∀ {us ts : List (Tx × V)}, URel us ts → ts.length = us.length
  | _, _, .nil => rfl
  | _, _, .cons _ _ _ _ _ h => congrArg Nat.succ h.len
theorem URel.keys : ∀ {us ts : List (Tx × V)}, URel us ts → keysEq us ts = true
  | _, _, .nil => rfl
  | _, _, .cons _ _ _ _ _ h => by show (txEq _ _ && keysEq _ _) = true; rw [txEq_self, h.keys]; rfl
theorem URel.get (x : Tx) : ∀ {us ts : List (Tx × V)}, URel us ts → (dget us x = none ∧ dget ts x = none) ∨ ∃ a b c, dget us x = some (.use a b c) ∧ dget ts x = some (.tup [a, b, c]) ∧ vsEq (vEq 8) [a, b, c] [a, b, c] = true
  | _, _, .nil => .inl ⟨rfl, rfl⟩
  | _, _, .cons k a b c e h => by
    unfold dget
    by_cases g : txEq k x = true
    · rw [if_pos g, if_pos g]; exact .inr ⟨a, b, c, rfl, rfl, e⟩
    · rw [if_neg g, if_neg g]; exact h.get x
theorem URel.has {us ts : List (Tx × V)} (h : URel us ts) (x : Tx) : (dget ts x).isSome = (dget us x).isSome := by
  rcases h.get x with ⟨a, b⟩ | ⟨_, _, _, a, b, _⟩ <;> rw [a, b] <;> rfl
theorem URel.put (x : Tx) {a b c : V} (e : vsEq (vEq 8) [a, b, c] [a, b, c] = true) : ∀ {us ts : List (Tx × V)}, URel us ts → URel (dput us x (.use a b c)) (dput ts x (.tup [a, b, c]))
  | _, _, .nil => .cons x a b c e .nil
  | _, _, .cons k _ _ _ e' h => by
    unfold dput
    by_cases g : txEq k x = true
    · rw [if_pos g, if_pos g]; exact .cons _ _ _ _ e h
    · rw [if_neg g, if_neg g]; exact .cons _ _ _ _ e' (h.put x e)
theorem URk.put {k : Nat} {us ts : List (Tx × V)} (h : URk k us ts) (x : Tx) {a b c : V} (e : vsEq (vEq 8) [a, b, c] [a, b, c] = true) : URk (k + 1) (dput us x (.use a b c)) (dput ts x (.tup [a, b, c])) := ⟨h.r.put x e, Nat.le_trans (dput_len x _ us) (Nat.succ_le_succ h.z)⟩
theorem URk.mono {k m : Nat} {us ts : List (Tx × V)} (h : URk k us ts) (l : k ≤ m) : URk m us ts := ⟨h.r, Nat.le_trans h.z l⟩
theorem dget_key : ∀ {es : List (Tx × V)} {p : Tx × V}, p ∈ es → dget es p.1 ≠ none
  | (k, u) :: es, p, h => by
    unfold dget
    split
    · exact fun h => nomatch h
    · rename_i g
      rcases List.mem_cons.mp h with e | e
      · subst e; exact absurd (txEq_self _) g
      · exact dget_key e
theorem Gd.swap {k : Nat} {y : Yd} (g : Gd k y) : Gd k y.swap := ⟨g.kd, g.pb, g.gn, g.it, g.ty1, g.va1, g.ty, g.va, g.u1, g.u, g.qs⟩
theorem Gd.mono {k n : Nat} {y : Yd} (g : Gd k y) (h : k ≤ n) : Gd n y := ⟨g.kd.mono h, g.pb.mono h, g.gn.mono h, g.it.mono h, g.ty.mono h, g.va.mono h, g.ty1.mono h, g.va1.mono h, g.u.mono h, g.u1.mono h, g.qs⟩
theorem Gd.src {k : Nat} {y : Yd} (g : Gd k y) {p q : Int} (h : Qs q) : Gd k { y with p := p, q := q } := ⟨g.kd, g.pb, g.gn, g.it, g.ty, g.va, g.ty1, g.va1, g.u, g.u1, h⟩
noncomputable def alikeBody : Sx := (sSeq (sAssign (bOp2 vGetA (bOp1 (vAttr [117, 115, 101, 115]) (bVar 8)) (bVar 10)) (tName 11)) (sSeq (bIf (bOp2 (boolG vNeO) (bTup (bCons (bOp1 (vAttr [110, 97, 109, 101, 115]) (bVar 11)) (bCons (bOp1 (vAttr [105, 115, 95, 112, 117, 98]) (bVar 11)) (bCons (bOp1 (vAttr [115, 112, 111, 116]) (bVar 11)) bNil)))) (bOp2 vGetA (bOp2 vGetA (bVar 9) (bVal (V.str [117, 115, 101]))) (bVar 10))) (sSeq (sRet (bVal (V.bool false))) sSkip) sSkip) sSkip))
noncomputable def alikeMod : Sx := (sSeq (sSwap (bTup (bCons (bOp2 vGetA (bOp1 (vAttr [116, 97, 98, 108, 101, 115]) (bVar 0)) (bVar 7)) (bCons (bOp2 vGetA (bVar 2) (bVar 7)) bNil))) 2 (tCons (tName 9) (tCons (tName 8) tNil))) (sSeq (bIf (bOr (bOp2 (boolG vNeO) (bOp1 (vAttr [116, 121, 112, 101, 115]) (bVar 8)) (bOp2 vGetA (bVar 9) (bVal (V.str [116, 121, 112, 101])))) (bOr (bOp2 (boolG vNeO) (bOp1 (vAttr [118, 97, 108, 117, 101, 115]) (bVar 8)) (bOp2 vGetA (bVar 9) (bVal (V.str [118, 97, 108, 117, 101])))) (bOr (bSortedNe (bOp1 (vAttr [117, 115, 101, 115]) (bVar 8)) (bOp2 vGetA (bVar 9) (bVal (V.str [117, 115, 101])))) (bB false)))) (sSeq (sRet (bVal (V.bool false))) sSkip) sSkip) (sSeq (sFor true (bOp2 vGetA (bVar 9) (bVal (V.str [117, 115, 101]))) (tName 10) alikeBody) sSkip)))
noncomputable def f_alike2 : List V → Hp → Out V := runF 2 10 (sSeq (sAssign (bVar 1) (tTup 5 (tCons (tName 2) (tCons (tName 3) (tCons (tName 4) (tCons (tName 5) (tCons (tName 6) tNil))))))) (sSeq (sFor true (bLst (bCons (bVal (V.str [])) (bCons (bVal (V.str [109])) bNil))) (tName 7) alikeMod) (sSeq (bIf (bOr (bOp2 (boolG vNeO) (bOp1 (vAttr [107, 105, 110, 100, 115]) (bVar 0)) (bVar 3)) (bOr (bOp2 (boolG vNeO) (bOp1 (vAttr [105, 116, 101, 109, 115]) (bVar 0)) (bVar 6)) (bB false))) (sSeq (sRet (bVal (V.bool false))) sSkip) sSkip) (sSeq (sRet (bAndV (bOp2 vEqO (bOp1 (vAttr [103, 101, 110, 101, 114, 105, 99, 115]) (bVar 0)) (bVar 4)) (bOp2 vEqO (bOp1 (vAttr [112, 117, 98, 108, 105, 99, 115]) (bVar 0)) (bVar 5)))) sSkip))))
theorem alike2 : f__law_is_alike = f_alike2 := rfl
theorem alike_body (m : Bool) (x : Wd) (k : Tx) (a b c : V) (h1 : dget x.us k = some (.use a b c)) (h2 : dget x.bu k = some (.tup [a, b, c])) (e : vsEq (vEq 8) [a, b, c] [a, b, c] = true) (r : Option V) : alikeBody [some (.ref 2), some (.tup [.ref 20, .ref 29, .ref 30, .ref 31, .ref 32]), some (.ref 20), some (.ref 29), some (.ref 30), some (.ref 31), some (.ref 32), some (.str (mn m)), some (.ref (tb m)), some (.ref (bb m)), some (.str k), r] (W m x) = .ok (.next, [some (.ref 2), some (.tup [.ref 20, .ref 29, .ref 30, .ref 31, .ref 32]), some (.ref 20), some (.ref 29), some (.ref 30), some (.ref 31), some (.ref 32), some (.str (mn m)), some (.ref (tb m)), some (.ref (bb m)), some (.str k), some (.use a b c)]) (W m x) := by
  have e3 : vsEq (vEq 9) [.tup [a, b, c]] [.tup [a, b, c]] = true := by show (vsEq (vEq 8) _ _ && true) = true; rw [e]; rfl
  have e4 : vCmp (.tup [a, b, c]) (.tup [a, b, c]) (W m x) = some true := by show (if vsEq (vEq 9) [a, b, c] [a, b, c] = true then some true else _) = _; rw [if_pos (vsEq_up e)]
  clear e3 e
  unfold alikeBody
  exact Eq.trans (s_seq (s_assign (e_op2 (e_op1 (e_var rfl) (a_at (i_at (wtb _ _) (wtf _ _)) rfl rfl)) (e_var rfl) (g_d (wru _ _) h1)) (t_name rfl)) (o_next (s_seq (e_if (e_op2 (e_tup (e_cons (e_op1 (e_var rfl) (a_use rfl)) (e_cons (e_op1 (e_var rfl) (a_use rfl)) (e_cons (e_op1 (e_var rfl) (a_use rfl)) e_nil))) rfl) (e_op2 (e_op2 (e_var rfl) e_val (g_d (wbb _ _) rfl)) (e_var rfl) (g_d (wxu _ _) h2)) (e_boolG (q_ne e4))) (ifO_f rfl s_skip)) (o_next s_skip)))) rfl
theorem alike_loop (m : Bool) (x : Wd) (h : URel x.us x.bu) : ∀ (l : List (Tx × V)), (∀ p ∈ l, p ∈ x.bu) → ∀ (r1 r2 : Option V), ∃ s1 s2, forM (tName 10) alikeBody (l.map fun p => V.str p.1) [some (.ref 2), some (.tup [.ref 20, .ref 29, .ref 30, .ref 31, .ref 32]), some (.ref 20), some (.ref 29), some (.ref 30), some (.ref 31), some (.ref 32), some (.str (mn m)), some (.ref (tb m)), some (.ref (bb m)), r1, r2] (W m x) = .ok (.next, [some (.ref 2), some (.tup [.ref 20, .ref 29, .ref 30, .ref 31, .ref 32]), some (.ref 20), some (.ref 29), some (.ref 30), some (.ref 31), some (.ref 32), some (.str (mn m)), some (.ref (tb m)), some (.ref (bb m)), s1, s2]) (W m x)
  | [], _, r1, r2 => ⟨r1, r2, rfl⟩
  | p :: l, hp, r1, r2 => by
    rcases h.get p.1 with ⟨_, g⟩ | ⟨a, b, c, g1, g2, g3⟩
    · exact absurd g (dget_key (hp p List.mem_cons_self))
    · obtain ⟨s1, s2, e⟩ := alike_loop m x h l (fun q hq => hp q (List.mem_cons_of_mem _ hq)) (some (.str p.1)) (some (.use a b c))
      refine ⟨s1, s2, ?_⟩
      show Out.bind (alikeBody [some (.ref 2), some (.tup [.ref 20, .ref 29, .ref 30, .ref 31, .ref 32]), some (.ref 20), some (.ref 29), some (.ref 30), some (.ref 31), some (.ref 32), some (.str (mn m)), some (.ref (tb m)), some (.ref (bb m)), some (.str p.1), r2] (W m x)) _ = _
      rw [alike_body m x p.1 a b c g1 g2 g3 r2]
      exact e
theorem alike_mod {k : Nat} (m : Bool) (y : Yd) (g : Gd k y) (hk : k ≤ 60) (t b a c : Option V) : ∃ a' c', alikeMod [some (.ref 2), some (.tup [.ref 20, .ref 29, .ref 30, .ref 31, .ref 32]), some (.ref 20), some (.ref 29), some (.ref 30), some (.ref 31), some (.ref 32), some (.str (mn m)), t, b, a, c] (W m y.w) = .ok (.next, [some (.ref 2), some (.tup [.ref 20, .ref 29, .ref 30, .ref 31, .ref 32]), some (.ref 20), some (.ref 29), some (.ref 30), some (.ref 31), some (.ref 32), some (.str (mn m)), some (.ref (tb m)), some (.ref (bb m)), a', c']) (W m y.w) := by
  obtain ⟨s1, s2, e0⟩ := alike_loop m y.w g.u.r y.bu (fun _ h => h) a c
  have k0 := g.u.r.keys
  have a5 : Nat.ble y.bu.length 64 = true := by rw [g.u.r.len]; exact ble_of g.u.z (by omega)
  have a7 : Nat.blt y.us.length 64 = true := by have := g.u.z; rw [Nat.blt_eq]; omega
  have a9 : Nat.blt y.bu.length 64 = true := by rw [g.u.r.len]; exact a7
  have d_ty := g.ty.d
  have d_va := g.va.d
  refine ⟨s1, s2, ?_⟩
  clear g
  obtain ⟨p, q, kd, pb, ty, va, us, gn, it, ty1, va1, us1, bu, bu1⟩ := y
  dsimp only [Yd.w] at *
  unfold alikeMod
  exact Eq.trans (s_seq (s_swap2 (e_tup (e_cons (e_op2 (e_op1 (e_var rfl) (a_at (i_at (w2 _ _) (w1 _ _)) rfl rfl)) (e_var rfl) (g_d (w5 _ _) (wmo _))) (e_cons (e_op2 (e_var rfl) (e_var rfl) (g_d (w20 _ _) (wbo _))) e_nil)) rfl) (t_cons (t_name rfl) (t_cons (t_name rfl) t_nil))) (o_next (s_seq (e_if (e_or (e_op2 (e_op1 (e_var rfl) (a_at (i_at (wtb _ _) (wtf _ _)) rfl rfl)) (e_op2 (e_var rfl) e_val (g_d (wbb _ _) rfl)) (e_boolG (q_ne (c_d (wrt _ _) (wxt _ _) d_ty)))) (ifO_f rfl (e_or (e_op2 (e_op1 (e_var rfl) (a_at (i_at (wtb _ _) (wtf _ _)) rfl rfl)) (e_op2 (e_var rfl) e_val (g_d (wbb _ _) rfl)) (e_boolG (q_ne (c_d (wrv _ _) (wxv _ _) d_va)))) (ifO_f rfl (e_or (s_ne (e_op1 (e_var rfl) (a_at (i_at (wtb _ _) (wtf _ _)) rfl rfl)) (wru _ _) a7 (e_op2 (e_var rfl) e_val (g_d (wbb _ _) rfl)) (wxu _ _) a9 k0) (ifO_f rfl e_bB)))))) (ifO_f rfl s_skip)) (o_next (s_seq (s_for (e_op2 (e_var rfl) e_val (g_d (wbb _ _) rfl)) (it_d (wxu _ _) a5) e0) (o_next s_skip)))))) rfl
theorem alike_at {k : Nat} (m : Bool) (y : Yd) (g : Gd k y) (hk : k ≤ 60) : f__law_is_alike [.ref 2, .tup [.ref 20, .ref 29, .ref 30, .ref 31, .ref 32]] (W m y.w) = .ok (.bool true) (W m y.w) := by
  have key : ∀ (y : Yd), Gd k y → f__law_is_alike [.ref 2, .tup [.ref 20, .ref 29, .ref 30, .ref 31, .ref 32]] (W false y.w) = .ok (.bool true) (W false y.w) := fun y g => by
    obtain ⟨s1, s2, e0⟩ := alike_mod false y g hk none none none none
    obtain ⟨s3, s4, e1⟩ := alike_mod true y.swap g.swap hk (some (.ref 7)) (some (.ref 21)) s1 s2
    have sw : W true y.swap.w = W false y.w := W_swap true y.swap
    have d1 := g.kd.d
    have d2 := g.it.d
    have d3 := g.gn.d
    have d4 := g.pb.d
    clear g
    obtain ⟨p, q, kd, pb, ty, va, us, gn, it, ty1, va1, us1, bu, bu1⟩ := y
    dsimp only [Yd.w, Yd.swap] at *
    rw [sw] at e1
    dsimp only [mn, tb, bb] at e0 e1
    rw [alike2]
    unfold f_alike2
    exact Eq.trans (r_run rfl (s_seq (s_assign (e_var rfl) (t_tup rfl (t_cons (t_name rfl) (t_cons (t_name rfl) (t_cons (t_name rfl) (t_cons (t_name rfl) (t_cons (t_name rfl) t_nil))))))) (o_next (s_seq (s_for (e_lst (e_cons e_val (e_cons e_val e_nil)) rfl) rfl (m_cons (t_name rfl) e0 (mo_next (m_cons (t_name rfl) e1 (mo_next m_nil))))) (o_next (s_seq (e_if (e_or (e_op2 (e_op1 (e_var rfl) (a_at (i_at (w2 _ _) (w1 _ _)) rfl rfl)) (e_var rfl) (e_boolG (q_ne (c_d (w3 _ _) (w29 _ _) d1)))) (ifO_f rfl (e_or (e_op2 (e_op1 (e_var rfl) (a_at (i_at (w2 _ _) (w1 _ _)) rfl rfl)) (e_var rfl) (e_boolG (q_ne (c_d (w12 _ _) (w32 _ _) d2)))) (ifO_f rfl e_bB)))) (ifO_f rfl s_skip)) (o_next (s_seq (s_ret (e_andV (e_op2 (e_op1 (e_var rfl) (a_at (i_at (w2 _ _) (w1 _ _)) rfl rfl)) (e_var rfl) (q_eq (c_d (w11 _ _) (w30 _ _) d3))) (ifO_t rfl (e_op2 (e_op1 (e_var rfl) (a_at (i_at (w2 _ _) (w1 _ _)) rfl rfl)) (e_var rfl) (q_eq (c_d (w4 _ _) (w31 _ _) d4))))) re_ok) o_ret))))))) r_ret) rfl
  cases m with
  | false => exact key y g
  | true => have := key y.swap g.swap; rw [W_swap true y]; exact this
end

section
open PySem PySem.W PySem.Calls PyProof.Rows PySem.Spec
inductive Sp : List V → List Tx → Bool → Bool → Prop
  | t : Sp [.str [116, 121, 112, 101]] [[116, 121, 112, 101]] true false
  | tv : Sp [.str [116, 121, 112, 101], .str [118, 97, 108, 117, 101]] [[116, 121, 112, 101], [118, 97, 108, 117, 101]] true true
  | v : Sp [.str [118, 97, 108, 117, 101]] [[118, 97, 108, 117, 101]] false true
noncomputable def up (h : Bool) (es : List (Tx × V)) (n : Tx) (v : V) : List (Tx × V) := match h with
  | true => dput es n v
  | false => es
theorem space_t (m : Bool) (x : Wd) : f_space [.ref (tb m), .str [116, 121, 112, 101]] (W m x) = .ok (.ref (rt m)) (W m x) := by cases m <;> kernel_rfl
theorem space_v (m : Bool) (x : Wd) : f_space [.ref (tb m), .str [118, 97, 108, 117, 101]] (W m x) = .ok (.ref (rv m)) (W m x) := by cases m <;> kernel_rfl
theorem Sp.txs {sp : List V} {tx : List Tx} {ht hv : Bool} (h : Sp sp tx ht hv) : txsOf sp = some tx ∧ tx.any (txEq [116, 121, 112, 101]) = ht := by cases h <;> exact ⟨rfl, rfl⟩
noncomputable def tkn (x : Wd) (n : Tx) (ht hv : Bool) : Bool := (ht && (dget x.ty n).isSome) || (hv && (dget x.va n).isSome)
noncomputable def takenC : Ex := (bOp2 vNeO (bComp [1, 0] bdName (bOp2 (boolG vInA) (bVar 1) (bMeth 142 [115, 112, 97, 99, 101] f_space (bVar 2) (bCons (bVar 0) bNil))) (bVar 0) (bVar 2)) (bLst bNil))
noncomputable def f_taken2 : List V → Hp → Out V := runF 3 0 (sSeq (sRet (bOrV (bOp2 vInA (bVar 1) (bOp1 (vAttr [117, 115, 101, 115]) (bVar 0))) takenC)) sSkip)
theorem eq_f_taken2 : f_is_taken = f_taken2 := rfl
theorem takenC_at (m : Bool) (x : Wd) (n : Tx) {sp : List V} {tx : List Tx} {ht hv : Bool} (hs : Sp sp tx ht hv) : takenC [some (.ref (tb m)), some (.str n), some (.tup sp)] (W m x) = .ok (.bool (tkn x n ht hv)) (W m x) := by
  have s1 := space_t m x
  have s2 := space_v m x
  unfold takenC tkn
  cases hs with
  | t =>
    cases e1 : (dget x.ty n).isSome
    · exact Eq.trans (e_op2 (e_comp rfl (e_var rfl) rfl rfl (k_cons rfl (e_op2 (e_var rfl) (e_meth (e_var rfl) (i_at (wtb _ _) (wtf _ _)) rfl (e_cons (e_var rfl) e_nil) s1) (e_boolG (n_d (wrt _ _)))) (k_f e1 k_nil))) (e_lst e_nil rfl) (q_ne rfl)) rfl
    · exact Eq.trans (e_op2 (e_comp rfl (e_var rfl) rfl rfl (k_cons rfl (e_op2 (e_var rfl) (e_meth (e_var rfl) (i_at (wtb _ _) (wtf _ _)) rfl (e_cons (e_var rfl) e_nil) s1) (e_boolG (n_d (wrt _ _)))) (k_t e1 (e_var rfl) k_nil))) (e_lst e_nil rfl) (q_ne rfl)) rfl
  | tv =>
    cases e1 : (dget x.ty n).isSome <;> cases e2 : (dget x.va n).isSome
    · exact Eq.trans (e_op2 (e_comp rfl (e_var rfl) rfl rfl (k_cons rfl (e_op2 (e_var rfl) (e_meth (e_var rfl) (i_at (wtb _ _) (wtf _ _)) rfl (e_cons (e_var rfl) e_nil) s1) (e_boolG (n_d (wrt _ _)))) (k_f e1 (k_cons rfl (e_op2 (e_var rfl) (e_meth (e_var rfl) (i_at (wtb _ _) (wtf _ _)) rfl (e_cons (e_var rfl) e_nil) s2) (e_boolG (n_d (wrv _ _)))) (k_f e2 k_nil))))) (e_lst e_nil rfl) (q_ne rfl)) rfl
    · exact Eq.trans (e_op2 (e_comp rfl (e_var rfl) rfl rfl (k_cons rfl (e_op2 (e_var rfl) (e_meth (e_var rfl) (i_at (wtb _ _) (wtf _ _)) rfl (e_cons (e_var rfl) e_nil) s1) (e_boolG (n_d (wrt _ _)))) (k_f e1 (k_cons rfl (e_op2 (e_var rfl) (e_meth (e_var rfl) (i_at (wtb _ _) (wtf _ _)) rfl (e_cons (e_var rfl) e_nil) s2) (e_boolG (n_d (wrv _ _)))) (k_t e2 (e_var rfl) k_nil))))) (e_lst e_nil rfl) (q_ne rfl)) rfl
    · exact Eq.trans (e_op2 (e_comp rfl (e_var rfl) rfl rfl (k_cons rfl (e_op2 (e_var rfl) (e_meth (e_var rfl) (i_at (wtb _ _) (wtf _ _)) rfl (e_cons (e_var rfl) e_nil) s1) (e_boolG (n_d (wrt _ _)))) (k_t e1 (e_var rfl) (k_cons rfl (e_op2 (e_var rfl) (e_meth (e_var rfl) (i_at (wtb _ _) (wtf _ _)) rfl (e_cons (e_var rfl) e_nil) s2) (e_boolG (n_d (wrv _ _)))) (k_f e2 k_nil))))) (e_lst e_nil rfl) (q_ne rfl)) rfl
    · exact Eq.trans (e_op2 (e_comp rfl (e_var rfl) rfl rfl (k_cons rfl (e_op2 (e_var rfl) (e_meth (e_var rfl) (i_at (wtb _ _) (wtf _ _)) rfl (e_cons (e_var rfl) e_nil) s1) (e_boolG (n_d (wrt _ _)))) (k_t e1 (e_var rfl) (k_cons rfl (e_op2 (e_var rfl) (e_meth (e_var rfl) (i_at (wtb _ _) (wtf _ _)) rfl (e_cons (e_var rfl) e_nil) s2) (e_boolG (n_d (wrv _ _)))) (k_t e2 (e_var rfl) k_nil))))) (e_lst e_nil rfl) (q_ne rfl)) rfl
  | v =>
    cases e2 : (dget x.va n).isSome
    · exact Eq.trans (e_op2 (e_comp rfl (e_var rfl) rfl rfl (k_cons rfl (e_op2 (e_var rfl) (e_meth (e_var rfl) (i_at (wtb _ _) (wtf _ _)) rfl (e_cons (e_var rfl) e_nil) s2) (e_boolG (n_d (wrv _ _)))) (k_f e2 k_nil))) (e_lst e_nil rfl) (q_ne rfl)) rfl
    · exact Eq.trans (e_op2 (e_comp rfl (e_var rfl) rfl rfl (k_cons rfl (e_op2 (e_var rfl) (e_meth (e_var rfl) (i_at (wtb _ _) (wtf _ _)) rfl (e_cons (e_var rfl) e_nil) s2) (e_boolG (n_d (wrv _ _)))) (k_t e2 (e_var rfl) k_nil))) (e_lst e_nil rfl) (q_ne rfl)) rfl
theorem taken_at (m : Bool) (x : Wd) (n : Tx) {sp : List V} {tx : List Tx} {ht hv : Bool} (hs : Sp sp tx ht hv) : f_is_taken [.ref (tb m), .str n, .tup sp] (W m x) = .ok (.bool ((dget x.us n).isSome || tkn x n ht hv)) (W m x) := by
  have e := takenC_at m x n hs
  rw [eq_f_taken2]
  unfold f_taken2
  cases e1 : (dget x.us n).isSome
  · exact Eq.trans (r_run rfl (s_seq (s_ret (e_orV (e_op2 (e_var rfl) (e_op1 (e_var rfl) (a_at (i_at (wtb _ _) (wtf _ _)) rfl rfl)) (n_d (wru _ _))) (ifO_f e1 e)) re_ok) o_ret) r_ret) rfl
  · exact Eq.trans (r_run rfl (s_seq (s_ret (e_orV (e_op2 (e_var rfl) (e_op1 (e_var rfl) (a_at (i_at (wtb _ _) (wtf _ _)) rfl rfl)) (n_d (wru _ _))) (ifO_t e1 rfl)) re_ok) o_ret) r_ret) rfl
noncomputable def msgP (n : Tx) : Tx := ([116, 104, 101, 32, 110, 97, 109, 101, 32] ++ n) ++ [32, 105, 115, 32, 116, 104, 97, 116, 32, 111, 102, 32, 97, 32, 112, 108, 97, 105, 110, 32, 116, 121, 112, 101]
noncomputable def msgT (n : Tx) : Tx := ([116, 104, 101, 32, 110, 97, 109, 101, 32] ++ n) ++ [32, 105, 115, 32, 116, 111, 108, 100, 32, 116, 119, 105, 99, 101]
noncomputable def sayP (i : Nat) : Ex := bOp2 vAdd (bOp2 vAdd (bVal (V.str [116, 104, 101, 32, 110, 97, 109, 101, 32])) (bVar i)) (bVal (V.str [32, 105, 115, 32, 116, 104, 97, 116, 32, 111, 102, 32, 97, 32, 112, 108, 97, 105, 110, 32, 116, 121, 112, 101]))
noncomputable def sayT (i : Nat) : Ex := bOp2 vAdd (bOp2 vAdd (bVal (V.str [116, 104, 101, 32, 110, 97, 109, 101, 32])) (bVar i)) (bVal (V.str [32, 105, 115, 32, 116, 111, 108, 100, 32, 116, 119, 105, 99, 101]))
theorem say_at {i : Nat} {ρ : Rho} {n : Tx} (h : ρ[i]? = some (some (.str n))) (hn : n.length ≤ 100) (H : Hp) : sayP i ρ H = .ok (.str (msgP n)) H ∧ sayT i ρ H = .ok (.str (msgT n)) H := by
  have z1 : Nat.ble (9 + n.length) 16384 = true := by rw [Nat.ble_eq]; omega
  have z2 : ∀ k, k ≤ 1000 → Nat.ble (([116, 104, 101, 32, 110, 97, 109, 101, 32] ++ n).length + k) 16384 = true := fun k hk => by rw [Nat.ble_eq, List.length_append]; show 9 + n.length + k ≤ _; omega
  exact ⟨e_op2 (e_op2 e_val (e_var h) (a_ss z1)) e_val (a_ss (z2 24 (by decide))), e_op2 (e_op2 e_val (e_var h) (a_ss z1)) e_val (a_ss (z2 14 (by decide)))⟩
structure Nm (n : Tx) (b : Bool) : Prop where
  len : n.length ≤ 100
  a : ([[105, 56], [105, 49, 54], [105, 51, 50], [105, 54, 52], [117, 56], [117, 49, 54], [117, 51, 50], [117, 54, 52], [117, 115, 105, 122, 101], [98, 111, 111, 108], [66, 111, 120]] : List Tx).any (txEq n) = b
  l : ([[117, 56], [66, 111, 120], [98, 111, 111, 108]] : List Tx).any (txEq n) = b
noncomputable def declP : Bx := (bAnd (bOp2 (boolG vInA) (bVal (V.str [116, 121, 112, 101])) (bVar 4)) (bAnd (bTest (bOp1 (vInG [[105, 56], [105, 49, 54], [105, 51, 50], [105, 54, 52], [117, 56], [117, 49, 54], [117, 51, 50], [117, 54, 52], [117, 115, 105, 122, 101], [98, 111, 111, 108], [66, 111, 120]] false) (bVar 2))) (bB true)))
noncomputable def declT : Bx := (bOr (bTest (bMeth 142 [105, 115, 95, 116, 97, 107, 101, 110] f_is_taken (bVar 7) (bCons (bVar 2) (bCons (bVar 4) bNil)))) (bOr (bOp2 (boolG vInA) (bVar 8) (bOp1 (vAttr [107, 105, 110, 100, 115]) (bVar 0))) (bB false)))
noncomputable def declL : Sx := (sFor false (bVar 4) (tName 9) (sSeq (sAssign (bVar 8) (tSub vSet2 (bMeth 142 [115, 112, 97, 99, 101] f_space (bVar 7) (bCons (bVar 9) bNil)) (bVar 2))) sSkip))
noncomputable def f_declare2 : List V → Hp → Out V := runF 7 3 (sSeq (sSwap (bTup (bCons (bOp2 vGetA (bOp1 (vAttr [116, 97, 98, 108, 101, 115]) (bVar 0)) (bVar 1)) (bCons (bWith f_joined (bCons (bVar 1) (bCons (bVar 2) bNil))) bNil))) 2 (tCons (tName 8) (tCons (tName 7) tNil))) (sSeq (bIf declP (sSeq (sRaise (sayP 2) (bVar 6)) sSkip) sSkip) (sSeq (bIf declT (sSeq (sRaise (sayT 2) (bVar 6)) sSkip) sSkip) (sSeq declL (sSeq (sAssign (bVar 3) (tSub vSet2 (bOp1 (vAttr [107, 105, 110, 100, 115]) (bVar 0)) (bVar 8))) (sSeq (sAssign (bVar 5) (tSub vSet2 (bOp1 (vAttr [112, 117, 98, 108, 105, 99, 115]) (bVar 0)) (bVar 8))) sSkip))))))
theorem eq_f_declare2 : f_declare = f_declare2 := rfl
theorem declP_at (m : Bool) (x : Wd) (n pt : Tx) (kind pub : V) (i : Int) {b : Bool} (h : Nm n b) {sp : List V} {tx : List Tx} {ht hv : Bool} (hs : Sp sp tx ht hv) : declP [some (.ref 2), some (.str (mn m)), some (.str n), some kind, some (.tup sp), some pub, some (.int i), some (.ref (tb m)), some (.str pt), none] (W m x) = .ok (ht && b) (W m x) := by
  obtain ⟨h1, h2⟩ := hs.txs
  have hp := h.a
  clear h hs
  unfold declP
  cases ht <;> cases b
  · exact Eq.trans (e_and (e_op2 e_val (e_var rfl) (e_boolG (n_t h1))) (ifO_f h2 rfl)) rfl
  · exact Eq.trans (e_and (e_op2 e_val (e_var rfl) (e_boolG (n_t h1))) (ifO_f h2 rfl)) rfl
  · exact Eq.trans (e_and (e_op2 e_val (e_var rfl) (e_boolG (n_t h1))) (ifO_t h2 (e_and (e_test (e_op1 (e_var rfl) n_g)) (ifO_f hp rfl)))) rfl
  · exact Eq.trans (e_and (e_op2 e_val (e_var rfl) (e_boolG (n_t h1))) (ifO_t h2 (e_and (e_test (e_op1 (e_var rfl) n_g)) (ifO_t hp e_bB)))) rfl
theorem declT_at (m : Bool) (x : Wd) (n pt : Tx) (kind pub : V) (i : Int) (sp : List V) (t : Bool) (h : f_is_taken [.ref (tb m), .str n, .tup sp] (W m x) = .ok (.bool t) (W m x)) : declT [some (.ref 2), some (.str (mn m)), some (.str n), some kind, some (.tup sp), some pub, some (.int i), some (.ref (tb m)), some (.str pt), none] (W m x) = .ok (t || (dget x.kd pt).isSome) (W m x) := by
  unfold declT
  cases t <;> cases e : (dget x.kd pt).isSome
  · exact Eq.trans (e_or (e_test (e_meth (e_var rfl) (i_at (wtb _ _) (wtf _ _)) rfl (e_cons (e_var rfl) (e_cons (e_var rfl) e_nil)) h)) (ifO_f rfl (e_or (e_op2 (e_var rfl) (e_op1 (e_var rfl) (a_at (i_at (w2 _ _) (w1 _ _)) rfl rfl)) (e_boolG (n_d (w3 _ _)))) (ifO_f e e_bB)))) rfl
  · exact Eq.trans (e_or (e_test (e_meth (e_var rfl) (i_at (wtb _ _) (wtf _ _)) rfl (e_cons (e_var rfl) (e_cons (e_var rfl) e_nil)) h)) (ifO_f rfl (e_or (e_op2 (e_var rfl) (e_op1 (e_var rfl) (a_at (i_at (w2 _ _) (w1 _ _)) rfl rfl)) (e_boolG (n_d (w3 _ _)))) (ifO_t e rfl)))) rfl
  · exact Eq.trans (e_or (e_test (e_meth (e_var rfl) (i_at (wtb _ _) (wtf _ _)) rfl (e_cons (e_var rfl) (e_cons (e_var rfl) e_nil)) h)) (ifO_t rfl rfl)) rfl
  · exact Eq.trans (e_or (e_test (e_meth (e_var rfl) (i_at (wtb _ _) (wtf _ _)) rfl (e_cons (e_var rfl) (e_cons (e_var rfl) e_nil)) h)) (ifO_t rfl rfl)) rfl
theorem declL_at (m : Bool) (x : Wd) (n pt : Tx) (kind pub : V) (i : Int) {sp : List V} {tx : List Tx} {ht hv : Bool} (hs : Sp sp tx ht hv) (z1 : Nat.ble x.ty.length 16384 = true) (z2 : Nat.ble x.va.length 16384 = true) : ∃ l, declL [some (.ref 2), some (.str (mn m)), some (.str n), some kind, some (.tup sp), some pub, some (.int i), some (.ref (tb m)), some (.str pt), none] (W m x) = .ok (.next, [some (.ref 2), some (.str (mn m)), some (.str n), some kind, some (.tup sp), some pub, some (.int i), some (.ref (tb m)), some (.str pt), l]) (W m { x with ty := up ht x.ty n (.str pt), va := up hv x.va n (.str pt) }) := by
  have s1 := space_t m
  have s2 := space_v m
  unfold declL
  cases hs
  · refine ⟨some (.str [116, 121, 112, 101]), ?_⟩
    unfold up
    exact Eq.trans (s_for (e_var rfl) rfl (m_cons (t_name rfl) (s_seq (s_assign (e_var rfl) (t_sub (e_meth (e_var rfl) (i_at (wtb _ _) (wtf _ _)) rfl (e_cons (e_var rfl) e_nil) (s1 _)) (e_var rfl) (x_set (wrt _ _) z1 (wsrt _ _ _)))) (o_next s_skip)) (mo_next m_nil))) rfl
  · refine ⟨some (.str [118, 97, 108, 117, 101]), ?_⟩
    unfold up
    exact Eq.trans (s_for (e_var rfl) rfl (m_cons (t_name rfl) (s_seq (s_assign (e_var rfl) (t_sub (e_meth (e_var rfl) (i_at (wtb _ _) (wtf _ _)) rfl (e_cons (e_var rfl) e_nil) (s1 _)) (e_var rfl) (x_set (wrt _ _) z1 (wsrt _ _ _)))) (o_next s_skip)) (mo_next (m_cons (t_name rfl) (s_seq (s_assign (e_var rfl) (t_sub (e_meth (e_var rfl) (i_at (wtb _ _) (wtf _ _)) rfl (e_cons (e_var rfl) e_nil) (s2 _)) (e_var rfl) (x_set (wrv _ _) z2 (wsrv _ _ _)))) (o_next s_skip)) (mo_next m_nil))))) rfl
  · refine ⟨some (.str [118, 97, 108, 117, 101]), ?_⟩
    unfold up
    exact Eq.trans (s_for (e_var rfl) rfl (m_cons (t_name rfl) (s_seq (s_assign (e_var rfl) (t_sub (e_meth (e_var rfl) (i_at (wtb _ _) (wtf _ _)) rfl (e_cons (e_var rfl) e_nil) (s2 _)) (e_var rfl) (x_set (wrv _ _) z2 (wsrv _ _ _)))) (o_next s_skip)) (mo_next m_nil))) rfl
structure DeclIn (m : Bool) (x : Wd) (n : Tx) (b ht hv : Bool) (sp : List V) (tx : List Tx) : Prop where
  nm : Nm n b
  sp : Sp sp tx ht hv
  z1 : Nat.ble x.ty.length 16384 = true
  z2 : Nat.ble x.va.length 16384 = true
  z3 : Nat.ble x.kd.length 16384 = true
  z4 : Nat.ble x.pb.length 16384 = true
theorem decl_at (m : Bool) (x : Wd) (n : Tx) (kind pub : V) (i : Int) {b ht hv : Bool} {sp : List V} {tx : List Tx} (h : DeclIn m x n b ht hv sp tx) : f_declare [.ref 2, .str (mn m), .str n, kind, .tup sp, pub, .int i] (W m x) = if ht && b then .fault (msgP n) i (W m x) else if ((dget x.us n).isSome || tkn x n ht hv) || (dget x.kd (jn (mn m) n)).isSome then .fault (msgT n) i (W m x) else .ok .none (W m { x with ty := up ht x.ty n (.str (jn (mn m) n)), va := up hv x.va n (.str (jn (mn m) n)), kd := dput x.kd (jn (mn m) n) kind, pb := dput x.pb (jn (mn m) n) pub }) := by
  have j := fun H => (jn_at m h.nm.len H).1
  have e1 := declP_at m x n (jn (mn m) n) kind pub i h.nm h.sp
  have e2 := declT_at m x n (jn (mn m) n) kind pub i sp _ (taken_at m x n h.sp)
  obtain ⟨l, e3⟩ := declL_at m x n (jn (mn m) n) kind pub i h.sp h.z1 h.z2
  have e4 := fun H => (say_at (i := 2) (ρ := [some (.ref 2), some (.str (mn m)), some (.str n), some kind, some (.tup sp), some pub, some (.int i), some (.ref (tb m)), some (.str (jn (mn m) n)), none]) rfl h.nm.len H).1
  have e5 := fun H => (say_at (i := 2) (ρ := [some (.ref 2), some (.str (mn m)), some (.str n), some kind, some (.tup sp), some pub, some (.int i), some (.ref (tb m)), some (.str (jn (mn m) n)), none]) rfl h.nm.len H).2
  have z3 := h.z3
  have z4 := h.z4
  clear h
  rw [eq_f_declare2]
  unfold f_declare2
  generalize (ht && b) = c1 at *
  generalize (((dget x.us n).isSome || tkn x n ht hv) || (dget x.kd (jn (mn m) n)).isSome) = c2 at *
  cases c1
  · cases c2
    · exact Eq.trans (r_run rfl (s_seq (s_swap2 (e_tup (e_cons (e_op2 (e_op1 (e_var rfl) (a_at (i_at (w2 _ _) (w1 _ _)) rfl rfl)) (e_var rfl) (g_d (w5 _ _) (wmo _))) (e_cons (e_with (e_cons (e_var rfl) (e_cons (e_var rfl) e_nil)) (j _)) e_nil)) rfl) (t_cons (t_name rfl) (t_cons (t_name rfl) t_nil))) (o_next (s_seq (e_if e1 (ifO_f rfl s_skip)) (o_next (s_seq (e_if e2 (ifO_f rfl s_skip)) (o_next (s_seq e3 (o_next (s_seq (s_assign (e_var rfl) (t_sub (e_op1 (e_var rfl) (a_at (i_at (w2 _ _) (w1 _ _)) rfl rfl)) (e_var rfl) (x_set (w3 _ _) z3 (ws3 _ _ _)))) (o_next (s_seq (s_assign (e_var rfl) (t_sub (e_op1 (e_var rfl) (a_at (i_at (w2 _ _) (w1 _ _)) rfl rfl)) (e_var rfl) (x_set (w4 _ _) z4 (ws4 _ _ _)))) (o_next s_skip)))))))))))) r_next) rfl
    · exact Eq.trans (r_run rfl (s_seq (s_swap2 (e_tup (e_cons (e_op2 (e_op1 (e_var rfl) (a_at (i_at (w2 _ _) (w1 _ _)) rfl rfl)) (e_var rfl) (g_d (w5 _ _) (wmo _))) (e_cons (e_with (e_cons (e_var rfl) (e_cons (e_var rfl) e_nil)) (j _)) e_nil)) rfl) (t_cons (t_name rfl) (t_cons (t_name rfl) t_nil))) (o_next (s_seq (e_if e1 (ifO_f rfl s_skip)) (o_next (s_seq (e_if e2 (ifO_t rfl (s_seq (s_raise (e5 _) (e_var rfl)) o_fault))) o_fault))))) r_fault) rfl
  · exact Eq.trans (r_run rfl (s_seq (s_swap2 (e_tup (e_cons (e_op2 (e_op1 (e_var rfl) (a_at (i_at (w2 _ _) (w1 _ _)) rfl rfl)) (e_var rfl) (g_d (w5 _ _) (wmo _))) (e_cons (e_with (e_cons (e_var rfl) (e_cons (e_var rfl) e_nil)) (j _)) e_nil)) rfl) (t_cons (t_name rfl) (t_cons (t_name rfl) t_nil))) (o_next (s_seq (e_if e1 (ifO_t rfl (s_seq (s_raise (e4 _) (e_var rfl)) o_fault))) o_fault))) r_fault) rfl
inductive Gen : List V → V → Prop
  | a : Gen [.tup [], .tup []] (.tup [.tup [], .tup []])
  | b : Gen [.tup [.str [39, 97]], .tup [.tup [.str [84], .tup []]]] (.tup [.tup [.str [39, 97]], .tup [.str [84]]])
  | c : Gen [.tup [], .tup [.tup [.str [84], .tup []], .tup [.str [85], .tup []]]] (.tup [.tup [], .tup [.str [84], .str [85]]])
noncomputable def dtG : Ex := (bTup (bCons (bWith fTuple (bCons (bVar 6) bNil)) (bCons (bWith fTuple (bCons (bComp [] bdName bTrue (bOp2 vGetA (bVar 0) (bVal (V.int 0))) (bVar 7)) bNil)) bNil)))
noncomputable def f_dtype2 : List V → Hp → Out V := runF 5 3 (sSeq (sExpr (bMeth 275 [100, 101, 99, 108, 97, 114, 101] f_declare (bVar 0) (bCons (bVar 1) (bCons (bOp2 vGetA (bVar 2) (bVal (V.int 2))) (bCons (bOp2 vGetA (bVar 2) (bVal (V.int 0))) (bCons (bVar 3) (bCons (bVar 4) (bCons (bOp2 vGetA (bVar 2) (bVal (V.int 1))) bNil)))))))) (sSeq (sAssign (bWith f_joined (bCons (bVar 1) (bCons (bOp2 vGetA (bVar 2) (bVal (V.int 2))) bNil))) (tName 5)) (sSeq (sAssign (bOp2 vGetA (bVar 2) (bVal (V.int 3))) (tTup 2 (tCons (tName 6) (tCons (tName 7) tNil)))) (sSeq (sAssign dtG (tSub vSet2 (bOp1 (vAttr [103, 101, 110, 101, 114, 105, 99, 115]) (bVar 0)) (bVar 5))) (sSeq (sAssign (bVar 2) (tSub vSet2 (bOp1 (vAttr [105, 116, 101, 109, 115]) (bVar 0)) (bVar 5))) sSkip)))))
theorem eq_f_dtype2 : f_declare_type = f_dtype2 := rfl
noncomputable def tyG : Ex := (bTup (bCons (bOp2 vGetA (bOp2 vGetA (bVar 3) (bVal (V.int 3))) (bVal (V.int 0))) (bCons (bWith fTuple (bCons (bComp [] bdPair bTrue (bVar 0) (bOp2 vGetA (bOp2 vGetA (bVar 3) (bVal (V.int 3))) (bVal (V.int 1)))) bNil)) bNil)))
noncomputable def tyL : Sx := (sFor false (bVar 4) (tName 13) (sSeq (sAssign (bVar 11) (tSub vSet2 (bOp2 vGetA (bOp2 vGetA (bVar 6) (bVar 2)) (bVar 13)) (bOp2 vGetA (bVar 3) (bVal (V.int 2))))) sSkip))
noncomputable def f_type2 : List V → Hp → Out V := runF 6 8 (sSeq (sAssign (bVar 1) (tTup 5 (tCons (tName 6) (tCons (tName 7) (tCons (tName 8) (tCons (tName 9) (tCons (tName 10) tNil))))))) (sSeq (sAssign (bWith f__law_path (bCons (bVar 2) (bCons (bOp2 vGetA (bVar 3) (bVal (V.int 2))) bNil))) (tName 11)) (sSeq (sAssign (bWith f__law_refusal (bCons (bVar 6) (bCons (bVar 7) (bCons (bVar 2) (bCons (bOp2 vGetA (bVar 3) (bVal (V.int 2))) (bCons (bVar 4) (bCons (bOp2 vGetA (bVar 3) (bVal (V.int 1))) bNil))))))) (tName 12)) (sSeq (bIf (bOp2 (boolG vNeO) (bHeard [5, 3, 2, 0, 4] (bLam [100, 101, 99, 108, 97, 114, 101, 95, 116, 121, 112, 101] f_declare_type (bVar 3) (bCons (bVar 2) (bCons (bVar 1) (bCons (bVar 4) (bCons (bVar 0) bNil)))))) (bVar 12)) (sSeq (sRet (bVal (V.bool false))) sSkip) sSkip) (sSeq (bIf (bOp2 (boolG (vIsNone false)) (bVar 12) (bVal V.none)) (sSeq tyL (sSeq (sAssign (bTup (bCons (bOp2 vGetA (bVar 3) (bVal (V.int 0))) (bCons (bVar 5) bNil))) (tTup 2 (tCons (tSub vSet2 (bVar 7) (bVar 11)) (tCons (tSub vSet2 (bVar 9) (bVar 11)) tNil)))) (sSeq (sAssign tyG (tSub vSet2 (bVar 8) (bVar 11))) (sSeq (sAssign (bVar 3) (tSub vSet2 (bVar 10) (bVar 11))) sSkip)))) sSkip) (sSeq (sRet (bWith f__law_is_alike (bCons (bVar 0) (bCons (bVar 1) bNil)))) sSkip))))))
theorem eq_f_type2 : f__law_type_right = f_type2 := rfl
theorem dtG_at {g : List V} {r : V} (h : Gen g r) : ∃ g1 g2, g = [g1, g2] ∧ (∀ ρ H, ρ[6]? = some (some g1) → ρ[7]? = some (some g2) → dtG ρ H = .ok r H) ∧ vEq 9 r r = true := by
  cases h
  · refine ⟨_, _, rfl, fun ρ H h1 h2 => ?_, by decide +kernel⟩
    unfold dtG
    exact Eq.trans (e_tup (e_cons (e_with (e_cons (e_var h1) e_nil) f_tupt) (e_cons (e_with (e_cons (e_comp rfl (e_var h2) rfl rfl k_nil) e_nil) (f_tup rfl)) e_nil)) rfl) rfl
  · refine ⟨_, _, rfl, fun ρ H h1 h2 => ?_, by decide +kernel⟩
    unfold dtG
    exact Eq.trans (e_tup (e_cons (e_with (e_cons (e_var h1) e_nil) f_tupt) (e_cons (e_with (e_cons (e_comp rfl (e_var h2) rfl rfl (k_cons rfl e_true (k_t rfl (e_op2 (e_var rfl) e_val (g_t rfl)) k_nil))) e_nil) (f_tup rfl)) e_nil)) rfl) rfl
  · refine ⟨_, _, rfl, fun ρ H h1 h2 => ?_, by decide +kernel⟩
    unfold dtG
    exact Eq.trans (e_tup (e_cons (e_with (e_cons (e_var h1) e_nil) f_tupt) (e_cons (e_with (e_cons (e_comp rfl (e_var h2) rfl rfl (k_cons rfl e_true (k_t rfl (e_op2 (e_var rfl) e_val (g_t rfl)) (k_cons rfl e_true (k_t rfl (e_op2 (e_var rfl) e_val (g_t rfl)) k_nil))))) e_nil) (f_tup rfl)) e_nil)) rfl) rfl
theorem tyG_at {g : List V} {r : V} (h : Gen g r) (a b c z1 z2 : V) (ρ : Rho) (H : Hp) (h3 : ρ[3]? = some (some (.tup [a, b, c, .tup g, z1, z2]))) : tyG ρ H = .ok r H := by
  unfold tyG
  cases h
  · exact Eq.trans (e_tup (e_cons (e_op2 (e_op2 (e_var h3) e_val (g_t rfl)) e_val (g_t rfl)) (e_cons (e_with (e_cons (e_comp rfl (e_op2 (e_op2 (e_var h3) e_val (g_t rfl)) e_val (g_t rfl)) rfl rfl k_nil) e_nil) (f_tup rfl)) e_nil)) rfl) rfl
  · exact Eq.trans (e_tup (e_cons (e_op2 (e_op2 (e_var h3) e_val (g_t rfl)) e_val (g_t rfl)) (e_cons (e_with (e_cons (e_comp rfl (e_op2 (e_op2 (e_var h3) e_val (g_t rfl)) e_val (g_t rfl)) rfl rfl (k_cons rfl e_true (k_t rfl (e_var rfl) k_nil))) e_nil) (f_tup rfl)) e_nil)) rfl) rfl
  · exact Eq.trans (e_tup (e_cons (e_op2 (e_op2 (e_var h3) e_val (g_t rfl)) e_val (g_t rfl)) (e_cons (e_with (e_cons (e_comp rfl (e_op2 (e_op2 (e_var h3) e_val (g_t rfl)) e_val (g_t rfl)) rfl rfl (k_cons rfl e_true (k_t rfl (e_var rfl) (k_cons rfl e_true (k_t rfl (e_var rfl) k_nil))))) e_nil) (f_tup rfl)) e_nil)) rfl) rfl
theorem dtypeF (m : Bool) (x : Wd) (n : Tx) (kind pub z1 z2 : V) (i : Int) (g sp : List V) (mm : Tx) (e : f_declare [.ref 2, .str (mn m), .str n, kind, .tup sp, pub, .int i] (W m x) = .fault mm i (W m x)) : f_declare_type [.ref 2, .str (mn m), .tup [kind, .int i, .str n, .tup g, z1, z2], .tup sp, pub] (W m x) = .fault mm i (W m x) := by
  rw [eq_f_dtype2]
  unfold f_dtype2
  exact Eq.trans (r_run rfl (s_seq (s_expr (e_meth (e_var rfl) (i_at (w2 _ _) (w1 _ _)) rfl (e_cons (e_var rfl) (e_cons (e_op2 (e_var rfl) e_val (g_t rfl)) (e_cons (e_op2 (e_var rfl) e_val (g_t rfl)) (e_cons (e_var rfl) (e_cons (e_var rfl) (e_cons (e_op2 (e_var rfl) e_val (g_t rfl)) e_nil)))))) e) xe_fault) o_fault) r_fault) rfl
theorem dtypeO (m : Bool) (x x1 : Wd) (n : Tx) (hn : n.length ≤ 100) (kind pub z1 z2 r : V) (i : Int) (g sp : List V) (hg : Gen g r) (e : f_declare [.ref 2, .str (mn m), .str n, kind, .tup sp, pub, .int i] (W m x) = .ok .none (W m x1)) (y1 : Nat.ble x1.gn.length 16384 = true) (y2 : Nat.ble x1.it.length 16384 = true) : f_declare_type [.ref 2, .str (mn m), .tup [kind, .int i, .str n, .tup g, z1, z2], .tup sp, pub] (W m x) = .ok .none (W m { x1 with gn := dput x1.gn (jn (mn m) n) r, it := dput x1.it (jn (mn m) n) (.tup [kind, .int i, .str n, .tup g, z1, z2]) }) := by
  have j := fun H => (jn_at m hn H).1
  obtain ⟨g1, g2, rfl, hd, _⟩ := dtG_at hg
  clear hn hg
  rw [eq_f_dtype2]
  unfold f_dtype2
  exact Eq.trans (r_run rfl (s_seq (s_expr (e_meth (e_var rfl) (i_at (w2 _ _) (w1 _ _)) rfl (e_cons (e_var rfl) (e_cons (e_op2 (e_var rfl) e_val (g_t rfl)) (e_cons (e_op2 (e_var rfl) e_val (g_t rfl)) (e_cons (e_var rfl) (e_cons (e_var rfl) (e_cons (e_op2 (e_var rfl) e_val (g_t rfl)) e_nil)))))) e) xe_ok) (o_next (s_seq (s_assign (e_with (e_cons (e_var rfl) (e_cons (e_op2 (e_var rfl) e_val (g_t rfl)) e_nil)) (j _)) (t_name rfl)) (o_next (s_seq (s_assign (e_op2 (e_var rfl) e_val (g_t rfl)) (t_tup rfl (t_cons (t_name rfl) (t_cons (t_name rfl) t_nil)))) (o_next (s_seq (s_assign (hd _ _ rfl rfl) (t_sub (e_op1 (e_var rfl) (a_at (i_at (w2 _ _) (w1 _ _)) rfl rfl)) (e_var rfl) (x_set (w11 _ _) y1 (ws11 _ _ _)))) (o_next (s_seq (s_assign (e_var rfl) (t_sub (e_op1 (e_var rfl) (a_at (i_at (w2 _ _) (w1 _ _)) rfl rfl)) (e_var rfl) (x_set (w12 _ _) y2 (ws12 _ _ _)))) (o_next s_skip)))))))))) r_next) rfl
noncomputable def refP : Bx := (bAnd (bOp2 (boolG vInA) (bVal (V.str [116, 121, 112, 101])) (bVar 4)) (bAnd (bOp2 (boolG vInA) (bVar 3) (bLst (bCons (bVal (V.str [117, 56])) (bCons (bVal (V.str [66, 111, 120])) (bCons (bVal (V.str [98, 111, 111, 108])) bNil))))) (bB true)))
noncomputable def refC : Ex := (bComp [3, 6] bdName (bOp2 (boolG vInA) (bVar 1) (bOp2 vGetA (bVar 2) (bVar 0))) (bVar 0) (bVar 4))
noncomputable def refT : Bx := (bOr (bOp2 (boolG vInA) (bVar 3) (bOp2 vGetA (bVar 6) (bVal (V.str [117, 115, 101])))) (bOr (bOp2 (boolG vNeO) (bVar 7) (bLst bNil)) (bOr (bOp2 (boolG vInA) (bWith f__law_path (bCons (bVar 2) (bCons (bVar 3) bNil))) (bVar 1)) (bB false))))
noncomputable def f_refusal2 : List V → Hp → Out V := runF 6 2 (sSeq (sAssign (bOp2 vGetA (bVar 0) (bVar 2)) (tName 6)) (sSeq (bIf refP (sSeq (sRet (bLst (bCons (sayP 3) (bCons (bVar 5) bNil)))) sSkip) sSkip) (sSeq (sAssign refC (tName 7)) (sSeq (bIf refT (sSeq (sRet (bLst (bCons (sayT 3) (bCons (bVar 5) bNil)))) sSkip) sSkip) (sSeq (sRet (bVal V.none)) sSkip)))))
theorem eq_f_refusal2 : f__law_refusal = f_refusal2 := rfl
theorem refP_at (m : Bool) (x : Wd) (n : Tx) (i : Int) {b : Bool} (h : Nm n b) {sp : List V} {tx : List Tx} {ht hv : Bool} (hs : Sp sp tx ht hv) : refP [some (.ref 20), some (.ref 29), some (.str (mn m)), some (.str n), some (.tup sp), some (.int i), some (.ref (bb m)), none] (W m x) = .ok (ht && b) (W m x) := by
  obtain ⟨h1, h2⟩ := hs.txs
  have hp := h.l
  clear h hs
  unfold refP
  cases ht <;> cases b
  · exact Eq.trans (e_and (e_op2 e_val (e_var rfl) (e_boolG (n_t h1))) (ifO_f h2 rfl)) rfl
  · exact Eq.trans (e_and (e_op2 e_val (e_var rfl) (e_boolG (n_t h1))) (ifO_f h2 rfl)) rfl
  · exact Eq.trans (e_and (e_op2 e_val (e_var rfl) (e_boolG (n_t h1))) (ifO_t h2 (e_and (e_op2 (e_var rfl) (e_lst (e_cons e_val (e_cons e_val (e_cons e_val e_nil))) rfl) (e_boolG (n_l rfl))) (ifO_f hp rfl)))) rfl
  · exact Eq.trans (e_and (e_op2 e_val (e_var rfl) (e_boolG (n_t h1))) (ifO_t h2 (e_and (e_op2 (e_var rfl) (e_lst (e_cons e_val (e_cons e_val (e_cons e_val e_nil))) rfl) (e_boolG (n_l rfl))) (ifO_t hp e_bB)))) rfl
theorem refC_at (m : Bool) (x : Wd) (n : Tx) (i : Int) {sp : List V} {tx : List Tx} {ht hv : Bool} (hs : Sp sp tx ht hv) : ∃ l, refC [some (.ref 20), some (.ref 29), some (.str (mn m)), some (.str n), some (.tup sp), some (.int i), some (.ref (bb m)), none] (W m x) = .ok (.lst l) (W m x) ∧ vCmp (.lst l) (.lst []) (W m x) = some (!((ht && (dget x.bt n).isSome) || (hv && (dget x.bv n).isSome))) := by
  unfold refC
  cases hs with
  | t =>
    cases e1 : (dget x.bt n).isSome
    · refine ⟨[], ?_, rfl⟩
      exact Eq.trans (e_comp rfl (e_var rfl) rfl rfl (k_cons rfl (e_op2 (e_var rfl) (e_op2 (e_var rfl) (e_var rfl) (g_d (wbb _ _) rfl)) (e_boolG (n_d (wxt _ _)))) (k_f e1 k_nil))) rfl
    · refine ⟨[.str [116, 121, 112, 101]], ?_, rfl⟩
      exact Eq.trans (e_comp rfl (e_var rfl) rfl rfl (k_cons rfl (e_op2 (e_var rfl) (e_op2 (e_var rfl) (e_var rfl) (g_d (wbb _ _) rfl)) (e_boolG (n_d (wxt _ _)))) (k_t e1 (e_var rfl) k_nil))) rfl
  | tv =>
    cases e1 : (dget x.bt n).isSome <;> cases e2 : (dget x.bv n).isSome
    · refine ⟨[], ?_, rfl⟩
      exact Eq.trans (e_comp rfl (e_var rfl) rfl rfl (k_cons rfl (e_op2 (e_var rfl) (e_op2 (e_var rfl) (e_var rfl) (g_d (wbb _ _) rfl)) (e_boolG (n_d (wxt _ _)))) (k_f e1 (k_cons rfl (e_op2 (e_var rfl) (e_op2 (e_var rfl) (e_var rfl) (g_d (wbb _ _) rfl)) (e_boolG (n_d (wxv _ _)))) (k_f e2 k_nil))))) rfl
    · refine ⟨[.str [118, 97, 108, 117, 101]], ?_, rfl⟩
      exact Eq.trans (e_comp rfl (e_var rfl) rfl rfl (k_cons rfl (e_op2 (e_var rfl) (e_op2 (e_var rfl) (e_var rfl) (g_d (wbb _ _) rfl)) (e_boolG (n_d (wxt _ _)))) (k_f e1 (k_cons rfl (e_op2 (e_var rfl) (e_op2 (e_var rfl) (e_var rfl) (g_d (wbb _ _) rfl)) (e_boolG (n_d (wxv _ _)))) (k_t e2 (e_var rfl) k_nil))))) rfl
    · refine ⟨[.str [116, 121, 112, 101]], ?_, rfl⟩
      exact Eq.trans (e_comp rfl (e_var rfl) rfl rfl (k_cons rfl (e_op2 (e_var rfl) (e_op2 (e_var rfl) (e_var rfl) (g_d (wbb _ _) rfl)) (e_boolG (n_d (wxt _ _)))) (k_t e1 (e_var rfl) (k_cons rfl (e_op2 (e_var rfl) (e_op2 (e_var rfl) (e_var rfl) (g_d (wbb _ _) rfl)) (e_boolG (n_d (wxv _ _)))) (k_f e2 k_nil))))) rfl
    · refine ⟨[.str [116, 121, 112, 101], .str [118, 97, 108, 117, 101]], ?_, rfl⟩
      exact Eq.trans (e_comp rfl (e_var rfl) rfl rfl (k_cons rfl (e_op2 (e_var rfl) (e_op2 (e_var rfl) (e_var rfl) (g_d (wbb _ _) rfl)) (e_boolG (n_d (wxt _ _)))) (k_t e1 (e_var rfl) (k_cons rfl (e_op2 (e_var rfl) (e_op2 (e_var rfl) (e_var rfl) (g_d (wbb _ _) rfl)) (e_boolG (n_d (wxv _ _)))) (k_t e2 (e_var rfl) k_nil))))) rfl
  | v =>
    cases e2 : (dget x.bv n).isSome
    · refine ⟨[], ?_, rfl⟩
      exact Eq.trans (e_comp rfl (e_var rfl) rfl rfl (k_cons rfl (e_op2 (e_var rfl) (e_op2 (e_var rfl) (e_var rfl) (g_d (wbb _ _) rfl)) (e_boolG (n_d (wxv _ _)))) (k_f e2 k_nil))) rfl
    · refine ⟨[.str [118, 97, 108, 117, 101]], ?_, rfl⟩
      exact Eq.trans (e_comp rfl (e_var rfl) rfl rfl (k_cons rfl (e_op2 (e_var rfl) (e_op2 (e_var rfl) (e_var rfl) (g_d (wbb _ _) rfl)) (e_boolG (n_d (wxv _ _)))) (k_t e2 (e_var rfl) k_nil))) rfl
theorem refT_at (m : Bool) (x : Wd) (n : Tx) (hn : n.length ≤ 100) (i : Int) (sp l : List V) (c : Bool) (h : vCmp (.lst l) (.lst []) (W m x) = some (!c)) : refT [some (.ref 20), some (.ref 29), some (.str (mn m)), some (.str n), some (.tup sp), some (.int i), some (.ref (bb m)), some (.lst l)] (W m x) = .ok (((dget x.bu n).isSome || c) || (dget x.lk (jn (mn m) n)).isSome) (W m x) := by
  have j := fun H => (jn_at m hn H).2
  unfold refT
  cases e1 : (dget x.bu n).isSome <;> cases c <;> cases e3 : (dget x.lk (jn (mn m) n)).isSome
  · exact Eq.trans (e_or (e_op2 (e_var rfl) (e_op2 (e_var rfl) e_val (g_d (wbb _ _) rfl)) (e_boolG (n_d (wxu _ _)))) (ifO_f e1 (e_or (e_op2 (e_var rfl) (e_lst e_nil rfl) (e_boolG (q_ne h))) (ifO_f rfl (e_or (e_op2 (e_with (e_cons (e_var rfl) (e_cons (e_var rfl) e_nil)) (j _)) (e_var rfl) (e_boolG (n_d (w29 _ _)))) (ifO_f e3 e_bB)))))) rfl
  · exact Eq.trans (e_or (e_op2 (e_var rfl) (e_op2 (e_var rfl) e_val (g_d (wbb _ _) rfl)) (e_boolG (n_d (wxu _ _)))) (ifO_f e1 (e_or (e_op2 (e_var rfl) (e_lst e_nil rfl) (e_boolG (q_ne h))) (ifO_f rfl (e_or (e_op2 (e_with (e_cons (e_var rfl) (e_cons (e_var rfl) e_nil)) (j _)) (e_var rfl) (e_boolG (n_d (w29 _ _)))) (ifO_t e3 rfl)))))) rfl
  · exact Eq.trans (e_or (e_op2 (e_var rfl) (e_op2 (e_var rfl) e_val (g_d (wbb _ _) rfl)) (e_boolG (n_d (wxu _ _)))) (ifO_f e1 (e_or (e_op2 (e_var rfl) (e_lst e_nil rfl) (e_boolG (q_ne h))) (ifO_t rfl rfl)))) rfl
  · exact Eq.trans (e_or (e_op2 (e_var rfl) (e_op2 (e_var rfl) e_val (g_d (wbb _ _) rfl)) (e_boolG (n_d (wxu _ _)))) (ifO_f e1 (e_or (e_op2 (e_var rfl) (e_lst e_nil rfl) (e_boolG (q_ne h))) (ifO_t rfl rfl)))) rfl
  · exact Eq.trans (e_or (e_op2 (e_var rfl) (e_op2 (e_var rfl) e_val (g_d (wbb _ _) rfl)) (e_boolG (n_d (wxu _ _)))) (ifO_t e1 rfl)) rfl
  · exact Eq.trans (e_or (e_op2 (e_var rfl) (e_op2 (e_var rfl) e_val (g_d (wbb _ _) rfl)) (e_boolG (n_d (wxu _ _)))) (ifO_t e1 rfl)) rfl
  · exact Eq.trans (e_or (e_op2 (e_var rfl) (e_op2 (e_var rfl) e_val (g_d (wbb _ _) rfl)) (e_boolG (n_d (wxu _ _)))) (ifO_t e1 rfl)) rfl
  · exact Eq.trans (e_or (e_op2 (e_var rfl) (e_op2 (e_var rfl) e_val (g_d (wbb _ _) rfl)) (e_boolG (n_d (wxu _ _)))) (ifO_t e1 rfl)) rfl
theorem ref_at (m : Bool) (x : Wd) (n : Tx) (i : Int) {b ht hv : Bool} {sp : List V} {tx : List Tx} (h : Nm n b) (hs : Sp sp tx ht hv) : f__law_refusal [.ref 20, .ref 29, .str (mn m), .str n, .tup sp, .int i] (W m x) = .ok (if ht && b then .lst [.str (msgP n), .int i] else if ((dget x.bu n).isSome || ((ht && (dget x.bt n).isSome) || (hv && (dget x.bv n).isSome))) || (dget x.lk (jn (mn m) n)).isSome then .lst [.str (msgT n), .int i] else .none) (W m x) := by
  have e1 := refP_at m x n i h hs
  obtain ⟨l, e2, e3⟩ := refC_at m x n i hs
  have e4 := refT_at m x n h.len i sp l _ e3
  have e5 := fun H => (say_at (i := 3) (ρ := [some (.ref 20), some (.ref 29), some (.str (mn m)), some (.str n), some (.tup sp), some (.int i), some (.ref (bb m)), none]) rfl h.len H).1
  have e6 := fun H => (say_at (i := 3) (ρ := [some (.ref 20), some (.ref 29), some (.str (mn m)), some (.str n), some (.tup sp), some (.int i), some (.ref (bb m)), some (.lst l)]) rfl h.len H).2
  clear h hs e3
  rw [eq_f_refusal2]
  unfold f_refusal2
  generalize (ht && b) = c1 at *
  generalize (((dget x.bu n).isSome || ((ht && (dget x.bt n).isSome) || (hv && (dget x.bv n).isSome))) || (dget x.lk (jn (mn m) n)).isSome) = c2 at *
  cases c1
  · cases c2
    · exact Eq.trans (r_run rfl (s_seq (s_assign (e_op2 (e_var rfl) (e_var rfl) (g_d (w20 _ _) (wbo _))) (t_name rfl)) (o_next (s_seq (e_if e1 (ifO_f rfl s_skip)) (o_next (s_seq (s_assign e2 (t_name rfl)) (o_next (s_seq (e_if e4 (ifO_f rfl s_skip)) (o_next (s_seq (s_ret e_val re_ok) o_ret))))))))) r_ret) rfl
    · exact Eq.trans (r_run rfl (s_seq (s_assign (e_op2 (e_var rfl) (e_var rfl) (g_d (w20 _ _) (wbo _))) (t_name rfl)) (o_next (s_seq (e_if e1 (ifO_f rfl s_skip)) (o_next (s_seq (s_assign e2 (t_name rfl)) (o_next (s_seq (e_if e4 (ifO_t rfl (s_seq (s_ret (e_lst (e_cons (e6 _) (e_cons (e_var rfl) e_nil)) rfl) re_ok) o_ret))) o_ret))))))) r_ret) rfl
  · exact Eq.trans (r_run rfl (s_seq (s_assign (e_op2 (e_var rfl) (e_var rfl) (g_d (w20 _ _) (wbo _))) (t_name rfl)) (o_next (s_seq (e_if e1 (ifO_t rfl (s_seq (s_ret (e_lst (e_cons (e5 _) (e_cons (e_var rfl) e_nil)) rfl) re_ok) o_ret))) o_ret))) r_ret) rfl
theorem tyL_at (m : Bool) (x : Wd) (n pt : Tx) (kind pub z1 z2 : V) (i : Int) (g : List V) {sp : List V} {tx : List Tx} {ht hv : Bool} (hs : Sp sp tx ht hv) (y1 : Nat.ble x.bt.length 16384 = true) (y2 : Nat.ble x.bv.length 16384 = true) : ∃ l, tyL [some (.ref 2), some (.tup [.ref 20, .ref 29, .ref 30, .ref 31, .ref 32]), some (.str (mn m)), some (.tup [kind, .int i, .str n, .tup g, z1, z2]), some (.tup sp), some pub, some (.ref 20), some (.ref 29), some (.ref 30), some (.ref 31), some (.ref 32), some (.str pt), some .none, none] (W m x) = .ok (.next, [some (.ref 2), some (.tup [.ref 20, .ref 29, .ref 30, .ref 31, .ref 32]), some (.str (mn m)), some (.tup [kind, .int i, .str n, .tup g, z1, z2]), some (.tup sp), some pub, some (.ref 20), some (.ref 29), some (.ref 30), some (.ref 31), some (.ref 32), some (.str pt), some .none, l]) (W m { x with bt := up ht x.bt n (.str pt), bv := up hv x.bv n (.str pt) }) := by
  unfold tyL
  cases hs
  · refine ⟨some (.str [116, 121, 112, 101]), ?_⟩
    unfold up
    exact Eq.trans (s_for (e_var rfl) rfl (m_cons (t_name rfl) (s_seq (s_assign (e_var rfl) (t_sub (e_op2 (e_op2 (e_var rfl) (e_var rfl) (g_d (w20 _ _) (wbo _))) (e_var rfl) (g_d (wbb _ _) rfl)) (e_op2 (e_var rfl) e_val (g_t rfl)) (x_set (wxt _ _) y1 (wsxt _ _ _)))) (o_next s_skip)) (mo_next m_nil))) rfl
  · refine ⟨some (.str [118, 97, 108, 117, 101]), ?_⟩
    unfold up
    exact Eq.trans (s_for (e_var rfl) rfl (m_cons (t_name rfl) (s_seq (s_assign (e_var rfl) (t_sub (e_op2 (e_op2 (e_var rfl) (e_var rfl) (g_d (w20 _ _) (wbo _))) (e_var rfl) (g_d (wbb _ _) rfl)) (e_op2 (e_var rfl) e_val (g_t rfl)) (x_set (wxt _ _) y1 (wsxt _ _ _)))) (o_next s_skip)) (mo_next (m_cons (t_name rfl) (s_seq (s_assign (e_var rfl) (t_sub (e_op2 (e_op2 (e_var rfl) (e_var rfl) (g_d (w20 _ _) (wbo _))) (e_var rfl) (g_d (wbb _ _) rfl)) (e_op2 (e_var rfl) e_val (g_t rfl)) (x_set (wxv _ _) y2 (wsxv _ _ _)))) (o_next s_skip)) (mo_next m_nil))))) rfl
  · refine ⟨some (.str [118, 97, 108, 117, 101]), ?_⟩
    unfold up
    exact Eq.trans (s_for (e_var rfl) rfl (m_cons (t_name rfl) (s_seq (s_assign (e_var rfl) (t_sub (e_op2 (e_op2 (e_var rfl) (e_var rfl) (g_d (w20 _ _) (wbo _))) (e_var rfl) (g_d (wbb _ _) rfl)) (e_op2 (e_var rfl) e_val (g_t rfl)) (x_set (wxv _ _) y2 (wsxv _ _ _)))) (o_next s_skip)) (mo_next m_nil))) rfl
theorem tyF (m : Bool) (x : Wd) (n mm : Tx) (hn : n.length ≤ 100) (kind pub z1 z2 : V) (i : Int) (g sp : List V) (e1 : f_declare_type [.ref 2, .str (mn m), .tup [kind, .int i, .str n, .tup g, z1, z2], .tup sp, pub] (W m x) = .fault mm i (W m x)) (e2 : f__law_refusal [.ref 20, .ref 29, .str (mn m), .str n, .tup sp, .int i] (W m x) = .ok (.lst [.str mm, .int i]) (W m x)) (al : f__law_is_alike [.ref 2, .tup [.ref 20, .ref 29, .ref 30, .ref 31, .ref 32]] (W m x) = .ok (.bool true) (W m x)) : f__law_type_right [.ref 2, .tup [.ref 20, .ref 29, .ref 30, .ref 31, .ref 32], .str (mn m), .tup [kind, .int i, .str n, .tup g, z1, z2], .tup sp, pub] (W m x) = .ok (.bool true) (W m x) := by
  have j := fun H => (jn_at m hn H).2
  rw [eq_f_type2]
  unfold f_type2
  exact Eq.trans (r_run rfl (s_seq (s_assign (e_var rfl) (t_tup rfl (t_cons (t_name rfl) (t_cons (t_name rfl) (t_cons (t_name rfl) (t_cons (t_name rfl) (t_cons (t_name rfl) t_nil))))))) (o_next (s_seq (s_assign (e_with (e_cons (e_var rfl) (e_cons (e_op2 (e_var rfl) e_val (g_t rfl)) e_nil)) (j _)) (t_name rfl)) (o_next (s_seq (s_assign (e_with (e_cons (e_var rfl) (e_cons (e_var rfl) (e_cons (e_var rfl) (e_cons (e_op2 (e_var rfl) e_val (g_t rfl)) (e_cons (e_var rfl) (e_cons (e_op2 (e_var rfl) e_val (g_t rfl)) e_nil)))))) e2) (t_name rfl)) (o_next (s_seq (e_if (e_op2 (e_heard rfl (e_lam (e_var rfl) (i_at (w2 _ _) (w1 _ _)) rfl (e_cons (e_var rfl) (e_cons (e_var rfl) (e_cons (e_var rfl) (e_cons (e_var rfl) e_nil)))) e1) he_fault) (e_var rfl) (e_boolG (q_ne (c_l rfl v_si)))) (ifO_f rfl s_skip)) (o_next (s_seq (e_if (e_op2 (e_var rfl) e_val (e_boolG (n_none (rf _)))) (ifO_f rfl s_skip)) (o_next (s_seq (s_ret (e_with (e_cons (e_var rfl) (e_cons (e_var rfl) e_nil)) al) re_ok) o_ret))))))))))) r_ret) rfl
theorem tyO (m : Bool) (x x1 x2 : Wd) (n : Tx) (hn : n.length ≤ 100) (kind pub z1 z2 r : V) (i : Int) (g : List V) (hg : Gen g r) {sp : List V} {tx : List Tx} {ht hv : Bool} (hs : Sp sp tx ht hv) (e1 : f_declare_type [.ref 2, .str (mn m), .tup [kind, .int i, .str n, .tup g, z1, z2], .tup sp, pub] (W m x) = .ok .none (W m x1)) (e2 : f__law_refusal [.ref 20, .ref 29, .str (mn m), .str n, .tup sp, .int i] (W m x) = .ok .none (W m x)) (y1 : Nat.ble x1.bt.length 16384 = true) (y2 : Nat.ble x1.bv.length 16384 = true) (y3 : Nat.ble x1.lk.length 16384 = true) (y4 : Nat.ble x1.lp.length 16384 = true) (y5 : Nat.ble x1.lg.length 16384 = true) (y6 : Nat.ble x1.li.length 16384 = true)
    (hx : x2 = { x1 with bt := up ht x1.bt n (.str (jn (mn m) n)), bv := up hv x1.bv n (.str (jn (mn m) n)), lk := dput x1.lk (jn (mn m) n) kind, lp := dput x1.lp (jn (mn m) n) pub, lg := dput x1.lg (jn (mn m) n) r, li := dput x1.li (jn (mn m) n) (.tup [kind, .int i, .str n, .tup g, z1, z2]) }) (al : f__law_is_alike [.ref 2, .tup [.ref 20, .ref 29, .ref 30, .ref 31, .ref 32]] (W m x2) = .ok (.bool true) (W m x2)) : f__law_type_right [.ref 2, .tup [.ref 20, .ref 29, .ref 30, .ref 31, .ref 32], .str (mn m), .tup [kind, .int i, .str n, .tup g, z1, z2], .tup sp, pub] (W m x) = .ok (.bool true) (W m x2) := by
  have j := fun H => (jn_at m hn H).2
  obtain ⟨l, e3⟩ := tyL_at m x1 n (jn (mn m) n) kind pub z1 z2 i g hs y1 y2
  have e4 := tyG_at hg kind (.int i) (.str n) z1 z2
  clear hs hg y1 y2 hn
  subst hx
  rw [eq_f_type2]
  unfold f_type2
  exact Eq.trans (r_run rfl (s_seq (s_assign (e_var rfl) (t_tup rfl (t_cons (t_name rfl) (t_cons (t_name rfl) (t_cons (t_name rfl) (t_cons (t_name rfl) (t_cons (t_name rfl) t_nil))))))) (o_next (s_seq (s_assign (e_with (e_cons (e_var rfl) (e_cons (e_op2 (e_var rfl) e_val (g_t rfl)) e_nil)) (j _)) (t_name rfl)) (o_next (s_seq (s_assign (e_with (e_cons (e_var rfl) (e_cons (e_var rfl) (e_cons (e_var rfl) (e_cons (e_op2 (e_var rfl) e_val (g_t rfl)) (e_cons (e_var rfl) (e_cons (e_op2 (e_var rfl) e_val (g_t rfl)) e_nil)))))) e2) (t_name rfl)) (o_next (s_seq (e_if (e_op2 (e_heard rfl (e_lam (e_var rfl) (i_at (w2 _ _) (w1 _ _)) rfl (e_cons (e_var rfl) (e_cons (e_var rfl) (e_cons (e_var rfl) (e_cons (e_var rfl) e_nil)))) e1) he_ok) (e_var rfl) (e_boolG (q_ne rfl))) (ifO_f rfl s_skip)) (o_next (s_seq (e_if (e_op2 (e_var rfl) e_val (e_boolG (n_none (rf _)))) (ifO_t rfl (s_seq e3 (o_next (s_seq (s_assign (e_tup (e_cons (e_op2 (e_var rfl) e_val (g_t rfl)) (e_cons (e_var rfl) e_nil)) rfl) (t_tup rfl (t_cons (t_sub (e_var rfl) (e_var rfl) (x_set (w29 _ _) y3 (ws29 _ _ _))) (t_cons (t_sub (e_var rfl) (e_var rfl) (x_set (w31 _ _) y4 (ws31 _ _ _))) t_nil)))) (o_next (s_seq (s_assign (e4 _ _ rfl) (t_sub (e_var rfl) (e_var rfl) (x_set (w30 _ _) y5 (ws30 _ _ _)))) (o_next (s_seq (s_assign (e_var rfl) (t_sub (e_var rfl) (e_var rfl) (x_set (w32 _ _) y6 (ws32 _ _ _)))) (o_next s_skip)))))))))) (o_next (s_seq (s_ret (e_with (e_cons (e_var rfl) (e_cons (e_var rfl) e_nil)) al) re_ok) o_ret))))))))))) r_ret) rfl
theorem Fit.up {k : Nat} {es : List (Tx × V)} (h : Fit k es) (b : Bool) (n : Tx) {v : V} (hv : vEq 9 v v = true) : Fit (k + 1) (up b es n v) := by
  cases b
  · exact h.mono (Nat.le_succ k)
  · exact h.put n hv
theorem item_ok {g : List V} {r : V} (h : Gen g r) (t n : Tx) (i : Int) : vEq 9 (.tup [.str t, .int i, .str n, .tup g, .tup [], .bool true]) (.tup [.str t, .int i, .str n, .tup g, .tup [], .bool true]) = true := by
  have e : ∀ g : List V, vEq 8 (.tup g) (.tup g) = true → vEq 9 (.tup [.str t, .int i, .str n, .tup g, .tup [], .bool true]) (.tup [.str t, .int i, .str n, .tup g, .tup [], .bool true]) = true := fun g k => by
    show (txEq t t && (decide (i = i) && (txEq n n && (vEq 8 (.tup g) (.tup g) && true)))) = true
    rw [k, txEq_self, txEq_self, decide_eq_true rfl]; rfl
  cases h <;> exact e _ (by decide)
theorem ty_at {k : Nat} (m : Bool) (y : Yd) (gd : Gd k y) (hk : k ≤ 50) (n t : Tx) {b : Bool} (h : Nm n b) {g : List V} {r : V} (hg : Gen g r) {sp : List V} {tx : List Tx} {ht hv : Bool} (hs : Sp sp tx ht hv) (i : Int) (pub : Bool) : ∃ y2, Gd (k + 1) y2 ∧ f__law_type_right [.ref 2, .tup [.ref 20, .ref 29, .ref 30, .ref 31, .ref 32], .str (mn m), .tup [.str t, .int i, .str n, .tup g, .tup [], .bool true], .tup sp, .bool pub] (W m y.w) = .ok (.bool true) (W m y2.w) := by
  have di : DeclIn m y.w n b ht hv sp tx := ⟨h, hs, gd.ty.ble (by omega), gd.va.ble (by omega), gd.kd.ble (by omega), gd.pb.ble (by omega)⟩
  have e1 := decl_at m y.w n (.str t) (.bool pub) i di
  have e2 := ref_at m y.w n i h hs
  have al := alike_at m y gd (by omega)
  have hu : (dget y.w.bu n).isSome = (dget y.w.us n).isSome := gd.u.r.has n
  rw [hu] at e2
  change _ = Out.ok (if _ then _ else if (((dget y.w.us n).isSome || tkn y.w n ht hv) || (dget y.w.kd (jn (mn m) n)).isSome) then _ else _) _ at e2
  split at e1
  · rename_i c1
    rw [if_pos c1] at e2
    exact ⟨y, gd.mono (Nat.le_succ k), tyF m y.w n (msgP n) h.len (.str t) (.bool pub) (.tup []) (.bool true) i g sp (dtypeF m y.w n (.str t) (.bool pub) (.tup []) (.bool true) i g sp (msgP n) e1) e2 al⟩
  · rename_i c1
    rw [if_neg c1] at e2
    split at e1
    · rename_i c2
      rw [if_pos c2] at e2
      exact ⟨y, gd.mono (Nat.le_succ k), tyF m y.w n (msgT n) h.len (.str t) (.bool pub) (.tup []) (.bool true) i g sp (dtypeF m y.w n (.str t) (.bool pub) (.tup []) (.bool true) i g sp (msgT n) e1) e2 al⟩
    · rename_i c2
      rw [if_neg c2] at e2
      obtain ⟨_, _, _, _, hr⟩ := dtG_at hg
      let pt := jn (mn m) n
      let it := V.tup [.str t, .int i, .str n, .tup g, .tup [], .bool true]
      let y2 : Yd := { y with ty := up ht y.ty n (.str pt), va := up hv y.va n (.str pt), kd := dput y.kd pt (.str t), pb := dput y.pb pt (.bool pub), gn := dput y.gn pt r, it := dput y.it pt it }
      have l := Nat.le_succ k
      have g2 : Gd (k + 1) y2 := ⟨gd.kd.put _ (txEq_self _), gd.pb.put _ (by cases pub <;> rfl), gd.gn.put _ hr, gd.it.put _ (item_ok hg t n i), gd.ty.up ht n (txEq_self _), gd.va.up hv n (txEq_self _), gd.ty1.mono l, gd.va1.mono l, gd.u.mono l, gd.u1.mono l, gd.qs⟩
      exact ⟨y2, g2, tyO m y.w _ y2.w n h.len (.str t) (.bool pub) (.tup []) (.bool true) r i g hg hs (dtypeO m y.w _ n h.len (.str t) (.bool pub) (.tup []) (.bool true) r i g sp hg e1 (gd.gn.ble (by omega)) (gd.it.ble (by omega))) e2 (gd.ty.ble (by omega)) (gd.va.ble (by omega)) (gd.kd.ble (by omega)) (gd.pb.ble (by omega)) (gd.gn.ble (by omega)) (gd.it.ble (by omega)) rfl (alike_at m y2 g2 (by omega))⟩
end

section
open PySem PySem.W PySem.Calls PyProof.Rows PySem.Spec
noncomputable def evBody : Sx := (sSeq (bIf (bOp2 (boolG vInA) (bWith f_joined (bCons (bVar 1) (bCons (bOp2 vGetA (bVar 3) (bVal (V.int 0))) bNil))) (bOp1 (vAttr [107, 105, 110, 100, 115]) (bVar 0))) (sSeq (sRaise (bOp2 vAdd (bOp2 vAdd (bVal (V.str [116, 104, 101, 32, 118, 97, 114, 105, 97, 110, 116, 32])) (bOp2 vGetA (bVar 3) (bVal (V.int 0)))) (bVal (V.str [32, 105, 115, 32, 116, 111, 108, 100, 32, 116, 119, 105, 99, 101]))) (bOp2 vGetA (bVar 2) (bVal (V.int 1)))) sSkip) sSkip) (sSeq (sAssign (bVal (V.str [118, 97, 114, 105, 97, 110, 116])) (tSub vSet2 (bOp1 (vAttr [107, 105, 110, 100, 115]) (bVar 0)) (bWith f_joined (bCons (bVar 1) (bCons (bOp2 vGetA (bVar 3) (bVal (V.int 0))) bNil))))) sSkip))
noncomputable def f_ev2 : List V → Hp → Out V := runF 3 1 (sSeq (sFor false (bOp2 vGetA (bVar 2) (bVal (V.int 4))) (tName 3) evBody) sSkip)
theorem eq_f_ev2 : f_enter_variants = f_ev2 := rfl
noncomputable def lvBody : Sx := (sSeq (bIf (bOp2 (boolG vInA) (bOp2 vAdd (bOp2 vAdd (bVar 2) (bVal (V.str [58, 58]))) (bVar 8)) (bVar 5)) (sSeq (sAssign (bLst (bCons (bOp2 vAdd (bOp2 vAdd (bVal (V.str [116, 104, 101, 32, 118, 97, 114, 105, 97, 110, 116, 32])) (bVar 8)) (bVal (V.str [32, 105, 115, 32, 116, 111, 108, 100, 32, 116, 119, 105, 99, 101]))) (bCons (bVar 4) bNil))) (tName 6)) (sSeq sBrk sSkip)) sSkip) (sSeq (sAssign (bVal (V.str [118, 97, 114, 105, 97, 110, 116])) (tSub vSet2 (bVar 5) (bOp2 vAdd (bOp2 vAdd (bVar 2) (bVal (V.str [58, 58]))) (bVar 8)))) sSkip))
noncomputable def lvElt : Ex := (bTup (bCons (bVar 0) (bCons (bVal (V.str [117, 110, 105, 116])) (bCons (bTup bNil) bNil))))
noncomputable def lvComp : Ex := (bComp [] bdName bTrue lvElt (bVar 3))
noncomputable def f_var2 : List V → Hp → Out V := runF 5 4 (sSeq (sSwap (bTup (bCons (bOp2 vGetA (bVar 1) (bVal (V.int 1))) (bCons (bVal V.none) bNil))) 2 (tCons (tName 6) (tCons (tName 5) tNil))) (sSeq (sAssign (bTup (bCons (bVal (V.str [101, 110, 117, 109])) (bCons (bVar 4) (bCons (bVal (V.str [69])) (bCons (bTup (bCons (bTup bNil) (bCons (bTup bNil) bNil))) (bCons (bWith fTuple (bCons lvComp bNil)) (bCons (bVal (V.bool true)) bNil))))))) (tName 7)) (sSeq (sFor false (bVar 3) (tName 8) lvBody) (sSeq (sRet (bAndV (bOp2 vEqO (bHeard [7, 0, 2] (bLam [101, 110, 116, 101, 114, 95, 118, 97, 114, 105, 97, 110, 116, 115] f_enter_variants (bVar 1) (bCons (bVar 2) (bCons (bVar 0) bNil)))) (bVar 6)) (bWith f__law_is_alike (bCons (bVar 0) (bCons (bVar 1) bNil))))) sSkip))))
theorem eq_f_var2 : f__law_variants_right = f_var2 := rfl
noncomputable def msgV (n : Tx) : Tx := ([116, 104, 101, 32, 118, 97, 114, 105, 97, 110, 116, 32] ++ n) ++ [32, 105, 115, 32, 116, 111, 108, 100, 32, 116, 119, 105, 99, 101]
noncomputable def pv (p n : Tx) : Tx := (p ++ [58, 58]) ++ n
theorem jn_pv {p n : Tx} (h : txEq p [] = false) : jn p n = pv p n := by unfold jn; rw [h]; rfl
noncomputable def vr : V := .str [118, 97, 114, 105, 97, 110, 116]
noncomputable def vrow (n : Tx) : V := .tup [.str n, .str [117, 110, 105, 116], .tup []]
noncomputable def vrun (p : Tx) : List Tx → List (Tx × V) → List (Tx × V) × Option Tx
  | [], kd => (kd, none)
  | n :: ns, kd => if (dget kd (pv p n)).isSome then (kd, some n) else vrun p ns (dput kd (pv p n) vr)
theorem vrun_fit {p : Tx} : ∀ (ns : List Tx) {k : Nat} {kd : List (Tx × V)}, Fit k kd → Fit (k + ns.length) (vrun p ns kd).1
  | [], _, _, h => h
  | n :: ns, k, kd, h => by
    unfold vrun
    split
    · exact h.mono (Nat.le_add_right _ _)
    · have := vrun_fit (p := p) ns (h.put (pv p n) (v := vr) (txEq_self _))
      rw [Nat.add_assoc, Nat.add_comm 1] at this
      exact this
structure Vn (p n : Tx) : Prop where
  p0 : txEq p [] = false
  pl : p.length ≤ 300
  nl : n.length ≤ 100
theorem Vn.facts {p n : Tx} (h : Vn p n) : (∀ H, f_joined [.str p, .str n] H = .ok (.str (pv p n)) H) ∧ Nat.ble (p.length + 2) 16384 = true ∧ Nat.ble ((p ++ [58, 58]).length + n.length) 16384 = true ∧ Nat.ble (12 + n.length) 16384 = true ∧ Nat.ble (n.length + 26) 16384 = true := by
  have h1 := h.pl
  have h2 := h.nl
  refine ⟨fun H => by rw [joined_at p n H (by omega), jn_pv h.p0], ?_, ?_, ?_, ?_⟩ <;> rw [Nat.ble_eq]
  · omega
  · rw [List.length_append]; show p.length + 2 + _ ≤ _; omega
  · omega
  · omega
theorem ev_at (m : Bool) (x : Wd) (p n : Tx) (h : Vn p n) (i : Int) (rows : List V) (z : Nat.ble x.kd.length 16384 = true) : evBody [some (.ref 2), some (.str p), some (.tup [.str [101, 110, 117, 109], .int i, .str [69], .tup [.tup [], .tup []], .tup (rows), .bool true]), some (vrow n)] (W m x) = if (dget x.kd (pv p n)).isSome then .fault (msgV n) i (W m x) else .ok (.next, [some (.ref 2), some (.str p), some (.tup [.str [101, 110, 117, 109], .int i, .str [69], .tup [.tup [], .tup []], .tup (rows), .bool true]), some (vrow n)]) (W m { x with kd := dput x.kd (pv p n) vr }) := by
  obtain ⟨j, f1, f2, f3, f4⟩ := h.facts
  unfold evBody vrow msgV vr
  cases e : (dget x.kd (pv p n)).isSome
  · exact Eq.trans (s_seq (e_if (e_op2 (e_with (e_cons (e_var rfl) (e_cons (e_op2 (e_var rfl) e_val (g_t rfl)) e_nil)) (j _)) (e_op1 (e_var rfl) (a_at (i_at (w2 _ _) (w1 _ _)) rfl rfl)) (e_boolG (n_d (w3 _ _)))) (ifO_f e s_skip)) (o_next (s_seq (s_assign e_val (t_sub (e_op1 (e_var rfl) (a_at (i_at (w2 _ _) (w1 _ _)) rfl rfl)) (e_with (e_cons (e_var rfl) (e_cons (e_op2 (e_var rfl) e_val (g_t rfl)) e_nil)) (j _)) (x_set (w3 _ _) z (ws3 _ _ _)))) (o_next s_skip)))) rfl
  · exact Eq.trans (s_seq (e_if (e_op2 (e_with (e_cons (e_var rfl) (e_cons (e_op2 (e_var rfl) e_val (g_t rfl)) e_nil)) (j _)) (e_op1 (e_var rfl) (a_at (i_at (w2 _ _) (w1 _ _)) rfl rfl)) (e_boolG (n_d (w3 _ _)))) (ifO_t e (s_seq (s_raise (e_op2 (e_op2 e_val (e_op2 (e_var rfl) e_val (g_t rfl)) (a_ss f3)) e_val (a_ss f4)) (e_op2 (e_var rfl) e_val (g_t rfl))) o_fault))) o_fault) rfl
theorem lv_at (m : Bool) (x : Wd) (p n : Tx) (h : Vn p n) (i : Int) (ns : List V) (it : V) (z : Nat.ble x.lk.length 16384 = true) : lvBody [some (.ref 2), some (.tup [.ref 20, .ref 29, .ref 30, .ref 31, .ref 32]), some (.str p), some (.lst ns), some (.int i), some (.ref 29), some (.none), some it, some (.str n)] (W m x) = if (dget x.lk (pv p n)).isSome then .ok (.brk, [some (.ref 2), some (.tup [.ref 20, .ref 29, .ref 30, .ref 31, .ref 32]), some (.str p), some (.lst ns), some (.int i), some (.ref 29), some (.lst [.str (msgV n), .int i]), some it, some (.str n)]) (W m x) else .ok (.next, [some (.ref 2), some (.tup [.ref 20, .ref 29, .ref 30, .ref 31, .ref 32]), some (.str p), some (.lst ns), some (.int i), some (.ref 29), some (.none), some it, some (.str n)]) (W m { x with lk := dput x.lk (pv p n) vr }) := by
  obtain ⟨_, f1, f2, f3, f4⟩ := h.facts
  have pe : (p ++ [58, 58]) ++ n = pv p n := rfl
  unfold lvBody msgV vr
  cases e : (dget x.lk (pv p n)).isSome
  · exact Eq.trans (s_seq (e_if (e_op2 (e_op2 (e_op2 (e_var rfl) e_val (a_ss f1)) (e_var rfl) (a_ss f2)) (e_var rfl) (e_boolG (n_d (w29 _ _)))) (ifO_f e s_skip)) (o_next (s_seq (s_assign e_val (t_sub (e_var rfl) (e_op2 (e_op2 (e_var rfl) e_val (a_ss f1)) (e_var rfl) (a_ss f2)) (x_set (w29 _ _) z (ws29 _ _ _)))) (o_next s_skip)))) rfl
  · exact Eq.trans (s_seq (e_if (e_op2 (e_op2 (e_op2 (e_var rfl) e_val (a_ss f1)) (e_var rfl) (a_ss f2)) (e_var rfl) (e_boolG (n_d (w29 _ _)))) (ifO_t e (s_seq (s_assign (e_lst (e_cons (e_op2 (e_op2 e_val (e_var rfl) (a_ss f3)) e_val (a_ss f4)) (e_cons (e_var rfl) e_nil)) rfl) (t_name rfl)) (o_next (s_seq s_brk o_brk))))) o_brk) rfl
noncomputable def vOut (m : Bool) (x : Wd) (i : Int) (ρ : Rho) : List (Tx × V) × Option Tx → Out (Fl × Rho)
  | (kd, none) => .ok (.next, ρ) (W m { x with kd := kd })
  | (kd, some n) => .fault (msgV n) i (W m { x with kd := kd })
theorem ev_loop (m : Bool) (p : Tx) (i : Int) (rows : List V) : ∀ (ns : List Tx), (∀ n ∈ ns, Vn p n) → ∀ (x : Wd), x.kd.length + ns.length ≤ 16000 → ∀ r, ∃ l, forM (tName 3) evBody (ns.map vrow) [some (.ref 2), some (.str p), some (.tup [.str [101, 110, 117, 109], .int i, .str [69], .tup [.tup [], .tup []], .tup (rows), .bool true]), r] (W m x) = vOut m x i [some (.ref 2), some (.str p), some (.tup [.str [101, 110, 117, 109], .int i, .str [69], .tup [.tup [], .tup []], .tup (rows), .bool true]), l] (vrun p ns x.kd)
  | [], _, x, _, r => ⟨r, rfl⟩
  | n :: ns, h, x, hz, r => by
    rw [List.length_cons] at hz
    have e := ev_at m x p n (h n List.mem_cons_self) i rows (by rw [Nat.ble_eq]; omega)
    have e0 : forM (tName 3) evBody ((n :: ns).map vrow) [some (.ref 2), some (.str p), some (.tup [.str [101, 110, 117, 109], .int i, .str [69], .tup [.tup [], .tup []], .tup (rows), .bool true]), r] (W m x) = (evBody [some (.ref 2), some (.str p), some (.tup [.str [101, 110, 117, 109], .int i, .str [69], .tup [.tup [], .tup []], .tup (rows), .bool true]), some (vrow n)] (W m x)).bind fun r H2 => match r.1 with
      | .next => forM (tName 3) evBody (ns.map vrow) r.2 H2
      | .brk => .ok (.next, r.2) H2
      | .ret u => .ok (.ret u, r.2) H2 := rfl
    rw [e0, e]
    unfold vrun
    by_cases c : (dget x.kd (pv p n)).isSome = true
    · exact ⟨none, by rw [if_pos c, if_pos c]; rfl⟩
    · obtain ⟨l, e1⟩ := ev_loop m p i rows ns (fun q hq => h q (List.mem_cons_of_mem _ hq)) { x with kd := dput x.kd (pv p n) vr } (by have := dput_len (pv p n) vr x.kd; show (dput _ _ _).length + _ ≤ _; omega) (some (vrow n))
      exact ⟨l, by rw [if_neg c, if_neg c]; exact e1⟩
noncomputable def dueOf (i : Int) : Option Tx → V
  | none => .none
  | some n => .lst [.str (msgV n), .int i]
theorem lv_loop (m : Bool) (p : Tx) (i : Int) (it : V) (ns : List V) : ∀ (ms : List Tx), (∀ n ∈ ms, Vn p n) → ∀ (x : Wd), x.lk.length + ms.length ≤ 16000 → ∀ r, ∃ l, forM (tName 8) lvBody (ms.map V.str) [some (.ref 2), some (.tup [.ref 20, .ref 29, .ref 30, .ref 31, .ref 32]), some (.str p), some (.lst ns), some (.int i), some (.ref 29), some (.none), some it, r] (W m x) = .ok (.next, [some (.ref 2), some (.tup [.ref 20, .ref 29, .ref 30, .ref 31, .ref 32]), some (.str p), some (.lst ns), some (.int i), some (.ref 29), some (dueOf i (vrun p ms x.lk).2), some it, l]) (W m { x with lk := (vrun p ms x.lk).1 })
  | [], _, x, _, r => ⟨r, rfl⟩
  | n :: ms, h, x, hz, r => by
    rw [List.length_cons] at hz
    have e := lv_at m x p n (h n List.mem_cons_self) i ns it (by rw [Nat.ble_eq]; omega)
    have e0 : forM (tName 8) lvBody ((n :: ms).map V.str) [some (.ref 2), some (.tup [.ref 20, .ref 29, .ref 30, .ref 31, .ref 32]), some (.str p), some (.lst ns), some (.int i), some (.ref 29), some (.none), some it, r] (W m x) = (lvBody [some (.ref 2), some (.tup [.ref 20, .ref 29, .ref 30, .ref 31, .ref 32]), some (.str p), some (.lst ns), some (.int i), some (.ref 29), some (.none), some it, some (.str n)] (W m x)).bind fun r H2 => match r.1 with
      | .next => forM (tName 8) lvBody (ms.map V.str) r.2 H2
      | .brk => .ok (.next, r.2) H2
      | .ret u => .ok (.ret u, r.2) H2 := rfl
    rw [e0, e]
    unfold vrun
    by_cases c : (dget x.lk (pv p n)).isSome = true
    · exact ⟨some (.str n), by rw [if_pos c, if_pos c]; rfl⟩
    · obtain ⟨l, e1⟩ := lv_loop m p i it ns ms (fun q hq => h q (List.mem_cons_of_mem _ hq)) { x with lk := dput x.lk (pv p n) vr } (by have := dput_len (pv p n) vr x.lk; show (dput _ _ _).length + _ ≤ _; omega) (some (.str n))
      exact ⟨l, by rw [if_neg c, if_neg c]; exact e1⟩
theorem lvComp_m (H : Hp) : ∀ (ms : List Tx) (acc : List V), compM bdName [] bTrue lvElt (ms.map V.str) acc H = some (acc ++ ms.map vrow, H)
  | [], acc => by rw [List.map_nil, List.map_nil, List.append_nil]; rfl
  | n :: ms, acc => by
    have e := lvComp_m H ms (acc ++ [vrow n])
    rw [List.append_assoc] at e
    exact e
theorem lvComp_at (ρ : Rho) (ms : List Tx) (hl : ms.length ≤ 1000) (h : ρ[3]? = some (some (.lst (ms.map V.str)))) (H : Hp) : lvComp ρ H = .ok (.lst (ms.map vrow)) H := by
  have e := lvComp_m H ms []
  have z : Nat.ble (ms.map V.str).length 16384 = true := by rw [List.length_map, Nat.ble_eq]; omega
  unfold lvComp
  exact Eq.trans (e_comp rfl (e_var h) rfl z e) rfl
theorem vr_enter (m : Bool) (x : Wd) (p : Tx) (i : Int) (ms : List Tx) (hm : ∀ n ∈ ms, Vn p n) (hz : x.kd.length + ms.length ≤ 16000) : f_enter_variants [.ref 2, .str p, .tup [.str [101, 110, 117, 109], .int i, .str [69], .tup [.tup [], .tup []], .tup (ms.map vrow), .bool true]] (W m x) = match (vrun p ms x.kd).2 with
    | none => .ok .none (W m { x with kd := (vrun p ms x.kd).1 })
    | some n => .fault (msgV n) i (W m { x with kd := (vrun p ms x.kd).1 }) := by
  obtain ⟨l, e⟩ := ev_loop m p i (ms.map vrow) ms hm x hz none
  rw [eq_f_ev2]
  unfold f_ev2
  revert e
  generalize vrun p ms x.kd = r
  obtain ⟨kd, o⟩ := r
  cases o
  · intro e
    simp only [vOut] at e
    exact Eq.trans (r_run rfl (s_seq (s_for (e_op2 (e_var rfl) e_val (g_t rfl)) rfl e) (o_next s_skip)) r_next) rfl
  · intro e
    simp only [vOut] at e
    exact Eq.trans (r_run rfl (s_seq (s_for (e_op2 (e_var rfl) e_val (g_t rfl)) rfl e) o_fault) r_fault) rfl
theorem var_at {k : Nat} (m : Bool) (y : Yd) (gd : Gd k y) (hk : k ≤ 50) (p : Tx) (i : Int) (ms : List Tx) (hl : ms.length ≤ 3) (hm : ∀ n ∈ ms, Vn p n) : ∃ y2, Gd (k + 3) y2 ∧ f__law_variants_right [.ref 2, .tup [.ref 20, .ref 29, .ref 30, .ref 31, .ref 32], .str p, .lst (ms.map V.str), .int i] (W m y.w) = .ok (.bool true) (W m y2.w) := by
  let y2 : Yd := { y with kd := (vrun p ms y.kd).1 }
  have l : k ≤ k + 3 := Nat.le_add_right k 3
  have g2 : Gd (k + 3) y2 := ⟨(vrun_fit ms gd.kd).mono (by omega), gd.pb.mono l, gd.gn.mono l, gd.it.mono l, gd.ty.mono l, gd.va.mono l, gd.ty1.mono l, gd.va1.mono l, gd.u.mono l, gd.u1.mono l, gd.qs⟩
  have al := alike_at m y2 g2 (by omega)
  have hz := gd.kd.z
  obtain ⟨l, e1⟩ := lv_loop m p i (.tup [.str [101, 110, 117, 109], .int i, .str [69], .tup [.tup [], .tup []], .tup (ms.map vrow), .bool true]) (ms.map V.str) ms hm y.w (by show y.kd.length + _ ≤ _; omega) none
  have e2 := vr_enter m { y.w with lk := (vrun p ms y.kd).1 } p i ms hm (by show y.kd.length + _ ≤ _; omega)
  have e3 := fun ρ h => lvComp_at ρ ms (by omega) h
  have z : Nat.ble (ms.map vrow).length 16384 = true := by rw [List.length_map, Nat.ble_eq]; omega
  refine ⟨y2, g2, ?_⟩
  clear g2 gd hm hz
  rw [eq_f_var2]
  unfold f_var2
  obtain ⟨p_, q_, kd, pb, ty, va, us, gn, it, ty1, va1, us1, bu, bu1⟩ := y
  dsimp only [Yd.w, y2] at *
  revert al e1 e2
  generalize vrun p ms kd = r
  obtain ⟨kd2, o⟩ := r
  cases o
  · dsimp only [dueOf]
    intro al e1 e2
    exact Eq.trans (r_run rfl (s_seq (s_swap2 (e_tup (e_cons (e_op2 (e_var rfl) e_val (g_t rfl)) (e_cons e_val e_nil)) rfl) (t_cons (t_name rfl) (t_cons (t_name rfl) t_nil))) (o_next (s_seq (s_assign (e_tup (e_cons e_val (e_cons (e_var rfl) (e_cons e_val (e_cons (e_tup (e_cons (e_tup e_nil rfl) (e_cons (e_tup e_nil rfl) e_nil)) rfl) (e_cons (e_with (e_cons (e3 _ rfl _) e_nil) (f_tup z)) (e_cons e_val e_nil)))))) rfl) (t_name rfl)) (o_next (s_seq (s_for (e_var rfl) rfl e1) (o_next (s_seq (s_ret (e_andV (e_op2 (e_heard rfl (e_lam (e_var rfl) (i_at (w2 _ _) (w1 _ _)) rfl (e_cons (e_var rfl) (e_cons (e_var rfl) e_nil)) e2) he_ok) (e_var rfl) (q_eq rfl)) al) re_ok) o_ret))))))) r_ret) rfl
  · dsimp only [dueOf]
    intro al e1 e2
    exact Eq.trans (r_run rfl (s_seq (s_swap2 (e_tup (e_cons (e_op2 (e_var rfl) e_val (g_t rfl)) (e_cons e_val e_nil)) rfl) (t_cons (t_name rfl) (t_cons (t_name rfl) t_nil))) (o_next (s_seq (s_assign (e_tup (e_cons e_val (e_cons (e_var rfl) (e_cons e_val (e_cons (e_tup (e_cons (e_tup e_nil rfl) (e_cons (e_tup e_nil rfl) e_nil)) rfl) (e_cons (e_with (e_cons (e3 _ rfl _) e_nil) (f_tup z)) (e_cons e_val e_nil)))))) rfl) (t_name rfl)) (o_next (s_seq (s_for (e_var rfl) rfl e1) (o_next (s_seq (s_ret (e_andV (e_op2 (e_heard rfl (e_lam (e_var rfl) (i_at (w2 _ _) (w1 _ _)) rfl (e_cons (e_var rfl) (e_cons (e_var rfl) e_nil)) e2) he_fault) (e_var rfl) (q_eq (c_l rfl v_si))) al) re_ok) o_ret))))))) r_ret) rfl
noncomputable def useN : Ex := (bIf (bOp2 (boolG (vIsNone false)) (bVar 5) (bVal V.none)) (bOp2 vGetA (bVar 4) (bOp1 vNeg (bVal (V.int 1)))) (bVar 5))
noncomputable def euP : Bx := (bTest (bOp1 (vInG [[105, 56], [105, 49, 54], [105, 51, 50], [105, 54, 52], [117, 56], [117, 49, 54], [117, 51, 50], [117, 54, 52], [117, 115, 105, 122, 101], [98, 111, 111, 108], [66, 111, 120]] false) (bVar 7)))
noncomputable def euT : Bx := (bOr (bTest (bOp1 (vInG [[99, 114, 97, 116, 101], [115, 101, 108, 102], [115, 117, 112, 101, 114]] false) (bVar 7))) (bOr (bTest (bMeth 142 [105, 115, 95, 116, 97, 107, 101, 110] f_is_taken (bVar 8) (bCons (bVar 7) (bCons (bTup (bCons (bVal (V.str [116, 121, 112, 101])) (bCons (bVal (V.str [118, 97, 108, 117, 101])) bNil))) bNil)))) (bB false)))
noncomputable def f_eu2 : List V → Hp → Out V := runF 3 6 (sSeq (sAssign (bTup (bCons (bOp2 vGetA (bVar 2) (bVal (V.int 1))) (bCons (bOp2 vGetA (bVar 2) (bVal (V.int 2))) (bCons (bOp2 vGetA (bVar 2) (bVal (V.int 3))) (bCons (bOp2 vGetA (bVar 2) (bVal (V.int 4))) bNil))))) (tTup 4 (tCons (tName 3) (tCons (tName 4) (tCons (tName 5) (tCons (tName 6) tNil)))))) (sSeq (sAssign useN (tName 7)) (sSeq (sAssign (bOp2 vGetA (bOp1 (vAttr [116, 97, 98, 108, 101, 115]) (bVar 0)) (bVar 1)) (tName 8)) (sSeq (bIf euP (sSeq (sRaise (sayP 7) (bVar 3)) sSkip) sSkip) (sSeq (bIf euT (sSeq (sRaise (sayT 7) (bVar 3)) sSkip) sSkip) (sSeq (sAssign (bWith fUse (bCons (bWith fTuple (bCons (bVar 4) bNil)) (bCons (bVar 6) (bCons (bVar 3) bNil)))) (tSub vSet2 (bOp1 (vAttr [117, 115, 101, 115]) (bVar 8)) (bVar 7))) sSkip))))))
theorem eq_f_eu2 : f_enter_use = f_eu2 := rfl
noncomputable def luP : Bx := (bOp2 (boolG vInA) (bVar 9) (bLst (bCons (bVal (V.str [117, 56])) (bCons (bVal (V.str [66, 111, 120])) (bCons (bVal (V.str [98, 111, 111, 108])) bNil)))))
noncomputable def luT : Bx := (bOr (bOp2 (boolG vInA) (bVar 9) (bLst (bCons (bVal (V.str [99, 114, 97, 116, 101])) (bCons (bVal (V.str [115, 101, 108, 102])) (bCons (bVal (V.str [115, 117, 112, 101, 114])) bNil))))) (bOr (bOp2 (boolG vInA) (bVar 9) (bOp2 vGetA (bVar 8) (bVal (V.str [117, 115, 101])))) (bOr (bOp2 (boolG vInA) (bVar 9) (bOp2 vGetA (bVar 8) (bVal (V.str [116, 121, 112, 101])))) (bOr (bOp2 (boolG vInA) (bVar 9) (bOp2 vGetA (bVar 8) (bVal (V.str [118, 97, 108, 117, 101])))) (bB false)))))
noncomputable def f_lu2 : List V → Hp → Out V := runF 4 8 (sSeq (sAssign (bVar 3) (tTup 4 (tCons (tName 4) (tCons (tName 5) (tCons (tName 6) (tCons (tName 7) tNil)))))) (sSeq (sSwap (bTup (bCons (bOp2 vGetA (bOp2 vGetA (bVar 1) (bVal (V.int 0))) (bVar 2)) (bCons useN bNil))) 2 (tCons (tName 9) (tCons (tName 8) tNil))) (sSeq (sAssign (bVal V.none) (tName 10)) (sSeq (bIf luP (sSeq (sAssign (bLst (bCons (sayP 9) (bCons (bVar 7) bNil))) (tName 10)) sSkip) (sSeq (bIf luT (sSeq (sAssign (bLst (bCons (sayT 9) (bCons (bVar 7) bNil))) (tName 10)) sSkip) sSkip) sSkip)) (sSeq (bIf (bOp2 (boolG (vIsNone false)) (bVar 10) (bVal V.none)) (sSeq (sAssign (bTup (bCons (bVar 4) (bCons (bVar 6) (bCons (bVar 7) bNil)))) (tSub vSet2 (bOp2 vGetA (bVar 8) (bVal (V.str [117, 115, 101]))) (bVar 9))) sSkip) sSkip) (sSeq (sAssign (bTup (bCons (bVal (V.str [117, 115, 101])) (bCons (bVar 7) (bCons (bVar 4) (bCons (bVar 5) (bCons (bVar 6) bNil)))))) (tName 11)) (sSeq (sRet (bAndV (bOp2 vEqO (bHeard [11, 2, 0] (bLam [101, 110, 116, 101, 114, 95, 117, 115, 101] f_enter_use (bVar 2) (bCons (bVar 1) (bCons (bVar 0) bNil)))) (bVar 10)) (bWith f__law_is_alike (bCons (bVar 0) (bCons (bVar 1) bNil))))) sSkip)))))))
theorem eq_f_lu2 : f__law_use_right = f_lu2 := rfl
structure Un (ns : List V) (al : V) (n : Tx) : Prop where
  at_ : ∀ ρ H, ρ[4]? = some (some (.tup ns)) → ρ[5]? = some (some al) → useN ρ H = .ok (.str n) H
theorem Un.str (ns : List V) (n : Tx) : Un ns (.str n) n := ⟨fun ρ H h4 h5 => by
  unfold useN
  exact Eq.trans (e_if (e_op2 (e_var h5) e_val (e_boolG (n_none (rf _)))) (ifO_f rfl (e_var h5))) rfl⟩
theorem Un.last {ns : List V} {n : Tx} (h : vIdx ns (-1) = some (.str n)) : Un ns .none n := ⟨fun ρ H h4 h5 => by
  unfold useN
  exact Eq.trans (e_if (e_op2 (e_var h5) e_val (e_boolG (n_none (rf _)))) (ifO_t rfl (e_op2 (e_var h4) (e_op1 e_val rfl) (g_t h)))) rfl⟩
structure Nw (n : Tx) (w : Bool) : Prop where
  w : ([[99, 114, 97, 116, 101], [115, 101, 108, 102], [115, 117, 112, 101, 114]] : List Tx).any (txEq n) = w
theorem euP_at (m : Bool) (x : Wd) (n : Tx) {b : Bool} (h : Nm n b) (ns : List V) (al : V) (pub : Bool) (i : Int) : euP [some (.ref 2), some (.str (mn m)), some (.tup [.str [117, 115, 101], .int i, .tup ns, al, .bool pub]), some (.int i), some (.tup ns), some al, some (.bool pub), some (.str n), some (.ref (tb m))] (W m x) = .ok b (W m x) := by
  have hp := h.a
  clear h
  subst hp
  unfold euP
  exact Eq.trans (e_test (e_op1 (e_var rfl) n_g)) rfl
theorem luP_at (m : Bool) (x : Wd) (n : Tx) {b : Bool} (h : Nm n b) (ns : List V) (al : V) (pub : Bool) (i : Int) : luP [some (.ref 2), some (.tup [.ref 20, .ref 29, .ref 30, .ref 31, .ref 32]), some (.str (mn m)), some (.tup [.tup ns, al, .bool pub, .int i]), some (.tup ns), some al, some (.bool pub), some (.int i), some (.ref (bb m)), some (.str n), some .none, none] (W m x) = .ok b (W m x) := by
  have hp := h.l
  clear h
  subst hp
  unfold luP
  exact Eq.trans (e_op2 (e_var rfl) (e_lst (e_cons e_val (e_cons e_val (e_cons e_val e_nil))) rfl) (e_boolG (n_l rfl))) rfl
theorem euT_at (m : Bool) (x : Wd) (n : Tx) {w : Bool} (h : Nw n w) (ns : List V) (al : V) (pub : Bool) (i : Int) : euT [some (.ref 2), some (.str (mn m)), some (.tup [.str [117, 115, 101], .int i, .tup ns, al, .bool pub]), some (.int i), some (.tup ns), some al, some (.bool pub), some (.str n), some (.ref (tb m))] (W m x) = .ok (w || ((dget x.us n).isSome || tkn x n true true)) (W m x) := by
  have hp := h.w
  have ht := taken_at m x n Sp.tv
  clear h
  unfold euT
  generalize ((dget x.us n).isSome || tkn x n true true) = c at *
  cases w <;> cases c
  · exact Eq.trans (e_or (e_test (e_op1 (e_var rfl) n_g)) (ifO_f hp (e_or (e_test (e_meth (e_var rfl) (i_at (wtb _ _) (wtf _ _)) rfl (e_cons (e_var rfl) (e_cons (e_tup (e_cons e_val (e_cons e_val e_nil)) rfl) e_nil)) ht)) (ifO_f rfl e_bB)))) rfl
  · exact Eq.trans (e_or (e_test (e_op1 (e_var rfl) n_g)) (ifO_f hp (e_or (e_test (e_meth (e_var rfl) (i_at (wtb _ _) (wtf _ _)) rfl (e_cons (e_var rfl) (e_cons (e_tup (e_cons e_val (e_cons e_val e_nil)) rfl) e_nil)) ht)) (ifO_t rfl rfl)))) rfl
  · exact Eq.trans (e_or (e_test (e_op1 (e_var rfl) n_g)) (ifO_t hp rfl)) rfl
  · exact Eq.trans (e_or (e_test (e_op1 (e_var rfl) n_g)) (ifO_t hp rfl)) rfl
theorem luT_at (m : Bool) (x : Wd) (n : Tx) {w : Bool} (h : Nw n w) (ns : List V) (al : V) (pub : Bool) (i : Int) : luT [some (.ref 2), some (.tup [.ref 20, .ref 29, .ref 30, .ref 31, .ref 32]), some (.str (mn m)), some (.tup [.tup ns, al, .bool pub, .int i]), some (.tup ns), some al, some (.bool pub), some (.int i), some (.ref (bb m)), some (.str n), some .none, none] (W m x) = .ok (w || ((dget x.bu n).isSome || ((dget x.bt n).isSome || (dget x.bv n).isSome))) (W m x) := by
  have hp := h.w
  clear h
  unfold luT
  cases w
  · cases e1 : (dget x.bu n).isSome
    · cases e2 : (dget x.bt n).isSome
      · cases e3 : (dget x.bv n).isSome
        · exact Eq.trans (e_or (e_op2 (e_var rfl) (e_lst (e_cons e_val (e_cons e_val (e_cons e_val e_nil))) rfl) (e_boolG (n_l rfl))) (ifO_f hp (e_or (e_op2 (e_var rfl) (e_op2 (e_var rfl) e_val (g_d (wbb _ _) rfl)) (e_boolG (n_d (wxu _ _)))) (ifO_f e1 (e_or (e_op2 (e_var rfl) (e_op2 (e_var rfl) e_val (g_d (wbb _ _) rfl)) (e_boolG (n_d (wxt _ _)))) (ifO_f e2 (e_or (e_op2 (e_var rfl) (e_op2 (e_var rfl) e_val (g_d (wbb _ _) rfl)) (e_boolG (n_d (wxv _ _)))) (ifO_f e3 e_bB)))))))) rfl
        · exact Eq.trans (e_or (e_op2 (e_var rfl) (e_lst (e_cons e_val (e_cons e_val (e_cons e_val e_nil))) rfl) (e_boolG (n_l rfl))) (ifO_f hp (e_or (e_op2 (e_var rfl) (e_op2 (e_var rfl) e_val (g_d (wbb _ _) rfl)) (e_boolG (n_d (wxu _ _)))) (ifO_f e1 (e_or (e_op2 (e_var rfl) (e_op2 (e_var rfl) e_val (g_d (wbb _ _) rfl)) (e_boolG (n_d (wxt _ _)))) (ifO_f e2 (e_or (e_op2 (e_var rfl) (e_op2 (e_var rfl) e_val (g_d (wbb _ _) rfl)) (e_boolG (n_d (wxv _ _)))) (ifO_t e3 rfl)))))))) rfl
      · exact Eq.trans (e_or (e_op2 (e_var rfl) (e_lst (e_cons e_val (e_cons e_val (e_cons e_val e_nil))) rfl) (e_boolG (n_l rfl))) (ifO_f hp (e_or (e_op2 (e_var rfl) (e_op2 (e_var rfl) e_val (g_d (wbb _ _) rfl)) (e_boolG (n_d (wxu _ _)))) (ifO_f e1 (e_or (e_op2 (e_var rfl) (e_op2 (e_var rfl) e_val (g_d (wbb _ _) rfl)) (e_boolG (n_d (wxt _ _)))) (ifO_t e2 rfl)))))) rfl
    · exact Eq.trans (e_or (e_op2 (e_var rfl) (e_lst (e_cons e_val (e_cons e_val (e_cons e_val e_nil))) rfl) (e_boolG (n_l rfl))) (ifO_f hp (e_or (e_op2 (e_var rfl) (e_op2 (e_var rfl) e_val (g_d (wbb _ _) rfl)) (e_boolG (n_d (wxu _ _)))) (ifO_t e1 rfl)))) rfl
  · exact Eq.trans (e_or (e_op2 (e_var rfl) (e_lst (e_cons e_val (e_cons e_val (e_cons e_val e_nil))) rfl) (e_boolG (n_l rfl))) (ifO_t hp rfl)) rfl
theorem eu_at (m : Bool) (x : Wd) (n : Tx) {b w : Bool} (h : Nm n b) (hw : Nw n w) (ns : List V) (al : V) (hu : Un ns al n) (pub : Bool) (i : Int) (z : Nat.ble x.us.length 16384 = true) : f_enter_use [.ref 2, .str (mn m), .tup [.str [117, 115, 101], .int i, .tup ns, al, .bool pub]] (W m x) = if b then .fault (msgP n) i (W m x) else if w || ((dget x.us n).isSome || tkn x n true true) then .fault (msgT n) i (W m x) else .ok .none (W m { x with us := dput x.us n (.use (.tup ns) (.bool pub) (.int i)) }) := by
  have e0 := hu.at_
  have e1 := euP_at m x n h ns al pub i
  have e2 := euT_at m x n hw ns al pub i
  have e3 := fun H => (say_at (i := 7) (ρ := [some (.ref 2), some (.str (mn m)), some (.tup [.str [117, 115, 101], .int i, .tup ns, al, .bool pub]), some (.int i), some (.tup ns), some al, some (.bool pub), some (.str n), some (.ref (tb m))]) rfl h.len H).1
  have e4 := fun H => (say_at (i := 7) (ρ := [some (.ref 2), some (.str (mn m)), some (.tup [.str [117, 115, 101], .int i, .tup ns, al, .bool pub]), some (.int i), some (.tup ns), some al, some (.bool pub), some (.str n), some (.ref (tb m))]) rfl h.len H).2
  clear h hw hu
  rw [eq_f_eu2]
  unfold f_eu2
  generalize (w || ((dget x.us n).isSome || tkn x n true true)) = c at *
  cases b
  · cases c
    · exact Eq.trans (r_run rfl (s_seq (s_assign (e_tup (e_cons (e_op2 (e_var rfl) e_val (g_t rfl)) (e_cons (e_op2 (e_var rfl) e_val (g_t rfl)) (e_cons (e_op2 (e_var rfl) e_val (g_t rfl)) (e_cons (e_op2 (e_var rfl) e_val (g_t rfl)) e_nil)))) rfl) (t_tup rfl (t_cons (t_name rfl) (t_cons (t_name rfl) (t_cons (t_name rfl) (t_cons (t_name rfl) t_nil)))))) (o_next (s_seq (s_assign (e0 _ _ rfl rfl) (t_name rfl)) (o_next (s_seq (s_assign (e_op2 (e_op1 (e_var rfl) (a_at (i_at (w2 _ _) (w1 _ _)) rfl rfl)) (e_var rfl) (g_d (w5 _ _) (wmo _))) (t_name rfl)) (o_next (s_seq (e_if e1 (ifO_f rfl s_skip)) (o_next (s_seq (e_if e2 (ifO_f rfl s_skip)) (o_next (s_seq (s_assign (e_with (e_cons (e_with (e_cons (e_var rfl) e_nil) f_tupt) (e_cons (e_var rfl) (e_cons (e_var rfl) e_nil))) f_use) (t_sub (e_op1 (e_var rfl) (a_at (i_at (wtb _ _) (wtf _ _)) rfl rfl)) (e_var rfl) (x_set (wru _ _) z (wsru _ _ _)))) (o_next s_skip)))))))))))) r_next) rfl
    · exact Eq.trans (r_run rfl (s_seq (s_assign (e_tup (e_cons (e_op2 (e_var rfl) e_val (g_t rfl)) (e_cons (e_op2 (e_var rfl) e_val (g_t rfl)) (e_cons (e_op2 (e_var rfl) e_val (g_t rfl)) (e_cons (e_op2 (e_var rfl) e_val (g_t rfl)) e_nil)))) rfl) (t_tup rfl (t_cons (t_name rfl) (t_cons (t_name rfl) (t_cons (t_name rfl) (t_cons (t_name rfl) t_nil)))))) (o_next (s_seq (s_assign (e0 _ _ rfl rfl) (t_name rfl)) (o_next (s_seq (s_assign (e_op2 (e_op1 (e_var rfl) (a_at (i_at (w2 _ _) (w1 _ _)) rfl rfl)) (e_var rfl) (g_d (w5 _ _) (wmo _))) (t_name rfl)) (o_next (s_seq (e_if e1 (ifO_f rfl s_skip)) (o_next (s_seq (e_if e2 (ifO_t rfl (s_seq (s_raise (e4 _) (e_var rfl)) o_fault))) o_fault))))))))) r_fault) rfl
  · exact Eq.trans (r_run rfl (s_seq (s_assign (e_tup (e_cons (e_op2 (e_var rfl) e_val (g_t rfl)) (e_cons (e_op2 (e_var rfl) e_val (g_t rfl)) (e_cons (e_op2 (e_var rfl) e_val (g_t rfl)) (e_cons (e_op2 (e_var rfl) e_val (g_t rfl)) e_nil)))) rfl) (t_tup rfl (t_cons (t_name rfl) (t_cons (t_name rfl) (t_cons (t_name rfl) (t_cons (t_name rfl) t_nil)))))) (o_next (s_seq (s_assign (e0 _ _ rfl rfl) (t_name rfl)) (o_next (s_seq (s_assign (e_op2 (e_op1 (e_var rfl) (a_at (i_at (w2 _ _) (w1 _ _)) rfl rfl)) (e_var rfl) (g_d (w5 _ _) (wmo _))) (t_name rfl)) (o_next (s_seq (e_if e1 (ifO_t rfl (s_seq (s_raise (e3 _) (e_var rfl)) o_fault))) o_fault))))))) r_fault) rfl
theorem use_at {k : Nat} (m : Bool) (y : Yd) (gd : Gd k y) (hk : k ≤ 50) (n : Tx) {b w : Bool} (h : Nm n b) (hw : Nw n w) (ns : List V) (al : V) (hu : Un ns al n) (he : vsEq (vEq 7) ns ns = true) (pub : Bool) (i : Int) : ∃ y2, Gd (k + 1) y2 ∧ f__law_use_right [.ref 2, .tup [.ref 20, .ref 29, .ref 30, .ref 31, .ref 32], .str (mn m), .tup [.tup ns, al, .bool pub, .int i]] (W m y.w) = .ok (.bool true) (W m y2.w) := by
  have he' : vsEq (vEq 8) [.tup ns, .bool pub, .int i] [.tup ns, .bool pub, .int i] = true := by
    have e1 : vEq 8 (.tup ns) (.tup ns) = true := he
    have e2 : vEq 8 (.bool pub) (.bool pub) = true := by cases pub <;> rfl
    have e3 : vEq 8 (.int i) (.int i) = true := decide_eq_true rfl
    simp only [vsEq, e1, e2, e3, Bool.and_true]
  let y2 : Yd := { y with us := dput y.us n (.use (.tup ns) (.bool pub) (.int i)), bu := dput y.bu n (.tup [.tup ns, .bool pub, .int i]) }
  have l := Nat.le_succ k
  have g2 : Gd (k + 1) y2 := ⟨gd.kd.mono l, gd.pb.mono l, gd.gn.mono l, gd.it.mono l, gd.ty.mono l, gd.va.mono l, gd.ty1.mono l, gd.va1.mono l, gd.u.put n he', gd.u1.mono l, gd.qs⟩
  have al1 := alike_at m y gd (by omega)
  have al2 := alike_at m y2 g2 (by omega)
  have z1 : Nat.ble y.us.length 16384 = true := ble_of gd.u.z (by omega)
  have z2 : Nat.ble y.bu.length 16384 = true := by rw [gd.u.r.len]; exact z1
  have e0 := hu.at_
  have e1 := luP_at m y.w n h ns al pub i
  have e2 := luT_at m y.w n hw ns al pub i
  have e5 := fun H => (say_at (i := 9) (ρ := [some (.ref 2), some (.tup [.ref 20, .ref 29, .ref 30, .ref 31, .ref 32]), some (.str (mn m)), some (.tup [.tup ns, al, .bool pub, .int i]), some (.tup ns), some al, some (.bool pub), some (.int i), some (.ref (bb m)), some (.str n), some .none, none]) rfl h.len H).1
  have e6 := fun H => (say_at (i := 9) (ρ := [some (.ref 2), some (.tup [.ref 20, .ref 29, .ref 30, .ref 31, .ref 32]), some (.str (mn m)), some (.tup [.tup ns, al, .bool pub, .int i]), some (.tup ns), some al, some (.bool pub), some (.int i), some (.ref (bb m)), some (.str n), some .none, none]) rfl h.len H).2
  have e3 := eu_at m y.w n h hw ns al hu pub i z1
  have e4 := eu_at m { y.w with bu := dput y.bu n (.tup [.tup ns, .bool pub, .int i]) } n h hw ns al hu pub i z1
  have hx : (dget y.w.bu n).isSome = (dget y.w.us n).isSome := gd.u.r.has n
  rw [hx] at e2
  have ht : ((dget y.w.bt n).isSome || (dget y.w.bv n).isSome) = tkn y.w n true true := rfl
  rw [ht] at e2
  have ht2 : tkn { y.w with bu := dput y.bu n (.tup [.tup ns, .bool pub, .int i]) } n true true = tkn y.w n true true := rfl
  rw [ht2] at e4
  change _ = (if _ then _ else if (w || ((dget y.w.us n).isSome || tkn y.w n true true)) then _ else _) at e4
  rw [eq_f_lu2]
  unfold f_lu2
  revert e2 e3 e4
  generalize (w || ((dget y.w.us n).isSome || tkn y.w n true true)) = c
  intro e2 e3 e4
  cases b
  · cases c
    · refine ⟨y2, g2, ?_⟩
      clear g2 gd h hw hu he he' hx ht ht2 al1 e3
      obtain ⟨p_, q_, kd, pb, ty, va, us, gn, it, ty1, va1, us1, bu, bu1⟩ := y
      dsimp only [Yd.w, y2] at *
      exact Eq.trans (r_run rfl (s_seq (s_assign (e_var rfl) (t_tup rfl (t_cons (t_name rfl) (t_cons (t_name rfl) (t_cons (t_name rfl) (t_cons (t_name rfl) t_nil)))))) (o_next (s_seq (s_swap2 (e_tup (e_cons (e_op2 (e_op2 (e_var rfl) e_val (g_t rfl)) (e_var rfl) (g_d (w20 _ _) (wbo _))) (e_cons (e0 _ _ rfl rfl) e_nil)) rfl) (t_cons (t_name rfl) (t_cons (t_name rfl) t_nil))) (o_next (s_seq (s_assign e_val (t_name rfl)) (o_next (s_seq (e_if e1 (ifO_f rfl (s_seq (e_if e2 (ifO_f rfl s_skip)) (o_next s_skip)))) (o_next (s_seq (e_if (e_op2 (e_var rfl) e_val (e_boolG (n_none (rf _)))) (ifO_t rfl (s_seq (s_assign (e_tup (e_cons (e_var rfl) (e_cons (e_var rfl) (e_cons (e_var rfl) e_nil))) rfl) (t_sub (e_op2 (e_var rfl) e_val (g_d (wbb _ _) rfl)) (e_var rfl) (x_set (wxu _ _) z2 (wsxu _ _ _)))) (o_next s_skip)))) (o_next (s_seq (s_assign (e_tup (e_cons e_val (e_cons (e_var rfl) (e_cons (e_var rfl) (e_cons (e_var rfl) (e_cons (e_var rfl) e_nil))))) rfl) (t_name rfl)) (o_next (s_seq (s_ret (e_andV (e_op2 (e_heard rfl (e_lam (e_var rfl) (i_at (w2 _ _) (w1 _ _)) rfl (e_cons (e_var rfl) (e_cons (e_var rfl) e_nil)) e4) rfl) (e_var rfl) (q_eq rfl)) al2) re_ok) o_ret))))))))))))) r_ret) rfl
    · refine ⟨y, gd.mono l, ?_⟩
      clear g2 gd h hw hu he he' hx ht ht2 al2 e4
      obtain ⟨p_, q_, kd, pb, ty, va, us, gn, it, ty1, va1, us1, bu, bu1⟩ := y
      dsimp only [Yd.w] at *
      exact Eq.trans (r_run rfl (s_seq (s_assign (e_var rfl) (t_tup rfl (t_cons (t_name rfl) (t_cons (t_name rfl) (t_cons (t_name rfl) (t_cons (t_name rfl) t_nil)))))) (o_next (s_seq (s_swap2 (e_tup (e_cons (e_op2 (e_op2 (e_var rfl) e_val (g_t rfl)) (e_var rfl) (g_d (w20 _ _) (wbo _))) (e_cons (e0 _ _ rfl rfl) e_nil)) rfl) (t_cons (t_name rfl) (t_cons (t_name rfl) t_nil))) (o_next (s_seq (s_assign e_val (t_name rfl)) (o_next (s_seq (e_if e1 (ifO_f rfl (s_seq (e_if e2 (ifO_t rfl (s_seq (s_assign (e_lst (e_cons (e6 _) (e_cons (e_var rfl) e_nil)) rfl) (t_name rfl)) (o_next s_skip)))) (o_next s_skip)))) (o_next (s_seq (e_if (e_op2 (e_var rfl) e_val (e_boolG (n_none (rf _)))) (ifO_f rfl s_skip)) (o_next (s_seq (s_assign (e_tup (e_cons e_val (e_cons (e_var rfl) (e_cons (e_var rfl) (e_cons (e_var rfl) (e_cons (e_var rfl) e_nil))))) rfl) (t_name rfl)) (o_next (s_seq (s_ret (e_andV (e_op2 (e_heard rfl (e_lam (e_var rfl) (i_at (w2 _ _) (w1 _ _)) rfl (e_cons (e_var rfl) (e_cons (e_var rfl) e_nil)) e3) rfl) (e_var rfl) (q_eq (c_l rfl v_si))) al1) re_ok) o_ret))))))))))))) r_ret) rfl
  · refine ⟨y, gd.mono l, ?_⟩
    clear g2 gd h hw hu he he' hx ht ht2 al2 e4 e2 e6
    obtain ⟨p_, q_, kd, pb, ty, va, us, gn, it, ty1, va1, us1, bu, bu1⟩ := y
    dsimp only [Yd.w] at *
    exact Eq.trans (r_run rfl (s_seq (s_assign (e_var rfl) (t_tup rfl (t_cons (t_name rfl) (t_cons (t_name rfl) (t_cons (t_name rfl) (t_cons (t_name rfl) t_nil)))))) (o_next (s_seq (s_swap2 (e_tup (e_cons (e_op2 (e_op2 (e_var rfl) e_val (g_t rfl)) (e_var rfl) (g_d (w20 _ _) (wbo _))) (e_cons (e0 _ _ rfl rfl) e_nil)) rfl) (t_cons (t_name rfl) (t_cons (t_name rfl) t_nil))) (o_next (s_seq (s_assign e_val (t_name rfl)) (o_next (s_seq (e_if e1 (ifO_t rfl (s_seq (s_assign (e_lst (e_cons (e5 _) (e_cons (e_var rfl) e_nil)) rfl) (t_name rfl)) (o_next s_skip)))) (o_next (s_seq (e_if (e_op2 (e_var rfl) e_val (e_boolG (n_none (rf _)))) (ifO_f rfl s_skip)) (o_next (s_seq (s_assign (e_tup (e_cons e_val (e_cons (e_var rfl) (e_cons (e_var rfl) (e_cons (e_var rfl) (e_cons (e_var rfl) e_nil))))) rfl) (t_name rfl)) (o_next (s_seq (s_ret (e_andV (e_op2 (e_heard rfl (e_lam (e_var rfl) (i_at (w2 _ _) (w1 _ _)) rfl (e_cons (e_var rfl) (e_cons (e_var rfl) e_nil)) e3) rfl) (e_var rfl) (q_eq (c_l rfl v_si))) al1) re_ok) o_ret))))))))))))) r_ret) rfl
end

section
open PySem PySem.W PySem.Calls PyProof.Rows PySem.Spec
noncomputable def dvElt : Ex := (bWith f__law_one (bCons (bVar 1) (bCons (bLst (bCons (bVal (V.str [65])) (bCons (bVal (V.str [66])) (bCons (bVal (V.str [86])) bNil)))) bNil)))
noncomputable def dvComp : Ex := (bComp [0] bdName bTrue dvElt (bWith fRange (bCons (bWith f__law_take (bCons (bVar 0) (bCons (bVal (V.int 4)) bNil))) bNil)))
noncomputable def deedT : Sx := (sSeq (sAssign (bWith f__law_one (bCons (bVar 0) (bCons (bLst (bCons (bTup (bCons (bVal (V.str [116, 121, 112, 101])) bNil)) (bCons (bTup (bCons (bVal (V.str [116, 121, 112, 101])) (bCons (bVal (V.str [118, 97, 108, 117, 101])) bNil))) (bCons (bTup (bCons (bVal (V.str [118, 97, 108, 117, 101])) bNil)) bNil)))) bNil))) (tName 8)) (sSeq (sRet (bWith f__law_type_right (bCons (bVar 1) (bCons (bVar 2) (bCons (bVar 4) (bCons (bWith f__law_item (bCons (bVar 0) (bCons (bVar 6) (bCons (bVar 5) bNil)))) (bCons (bVar 8) (bCons (bVar 7) bNil)))))))) sSkip))
noncomputable def deedV : Sx := (sSeq (sAssign dvComp (tName 9)) (sSeq (sRet (bWith f__law_variants_right (bCons (bVar 1) (bCons (bVar 2) (bCons (bWith f__law_path (bCons (bVar 4) (bCons (bVar 6) bNil))) (bCons (bVar 9) (bCons (bVar 5) bNil))))))) sSkip))
noncomputable def deedU : Sx := (sSeq (sAssign (bWith f__law_one (bCons (bVar 0) (bCons (bLst (bCons (bTup (bCons (bVal (V.str [109])) (bCons (bVar 6) bNil))) (bCons (bTup (bCons (bVar 6) bNil)) (bCons (bTup (bCons (bVal (V.str [115, 117, 112, 101, 114])) bNil)) (bCons (bTup (bCons (bVal (V.str [65])) (bCons (bVal (V.str [66])) bNil))) bNil))))) bNil))) (tName 9)) (sSeq (sRet (bWith f__law_use_right (bCons (bVar 1) (bCons (bVar 2) (bCons (bVar 4) (bCons (bTup (bCons (bVar 9) (bCons (bWith f__law_one (bCons (bVar 0) (bCons (bLst (bCons (bVal V.none) (bCons (bVal (V.str [66])) (bCons (bVal (V.str [81])) bNil)))) bNil))) (bCons (bVar 7) (bCons (bVar 5) bNil))))) bNil)))))) sSkip))
noncomputable def f_deed2 : List V → Hp → Out V := runF 3 7 (sSeq (sSwap (bTup (bCons (bWith f__law_take (bCons (bVar 0) (bCons (bVal (V.int 4)) bNil))) (bCons (bWith f__law_one (bCons (bVar 0) (bCons (bLst (bCons (bVal (V.str [])) (bCons (bVal (V.str [109])) bNil))) bNil))) (bCons (bWith f__law_take (bCons (bVar 0) (bCons (bVal (V.int 99)) bNil))) bNil)))) 3 (tCons (tName 5) (tCons (tName 4) (tCons (tName 3) tNil)))) (sSeq (sSwap (bTup (bCons (bWith f__law_one (bCons (bVar 0) (bCons (bLst (bCons (bVal (V.str [65])) (bCons (bVal (V.str [66])) (bCons (bVal (V.str [109])) (bCons (bVal (V.str [117, 56])) (bCons (bVal (V.str [67])) bNil)))))) bNil))) (bCons (bOp2 vEqO (bWith f__law_take (bCons (bVar 0) (bCons (bVal (V.int 2)) bNil))) (bVal (V.int 0))) bNil))) 2 (tCons (tName 7) (tCons (tName 6) tNil))) (sSeq (bIf (bOp2 (boolG vLt) (bVar 3) (bVal (V.int 2))) deedT sSkip) (sSeq (bIf (bOp2 (boolG vEqO) (bVar 3) (bVal (V.int 2))) deedV sSkip) deedU))))
theorem eq_f_deed2 : f__law_deed_right = f_deed2 := rfl
inductive TakeY (k : Nat) (m : Bool) (y : Yd) (top : Int) : Prop
  | mk (j : Int) (y1 : Yd) : 0 ≤ j → j < top → Gd k y1 → f__law_take [.ref 0, .int top] (W m y.w) = .ok (.int j) (W m y1.w) → TakeY k m y top
inductive OneY (k : Nat) (m : Bool) (y : Yd) (vs : List V) : Prop
  | mk (v : V) (y1 : Yd) : v ∈ vs → Gd k y1 → f__law_one [.ref 0, .lst vs] (W m y.w) = .ok v (W m y1.w) → OneY k m y vs
theorem take_y {k : Nat} (m : Bool) {y : Yd} (gd : Gd k y) (top : Int) (h0 : 0 < top) (h1 : top < 200) : TakeY k m y top :=
  let ⟨j, _, _, a, b, c, e⟩ := take_at m y.w top h0 h1 gd.qs
  .mk j _ a b (gd.src c) e
theorem one_y {k : Nat} (m : Bool) {y : Yd} (gd : Gd k y) (vs : List V) (h0 : 0 < vs.length) (h1 : vs.length < 200) : OneY k m y vs :=
  let ⟨v, _, _, a, c, e⟩ := one_at m y.w vs h0 h1 gd.qs
  .mk v _ a (gd.src c) e
theorem gen_of {v : V} (h : v ∈ ([.tup [.tup [], .tup []], .tup [.tup [.str [39, 97]], .tup [.tup [.str [84], .tup []]]], .tup [.tup [], .tup [.tup [.str [84], .tup []], .tup [.str [85], .tup []]]]] : List V)) : ∃ g r, v = .tup g ∧ Gen g r := by
  simp only [List.mem_cons, List.not_mem_nil, or_false] at h
  rcases h with rfl | rfl | rfl
  · exact ⟨_, _, rfl, .a⟩
  · exact ⟨_, _, rfl, .b⟩
  · exact ⟨_, _, rfl, .c⟩
theorem str_of {v : V} {l : List Tx} (h : v ∈ l.map V.str) : ∃ t ∈ l, v = .str t := by
  obtain ⟨t, ht, e⟩ := List.mem_map.mp h
  exact ⟨t, ht, e.symm⟩
theorem sp_of {v : V} (h : v ∈ [V.tup [.str [116, 121, 112, 101]], .tup [.str [116, 121, 112, 101], .str [118, 97, 108, 117, 101]], .tup [.str [118, 97, 108, 117, 101]]]) : ∃ sp tx ht hv, v = .tup sp ∧ Sp sp tx ht hv := by
  simp only [List.mem_cons, List.not_mem_nil, or_false] at h
  rcases h with rfl | rfl | rfl
  · exact ⟨_, _, _, _, rfl, .t⟩
  · exact ⟨_, _, _, _, rfl, .tv⟩
  · exact ⟨_, _, _, _, rfl, .v⟩
theorem item_y {k : Nat} (m : Bool) (y : Yd) (gd : Gd k y) (n : Tx) (i : Int) : ∃ t g r y2, Gd k y2 ∧ Gen g r ∧ f__law_item [.ref 0, .str n, .int i] (W m y.w) = .ok (.tup [.str t, .int i, .str n, .tup g, .tup [], .bool true]) (W m y2.w) := by
  obtain ⟨v, y1, hv, gd1, e1⟩ := one_y m gd [.str [115, 116, 114, 117, 99, 116], .str [101, 110, 117, 109], .str [116, 114, 97, 105, 116]] (by decide) (by decide)
  obtain ⟨gv, y2, hg, gd2, e2⟩ := one_y m gd1 [.tup [.tup [], .tup []], .tup [.tup [.str [39, 97]], .tup [.tup [.str [84], .tup []]]], .tup [.tup [], .tup [.tup [.str [84], .tup []], .tup [.str [85], .tup []]]]] (by decide) (by decide)
  obtain ⟨t, _, rfl⟩ := str_of (l := [[115, 116, 114, 117, 99, 116], [101, 110, 117, 109], [116, 114, 97, 105, 116]]) hv
  obtain ⟨g, r, rfl, hr⟩ := gen_of hg
  refine ⟨t, g, r, y2, gd2, hr, ?_⟩
  clear gd gd1 gd2 hv hg hr
  unfold f__law_item
  exact Eq.trans (r_run rfl (s_seq (s_assign (e_with (e_cons (e_var rfl) (e_cons (e_lst (e_cons e_val (e_cons e_val (e_cons e_val e_nil))) rfl) e_nil)) e1) (t_name rfl)) (o_next (s_seq (s_assign (e_with (e_cons (e_var rfl) (e_cons (e_lst (e_cons (e_tup (e_cons (e_tup e_nil rfl) (e_cons (e_tup e_nil rfl) e_nil)) rfl) (e_cons (e_tup (e_cons (e_tup (e_cons e_val e_nil) rfl) (e_cons (e_tup (e_cons (e_tup (e_cons e_val (e_cons (e_tup e_nil rfl) e_nil)) rfl) e_nil) rfl) e_nil)) rfl) (e_cons (e_tup (e_cons (e_tup e_nil rfl) (e_cons (e_tup (e_cons (e_tup (e_cons e_val (e_cons (e_tup e_nil rfl) e_nil)) rfl) (e_cons (e_tup (e_cons e_val (e_cons (e_tup e_nil rfl) e_nil)) rfl) e_nil)) rfl) e_nil)) rfl) e_nil))) rfl) e_nil)) e2) (t_name rfl)) (o_next (s_seq (s_ret (e_tup (e_cons (e_var rfl) (e_cons (e_var rfl) (e_cons (e_var rfl) (e_cons (e_var rfl) (e_cons (e_tup e_nil rfl) (e_cons e_val e_nil)))))) rfl) re_ok) o_ret))))) r_ret) rfl
structure Drawn (n : Tx) : Prop where
  len : n.length ≤ 100
  nm : ∃ b, Nm n b
  nw : ∃ w, Nw n w
  e0 : ∀ m, txEq (jn (mn m) n) [] = false
theorem drawn {n : Tx} (h : n ∈ ([[65], [66], [109], [117, 56], [67]] : List Tx)) : Drawn n := by
  simp only [List.mem_cons, List.not_mem_nil, or_false] at h
  rcases h with rfl | rfl | rfl | rfl | rfl
  · exact ⟨by decide, ⟨false, by decide, by decide, by decide⟩, ⟨false, ⟨by decide⟩⟩, fun m => by cases m <;> decide⟩
  · exact ⟨by decide, ⟨false, by decide, by decide, by decide⟩, ⟨false, ⟨by decide⟩⟩, fun m => by cases m <;> decide⟩
  · exact ⟨by decide, ⟨false, by decide, by decide, by decide⟩, ⟨false, ⟨by decide⟩⟩, fun m => by cases m <;> decide⟩
  · exact ⟨by decide, ⟨true, by decide, by decide, by decide⟩, ⟨false, ⟨by decide⟩⟩, fun m => by cases m <;> decide⟩
  · exact ⟨by decide, ⟨false, by decide, by decide, by decide⟩, ⟨false, ⟨by decide⟩⟩, fun m => by cases m <;> decide⟩
theorem un_of {n : Tx} (d : Drawn n) {v a : V} (hv : v ∈ [V.tup [.str [109], .str n], .tup [.str n], .tup [.str [115, 117, 112, 101, 114]], .tup [.str [65], .str [66]]]) (ha : a ∈ [V.none, .str [66], .str [81]]) : ∃ ns z b w, v = .tup ns ∧ Un ns a z ∧ vsEq (vEq 7) ns ns = true ∧ Nm z b ∧ Nw z w := by
  obtain ⟨b, hb⟩ := d.nm
  obtain ⟨w, hw⟩ := d.nw
  have h1 : ∃ ns z b w, v = .tup ns ∧ vIdx ns (-1) = some (.str z) ∧ vsEq (vEq 7) ns ns = true ∧ Nm z b ∧ Nw z w := by
    simp only [List.mem_cons, List.not_mem_nil, or_false] at hv
    rcases hv with rfl | rfl | rfl | rfl
    · exact ⟨_, n, b, w, rfl, rfl, by show (true && (txEq n n && true)) = true; rw [txEq_self]; rfl, hb, hw⟩
    · exact ⟨_, n, b, w, rfl, rfl, by show (txEq n n && true) = true; rw [txEq_self]; rfl, hb, hw⟩
    · exact ⟨_, [115, 117, 112, 101, 114], false, true, rfl, rfl, by decide, ⟨by decide, by decide, by decide⟩, ⟨by decide⟩⟩
    · exact ⟨_, [66], false, false, rfl, rfl, by decide, ⟨by decide, by decide, by decide⟩, ⟨by decide⟩⟩
  obtain ⟨ns, z, b, w, e, e1, e2, e3, e4⟩ := h1
  simp only [List.mem_cons, List.not_mem_nil, or_false] at ha
  rcases ha with rfl | rfl | rfl
  · exact ⟨ns, z, b, w, e, .last e1, e2, e3, e4⟩
  · exact ⟨ns, _, false, false, e, .str ns _, e2, ⟨by decide, by decide, by decide⟩, ⟨by decide⟩⟩
  · exact ⟨ns, _, false, false, e, .str ns _, e2, ⟨by decide, by decide, by decide⟩, ⟨by decide⟩⟩
theorem deedT_at {k : Nat} (m : Bool) (y : Yd) (gd : Gd k y) (hk : k ≤ 50) (way : V) (i : Int) (n : Tx) {b : Bool} (h : Nm n b) (pub : Bool) : ∃ y2 r2, Gd (k + 3) y2 ∧ deedT [some (.ref 0), some (.ref 2), some (.tup [.ref 20, .ref 29, .ref 30, .ref 31, .ref 32]), some way, some (.str (mn m)), some (.int i), some (.str n), some (.bool pub), none, none] (W m y.w) = .ok (.ret (.bool true), r2) (W m y2.w) := by
  obtain ⟨v, y0, hv, gd0, e1⟩ := one_y m gd [.tup [.str [116, 121, 112, 101]], .tup [.str [116, 121, 112, 101], .str [118, 97, 108, 117, 101]], .tup [.str [118, 97, 108, 117, 101]]] (by decide) (by decide)
  obtain ⟨t, g, r, y1, gd1, hg, e2⟩ := item_y m y0 gd0 n i
  obtain ⟨sp, tx, ht, hv, rfl, hs⟩ := sp_of hv
  obtain ⟨y2, gd2, e3⟩ := ty_at m y1 gd1 hk n t h hg hs i pub
  refine ⟨y2, [some (.ref 0), some (.ref 2), some (.tup [.ref 20, .ref 29, .ref 30, .ref 31, .ref 32]), some way, some (.str (mn m)), some (.int i), some (.str n), some (.bool pub), some (.tup sp), none], gd2.mono (by omega), ?_⟩
  clear gd gd0 gd1 gd2 h hg hs
  unfold deedT
  exact Eq.trans (s_seq (s_assign (e_with (e_cons (e_var rfl) (e_cons (e_lst (e_cons (e_tup (e_cons e_val e_nil) rfl) (e_cons (e_tup (e_cons e_val (e_cons e_val e_nil)) rfl) (e_cons (e_tup (e_cons e_val e_nil) rfl) e_nil))) rfl) e_nil)) e1) (t_name rfl)) (o_next (s_seq (s_ret (e_with (e_cons (e_var rfl) (e_cons (e_var rfl) (e_cons (e_var rfl) (e_cons (e_with (e_cons (e_var rfl) (e_cons (e_var rfl) (e_cons (e_var rfl) e_nil))) e2) (e_cons (e_var rfl) (e_cons (e_var rfl) e_nil)))))) e3) re_ok) o_ret))) rfl
theorem dvComp_m {k : Nat} (m : Bool) : ∀ (l : List V) (y : Yd), Gd k y → ∀ (acc : List V), ∃ (ms : List Tx) (y2 : Yd), ms.length = l.length ∧ (∀ n ∈ ms, n.length ≤ 100) ∧ Gd k y2 ∧ compM bdName [some (.ref 0)] bTrue dvElt l acc (W m y.w) = some (acc ++ ms.map V.str, W m y2.w)
  | [], y, g, acc => ⟨[], y, rfl, fun _ h => (nomatch h), g, by rw [List.map_nil, List.append_nil]; rfl⟩
  | u :: l, y, g, acc => by
    obtain ⟨v, y1, hv, g1, e1⟩ := one_y m g [.str [65], .str [66], .str [86]] (by decide) (by decide)
    obtain ⟨t, ht, rfl⟩ := str_of (l := [[65], [66], [86]]) hv
    obtain ⟨ms, y2, h1, h2, h3, h4⟩ := dvComp_m m l y1 g1 (acc ++ [.str t])
    have hl : t.length ≤ 100 := by
      simp only [List.mem_cons, List.not_mem_nil, or_false] at ht
      rcases ht with rfl | rfl | rfl <;> decide
    have e2 : dvElt [some u, some (.ref 0)] (W m y.w) = .ok (.str t) (W m y1.w) := e1
    refine ⟨t :: ms, y2, congrArg Nat.succ h1, fun n hn => by rcases List.mem_cons.mp hn with rfl | hn; exact hl; exact h2 n hn, h3, ?_⟩
    show (match dvElt [some u, some (.ref 0)] (W m y.w) with | .ok v H2 => compM bdName [some (.ref 0)] bTrue dvElt l (acc ++ [v]) H2 | _ => none) = _
    rw [e2]
    show compM bdName [some (.ref 0)] bTrue dvElt l (acc ++ [.str t]) (W m y1.w) = _
    rw [h4, List.append_assoc]
    rfl
theorem dvComp_at {k : Nat} (m : Bool) (y : Yd) (gd : Gd k y) (ρ : Rho) (h0 : ρ[0]? = some (some (.ref 0))) : ∃ (ms : List Tx) (y2 : Yd), ms.length ≤ 3 ∧ (∀ n ∈ ms, n.length ≤ 100) ∧ Gd k y2 ∧ dvComp ρ (W m y.w) = .ok (.lst (ms.map V.str)) (W m y2.w) := by
  obtain ⟨j, y1, j0, j1, g1, e1⟩ := take_y m gd 4 (by decide) (by decide)
  obtain ⟨j, rfl⟩ := Int.eq_ofNat_of_zero_le j0
  obtain ⟨ms, y2, h1, h2, h3, h4⟩ := dvComp_m m ((List.range j).map fun (j : Nat) => V.int (j : Int)) y1 g1 []
  rw [List.length_map, List.length_range] at h1
  refine ⟨ms, y2, by omega, h2, h3, ?_⟩
  have er : ∀ H, fRange [.int (j : Int)] H = .ok (.rng j) H := fun H => rfl
  have z1 : Nat.ble j 16384 = true := by rw [Nat.ble_eq]; omega
  have z2 : Nat.ble ((List.range j).map fun (j : Nat) => V.int (j : Int)).length 16384 = true := by rw [List.length_map, List.length_range]; exact z1
  have hc : capsOf [0] ρ = [some (.ref 0)] := by
    show [(ρ[0]?).join] = _
    rw [h0]; rfl
  rw [← hc] at h4
  have ei : ∀ H, itemsOf (.rng j) false H = some ((List.range j).map fun (j : Nat) => V.int (j : Int)) := fun H => if_pos z1
  clear gd g1 h1 h2 h3 j0 j1
  unfold dvComp
  exact e_comp (by rw [hc]; exact rf _) (e_with (e_cons (e_with (e_cons (e_var h0) (e_cons e_val e_nil)) e1) e_nil) (er _)) (ei _) z2 h4
theorem deedV_at {k : Nat} (m : Bool) (y : Yd) (gd : Gd k y) (hk : k ≤ 50) (way : V) (i : Int) (n : Tx) (d : Drawn n) (pub : Bool) : ∃ y2 r2, Gd (k + 3) y2 ∧ deedV [some (.ref 0), some (.ref 2), some (.tup [.ref 20, .ref 29, .ref 30, .ref 31, .ref 32]), some way, some (.str (mn m)), some (.int i), some (.str n), some (.bool pub), none, none] (W m y.w) = .ok (.ret (.bool true), r2) (W m y2.w) := by
  have jp := fun H => (jn_at m d.len H).2
  have jl : (jn (mn m) n).length ≤ 300 := by
    have := d.len
    have := mn_len m
    unfold jn
    split
    · omega
    · simp; omega
  obtain ⟨ms, y1, h1, h2, h3, e1⟩ := dvComp_at m y gd [some (.ref 0), some (.ref 2), some (.tup [.ref 20, .ref 29, .ref 30, .ref 31, .ref 32]), some way, some (.str (mn m)), some (.int i), some (.str n), some (.bool pub), none, none] rfl
  obtain ⟨y2, gd2, e2⟩ := var_at m y1 h3 hk (jn (mn m) n) i ms h1 (fun q hq => ⟨d.e0 m, jl, h2 q hq⟩)
  refine ⟨y2, [some (.ref 0), some (.ref 2), some (.tup [.ref 20, .ref 29, .ref 30, .ref 31, .ref 32]), some way, some (.str (mn m)), some (.int i), some (.str n), some (.bool pub), none, some (.lst (ms.map V.str))], gd2, ?_⟩
  clear gd h3 gd2 h1 h2 d jl
  unfold deedV
  exact Eq.trans (s_seq (s_assign e1 (t_name rfl)) (o_next (s_seq (s_ret (e_with (e_cons (e_var rfl) (e_cons (e_var rfl) (e_cons (e_with (e_cons (e_var rfl) (e_cons (e_var rfl) e_nil)) (jp _)) (e_cons (e_var rfl) (e_cons (e_var rfl) e_nil))))) e2) re_ok) o_ret))) rfl
theorem deedU_at {k : Nat} (m : Bool) (y : Yd) (gd : Gd k y) (hk : k ≤ 50) (way : V) (i : Int) (n : Tx) (d : Drawn n) (pub : Bool) : ∃ y2 r2, Gd (k + 3) y2 ∧ deedU [some (.ref 0), some (.ref 2), some (.tup [.ref 20, .ref 29, .ref 30, .ref 31, .ref 32]), some way, some (.str (mn m)), some (.int i), some (.str n), some (.bool pub), none, none] (W m y.w) = .ok (.ret (.bool true), r2) (W m y2.w) := by
  obtain ⟨v, y0, hv, gd0, e1⟩ := one_y m gd [.tup [.str [109], .str n], .tup [.str n], .tup [.str [115, 117, 112, 101, 114]], .tup [.str [65], .str [66]]] (Nat.zero_lt_succ _) (Nat.le_of_ble_eq_true rfl)
  obtain ⟨a, y1, ha, gd1, e2⟩ := one_y m gd0 [.none, .str [66], .str [81]] (by decide) (by decide)
  obtain ⟨ns, z, b, w, rfl, hu, he, hz, hw⟩ := un_of d hv ha
  obtain ⟨y2, gd2, e3⟩ := use_at m y1 gd1 hk z hz hw ns a hu he pub i
  refine ⟨y2, [some (.ref 0), some (.ref 2), some (.tup [.ref 20, .ref 29, .ref 30, .ref 31, .ref 32]), some way, some (.str (mn m)), some (.int i), some (.str n), some (.bool pub), none, some (.tup ns)], gd2.mono (by omega), ?_⟩
  clear gd gd0 gd1 gd2 d hu he hz hw hv ha
  unfold deedU
  exact Eq.trans (s_seq (s_assign (e_with (e_cons (e_var rfl) (e_cons (e_lst (e_cons (e_tup (e_cons e_val (e_cons (e_var rfl) e_nil)) rfl) (e_cons (e_tup (e_cons (e_var rfl) e_nil) rfl) (e_cons (e_tup (e_cons e_val e_nil) rfl) (e_cons (e_tup (e_cons e_val (e_cons e_val e_nil)) rfl) e_nil)))) rfl) e_nil)) e1) (t_name rfl)) (o_next (s_seq (s_ret (e_with (e_cons (e_var rfl) (e_cons (e_var rfl) (e_cons (e_var rfl) (e_cons (e_tup (e_cons (e_var rfl) (e_cons (e_with (e_cons (e_var rfl) (e_cons (e_lst (e_cons e_val (e_cons e_val (e_cons e_val e_nil))) rfl) e_nil)) e2) (e_cons (e_var rfl) (e_cons (e_var rfl) e_nil)))) rfl) e_nil)))) e3) re_ok) o_ret))) rfl
theorem turn_to {k : Nat} (m m' : Bool) (y : Yd) (gd : Gd k y) : ∃ y', Gd k y' ∧ W m y.w = W m' y'.w := by
  by_cases h : m = m'
  · subst h; exact ⟨y, gd, rfl⟩
  · refine ⟨y.swap, gd.swap, ?_⟩
    rw [W_swap m y]
    cases m <;> cases m' <;> first | rfl | exact absurd rfl h
theorem deed_at {k : Nat} (m0 : Bool) (y : Yd) (gd : Gd k y) (hk : k ≤ 50) : ∃ y2, Gd (k + 3) y2 ∧ f__law_deed_right [.ref 0, .ref 2, .tup [.ref 20, .ref 29, .ref 30, .ref 31, .ref 32]] (W m0 y.w) = .ok (.bool true) (W m0 y2.w) := by
  obtain ⟨way, y1, w0, w1, g1, e1⟩ := take_y m0 gd 4 (by decide) (by decide)
  obtain ⟨mo, y2, hm, g2, e2⟩ := one_y m0 g1 [.str [], .str [109]] (by decide) (by decide)
  obtain ⟨i, y3, _, _, g3, e3⟩ := take_y m0 g2 99 (by decide) (by decide)
  obtain ⟨nv, y4, hn, g4, e4⟩ := one_y m0 g3 [.str [65], .str [66], .str [109], .str [117, 56], .str [67]] (by decide) (by decide)
  obtain ⟨pb_, y5, _, _, gd5, e5⟩ := take_y m0 g4 2 (by decide) (by decide)
  obtain ⟨n, hn2, rfl⟩ := str_of (l := [[65], [66], [109], [117, 56], [67]]) hn
  have d := drawn hn2
  obtain ⟨m, rfl⟩ : ∃ m, mo = .str (mn m) := by
    simp only [List.mem_cons, List.not_mem_nil, or_false] at hm
    rcases hm with rfl | rfl
    · exact ⟨false, rfl⟩
    · exact ⟨true, rfl⟩
  obtain ⟨z5, gd6, hy⟩ := turn_to m0 m _ gd5
  rw [hy] at e5
  clear gd gd5 hn hn2 hm hy g1 g2 g3 g4
  obtain ⟨b, hb⟩ := d.nm
  obtain ⟨y6, r6, gd7, ew⟩ : ∃ y6 r6, Gd (k + 3) y6 ∧ (if decide (way < 2) then deedT else if way == 2 then deedV else deedU) (let i := i; let way := V.int way; let pub := (pb_ == 0); [some (.ref 0), some (.ref 2), some (.tup [.ref 20, .ref 29, .ref 30, .ref 31, .ref 32]), some way, some (.str (mn m)), some (.int i), some (.str n), some (.bool pub), none, none]) (W m z5.w) = .ok (.ret (.bool true), r6) (W m y6.w) := by
    by_cases h1 : way < 2
    · rw [if_pos (decide_eq_true h1)]; exact deedT_at m z5 gd6 hk _ i n hb _
    · rw [if_neg (by rw [decide_eq_true_iff]; exact h1)]
      by_cases h2 : (way == 2) = true
      · rw [if_pos h2]; exact deedV_at m z5 gd6 hk _ i n d _
      · rw [if_neg h2]; exact deedU_at m z5 gd6 hk _ i n d _
  obtain ⟨y7, gd8, hy⟩ := turn_to m m0 _ gd7
  rw [hy] at ew
  refine ⟨y7, gd8, ?_⟩
  clear gd6 gd7 gd8 d hb hy w0 w1
  rw [eq_f_deed2]
  unfold f_deed2
  revert ew
  cases h1 : decide (way < 2)
  · cases h2 : (way == 2)
    · intro ew
      simp only [if_true, if_false, Bool.false_eq_true] at ew
      exact Eq.trans (r_run rfl (s_seq (s_swap3 (e_tup (e_cons (e_with (e_cons (e_var rfl) (e_cons e_val e_nil)) e1) (e_cons (e_with (e_cons (e_var rfl) (e_cons (e_lst (e_cons e_val (e_cons e_val e_nil)) rfl) e_nil)) e2) (e_cons (e_with (e_cons (e_var rfl) (e_cons e_val e_nil)) e3) e_nil))) rfl) (t_cons (t_name rfl) (t_cons (t_name rfl) (t_cons (t_name rfl) t_nil)))) (o_next (s_seq (s_swap2 (e_tup (e_cons (e_with (e_cons (e_var rfl) (e_cons (e_lst (e_cons e_val (e_cons e_val (e_cons e_val (e_cons e_val (e_cons e_val e_nil))))) rfl) e_nil)) e4) (e_cons (e_op2 (e_with (e_cons (e_var rfl) (e_cons e_val e_nil)) e5) e_val (q_eq c_i)) e_nil)) rfl) (t_cons (t_name rfl) (t_cons (t_name rfl) t_nil))) (o_next (s_seq (e_if (e_op2 (e_var rfl) e_val (e_boolG rfl)) (ifO_f h1 s_skip)) (o_next (s_seq (e_if (e_op2 (e_var rfl) e_val (e_boolG (q_eq c_i))) (ifO_f h2 s_skip)) (o_next ew)))))))) r_ret) rfl
    · intro ew
      simp only [if_true, if_false, Bool.false_eq_true] at ew
      exact Eq.trans (r_run rfl (s_seq (s_swap3 (e_tup (e_cons (e_with (e_cons (e_var rfl) (e_cons e_val e_nil)) e1) (e_cons (e_with (e_cons (e_var rfl) (e_cons (e_lst (e_cons e_val (e_cons e_val e_nil)) rfl) e_nil)) e2) (e_cons (e_with (e_cons (e_var rfl) (e_cons e_val e_nil)) e3) e_nil))) rfl) (t_cons (t_name rfl) (t_cons (t_name rfl) (t_cons (t_name rfl) t_nil)))) (o_next (s_seq (s_swap2 (e_tup (e_cons (e_with (e_cons (e_var rfl) (e_cons (e_lst (e_cons e_val (e_cons e_val (e_cons e_val (e_cons e_val (e_cons e_val e_nil))))) rfl) e_nil)) e4) (e_cons (e_op2 (e_with (e_cons (e_var rfl) (e_cons e_val e_nil)) e5) e_val (q_eq c_i)) e_nil)) rfl) (t_cons (t_name rfl) (t_cons (t_name rfl) t_nil))) (o_next (s_seq (e_if (e_op2 (e_var rfl) e_val (e_boolG rfl)) (ifO_f h1 s_skip)) (o_next (s_seq (e_if (e_op2 (e_var rfl) e_val (e_boolG (q_eq c_i))) (ifO_t h2 ew)) o_ret))))))) r_ret) rfl
  · intro ew
    simp only [if_true] at ew
    exact Eq.trans (r_run rfl (s_seq (s_swap3 (e_tup (e_cons (e_with (e_cons (e_var rfl) (e_cons e_val e_nil)) e1) (e_cons (e_with (e_cons (e_var rfl) (e_cons (e_lst (e_cons e_val (e_cons e_val e_nil)) rfl) e_nil)) e2) (e_cons (e_with (e_cons (e_var rfl) (e_cons e_val e_nil)) e3) e_nil))) rfl) (t_cons (t_name rfl) (t_cons (t_name rfl) (t_cons (t_name rfl) t_nil)))) (o_next (s_seq (s_swap2 (e_tup (e_cons (e_with (e_cons (e_var rfl) (e_cons (e_lst (e_cons e_val (e_cons e_val (e_cons e_val (e_cons e_val (e_cons e_val e_nil))))) rfl) e_nil)) e4) (e_cons (e_op2 (e_with (e_cons (e_var rfl) (e_cons e_val e_nil)) e5) e_val (q_eq c_i)) e_nil)) rfl) (t_cons (t_name rfl) (t_cons (t_name rfl) t_nil))) (o_next (s_seq (e_if (e_op2 (e_var rfl) e_val (e_boolG rfl)) (ifO_t h1 ew)) o_ret))))) r_ret) rfl
noncomputable def lawBody : Sx := (sSeq (bIf (bNotT (bTest (bWith f__law_deed_right (bCons (bVar 1) (bCons (bVar 2) (bCons (bVar 3) bNil)))))) (sSeq (sRet (bVal (V.bool false))) sSkip) sSkip) sSkip)
noncomputable def f_law2 : List V → Hp → Out V := runF 1 5 (sSeq (bIf (bNotT (bTest (bWith (isoF f__law_told_right) bNil))) (sSeq (sRet (bVal (V.bool false))) sSkip) sSkip) (sSeq (sSwap (bTup (bCons (bWith f__law_pool (bCons (bVar 0) bNil)) (bCons (bWith f__law_modules bNil) (bCons (bWith f__law_book bNil) bNil)))) 3 (tCons (tName 3) (tCons (tName 2) (tCons (tName 1) tNil)))) (sSeq (sFor false (bWith fRange (bCons (bOp2 vAdd (bVal (V.int 6)) (bWith f__law_take (bCons (bVar 1) (bCons (bVal (V.int 4)) bNil)))) bNil)) (tName 4) lawBody) (sSeq (sAssign (bWith f__law_one (bCons (bVar 1) (bCons (bLst (bCons (bVal (V.int 0)) (bCons (bVal (V.int 0)) (bCons (bVal (V.int 25)) (bCons (bVal (V.int 28)) (bCons (bVal (V.int 29)) (bCons (bVal (V.int 30)) bNil))))))) bNil))) (tName 5)) (sSeq (sRet (bWith (isoF f__law_chain_right) (bCons (bOp2 vAdd (bVal (V.int 1)) (bWith f__law_take (bCons (bVar 1) (bCons (bVal (V.int 5)) bNil)))) (bCons (bWith f__law_take (bCons (bVar 1) (bCons (bVal (V.int 3)) bNil))) (bCons (bWith f__law_one (bCons (bVar 1) (bCons (bLst (bCons (bVal (V.str [116, 121, 112, 101])) (bCons (bVal (V.str [118, 97, 108, 117, 101])) bNil))) bNil))) (bCons (bVar 5) bNil)))))) sSkip)))))
theorem eq_f_law2 : f_law = f_law2 := rfl
noncomputable def Y0 (p q : Int) : Yd := { p := p, q := q, kd := [([], .str [109, 111, 100]), ([109], .str [109, 111, 100])], pb := [([], .bool true), ([109], .bool true)], ty := [([109], .str [109])], va := [], us := [], gn := [], it := [], ty1 := [], va1 := [], us1 := [], bu := [], bu1 := [] }
theorem Y0_ok (p q : Int) (h : Qs q) : Gd 2 (Y0 p q) := by
  constructor <;> first | exact h | exact ⟨rfl, Nat.le_of_ble_eq_true rfl⟩ | exact ⟨.nil, Nat.le_of_ble_eq_true rfl⟩
theorem setup (p q : Int) : f__law_modules [] [.list [.int p, .int q]] = .ok (.ref 2) ((W false (Y0 p q).w).take 20) ∧ f__law_book [] ((W false (Y0 p q).w).take 20) = .ok (.tup [.ref 20, .ref 29, .ref 30, .ref 31, .ref 32]) (W false (Y0 p q).w) := ⟨by kernel_rfl, by kernel_rfl⟩
theorem law_body (v0 : V) {k : Nat} (y : Yd) (gd : Gd k y) (hk : k ≤ 50) (u : V) (r : Option V) : ∃ y2, Gd (k + 3) y2 ∧ lawBody [some v0, some (.ref 0), some (.ref 2), some (.tup [.ref 20, .ref 29, .ref 30, .ref 31, .ref 32]), some u, r] (W false y.w) = .ok (.next, [some v0, some (.ref 0), some (.ref 2), some (.tup [.ref 20, .ref 29, .ref 30, .ref 31, .ref 32]), some u, r]) (W false y2.w) := by
  obtain ⟨y2, gd2, e⟩ := deed_at false y gd hk
  refine ⟨y2, gd2, ?_⟩
  clear gd gd2
  unfold lawBody
  exact Eq.trans (s_seq (e_if (e_notT (e_test (e_with (e_cons (e_var rfl) (e_cons (e_var rfl) (e_cons (e_var rfl) e_nil))) e))) (ifO_f rfl s_skip)) (o_next s_skip)) rfl
theorem law_loop (v0 : V) (r : Option V) : ∀ (l : List V) {k : Nat} (y : Yd) (gd : Gd k y) (hk : k + 3 * l.length ≤ 53) (r4 : Option V), ∃ y2 s4, Gd (k + 3 * l.length) y2 ∧ forM (tName 4) lawBody l [some v0, some (.ref 0), some (.ref 2), some (.tup [.ref 20, .ref 29, .ref 30, .ref 31, .ref 32]), r4, r] (W false y.w) = .ok (.next, [some v0, some (.ref 0), some (.ref 2), some (.tup [.ref 20, .ref 29, .ref 30, .ref 31, .ref 32]), s4, r]) (W false y2.w)
  | [], k, y, gd, _, r4 => ⟨y, r4, gd, rfl⟩
  | u :: l, k, y, gd, hk, r4 => by
    rw [List.length_cons] at hk
    obtain ⟨y1, gd1, e1⟩ := law_body v0 y gd (by omega) u r
    obtain ⟨y2, s4, gd2, e2⟩ := law_loop v0 r l y1 gd1 (by omega) (some u)
    refine ⟨y2, s4, by rw [List.length_cons]; exact gd2.mono (by omega), ?_⟩
    show Out.bind (lawBody [some v0, some (.ref 0), some (.ref 2), some (.tup [.ref 20, .ref 29, .ref 30, .ref 31, .ref 32]), some u, r] (W false y.w)) _ = _
    rw [e1]
    exact e2
theorem vIdx_0 (a : V) (as : List V) : vIdx (a :: as) 0 = some a := by
  unfold vIdx
  have : seqIndex? 0 (a :: as).length = some 0 := by unfold seqIndex?; simp
  rw [this]; rfl
theorem e_lstM {es : Exs} {ρ : Rho} {H H1 : Hp} {vs : List V} (h1 : es ρ H = Out.ok vs H1) (hz : RF (Nat.ble vs.length 16384) true) : bLstM es ρ H = Out.ok (.ref H1.length) (H1 ++ [.list vs]) := by
  unfold bLstM; rw [h1]; exact if_pos hz
theorem pool_at (vs : List V) (h : vs = [] ∨ ∃ i r, vs = .int i :: r) : ∃ p q, Qs q ∧ f__law_pool [.lst vs] [] = .ok (.ref 0) [.list [.int p, .int q]] := by
  have hq : ∀ g : Int, Qs (((g.fmod 2147483629 + 17) * 48271).fmod 2147483647) := fun g => ⟨Int.fmod_nonneg_of_pos _ (by decide), Int.fmod_lt_of_pos _ (by decide)⟩
  rcases h with rfl | ⟨i, r, rfl⟩
  · exact ⟨0, ((0 : Int).fmod 2147483629 + 17) * 48271 |>.fmod 2147483647, hq 0, by kernel_rfl⟩
  · have e0 := vIdx_0 (.int i) r
    have b1 : ∀ c : Bool, decide (-4294967296 < (if c then (1 : Int) else 0)) = true := fun c => by cases c <;> rfl
    have b2 : ∀ c : Bool, decide ((if c then (1 : Int) else 0) < 4294967296) = true := fun c => by cases c <;> rfl
    exact ⟨_, _, hq _, r_run rfl (s_seq (s_assign (e_if (e_op2 (e_var rfl) (e_lst e_nil rfl) (e_boolG (q_ne rfl))) (ifO_t rfl (e_op2 (e_var rfl) e_val (g_l e0)))) (t_name rfl)) (o_next (s_seq (s_assign (e_with (e_cons (e_var rfl) (e_cons (e_op2 (e_op1 e_val rfl) (e_var rfl) rfl) e_nil)) rfl) (t_name rfl)) (o_next (s_seq (s_ret (e_lstM (e_cons (e_op2 (e_var rfl) (e_with (e_cons (e_op2 (e_var rfl) (e_op2 e_val e_val rfl) rfl) e_nil) rfl) (o_mul (b1 _) (b2 _))) (e_cons (e_op2 (e_op2 (e_op2 (e_op2 (e_var rfl) e_val (o_mod rfl)) e_val rfl) e_val (o_mul rfl rfl)) e_val (o_mod rfl)) e_nil)) rfl) re_ok) o_ret))))) r_ret⟩
theorem law_at (vs : List V) (h : vs = [] ∨ ∃ i r, vs = .int i :: r) : ∃ H, f_law [.lst vs] [] = .ok (.bool true) H := by
  obtain ⟨p, q, hq, ep⟩ := pool_at vs h
  clear h
  obtain ⟨em, eb⟩ := setup p q
  have gd := Y0_ok p q hq
  obtain ⟨k, y1, k0, k1, gd1, e1⟩ := take_y false gd 4 (by decide) (by decide)
  obtain ⟨j, rfl⟩ := Int.eq_ofNat_of_zero_le k0
  have er : ∀ H, fRange [.int (6 + (j : Int))] H = .ok (.rng (6 + j)) H := fun H => rfl
  have ei : ∀ H, itemsOf (.rng (6 + j)) false H = some ((List.range (6 + j)).map fun (j : Nat) => V.int (j : Int)) := fun H => by
    show (if Nat.ble (6 + j) 16384 then _ else none) = _
    rw [if_pos (by rw [Nat.ble_eq]; omega)]
  obtain ⟨y2, s4, gd2, e2⟩ := law_loop (.lst vs) none ((List.range (6 + j)).map fun (j : Nat) => V.int (j : Int)) _ gd1 (by rw [List.length_map, List.length_range]; omega) none
  obtain ⟨a, y3, ha, g3, e3⟩ := one_y false gd2 [.int 0, .int 0, .int 25, .int 28, .int 29, .int 30] (by decide) (by decide)
  obtain ⟨m, y4, m0, m1, g4, e4⟩ := take_y false g3 5 (by decide) (by decide)
  obtain ⟨w, y5, w0, w1, g5, e5⟩ := take_y false g4 3 (by decide) (by decide)
  obtain ⟨v, y6, hv, g6, e6⟩ := one_y false g5 [.str [116, 121, 112, 101], .str [118, 97, 108, 117, 101]] (by decide) (by decide)
  have ec := chain_ok (m := 1 + m) (by omega) (by omega) w0 w1 hv ha (W false y6.w)
  have et := told_ok
  refine ⟨W false y6.w, ?_⟩
  clear gd gd1 gd2 g3 g4 g5 g6 hq ha hv w0 w1 m0 m1 k0 k1
  rw [eq_f_law2]
  unfold f_law2
  exact r_run rfl (s_seq (e_if (e_notT (e_test (e_with e_nil (et _)))) (ifO_f rfl s_skip)) (o_next (s_seq (s_swap3 (e_tup (e_cons (e_with (e_cons (e_var rfl) e_nil) ep) (e_cons (e_with e_nil em) (e_cons (e_with e_nil eb) e_nil))) rfl) (t_cons (t_name rfl) (t_cons (t_name rfl) (t_cons (t_name rfl) t_nil)))) (o_next (s_seq (s_for (e_with (e_cons (e_op2 e_val (e_with (e_cons (e_var rfl) (e_cons e_val e_nil)) e1) a_ii) e_nil) (er _)) (ei _) e2) (o_next (s_seq (s_assign (e_with (e_cons (e_var rfl) (e_cons (e_lst (e_cons e_val (e_cons e_val (e_cons e_val (e_cons e_val (e_cons e_val (e_cons e_val e_nil)))))) rfl) e_nil)) e3) (t_name rfl)) (o_next (s_seq (s_ret (e_with (e_cons (e_op2 e_val (e_with (e_cons (e_var rfl) (e_cons e_val e_nil)) e4) a_ii) (e_cons (e_with (e_cons (e_var rfl) (e_cons e_val e_nil)) e5) (e_cons (e_with (e_cons (e_var rfl) (e_cons (e_lst (e_cons e_val (e_cons e_val e_nil)) rfl) e_nil)) e6) (e_cons (e_var rfl) e_nil)))) ec) re_ok) o_ret))))))))) r_ret
end

section
open PySem PySem.W PySem.Calls PyProof.Rows PySem.Spec
section
variable {h : Heap} {a : Addr} {its : Array Value} {n : Nat}
theorem aside_get {b : Addr} {o : Obj} (e : h.get? a = some (listOf its n)) (eb : h.get? b = some o) (hn : o ≠ listOf its n) : (h.hide a).get? b = some o := by
  by_cases q : b = a
  · subst q; rw [e] at eb; exact absurd (Option.some.inj eb).symm hn
  · rw [Heap.hide_ne _ q]; exact eb
theorem aside_ns {b : Addr} {mm : Str → Option Value} (e : h.get? a = some (listOf its n)) (x : h.Ns b mm) : (h.hide a).Ns b mm :=
  let ⟨o, es, ep, q, hd, r⟩ := x; ⟨o, es, ep, aside_get e q (fun k => by rw [k] at hd; cases hd), hd, r⟩
noncomputable def noLists (K : Frag) : Bool := K.all fun p => match p.2.data with
  | .seq _ _ => (match p.2.cls with | .type t => !(t == "list") | _ => true)
  | _ => true
theorem aside_K {K : Frag} (e : h.get? a = some (listOf its n)) (X : K.In h) (hK : noLists K = true) : K.In (h.hide a) := fun b o q => by
  refine aside_get e (X b o q) fun k => ?_
  have h2 := List.all_eq_true.mp hK (b, o) (mem_of_lookupK q)
  subst k
  exact absurd (show false = true from h2) Bool.false_ne_true
theorem aside_top {mean : ExcName → Option Value} {mg mb : Str → Option Value} {loose : List Str} (e : h.get? a = some (listOf its n)) (T : Top topProg loose mean mg mb h) : Top topProg loose mean mg mb (h.hide a) where
  g := aside_ns e T.g
  b := aside_ns e T.b
  nolimit := let ⟨mc, q, r⟩ := T.nolimit; ⟨mc, aside_ns e q, r⟩
  nodigits := let ⟨mc, q, r⟩ := T.nodigits; ⟨mc, aside_ns e q, r⟩
  fn := fun d hd => absurd (show d ∈ ([] : List DefRec) from hd) List.not_mem_nil
  own := fun o ho => absurd (show o ∈ ([] : List OwnSpec) from ho) List.not_mem_nil
  const := fun x d q => by cases (show (none : Option PyData) = some d from q)
  free := T.free
  builtins := T.builtins
  tab := fun d hd => absurd (show d ∈ ([] : List DefRec) from hd) List.not_mem_nil
  bmain := let ⟨bm, ob, a1, a2, a3, a4, r⟩ := T.bmain; ⟨bm, ob, a1, a2, aside_get e a3 (fun q => by rw [q] at a4; injection a4 with a4; exact absurd a4 (by decide)), a4, r⟩
  seer := fun q => absurd (show false = true from q) Bool.false_ne_true
end
theorem vrs_ints {w : World} {al : List Addr} {fz : Led} : ∀ {vs : List Value} {is : List Int}, IntsAre vs is → VRs w al fz (is.map V.int) vs
  | _, _, .nil => .nil
  | _, _, .cons i t h => .cons (.int i t) (vrs_ints h)
theorem law_end {w : World} {mean : ExcName → Option Value} {mg mb : Str → Option Value} {G h₁ : Heap} {L fa scr : Addr} {cd : Value} {vals : List Value} {is : List Int} {scope : Scope} {body : List Stmt} {e : Sx} {s : Shared} {Q E : Value → Shared → Prop}
    (X : (KF w).In G) (hK : noLists (KF w) = true) (T : TopX mean mg mb G) (F : Fr G L h₁ fun x => List.lookup x ([("script", Value.ref scr)] : List (Str × Value)).reverse) (N : News G L h₁ [(371, tabObj #[]), (352, tabObj #[]), (347, tabObj #[]), (342, tabObj #[])])
    (hs : G.get? scr = some (listOf vals.toArray 0)) (hi : IntsAre vals is) (hsh : s.heap = h₁)
    (hk : scope.kind = .function) (hcell : ∀ x ∈ scope.names, x.2 ≠ .cell) (hloc : scope.names.lookup ("script" : Str) = some .local)
    (hb : SSs ⟨([("script" : Str)] : List Str) ++ [("source" : Str), "modules", "whole", "turn", "ahead"], scope, false, false, none⟩ 155 body e) (he : f_law = runF 1 5 e)
    (ret : ∀ h' tk m', Fr G L h' m' → GrownAll [(373, 371), (356, 352), (349, 347), (344, 342)] h' → Q (.bool true) { s with heap := h', toks := tk }) :
    wpAny (model prog w) (callerA.deeper (envOf "law" scope L fa cd)) (execs body (envOf "law" scope L fa cd)) (fun fl s' => Q (match fl with | .ret v => v | _ => .none) s')
      (fun e s' => wpAny (model prog w) (callerA.deeper (envOf "law" scope L fa cd)) (leaving (envOf "law" scope L fa cd) e) (fun _ s'' => E e s'') (fun e' s'' => E e' s'') s') s := by
  subst hsh
  let g : Heap := G.hide scr
  let fm : Fm := ⟨w, mean, mg, mb, (callerA.deeper (envOf "law" scope L fa cd)).depth, (callerA.deeper (envOf "law" scope L fa cd)).units, some [], "law", scope, L, fa, cd, [], [], callerA, g, g, false, false⟩
  have ncell : ∀ y, scope.names.lookup y = some .cell → False := fun y h => by
    obtain ⟨l1, l2, q, _⟩ := List.lookup_eq_some_iff.mp h
    exact hcell (y, .cell) (by rw [q]; simp) rfl
  have ok : fm.Ok 155 := ⟨rfl, fun y h => (ncell y h).elim, fun _ _ _ h => by simp [fm] at h, hk, Nat.le_of_ble_eq_true rfl, Nat.le_of_ble_eq_true rfl, aside_K hs X hK, aside_top hs T⟩
  let x : St := ⟨g, fun x => List.lookup x ([("script", Value.ref scr)] : List (Str × Value)).reverse, [], [(371, tabObj #[]), (352, tabObj #[]), (347, tabObj #[]), (342, tabObj #[])], [], [(scr, listOf vals.toArray 0)]⟩
  have hne : ∀ p ∈ [(371, tabObj #[]), (352, tabObj #[]), (347, tabObj #[]), (342, tabObj #[])], p.1 ≠ scr := fun p hp q => by
    have := (N p hp).2.2
    rw [q, hs] at this; cases this
  have S : Std fm s.heap [] x := by
    refine ⟨below_caller g, Slip.refl, (fun q => by cases q), ⟨F.ns, fun b o q => F.keep b o (Heap.of_hide q), by show (G.hide scr).objs.size ≤ L; rw [Heap.hide_size]; exact F.above⟩, ?_, .nil, ?_, (by show ([371, 352, 347, 342] : List Addr).Nodup; decide), ?_, fun y c h => by simp [fm] at h⟩
    · intro p hp
      show s.heap.get? p.1 = some p.2 ∧ p.1 ≠ L ∧ (G.hide scr).get? p.1 = none
      rcases List.mem_append.mp (show p ∈ [(371, tabObj #[]), (352, tabObj #[]), (347, tabObj #[]), (342, tabObj #[])] ++ [(scr, listOf vals.toArray 0)] from hp) with hp | hp
      · obtain ⟨a, b, c⟩ := N p hp
        refine ⟨a, b, ?_⟩
        rw [Heap.hide_ne _ (hne p hp)]; exact c
      · cases List.mem_singleton.mp hp
        exact ⟨F.keep _ _ hs, Nat.ne_of_lt (Nat.lt_of_lt_of_le (Heap.lt_size hs) F.above), Heap.hide_self _ _⟩
    · exact .mk (.inl rfl) (.inl rfl) (.inl rfl) (.inl rfl)
    · intro p hp
      cases List.mem_singleton.mp (show p ∈ [(scr, listOf vals.toArray 0)] from hp)
      intro q
      obtain ⟨r, hr, hr2⟩ := List.mem_map.mp (show scr ∈ adr [(371, tabObj #[]), (352, tabObj #[]), (347, tabObj #[]), (342, tabObj #[])] from q)
      exact hne r hr hr2
  have Vs : Vars ⟨([("script" : Str)] : List Str) ++ [("source" : Str), "modules", "whole", "turn", "ahead"], scope, false, false, none⟩ fm fm.env x ([V.lst (is.map V.int)].map some ++ List.replicate 5 none) := fun i v hv => by
    have hv' := rho_at hv
    have hi0 : i = 0 := by
      have := (List.getElem?_eq_some_iff.mp hv').1
      simp at this; exact this
    subst hi0
    simp at hv'
    subst hv'
    exact ⟨"script", .ref scr, rfl, by decide, .lst (rs := vals) (n := 0) (List.mem_singleton.mpr rfl) (vrs_ints hi), .own hloc rfl rfl⟩
  obtain ⟨H, hl⟩ := law_at (is.map V.int) (by cases is with | nil => exact .inl rfl | cons i r => exact .inr ⟨i, _, rfl⟩)
  rw [he] at hl
  have hl' : retOf (e ([V.lst (is.map V.int)].map some ++ List.replicate 5 none) []) = .ok (.bool true) H := hl
  refine run_body (f := fm) (x := x) (ρ := [V.lst (is.map V.int)].map some ++ List.replicate 5 none) (H := []) (Q := Q) (E := E) hb ok ⟨rfl, rfl⟩ ⟨rfl, hk, rfl, rfl, rfl, fun p h => by cases h⟩ S Vs (by rw [hl']; exact fun h => nomatch h) (fun v H' rv h' tk x' e1 S2 X2 R2 => ?_) (fun m i H' ex d h' tk mu tb fz tm ti u1 u2 e1 R K X2 => by rw [hl'] at e1; cases e1)
  rw [hl'] at e1
  cases e1
  cases R2
  refine ret h' tk x'.m ⟨S2.fr.ns, fun b o q => ?_, F.above⟩ ?_
  · by_cases hb' : b = scr
    · subst hb'
      rw [hs] at q; cases q
      exact (S2.news _ (List.mem_append_right _ (List.mem_append_right _ (List.mem_append_right _ (X2.fz _ (List.mem_singleton.mpr rfl)))))).1
    · have q2 : g.get? b = some o := by show (G.hide scr).get? b = some o; rw [Heap.hide_ne _ hb']; exact q
      exact S2.fr.keep _ _ ((S2.slip b o q2).1 List.not_mem_nil)
  · have ht := S2.tabs
    have hn := S2.news
    revert hn ht
    obtain ⟨gc, m, mu, tb, cs, fz⟩ := x'
    intro ht hn
    cases ht
    have hm : ∀ p ∈ [((371 : Addr), _), (352, _), (347, _), (342, _)], _ := fun p hp => (hn p (List.mem_append_right _ (List.mem_append_left _ hp))).1
    exact ⟨⟨_, hm _ (.head _)⟩, ⟨_, hm _ (.tail _ (.head _))⟩, ⟨_, hm _ (.tail _ (.tail _ (.head _)))⟩, ⟨_, hm _ (.tail _ (.tail _ (.tail _ (.head _))))⟩, trivial⟩
end

section
open PySem PySem.W PySem.Calls PyProof.Rows PySem.Spec
set_option maxHeartbeats 80000000
set_option Elab.async true
noncomputable def all.tw4816591812421909578 : Unit := ()
noncomputable def all.tw1399157989116245608 : Unit := ()
noncomputable def all.tw3958980648795010626 : Unit := ()
noncomputable def all.tw14954329004993159738 : Unit := ()
noncomputable def all.tw13289136681917421035 : Unit := ()
noncomputable def all.tw14863821320635915521 : Unit := ()
noncomputable def all.tw7751002591441937111 : Unit := ()
noncomputable def all.tw6516445792741298881 : Unit := ()
noncomputable def all.tw9680300585179528380 : Unit := ()
noncomputable def all.tw6565056783665655123 : Unit := ()
noncomputable def all.tw3095843540009592770 : Unit := ()
noncomputable def all.tw5502097140378019596 : Unit := ()
noncomputable def all.tw16705698994222391396 : Unit := ()
noncomputable def all.tw4156143147478942181 : Unit := ()
noncomputable def all.tw15906484144062456574 : Unit := ()
noncomputable def all.tw16338265078025370772 : Unit := ()
noncomputable def all.tw1604050991321148793 : Unit := ()
noncomputable def all.tw4613487602407358717 : Unit := ()
noncomputable def all.tw6516363680345034613 : Unit := ()
noncomputable def all.tw8908958038130373740 : Unit := ()
noncomputable def all.tw5729048050466217705 : Unit := ()
noncomputable def all.tw7918374967389245632 : Unit := ()
noncomputable def all.tw5761313309558253367 : Unit := ()
noncomputable def all.tw7546461858588002845 : Unit := ()
noncomputable def all.tw2412950195513398651 : Unit := ()
noncomputable def all.tw13098716769926991806 : Unit := ()
noncomputable def all.tw5162543521180666497 : Unit := ()
noncomputable def all.tw9241353231930656577 : Unit := ()
noncomputable def all.tw11904431243951574334 : Unit := ()
noncomputable def all.tw14883968960377749705 : Unit := ()
noncomputable def all.tw1298631472846954095 : Unit := ()
noncomputable def all.tw11230645906715702508 : Unit := ()
noncomputable def all.tw18074533905802821072 : Unit := ()
noncomputable def all.tw888978351763286717 : Unit := ()
noncomputable def all.tw2000609977361463965 : Unit := ()
noncomputable def all.tw5217560924200664910 : Unit := ()
noncomputable def all.tw8678582069086723682 : Unit := ()
noncomputable def all.tw16985871876413990642 : Unit := ()
noncomputable def all.tw15158558636265767147 : Unit := ()
noncomputable def all.tw636524550079685631 : Unit := ()
noncomputable def all.tw11563076530477234726 : Unit := ()
noncomputable def all.tw12580110897883145167 : Unit := ()
noncomputable def all.tw525001674005675781 : Unit := ()
noncomputable def all.tw16400751074865733910 : Unit := ()
noncomputable def all.tw4831860214510110302 : Unit := ()
noncomputable def all.tw3894448302553291716 : Unit := ()
noncomputable def all.tw16740921855470316824 : Unit := ()
noncomputable def all.tw7686242042924871683 : Unit := ()
noncomputable def all.tw549974085012918235 : Unit := ()
noncomputable def all.tw7824222052329908659 : Unit := ()
noncomputable def all.tw5191467471856622273 : Unit := ()
noncomputable def all.tw13928513891281363954 : Unit := ()
noncomputable def all.tw11113120797386210373 : Unit := ()
noncomputable def all.tw1768962640154500726 : Unit := ()
noncomputable def all.tw17447734377096445370 : Unit := ()
noncomputable def all.tw3140866203998610647 : Unit := ()
noncomputable def all.tw5815207240830897808 : Unit := ()
noncomputable def all.tw9700507354520375304 : Unit := ()
noncomputable def all.tw11951307492845570281 : Unit := ()
noncomputable def all.tw8203446524507428889 : Unit := ()
noncomputable def all.tw10316705163991428254 : Unit := ()
noncomputable def all.tw15059917014629022394 : Unit := ()
noncomputable def all.tw11536802082511945804 : Unit := ()
noncomputable def all.tw13134017275888359689 : Unit := ()
noncomputable def all.tw1238725946784135233 : Unit := ()
noncomputable def all.tw16857469709051444266 : Unit := ()
noncomputable def all.tw18343157571677020557 : Unit := ()
noncomputable def all.tw1758426702102747128 : Unit := ()
noncomputable def all.tw6742200501135914891 : Unit := ()
noncomputable def all.tw9600454056292803967 : Unit := ()
noncomputable def all.tw18441473437031201941 : Unit := ()
noncomputable def all.tw17868972399638629225 : Unit := ()
noncomputable def all.tw596421839371371174 : Unit := ()
noncomputable def all.tw14647661154017913664 : Unit := ()
noncomputable def all.tw15242674970999812785 : Unit := ()
noncomputable def all.tw13900070722340429276 : Unit := ()
noncomputable def all.tw7673000382406722879 : Unit := ()
noncomputable def all.tw5440085390276978291 : Unit := ()
noncomputable def all.tw4382491568596388571 : Unit := ()
noncomputable def all.tw15651733941924773997 : Unit := ()
noncomputable def all.tw5884965284304258897 : Unit := ()
noncomputable def all.tw8909644736058714228 : Unit := ()
noncomputable def all.tw16694476904998839863 : Unit := ()
noncomputable def all.tw5044639097624668846 : Unit := ()
noncomputable def all.tw10130366669087276332 : Unit := ()
noncomputable def all.tw12381699962588209086 : Unit := ()
noncomputable def all.tw10636018739910865072 : Unit := ()
noncomputable def all.tw225468126006155290 : Unit := ()
noncomputable def all.tw2972125363121769464 : Unit := ()
noncomputable def all.tw14124840197023413450 : Unit := ()
noncomputable def all.tw12588980310967471357 : Unit := ()
noncomputable def all.tw5439016543574858206 : Unit := ()
noncomputable def all.tw4515135292898193881 : Unit := ()
noncomputable def all.tw16136937179128050694 : Unit := ()
noncomputable def all.tw17394647144938102915 : Unit := ()
noncomputable def all.tw10034031380863371641 : Unit := ()
noncomputable def all.tw18291108133853008933 : Unit := ()
noncomputable def all.tw10681620039792923934 : Unit := ()
noncomputable def all.tw9514876090768664877 : Unit := ()
noncomputable def all.tw15451204947285891726 : Unit := ()
noncomputable def all.tw5727973534668710794 : Unit := ()
noncomputable def all.tw898707613593260451 : Unit := ()
noncomputable def all.tw1694654335647164047 : Unit := ()
noncomputable def all.tw11784725038316003381 : Unit := ()
noncomputable def all.tw5657931515703916248 : Unit := ()
noncomputable def all.tw2286941943676669977 : Unit := ()
noncomputable def all.tw10252965763247687682 : Unit := ()
noncomputable def all.tw7619113539625694710 : Unit := ()
noncomputable def all.tw17106608494224303150 : Unit := ()
noncomputable def all.tw5187159431361770467 : Unit := ()
noncomputable def all.tw15176617289070330970 : Unit := ()
noncomputable def all.tw18068929663759586442 : Unit := ()
noncomputable def all.tw13930999109560414629 : Unit := ()
noncomputable def all.tw9592678889267232940 : Unit := ()
noncomputable def all.tw282994513109133150 : Unit := ()
noncomputable def all.tw10331167273965929257 : Unit := ()
noncomputable def all.tw15618092478124507917 : Unit := ()
noncomputable def all.tw8670540905479144303 : Unit := ()
noncomputable def all.tw13607757164722159089 : Unit := ()
noncomputable def all.tw4350801690150286559 : Unit := ()
noncomputable def all.tw6900727353157573822 : Unit := ()
noncomputable def all.tw11139934685464864865 : Unit := ()
noncomputable def all.tw12985212532813657682 : Unit := ()
noncomputable def all.tw11448872678469705673 : Unit := ()
noncomputable def all.tw9385597778382524922 : Unit := ()
noncomputable def all.tw16779862611959906862 : Unit := ()
noncomputable def all.tw5854907428364158380 : Unit := ()
noncomputable def all.tw15081044799308232511 : Unit := ()
noncomputable def all.tw13042374122123996364 : Unit := ()
noncomputable def all.tw9305783451064888827 : Unit := ()
noncomputable def all.tw16084742875079473383 : Unit := ()
noncomputable def all.tw9285670843845949155 : Unit := ()
noncomputable def all.tw14539000326390715668 : Unit := ()
noncomputable def all.tw18440353960458814819 : Unit := ()
noncomputable def all.tw3239841934065285509 : Unit := ()
noncomputable def all.tw15284455985751111415 : Unit := ()
noncomputable def all.tw13492395982464255480 : Unit := ()
noncomputable def all.tw13358604424828501309 : Unit := ()
noncomputable def all.tw2235618017368140517 : Unit := ()
noncomputable def all.tw4214497047443048748 : Unit := ()
noncomputable def all.tw44263415142174766 : Unit := ()
noncomputable def all.tw17259241986408110582 : Unit := ()
noncomputable def all.tw7317653850160689691 : Unit := ()
noncomputable def all.tw6393532188824929214 : Unit := ()
noncomputable def all.tw15766547542915688834 : Unit := ()
noncomputable def all.tw12981892083367582941 : Unit := ()
noncomputable def all.tw10793401674749092046 : Unit := ()
noncomputable def all.tw2479237469882504799 : Unit := ()
noncomputable def all.tw12428716410969305734 : Unit := ()
noncomputable def all.tw8316665608867782698 : Unit := ()
noncomputable def all.tw3443626597506986169 : Unit := ()
noncomputable def all.tw16665526110328478529 : Unit := ()
noncomputable def all.tw16838893715234930207 : Unit := ()
noncomputable def all.tw9111709882147129655 : Unit := ()
noncomputable def all.tw397829171339713761 : Unit := ()
noncomputable def all.tw5247617807198155932 : Unit := ()
noncomputable def all.tw8486076525276431931 : Unit := ()
noncomputable def all.tw11931918283646908614 : Unit := ()
noncomputable def all.tw12563031120210811263 : Unit := ()
noncomputable def all.tw15298119835317213847 : Unit := ()
noncomputable def all.tw17933553581876595578 : Unit := ()
noncomputable def all.tw3020832510069240704 : Unit := ()
noncomputable def all.tw12512054102949984058 : Unit := ()
noncomputable def all.tw13215351417096909983 : Unit := ()
noncomputable def all.tw29985565223642888 : Unit := ()
noncomputable def all.tw5002070824922625533 : Unit := ()
noncomputable def all.tw7654578318931278690 : Unit := ()
noncomputable def all.tw1088589479996732829 : Unit := ()
noncomputable def all.tw9609096358927944886 : Unit := ()
noncomputable def all.tw13057232943065969744 : Unit := ()
noncomputable def all.tw4338314545742005754 : Unit := ()
noncomputable def all.tw17772726858579744284 : Unit := ()
noncomputable def all.tw6946980451890315270 : Unit := ()
noncomputable def all.tw16288533217561068507 : Unit := ()
noncomputable def all.tw1963270939698246839 : Unit := ()
noncomputable def all.tw15968848678202421516 : Unit := ()
noncomputable def all.tw11051373392699811023 : Unit := ()
noncomputable def all.tw5377772837010204750 : Unit := ()
noncomputable def all.tw18120535436291149196 : Unit := ()
noncomputable def all.tw14832718209330476552 : Unit := ()
noncomputable def all.tw11158953913317867288 : Unit := ()
noncomputable def all.tw1639981616727947583 : Unit := ()
noncomputable def all.tw11120492362615346026 : Unit := ()
noncomputable def all.tw1352723322627576488 : Unit := ()
noncomputable def all.tw13132907815185506690 : Unit := ()
noncomputable def all.tw11639333894188339638 : Unit := ()
noncomputable def all.tw17846619120630023766 : Unit := ()
noncomputable def all.tw7062720368445256129 : Unit := ()
noncomputable def all.tw10389294372677164839 : Unit := ()
noncomputable def all.tw7238125184777875665 : Unit := ()
noncomputable def all.tw11375281295658956675 : Unit := ()
noncomputable def all.tw3301142437192073055 : Unit := ()
noncomputable def all.tw17314943208353570444 : Unit := ()
noncomputable def all.tw3448833343719912132 : Unit := ()
noncomputable def all.tw12304872625307995750 : Unit := ()
noncomputable def all.tw10600613889749566790 : Unit := ()
noncomputable def all.tw9351078540693612215 : Unit := ()
noncomputable def all.tw2496985677507960046 : Unit := ()
noncomputable def all.tw4302931102428780990 : Unit := ()
noncomputable def all.tw14953325984322379511 : Unit := ()
noncomputable def all.tw14899674885815798178 : Unit := ()
noncomputable def all.tw13283931332471535325 : Unit := ()
noncomputable def all.tw9900696922168193843 : Unit := ()
noncomputable def all.tw5689438673786977140 : Unit := ()
noncomputable def all.tw4818641064637329869 : Unit := ()
noncomputable def all.tw4814944892674192296 : Unit := ()
noncomputable def all.tw14523845485542788104 : Unit := ()
noncomputable def all.tw12447178028490564450 : Unit := ()
noncomputable def all.tw3855190133869164905 : Unit := ()
noncomputable def all.tw3108443244893856389 : Unit := ()
noncomputable def all.tw6635522753158126860 : Unit := ()
noncomputable def all.tw17800948086707717751 : Unit := ()
noncomputable def all.tw4049413732980777947 : Unit := ()
noncomputable def all.tw1717485560449817402 : Unit := ()
noncomputable def all.tw3212138956599988173 : Unit := ()
noncomputable def all.tw15902913901339227234 : Unit := ()
noncomputable def all.tw1216898108829112853 : Unit := ()
noncomputable def all.tw9833964599435250050 : Unit := ()
noncomputable def all.tw12803817524326497440 : Unit := ()
noncomputable def all.tw11990357761064164650 : Unit := ()
noncomputable def all.tw12071712058454129317 : Unit := ()
noncomputable def all.tw2316775634158704177 : Unit := ()
noncomputable def all.tw2613816272192447989 : Unit := ()
noncomputable def all.tw11931136993785318394 : Unit := ()
noncomputable def all.tw18003279642469066050 : Unit := ()
noncomputable def all.tw8711421783369662179 : Unit := ()
noncomputable def all.tw5927061715728957476 : Unit := ()
noncomputable def all.tw4645612490112672357 : Unit := ()
noncomputable def all.tw281770217567036725 : Unit := ()
noncomputable def all.tw18433079168191953831 : Unit := ()
noncomputable def all.tw4847766330237268548 : Unit := ()
noncomputable def all.tw16296590348105434372 : Unit := ()
noncomputable def all.tw6860577389561355601 : Unit := ()
noncomputable def all.tw13320810954380615167 : Unit := ()
noncomputable def all.tw2997595627926355555 : Unit := ()
noncomputable def all.tw11798761498685784450 : Unit := ()
noncomputable def all.tw14849280956162755979 : Unit := ()
noncomputable def all.tw9448091282758670523 : Unit := ()
noncomputable def all.tw15670805634923389295 : Unit := ()
noncomputable def all.tw15214423783382671123 : Unit := ()
noncomputable def all.tw4835796080096327916 : Unit := ()
noncomputable def all.tw68815829978753266 : Unit := ()
noncomputable def all.tw15105651507014581045 : Unit := ()
noncomputable def all.tw15151187641303801864 : Unit := ()
noncomputable def all.tw6674347012523051200 : Unit := ()
noncomputable def all.tw3788544764152331944 : Unit := ()
noncomputable def all.tw62474882234398736 : Unit := ()
noncomputable def all.tw8419203004499243131 : Unit := ()
noncomputable def all.tw16592893570014863828 : Unit := ()
theorem top_cast {l1 l2 : List Str} {mean : ExcName → Option Value} {mg mb : Str → Option Value} {h : Heap} (T : Top topProg l1 mean mg mb h) (e : (l1.all fun x => l2.contains x) = true) : Top topProg l2 mean mg mb h :=
  { T with free := fun x a b c d e2 => T.free x a (fun m => b (List.contains_iff_mem.mp (List.all_eq_true.mp e x m))) c d e2 }
theorem script_at {P : Params} {h : Heap} {tabs : List (Addr × Addr)} {scr : Addr} {vals : List Value} {xs : List WData} (hT : TabsAt tabs h) (hL : h.IsList scr vals.toArray) (wel : Well P h (.ref scr) (.list xs)) : (ghostOf h tabs).get? scr = some (listOf vals.toArray 0) := by
  obtain ⟨o, e, hc, n, hd⟩ := hL
  cases wel with
  | list e1 e2 =>
    rw [e] at e1
    cases e1
    cases hd
    exact ghost_get hT e (fun q => by injection q with q; cases q)
theorem all : PySem.Challenge.rw_xw0164_01.Holds := by
  w_on
  o_law
  o_head (kmHook KK [2, 3, 15, 17, 18, 20, 21, 22, 29, 30, 32, 33, 35, 36, 37, 38, 39, 40, 43, 50, 51, 52, 55, 62, 63, 64, 68, 69, 71, 72, 74, 75, 77, 78, 79, 81, 82, 84, 85, 86, 88, 89, 91, 92, 100, 102, 103, 105, 106, 107, 108, 109, 110, 111, 121, 123, 124, 126, 127, 128, 130, 131, 133, 134, 135, 138, 139, 140, 141, 142, 143, 144, 154, 156, 157, 159, 160, 161, 163, 164, 166, 167, 168, 170, 171, 173, 174, 175, 178, 179, 180, 182, 183, 185, 186, 187, 189, 190, 192, 193, 194, 196, 197, 199, 200, 201, 202, 204, 205, 207, 208, 209, 211, 212, 214, 215, 216, 218, 219, 221, 222, 223, 225, 226, 228, 229, 230, 232, 233, 235, 236, 237, 239, 240, 242, 243, 244, 245, 247, 248, 250, 251, 252, 254, 255, 257, 258, 259, 261, 262, 264, 265, 266, 268, 269, 271, 272, 273, 274, 275, 276, 277, 280, 282, 283, 285, 286, 287, 289, 290, 292, 293, 294, 296, 297, 299, 300, 301, 303, 304, 306, 307, 308, 310, 311, 313, 314, 315, 317, 318, 320, 321, 322, 324, 325, 327, 328, 329, 331, 332, 334, 335, 336, 339, 340, 341, 344, 345, 346, 349, 350, 351, 353, 354, 356, 357, 358, 360, 361, 363, 364, 365, 368, 369, 370, 373, 374, 375, 377, 378, 380, 381, 382, 384, 385, 387, 388] (fun _ => by kernel_rfl) [371, 352, 347, 342])
  case hw => w_witness2
  k_go0
  rename_i hg _ _ _ _ _ _ is hsh hlay0 hL1 hr1 hl2 w4 w3 scr vals w0 hL ra wel r0 hI hr hc1 hc2 hD h1 X' T' K' F' c3 c2 c1 N' l0
  refine' law_end (Q := fun v s' => GoodW _ _ _ _ _ (.ok (.ret v)) s' ∧ GrownAll [(373, 371), (356, 352), (349, 347), (344, 342)] s'.heap) (E := fun e s' => GoodW _ _ _ _ _ (.error e) s' ∧ GrownAll [(373, 371), (356, 352), (349, 347), (344, 342)] s'.heap) X' ?hK (top_cast T' (by kernel_rfl)) F' N' ?hs hI rfl rfl ?hcell rfl ?hb ?he ?ret
  case hK => kernel_rfl
  case hcell => decide
  case hs =>
    exact script_at (by assumption) hL wel
  case ret =>
    intro h' tk m' F2 G2
    refine ⟨goodW_bool F2 hg (raisesW_false ?_) ?_, G2⟩
    · wrow_none_raised
    · kc_post
  case he => exact rfl
  case hb =>
    refine' ss_cons ?_ ?_
    refine' ss_if ?_ ?_ ?_
    refine' sb_not ?_
    refine' sb_plain ?_ (by intro _; rfl)
    refine' se_callIso rfl rfl ⟨rfl, gl__law_told_right, rfl⟩ kp__law_told_right c__law_told_right (by first | decide | omega) ?_
    exact .nil
    refine' ss_cons ?_ ?_
    refine' ss_ret ?_
    exact se_bool
    exact ss_nil
    exact ss_nil
    refine' ss_cons ?_ ?_
    first | refine' ss_swap (names := ["source", "modules", "whole"]) ?_ (io_cons (ta_bind (show NameOk _ 3 "whole" from ⟨rfl, by decide, rfl, by first | exact .inl rfl | exact .inr rfl⟩)) (io_cons (ta_bind (show NameOk _ 2 "modules" from ⟨rfl, by decide, rfl, by first | exact .inl rfl | exact .inr rfl⟩)) (io_cons (ta_bind (show NameOk _ 1 "source" from ⟨rfl, by decide, rfl, by first | exact .inl rfl | exact .inr rfl⟩)) io_nil))) | refine' ss_assign ?_ ?_
    refine' se_tup ?_
    refine' ses_cons ?_ ?_
    refine' se_call rfl ⟨rfl, gl__law_pool, rfl⟩ kp__law_pool (by first | exact c__law_pool | exact call_any c__law_pool) (by first | decide | omega) ?_
    refine' sargs_cons ?_ ?_
    exact se_var (i := 0) rfl
    exact .nil
    refine' ses_cons ?_ ?_
    refine' se_call rfl ⟨rfl, gl__law_modules, rfl⟩ kp__law_modules (by first | exact c__law_modules | exact call_any c__law_modules) (by first | decide | omega) ?_
    exact .nil
    refine' ses_cons ?_ ?_
    refine' se_call rfl ⟨rfl, gl__law_book, rfl⟩ kp__law_book (by first | exact c__law_book | exact call_any c__law_book) (by first | decide | omega) ?_
    exact .nil
    exact ses_nil
    refine' ss_cons ?_ ?_
    refine' ss_for ?_ ?_ ?_
    refine' se_callB ⟨rfl, bl_range, bt_range, by decide, rfl⟩ (.t _) op_range ?_
    refine' sargs_cons ?_ ?_
    refine' se_bin ?_ ?_ op_add
    exact se_int
    refine' se_call rfl ⟨rfl, gl__law_take, rfl⟩ kp__law_take (by first | exact c__law_take | exact call_any c__law_take) (by first | decide | omega) ?_
    refine' sargs_cons ?_ ?_
    exact se_var (i := 1) rfl
    refine' sargs_cons ?_ ?_
    exact se_int
    exact .nil
    exact .nil
    exact ta_name (show NameOk _ 4 "turn" from ⟨rfl, by decide, rfl, by first | exact .inl rfl | exact .inr rfl⟩)
    refine' ss_cons ?_ ?_
    refine' ss_if ?_ ?_ ?_
    refine' sb_not ?_
    refine' sb_plain ?_ (by intro _; rfl)
    refine' se_call rfl ⟨rfl, gl__law_deed_right, rfl⟩ kp__law_deed_right (by first | exact c__law_deed_right | exact call_any c__law_deed_right) (by first | decide | omega) ?_
    refine' sargs_cons ?_ ?_
    exact se_var (i := 1) rfl
    refine' sargs_cons ?_ ?_
    exact se_var (i := 2) rfl
    refine' sargs_cons ?_ ?_
    exact se_var (i := 3) rfl
    exact .nil
    refine' ss_cons ?_ ?_
    refine' ss_ret ?_
    exact se_bool
    exact ss_nil
    exact ss_nil
    exact ss_nil
    refine' ss_cons ?_ ?_
    refine' ss_assign ?_ ?_
    refine' se_call rfl ⟨rfl, gl__law_one, rfl⟩ kp__law_one (by first | exact c__law_one | exact call_any c__law_one) (by first | decide | omega) ?_
    refine' sargs_cons ?_ ?_
    exact se_var (i := 1) rfl
    refine' sargs_cons ?_ ?_
    refine' se_lst ?_
    refine' ses_cons ?_ ?_
    exact se_int
    refine' ses_cons ?_ ?_
    exact se_int
    refine' ses_cons ?_ ?_
    exact se_int
    refine' ses_cons ?_ ?_
    exact se_int
    refine' ses_cons ?_ ?_
    exact se_int
    refine' ses_cons ?_ ?_
    exact se_int
    exact ses_nil
    exact .nil
    exact ta_name (show NameOk _ 5 "ahead" from ⟨rfl, by decide, rfl, by first | exact .inl rfl | exact .inr rfl⟩)
    refine' ss_cons ?_ ?_
    refine' ss_ret ?_
    refine' se_callIso rfl rfl ⟨rfl, gl__law_chain_right, rfl⟩ kp__law_chain_right c__law_chain_right (by first | decide | omega) ?_
    refine' sargs_cons ?_ ?_
    refine' se_bin ?_ ?_ op_add
    exact se_int
    refine' se_call rfl ⟨rfl, gl__law_take, rfl⟩ kp__law_take (by first | exact c__law_take | exact call_any c__law_take) (by first | decide | omega) ?_
    refine' sargs_cons ?_ ?_
    exact se_var (i := 1) rfl
    refine' sargs_cons ?_ ?_
    exact se_int
    exact .nil
    refine' sargs_cons ?_ ?_
    refine' se_call rfl ⟨rfl, gl__law_take, rfl⟩ kp__law_take (by first | exact c__law_take | exact call_any c__law_take) (by first | decide | omega) ?_
    refine' sargs_cons ?_ ?_
    exact se_var (i := 1) rfl
    refine' sargs_cons ?_ ?_
    exact se_int
    exact .nil
    refine' sargs_cons ?_ ?_
    refine' se_call rfl ⟨rfl, gl__law_one, rfl⟩ kp__law_one (by first | exact c__law_one | exact call_any c__law_one) (by first | decide | omega) ?_
    refine' sargs_cons ?_ ?_
    exact se_var (i := 1) rfl
    refine' sargs_cons ?_ ?_
    refine' se_lst ?_
    refine' ses_cons ?_ ?_
    exact se_str (l := [116, 121, 112, 101]) rfl
    refine' ses_cons ?_ ?_
    exact se_str (l := [118, 97, 108, 117, 101]) rfl
    exact ses_nil
    exact .nil
    refine' sargs_cons ?_ ?_
    exact se_var (i := 5) rfl
    exact .nil
    exact ss_nil


end
end Mine
theorem PySem.Challenge.cw_xw0164_01_holds : PySem.Challenge.rw_xw0164_01.Holds :=
  Mine.all
