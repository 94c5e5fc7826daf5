import PyProof.Rows.All
import Wide.All
import OpenK.AllK
import Wide.FinOn
import Lean
import PySem.Challenge.RW_nu0333_01
set_option Elab.async false
set_option linter.all false
set_option bootstrap.genMatcherCode false
set_option genSizeOf false
namespace Mine
open PySem PySem.W PyProof.Rows
/-! the end of the top: its functions (bodies by reference into the row), its two classes, its names -/
noncomputable def kS (x : String) (n : Nat) : Value := .str (Str.ofString x) n
noncomputable def kI (i : Int) (n : Nat) : Value := .int i n
noncomputable def kE (P : Params) (x : String) (n : Nat) (v : Value) : DictEntry := ⟨PyData.keyHash P (Str.ofString x), .str (Str.ofString x) n, v⟩
noncomputable def kTop (i : Nat) : Stmt := (PySem.Challenge.pw_nu0333_01.main.body[i]?).getD (.Pass default)
noncomputable def kSub (s : Stmt) (j : Nat) : Stmt := match s with | .ClassDef _ _ _ b _ _ _ _ _ _ _ => (b[j]?).getD (.Pass default) | _ => s
noncomputable def kF (s : Stmt) (q md : String) (n : Nat) (c : Addr) : Obj := match s with
  | .FunctionDef x a b _ _ _ sc _ _ _ => { cls := .type "function", data := .func { name := x, qualname := Str.ofString q, params := a, body := .stmts b, scope := sc, globals := 3, closure := [], defaults := .none, kwdefaults := .none, pyModule := kS md n, code := .ref c } }
  | _ => default
noncomputable def kC (vs : Array Value) : Obj := { cls := .type "code", data := .fields vs }
noncomputable def kO3 (P : Params) : Obj := { cls := .type "dict", data := .dict #[kE P "__name__" 165 (kS "law_nu0333_01" 549), kE P "__doc__" 166 (.none), kE P "__package__" 167 (.none), kE P "__loader__" 168 (.builtin "__main__.__loader__#opaque"), kE P "__spec__" 169 (.none), kE P "__annotations__" 170 (.ref 6), kE P "__builtins__" 171 (.ref 4), kE P "__file__" 173 (kS "/claim/cut.py" 172), kE P "__cached__" 174 (.none), kE P "_wall" 193 (.ref 21), kE P "GRAIN" 197 (kI 16 196), kE P "HEADER" 199 (kI 8 198), kE P "LISTS" 201 (kI 4 200), kE P "block_size" 208 (.ref 28), kE P "list_number" 215 (.ref 35), kE P "Heap" 326 (.ref 108), kE P "told_size" 338 (.ref 119), kE P "walk_faults" 350 (.ref 126), kE P "list_faults" 362 (.ref 133), kE P "heap_faults" 371 (.ref 140), kE P "used_bytes" 382 (.ref 147), kE P "largest_free" 393 (.ref 154), kE P "YardError" 415 (.ref 164), kE P "TrapError" 444 (.ref 184), kE P "WORD" 448 (kI 4294967296 447), kE P "Memory" 520 (.ref 238), kE P "free_runs" 538 (.ref 249), kE P "sweep" 548 (.ref 256), kE P "_law_pick" 560 (.ref 263), kE P "_law_area" 566 (.ref 268), kE P "_law_block" 573 (.ref 275), kE P "_law_made" 587 (.ref 282), kE P "_law_listed" 597 (.ref 289), kE P "_law_linked" 607 (.ref 296), kE P "_law_spoiled" 613 (.ref 301), kE P "law" 619 (.ref 306)] 36 }
noncomputable def kO27 (P : Params) : Obj := kC #[kS "block_size" 202, kS "block_size" 203, kS "/claim/cut.py" 204, kI 8 0, kI 1 0, kI 0 0, kI 0 0, kI 3 0, .ref 22, .bool true, kI 181 0, .ref 23, .none, .ref 24, .ref 25, .ref 26, kI 206 0, kI 8 0, kS "/claim/cut.py" 207]
noncomputable def kO28 (P : Params) : Obj := kF (kTop 5) "block_size" "moduleyard.heap" 194 27
noncomputable def kO34 (P : Params) : Obj := kC #[kS "list_number" 209, kS "list_number" 210, kS "/claim/cut.py" 211, kI 10 0, kI 1 0, kI 0 0, kI 0 0, kI 3 0, .ref 29, .bool true, kI 181 0, .ref 30, .none, .ref 31, .ref 32, .ref 33, kI 213 0, kI 10 0, kS "/claim/cut.py" 214]
noncomputable def kO35 (P : Params) : Obj := kF (kTop 6) "list_number" "moduleyard.heap" 194 34
noncomputable def kO48 (P : Params) : Obj := kC #[kS "__init__" 228, kS "Heap.__init__" 229, kS "/claim/cut.py" 230, kI 20 0, kI 4 0, kI 0 0, kI 0 0, kI 3 0, .ref 43, .bool true, kI 181 0, .ref 44, .none, .ref 45, .ref 46, .ref 47, kI 235 0, kI 20 0, kS "/claim/cut.py" 236]
noncomputable def kO49 (P : Params) : Obj := kF (kSub (kTop 7) 0) "Heap.__init__" "moduleyard.heap" 194 48
noncomputable def kO55 (P : Params) : Obj := kC #[kS "put_free" 238, kS "Heap.put_free" 239, kS "/claim/cut.py" 240, kI 28 0, kI 3 0, kI 0 0, kI 0 0, kI 3 0, .ref 50, .bool true, kI 181 0, .ref 51, .none, .ref 52, .ref 53, .ref 54, kI 245 0, kI 28 0, kS "/claim/cut.py" 246]
noncomputable def kO56 (P : Params) : Obj := kF (kSub (kTop 7) 1) "Heap.put_free" "moduleyard.heap" 194 55
noncomputable def kO62 (P : Params) : Obj := kC #[kS "is_free" 248, kS "Heap.is_free" 249, kS "/claim/cut.py" 250, kI 34 0, kI 2 0, kI 0 0, kI 0 0, kI 3 0, .ref 57, .bool true, kI 181 0, .ref 58, .none, .ref 59, .ref 60, .ref 61, kI 253 0, kI 34 0, kS "/claim/cut.py" 254]
noncomputable def kO63 (P : Params) : Obj := kF (kSub (kTop 7) 2) "Heap.is_free" "moduleyard.heap" 194 62
noncomputable def kO69 (P : Params) : Obj := kC #[kS "descriptor" 256, kS "Heap.descriptor" 257, kS "/claim/cut.py" 258, kI 37 0, kI 2 0, kI 0 0, kI 0 0, kI 3 0, .ref 64, .bool true, kI 181 0, .ref 65, .none, .ref 66, .ref 67, .ref 68, kI 261 0, kI 37 0, kS "/claim/cut.py" 262]
noncomputable def kO70 (P : Params) : Obj := kF (kSub (kTop 7) 3) "Heap.descriptor" "moduleyard.heap" 194 69
noncomputable def kO76 (P : Params) : Obj := kC #[kS "size_of" 264, kS "Heap.size_of" 265, kS "/claim/cut.py" 266, kI 40 0, kI 2 0, kI 0 0, kI 0 0, kI 3 0, .ref 71, .bool true, kI 181 0, .ref 72, .none, .ref 73, .ref 74, .ref 75, kI 270 0, kI 40 0, kS "/claim/cut.py" 271]
noncomputable def kO77 (P : Params) : Obj := kF (kSub (kTop 7) 4) "Heap.size_of" "moduleyard.heap" 194 76
noncomputable def kO83 (P : Params) : Obj := kC #[kS "take_free" 273, kS "Heap.take_free" 274, kS "/claim/cut.py" 275, kI 46 0, kI 2 0, kI 0 0, kI 0 0, kI 3 0, .ref 78, .bool true, kI 181 0, .ref 79, .none, .ref 80, .ref 81, .ref 82, kI 282 0, kI 46 0, kS "/claim/cut.py" 283]
noncomputable def kO84 (P : Params) : Obj := kF (kSub (kTop 7) 5) "Heap.take_free" "moduleyard.heap" 194 83
noncomputable def kO90 (P : Params) : Obj := kC #[kS "alloc" 285, kS "Heap.alloc" 286, kS "/claim/cut.py" 287, kI 62 0, kI 2 0, kI 0 0, kI 0 0, kI 3 0, .ref 85, .bool true, kI 181 0, .ref 86, .none, .ref 87, .ref 88, .ref 89, kI 294 0, kI 62 0, kS "/claim/cut.py" 295]
noncomputable def kO91 (P : Params) : Obj := kF (kSub (kTop 7) 6) "Heap.alloc" "moduleyard.heap" 194 90
noncomputable def kO97 (P : Params) : Obj := kC #[kS "blocks" 297, kS "Heap.blocks" 298, kS "/claim/cut.py" 299, kI 75 0, kI 1 0, kI 0 0, kI 0 0, kI 3 0, .ref 92, .bool true, kI 181 0, .ref 93, .none, .ref 94, .ref 95, .ref 96, kI 304 0, kI 75 0, kS "/claim/cut.py" 305]
noncomputable def kO98 (P : Params) : Obj := kF (kSub (kTop 7) 7) "Heap.blocks" "moduleyard.heap" 194 97
noncomputable def kO107 (P : Params) : Obj := { cls := .type "dict", data := .dict #[kE P "__module__" 223 (kS "moduleyard.heap" 194), kE P "__firstlineno__" 227 (kI 18 226), kE P "__init__" 237 (.ref 49), kE P "put_free" 247 (.ref 56), kE P "is_free" 255 (.ref 63), kE P "descriptor" 263 (.ref 70), kE P "size_of" 272 (.ref 77), kE P "take_free" 284 (.ref 84), kE P "alloc" 296 (.ref 91), kE P "blocks" 306 (.ref 98), kE P "block_of" 314 (.ref 105), kE P "__static_attributes__" 319 (.ref 106), kE P "__dict__" 321 (.ref 109), kE P "__weakref__" 323 (.ref 110), kE P "__doc__" 324 (.none)] 4 }
noncomputable def kO108 (P : Params) : Obj := { cls := .type "type", data := .cls { name := Str.ofString "Heap", bases := [.type "object"], mro := [.ref 108, .type "object"], ns := 107, qualname := Str.ofString "Heap" }, slots := #[none, none, some (kS "Heap" 216), some (kS "Heap" 224), some (.builtin "object.__new__"), some (.bool true)] }
noncomputable def kO118 (P : Params) : Obj := kC #[kS "told_size" 329, kS "told_size" 330, kS "/claim/cut.py" 331, kI 90 0, kI 2 0, kI 0 0, kI 0 0, kI 3 0, .ref 113, .bool true, kI 181 0, .ref 114, .none, .ref 115, .ref 116, .ref 117, kI 336 0, kI 90 0, kS "/claim/cut.py" 337]
noncomputable def kO119 (P : Params) : Obj := kF (kTop 9) "told_size" "moduleyard.heapcheck" 327 118
noncomputable def kO125 (P : Params) : Obj := kC #[kS "walk_faults" 339, kS "walk_faults" 340, kS "/claim/cut.py" 341, kI 101 0, kI 1 0, kI 0 0, kI 0 0, kI 3 0, .ref 120, .bool true, kI 181 0, .ref 121, .none, .ref 122, .ref 123, .ref 124, kI 348 0, kI 101 0, kS "/claim/cut.py" 349]
noncomputable def kO126 (P : Params) : Obj := kF (kTop 10) "walk_faults" "moduleyard.heapcheck" 327 125
noncomputable def kO132 (P : Params) : Obj := kC #[kS "list_faults" 351, kS "list_faults" 352, kS "/claim/cut.py" 353, kI 120 0, kI 2 0, kI 0 0, kI 0 0, kI 3 0, .ref 127, .bool true, kI 181 0, .ref 128, .none, .ref 129, .ref 130, .ref 131, kI 360 0, kI 120 0, kS "/claim/cut.py" 361]
noncomputable def kO133 (P : Params) : Obj := kF (kTop 11) "list_faults" "moduleyard.heapcheck" 327 132
noncomputable def kO139 (P : Params) : Obj := kC #[kS "heap_faults" 363, kS "heap_faults" 364, kS "/claim/cut.py" 365, kI 140 0, kI 1 0, kI 0 0, kI 0 0, kI 3 0, .ref 134, .bool true, kI 181 0, .ref 135, .none, .ref 136, .ref 137, .ref 138, kI 369 0, kI 140 0, kS "/claim/cut.py" 370]
noncomputable def kO140 (P : Params) : Obj := kF (kTop 12) "heap_faults" "moduleyard.heapcheck" 327 139
noncomputable def kO146 (P : Params) : Obj := kC #[kS "used_bytes" 372, kS "used_bytes" 373, kS "/claim/cut.py" 374, kI 145 0, kI 1 0, kI 0 0, kI 0 0, kI 3 0, .ref 141, .bool true, kI 181 0, .ref 142, .none, .ref 143, .ref 144, .ref 145, kI 380 0, kI 145 0, kS "/claim/cut.py" 381]
noncomputable def kO147 (P : Params) : Obj := kF (kTop 13) "used_bytes" "moduleyard.heapcheck" 327 146
noncomputable def kO153 (P : Params) : Obj := kC #[kS "largest_free" 383, kS "largest_free" 384, kS "/claim/cut.py" 385, kI 151 0, kI 1 0, kI 0 0, kI 0 0, kI 3 0, .ref 148, .bool true, kI 181 0, .ref 149, .none, .ref 150, .ref 151, .ref 152, kI 391 0, kI 151 0, kS "/claim/cut.py" 392]
noncomputable def kO154 (P : Params) : Obj := kF (kTop 14) "largest_free" "moduleyard.heapcheck" 327 153
noncomputable def kO199 (P : Params) : Obj := kC #[kS "__init__" 461, kS "Memory.__init__" 462, kS "/claim/cut.py" 463, kI 170 0, kI 2 0, kI 0 0, kI 0 0, kI 3 0, .ref 194, .bool true, kI 181 0, .ref 195, .none, .ref 196, .ref 197, .ref 198, kI 466 0, kI 170 0, kS "/claim/cut.py" 467]
noncomputable def kO200 (P : Params) : Obj := kF (kSub (kTop 20) 0) "Memory.__init__" "moduleyard.memory" 445 199
noncomputable def kO206 (P : Params) : Obj := kC #[kS "place" 469, kS "Memory.place" 470, kS "/claim/cut.py" 471, kI 174 0, kI 2 0, kI 0 0, kI 0 0, kI 3 0, .ref 201, .bool true, kI 181 0, .ref 202, .none, .ref 203, .ref 204, .ref 205, kI 474 0, kI 174 0, kS "/claim/cut.py" 475]
noncomputable def kO207 (P : Params) : Obj := kF (kSub (kTop 20) 1) "Memory.place" "moduleyard.memory" 445 206
noncomputable def kO213 (P : Params) : Obj := kC #[kS "word" 477, kS "Memory.word" 478, kS "/claim/cut.py" 479, kI 179 0, kI 2 0, kI 0 0, kI 0 0, kI 3 0, .ref 208, .bool true, kI 181 0, .ref 209, .none, .ref 210, .ref 211, .ref 212, kI 482 0, kI 179 0, kS "/claim/cut.py" 483]
noncomputable def kO214 (P : Params) : Obj := kF (kSub (kTop 20) 2) "Memory.word" "moduleyard.memory" 445 213
noncomputable def kO220 (P : Params) : Obj := kC #[kS "put_word" 485, kS "Memory.put_word" 486, kS "/claim/cut.py" 487, kI 182 0, kI 3 0, kI 0 0, kI 0 0, kI 3 0, .ref 215, .bool true, kI 181 0, .ref 216, .none, .ref 217, .ref 218, .ref 219, kI 491 0, kI 182 0, kS "/claim/cut.py" 492]
noncomputable def kO221 (P : Params) : Obj := kF (kSub (kTop 20) 3) "Memory.put_word" "moduleyard.memory" 445 220
noncomputable def kO237 (P : Params) : Obj := { cls := .type "dict", data := .dict #[kE P "__module__" 456 (kS "moduleyard.memory" 445), kE P "__firstlineno__" 460 (kI 168 459), kE P "__init__" 468 (.ref 200), kE P "place" 476 (.ref 207), kE P "word" 484 (.ref 214), kE P "put_word" 493 (.ref 221), kE P "byte" 501 (.ref 228), kE P "put_byte" 510 (.ref 235), kE P "__static_attributes__" 513 (.ref 236), kE P "__dict__" 515 (.ref 239), kE P "__weakref__" 517 (.ref 240), kE P "__doc__" 518 (.none)] 4 }
noncomputable def kO238 (P : Params) : Obj := { cls := .type "type", data := .cls { name := Str.ofString "Memory", bases := [.type "object"], mro := [.ref 238, .type "object"], ns := 237, qualname := Str.ofString "Memory" }, slots := #[none, none, some (kS "Memory" 449), some (kS "Memory" 457), some (.builtin "object.__new__"), some (.bool true)] }
noncomputable def kO248 (P : Params) : Obj := kC #[kS "free_runs" 523, kS "free_runs" 524, kS "/claim/cut.py" 525, kI 191 0, kI 1 0, kI 0 0, kI 0 0, kI 3 0, .ref 243, .bool true, kI 181 0, .ref 244, .none, .ref 245, .ref 246, .ref 247, kI 536 0, kI 191 0, kS "/claim/cut.py" 537]
noncomputable def kO249 (P : Params) : Obj := kF (kTop 22) "free_runs" "moduleyard.sweeper" 521 248
noncomputable def kO255 (P : Params) : Obj := kC #[kS "sweep" 539, kS "sweep" 540, kS "/claim/cut.py" 541, kI 209 0, kI 1 0, kI 0 0, kI 0 0, kI 3 0, .ref 250, .bool true, kI 181 0, .ref 251, .none, .ref 252, .ref 253, .ref 254, kI 546 0, kI 209 0, kS "/claim/cut.py" 547]
noncomputable def kO256 (P : Params) : Obj := kF (kTop 23) "sweep" "moduleyard.sweeper" 521 255
noncomputable def kO262 (P : Params) : Obj := kC #[kS "_law_pick" 551, kS "_law_pick" 552, kS "/claim/cut.py" 553, kI 216 0, kI 2 0, kI 0 0, kI 0 0, kI 3 0, .ref 257, .bool true, kI 181 0, .ref 258, .none, .ref 259, .ref 260, .ref 261, kI 558 0, kI 216 0, kS "/claim/cut.py" 559]
noncomputable def kO263 (P : Params) : Obj := kF (kTop 25) "_law_pick" "law_nu0333_01" 549 262
noncomputable def kO267 (P : Params) : Obj := kC #[kS "_law_area" 561, kS "_law_area" 562, kS "/claim/cut.py" 563, kI 227 0, kI 2 0, kI 0 0, kI 0 0, kI 3 0, .ref 264, .bool true, kI 181 0, .ref 265, .none, .none, .none, .ref 266, kI 564 0, kI 227 0, kS "/claim/cut.py" 565]
noncomputable def kO268 (P : Params) : Obj := kF (kTop 26) "_law_area" "law_nu0333_01" 549 267
noncomputable def kO274 (P : Params) : Obj := kC #[kS "_law_block" 567, kS "_law_block" 568, kS "/claim/cut.py" 569, kI 240 0, kI 1 0, kI 0 0, kI 0 0, kI 3 0, .ref 269, .bool true, kI 181 0, .ref 270, .none, .ref 271, .ref 272, .ref 273, kI 571 0, kI 240 0, kS "/claim/cut.py" 572]
noncomputable def kO275 (P : Params) : Obj := kF (kTop 27) "_law_block" "law_nu0333_01" 549 274
noncomputable def kO281 (P : Params) : Obj := kC #[kS "_law_made" 574, kS "_law_made" 575, kS "/claim/cut.py" 576, kI 242 0, kI 4 0, kI 0 0, kI 0 0, kI 3 0, .ref 276, .bool true, kI 181 0, .ref 277, .none, .ref 278, .ref 279, .ref 280, kI 585 0, kI 242 0, kS "/claim/cut.py" 586]
noncomputable def kO282 (P : Params) : Obj := kF (kTop 28) "_law_made" "law_nu0333_01" 549 281
noncomputable def kO288 (P : Params) : Obj := kC #[kS "_law_listed" 588, kS "_law_listed" 589, kS "/claim/cut.py" 590, kI 250 0, kI 2 0, kI 0 0, kI 0 0, kI 3 0, .ref 283, .bool true, kI 181 0, .ref 284, .none, .ref 285, .ref 286, .ref 287, kI 595 0, kI 250 0, kS "/claim/cut.py" 596]
noncomputable def kO289 (P : Params) : Obj := kF (kTop 29) "_law_listed" "law_nu0333_01" 549 288
noncomputable def kO295 (P : Params) : Obj := kC #[kS "_law_linked" 598, kS "_law_linked" 599, kS "/claim/cut.py" 600, kI 257 0, kI 3 0, kI 0 0, kI 0 0, kI 3 0, .ref 290, .bool true, kI 181 0, .ref 291, .none, .ref 292, .ref 293, .ref 294, kI 605 0, kI 257 0, kS "/claim/cut.py" 606]
noncomputable def kO296 (P : Params) : Obj := kF (kTop 30) "_law_linked" "law_nu0333_01" 549 295
noncomputable def kO300 (P : Params) : Obj := kC #[kS "_law_spoiled" 608, kS "_law_spoiled" 609, kS "/claim/cut.py" 610, kI 261 0, kI 5 0, kI 0 0, kI 0 0, kI 3 0, .ref 297, .bool true, kI 181 0, .ref 298, .none, .none, .none, .ref 299, kI 611 0, kI 261 0, kS "/claim/cut.py" 612]
noncomputable def kO301 (P : Params) : Obj := kF (kTop 31) "_law_spoiled" "law_nu0333_01" 549 300
noncomputable def kO305 (P : Params) : Obj := kC #[kS "law" 614, kS "law" 615, kS "/claim/cut.py" 616, kI 295 0, kI 1 0, kI 0 0, kI 0 0, kI 3 0, .ref 302, .bool true, kI 181 0, .ref 303, .none, .none, .none, .ref 304, kI 617 0, kI 295 0, kS "/claim/cut.py" 618]
noncomputable def kO306 (P : Params) : Obj := kF (kTop 32) "law" "law_nu0333_01" 549 305
noncomputable def HK (P : Params) : Frag := [(3, kO3 P), (27, kO27 P), (28, kO28 P), (34, kO34 P), (35, kO35 P), (48, kO48 P), (49, kO49 P), (55, kO55 P), (56, kO56 P), (62, kO62 P), (63, kO63 P), (69, kO69 P), (70, kO70 P), (76, kO76 P), (77, kO77 P), (83, kO83 P), (84, kO84 P), (90, kO90 P), (91, kO91 P), (97, kO97 P), (98, kO98 P), (107, kO107 P), (108, kO108 P), (118, kO118 P), (119, kO119 P), (125, kO125 P), (126, kO126 P), (132, kO132 P), (133, kO133 P), (139, kO139 P), (140, kO140 P), (146, kO146 P), (147, kO147 P), (153, kO153 P), (154, kO154 P), (199, kO199 P), (200, kO200 P), (206, kO206 P), (207, kO207 P), (213, kO213 P), (214, kO214 P), (220, kO220 P), (221, kO221 P), (237, kO237 P), (238, kO238 P), (248, kO248 P), (249, kO249 P), (255, kO255 P), (256, kO256 P), (262, kO262 P), (263, kO263 P), (267, kO267 P), (268, kO268 P), (274, kO274 P), (275, kO275 P), (281, kO281 P), (282, kO282 P), (288, kO288 P), (289, kO289 P), (295, kO295 P), (296, kO296 P), (300, kO300 P), (301, kO301 P), (305, kO305 P), (306, kO306 P)]
def hkAs : List Addr := [3, 27, 28, 34, 35, 48, 49, 55, 56, 62, 63, 69, 70, 76, 77, 83, 84, 90, 91, 97, 98, 107, 108, 118, 119, 125, 126, 132, 133, 139, 140, 146, 147, 153, 154, 199, 200, 206, 207, 213, 214, 220, 221, 237, 238, 248, 249, 255, 256, 262, 263, 267, 268, 274, 275, 281, 282, 288, 289, 295, 296, 300, 301, 305, 306]
end Mine

namespace Mine
open PySem PySem.W PyProof.Rows

/-- abstract values: tuples stand by value -/
inductive V where
  | none
  | bool (b : Bool)
  | int (i : Int)
  | str (s : Str)
  | ref (a : Addr)
  | tup (vs : List V)

/-- abstract objects -/
inductive O where
  | list (vs : List V)
  | dict (d : List (Int × V))
  | inst (C dx : Addr)
  | ns (fs : List (Str × V))

noncomputable abbrev Hp := Addr → Option O
noncomputable def Hp.set (hp : Hp) (a : Addr) (o : O) : Hp := fun b => if b = a then some o else hp b
@[simp] theorem Hp.set_self (hp : Hp) (a : Addr) (o : O) : hp.set a o a = some o := if_pos rfl
theorem Hp.set_ne (hp : Hp) {a b : Addr} (o : O) (h : b ≠ a) : hp.set a o b = hp b := if_neg h

noncomputable abbrev tupObj (its : Array Value) (n : Nat) : Obj := { cls := .type "tuple", data := .seq its n }

mutual
noncomputable def Rel (h : Heap) : V → Value → Prop
  | .none, v => v = .none
  | .bool b, v => v = .bool b
  | .int i, v => ∃ t, v = .int i t
  | .str s, v => ∃ t, v = .str s t
  | .ref a, v => v = .ref a
  | .tup ws, v => ∃ a n its, v = .ref a ∧ h.get? a = some (tupObj its n) ∧ RelL h ws its.toList
noncomputable def RelL (h : Heap) : List V → List Value → Prop
  | [], vs => vs = []
  | w :: ws, vs => ∃ v r, vs = v :: r ∧ Rel h w v ∧ RelL h ws r
end

noncomputable def IsT (o : Obj) : Prop := ∃ its n, o = tupObj its n
theorem IsT.cls {o : Obj} (h : IsT o) : o.cls = .type "tuple" := by obtain ⟨its, n, rfl⟩ := h; rfl
theorem IsT.seq {o : Obj} (h : IsT o) : ∃ its n, o.data = .seq its n := by obtain ⟨its, n, rfl⟩ := h; exact ⟨_, _, rfl⟩
/-- tuples and protected addresses stay -/
noncomputable def Ext (K : Addr → Prop) (h h' : Heap) : Prop := ∀ a o, h.get? a = some o → (IsT o ∨ K a) → h'.get? a = some o

theorem Ext.refl (K : Addr → Prop) (h : Heap) : Ext K h h := fun _ _ e _ => e
theorem Ext.trans {K : Addr → Prop} {h h' h'' : Heap} (x : Ext K h h') (y : Ext K h' h'') : Ext K h h'' := fun a o e q => y a o (x a o e q) q
theorem Ext.push (K : Addr → Prop) (h : Heap) (o : Obj) : Ext K h (h.push o) := fun a _ e _ => Heap.get?_push_of_some o e
theorem Ext.of_keep {K : Addr → Prop} {h h' : Heap} (k : ∀ b o, h.get? b = some o → h'.get? b = some o) : Ext K h h' := fun a o e _ => k a o e
theorem Ext.same {K : Addr → Prop} {h h' : Heap} {a : Addr} {oa : Obj} (s : Heap.SameBut a h h') (e : h.get? a = some oa) (c : ¬ IsT oa) (k : ¬ K a) : Ext K h h' := by
  intro b o eb q
  by_cases hb : b = a
  · subst hb
    rw [e] at eb; cases eb
    exact absurd q (by rintro (q | q) <;> contradiction)
  · exact (s.2 b hb).trans eb
theorem Ext.weaken {K K' : Addr → Prop} {h h' : Heap} (x : Ext K' h h') (k : ∀ a, K a → K' a) : Ext K h h' := fun a o e q => x a o e (q.imp id (k a))

mutual
theorem Rel.mono {K : Addr → Prop} {h h' : Heap} (x : Ext K h h') : ∀ {w : V} {v : Value}, Rel h w v → Rel h' w v
  | .none, _, r => r
  | .bool _, _, r => r
  | .int _, _, r => r
  | .str _, _, r => r
  | .ref _, _, r => r
  | .tup _, _, r => by
    unfold Rel at r ⊢
    obtain ⟨a, n, its, e, g, l⟩ := r
    exact ⟨a, n, its, e, x a _ g (.inl ⟨_, _, rfl⟩), RelL.mono x l⟩
theorem RelL.mono {K : Addr → Prop} {h h' : Heap} (x : Ext K h h') : ∀ {ws : List V} {vs : List Value}, RelL h ws vs → RelL h' ws vs
  | [], _, r => r
  | _ :: _, _, r => by
    unfold RelL at r ⊢
    obtain ⟨v, r', e, g, l⟩ := r
    exact ⟨v, r', e, Rel.mono x g, RelL.mono x l⟩
end

theorem RelL.length {h : Heap} : ∀ {ws : List V} {vs : List Value}, RelL h ws vs → vs.length = ws.length
  | [], vs, r => by unfold RelL at r; rw [r]; rfl
  | _ :: _, vs, r => by
    unfold RelL at r
    obtain ⟨v, r', rfl, _, l⟩ := r
    rw [List.length_cons, List.length_cons, l.length]
theorem RelL.get {h : Heap} : ∀ {ws : List V} {vs : List Value}, RelL h ws vs → ∀ {i : Nat} {w : V}, ws[i]? = some w → ∃ v, vs[i]? = some v ∧ Rel h w v
  | [], _, _, _, _, e => by simp at e
  | w :: ws, vs, r, i, w', e => by
    unfold RelL at r
    obtain ⟨v, r', rfl, g, l⟩ := r
    cases i with
    | zero => simp at e; subst e; exact ⟨v, rfl, g⟩
    | succ i => simp at e; simpa using l.get e
theorem RelL.append {h : Heap} : ∀ {ws : List V} {vs : List Value} {ws' : List V} {vs' : List Value}, RelL h ws vs → RelL h ws' vs' → RelL h (ws ++ ws') (vs ++ vs')
  | [], vs, ws', vs', r, r' => by unfold RelL at r; rw [r]; exact r'
  | w :: ws, vs, ws', vs', r, r' => by
    unfold RelL at r
    obtain ⟨v, q, rfl, g, l⟩ := r
    show RelL h (w :: (ws ++ ws')) (v :: (q ++ vs'))
    unfold RelL
    exact ⟨v, q ++ vs', rfl, g, l.append r'⟩
theorem RelL.nil {h : Heap} : RelL h [] [] := rfl
theorem RelL.cons {h : Heap} {w : V} {ws : List V} {v : Value} {vs : List Value} (a : Rel h w v) (b : RelL h ws vs) : RelL h (w :: ws) (v :: vs) := ⟨v, vs, rfl, a, b⟩
theorem RelL.one {h : Heap} {w : V} {v : Value} (a : Rel h w v) : RelL h [w] [v] := .cons a .nil
theorem RelL.set {h : Heap} : ∀ {ws : List V} {vs : List Value}, RelL h ws vs → ∀ (i : Nat) {w : V} {v : Value}, Rel h w v → RelL h (ws.set i w) (vs.set i v)
  | [], vs, r, i, w, v, g => by unfold RelL at r; rw [r]; exact rfl
  | _ :: _, vs, r, i, w, v, g => by
    unfold RelL at r
    obtain ⟨v', q, rfl, g', l⟩ := r
    cases i with
    | zero => exact .cons g l
    | succ i => exact .cons g' (l.set i g)
theorem RelL.take {h : Heap} : ∀ {ws : List V} {vs : List Value}, RelL h ws vs → ∀ (i : Nat), RelL h (ws.take i) (vs.take i)
  | [], vs, r, i => by unfold RelL at r; rw [r]; simp; exact rfl
  | _ :: _, vs, r, i => by
    unfold RelL at r
    obtain ⟨v', q, rfl, g', l⟩ := r
    cases i with
    | zero => exact rfl
    | succ i => exact .cons g' (l.take i)
theorem RelL.drop {h : Heap} : ∀ {ws : List V} {vs : List Value}, RelL h ws vs → ∀ (i : Nat), RelL h (ws.drop i) (vs.drop i)
  | [], vs, r, i => by unfold RelL at r; rw [r]; simp; exact rfl
  | _ :: _, vs, r, i => by
    unfold RelL at r
    obtain ⟨v', q, rfl, g', l⟩ := r
    cases i with
    | zero => exact .cons g' l
    | succ i => exact l.drop i

/-- string keyed namespace of an object -/
noncomputable def NsIs (h : Heap) : List (Str × V) → List DictEntry → Prop
  | [], es => es = []
  | (x, w) :: fs, es => ∃ e r, es = e :: r ∧ (∃ t, e.key = .str x t) ∧ Rel h w e.val ∧ NsIs h fs r
theorem NsIs.mono {K : Addr → Prop} {h h' : Heap} (x : Ext K h h') : ∀ {fs : List (Str × V)} {es : List DictEntry}, NsIs h fs es → NsIs h' fs es
  | [], _, r => r
  | (_, _) :: _, _, r => by
    unfold NsIs at r ⊢
    obtain ⟨e, q, a, b, c, d⟩ := r
    exact ⟨e, q, a, b, c.mono x, d.mono x⟩

/-- pairs of an int dict -/
noncomputable def RelD (h : Heap) : List (Int × V) → List (Int × Value) → Prop
  | [], kvs => kvs = []
  | (k, w) :: d, kvs => ∃ v r, kvs = (k, v) :: r ∧ Rel h w v ∧ RelD h d r
theorem RelD.mono {K : Addr → Prop} {h h' : Heap} (x : Ext K h h') : ∀ {d : List (Int × V)} {kvs : List (Int × Value)}, RelD h d kvs → RelD h' d kvs
  | [], _, r => r
  | (_, _) :: _, _, r => by
    unfold RelD at r ⊢
    obtain ⟨e, q, a, b, c⟩ := r
    exact ⟨e, q, a, b.mono x, c.mono x⟩

structure Wd where
  prog : Program
  w : World
  KF : Frag
  s₁ : Shared
  mg : Str → Option Value
  mb : Str → Option Value
  p : Program
  loose : List Str
  X : KF.In s₁.heap
  T : TopRead p loose mg mb s₁.heap

section
variable (D : Wd)

noncomputable def ObjIs (h : Heap) (a : Addr) : O → Prop
  | .list ws => ∃ its n, h.get? a = some { cls := .type "list", data := .seq its n } ∧ RelL h ws its.toList
  | .dict d => ∃ kvs, h.DictOf (intKind D.prog D.w) a kvs ∧ RelD h d kvs ∧ (a == sysModules) = false
  | .inst C dx => h.get? a = some (instObj C dx)
  | .ns fs => ∃ es n, h.get? a = some (dictOf es n) ∧ NsIs h fs es

theorem ObjIs.there {h : Heap} {a : Addr} {o : O} (x : ObjIs D h a o) : ∃ ob, h.get? a = some ob ∧ ¬ IsT ob := by
  cases o with
  | list ws => obtain ⟨its, n, e, _⟩ := x; exact ⟨_, e, fun q => by simpa using q.cls⟩
  | dict d =>
    obtain ⟨kvs, hd, _⟩ := x
    obtain ⟨ob, es, ep, e, ex, dd, _⟩ := hd
    exact ⟨ob, e, fun q => by obtain ⟨_, _, q⟩ := q.seq; rw [q] at dd; cases dd⟩
  | inst C dx => exact ⟨_, x, fun q => by simpa using q.cls⟩
  | ns fs => obtain ⟨es, n, e, _⟩ := x; exact ⟨_, e, fun q => by simpa using q.cls⟩

theorem ObjIs.mono {K : Addr → Prop} {h h' : Heap} {a : Addr} {o : O} (x : ObjIs D h a o) (e : Ext K h h') (k : ∀ ob, h.get? a = some ob → h'.get? a = some ob) : ObjIs D h' a o := by
  cases o with
  | list ws => obtain ⟨its, n, g, l⟩ := x; exact ⟨its, n, k _ g, l.mono e⟩
  | dict d =>
    obtain ⟨kvs, ⟨ob, es, ep, g, r⟩, l, q⟩ := x
    exact ⟨kvs, ⟨ob, es, ep, k _ g, r⟩, l.mono e, q⟩
  | inst C dx => exact k _ x
  | ns fs => obtain ⟨es, n, g, l⟩ := x; exact ⟨es, n, k _ g, l.mono e⟩

structure Sim (K : Addr → Prop) (hp : Hp) (s : Shared) : Prop where
  base : ∀ b o, D.s₁.heap.get? b = some o → s.heap.get? b = some o ∧ K b
  k : ∀ a, K a → (s.heap.get? a).isSome = true
  obj : ∀ a o, hp a = some o → ¬ K a ∧ ObjIs D s.heap a o
  gens : s.gens = D.s₁.gens
  os : s.os = D.s₁.os

variable {D}
theorem Sim.toks {K : Addr → Prop} {hp : Hp} {s : Shared} (S : Sim D K hp s) (t : Nat) : Sim D K hp { s with toks := t } := ⟨S.base, S.k, S.obj, S.gens, S.os⟩
theorem Sim.size {K : Addr → Prop} {hp : Hp} {s : Shared} (S : Sim D K hp s) : ¬ K s.heap.objs.size := fun h => by
  have := S.k _ h
  cases e : s.heap.get? s.heap.objs.size with
  | none => rw [e] at this; cases this
  | some o => exact absurd (Heap.lt_size e) (Nat.lt_irrefl _)
theorem Sim.hpSize {K : Addr → Prop} {hp : Hp} {s : Shared} (S : Sim D K hp s) : hp s.heap.objs.size = none := by
  cases e : hp s.heap.objs.size with
  | none => rfl
  | some o =>
    obtain ⟨ob, g, _⟩ := ObjIs.there D (S.obj _ _ e).2
    exact absurd (Heap.lt_size g) (Nat.lt_irrefl _)

/-- a step that keeps all that there is -/
theorem Sim.keep {K : Addr → Prop} {hp : Hp} {s : Shared} (S : Sim D K hp s) {h' : Heap} {t : Nat} (k : ∀ b o, s.heap.get? b = some o → h'.get? b = some o) : Sim D K hp { s with heap := h', toks := t } where
  base b o e := ⟨k _ _ (S.base b o e).1, (S.base b o e).2⟩
  k a ha := by
    obtain ⟨o, e⟩ := Option.isSome_iff_exists.mp (S.k a ha)
    exact Option.isSome_iff_exists.mpr ⟨o, k _ _ e⟩
  obj a o e := ⟨(S.obj a o e).1, (S.obj a o e).2.mono (K := K) D (Ext.of_keep k) (fun ob g => k _ _ g)⟩
  gens := S.gens
  os := S.os
theorem Sim.push {K : Addr → Prop} {hp : Hp} {s : Shared} (S : Sim D K hp s) (o : Obj) (t : Nat) : Sim D K hp { s with heap := s.heap.push o, toks := t } :=
  S.keep (fun _ _ e => Heap.get?_push_of_some o e)
/-- a new object -/
theorem Sim.new {K : Addr → Prop} {hp : Hp} {s : Shared} (S : Sim D K hp s) {a : Addr} {o : O} (hk : ¬ K a) (h : ObjIs D s.heap a o) : Sim D K (hp.set a o) s where
  base := S.base
  k := S.k
  obj b o' e := by
    by_cases hb : b = a
    · subst hb; rw [Hp.set_self] at e; cases e; exact ⟨hk, h⟩
    · rw [Hp.set_ne _ _ hb] at e; exact S.obj b o' e
  gens := S.gens
  os := S.os
/-- a step that changes the one object at a -/
theorem Sim.upd {K : Addr → Prop} {hp : Hp} {s : Shared} (S : Sim D K hp s) {h' : Heap} {t : Nat} {a : Addr} {oa : Obj} (hs : Heap.SameBut a s.heap h') (e : s.heap.get? a = some oa) (c : ¬ IsT oa) (k : ¬ K a)
    {o : O} (h : ObjIs D h' a o) : Sim D K (hp.set a o) { s with heap := h', toks := t } := by
  have E : Ext K s.heap h' := Ext.same hs e c k
  refine ⟨fun b o e' => ?_, fun b hb => ?_, fun b o' e' => ?_, S.gens, S.os⟩
  · have hb : b ≠ a := fun q => k (q ▸ (S.base b o e').2)
    exact ⟨(hs.2 b hb).trans (S.base b o e').1, (S.base b o e').2⟩
  · have hb' : b ≠ a := fun q => k (q ▸ hb)
    show (h'.get? b).isSome = true
    rw [hs.2 b hb']; exact S.k b hb
  · by_cases hb : b = a
    · subst hb; rw [Hp.set_self] at e'; cases e'; exact ⟨k, h⟩
    · rw [Hp.set_ne _ _ hb] at e'
      exact ⟨(S.obj b o' e').1, (S.obj b o' e').2.mono (K := K) D E fun ob g => (hs.2 b hb).trans g⟩
/-- a step that changes an object that the abstract heap does not name -/
theorem Sim.off {K : Addr → Prop} {hp : Hp} {s : Shared} (S : Sim D K hp s) {h' : Heap} {t : Nat} {a : Addr} {oa : Obj} (hs : Heap.SameBut a s.heap h') (e : s.heap.get? a = some oa) (c : ¬ IsT oa) (k : ¬ K a)
    (hn : hp a = none) : Sim D K hp { s with heap := h', toks := t } := by
  have E : Ext K s.heap h' := Ext.same hs e c k
  refine ⟨fun b o e' => ?_, fun b hb => ?_, fun b o' e' => ?_, S.gens, S.os⟩
  · have hb : b ≠ a := fun q => k (q ▸ (S.base b o e').2)
    exact ⟨(hs.2 b hb).trans (S.base b o e').1, (S.base b o e').2⟩
  · have hb' : b ≠ a := fun q => k (q ▸ hb)
    show (h'.get? b).isSome = true
    rw [hs.2 b hb']; exact S.k b hb
  · have hb : b ≠ a := fun q => by rw [q, hn] at e'; cases e'
    exact ⟨(S.obj b o' e').1, (S.obj b o' e').2.mono (K := K) D E fun ob g => (hs.2 b hb).trans g⟩
/-- forgetting -/
theorem Sim.less {K : Addr → Prop} {hp hp' : Hp} {s : Shared} (S : Sim D K hp s) (h : ∀ a o, hp' a = some o → hp a = some o) : Sim D K hp' s :=
  ⟨S.base, S.k, fun a o e => S.obj a o (h a o e), S.gens, S.os⟩
end
end Mine

namespace Mine
open PySem PySem.W PyProof.Rows

noncomputable abbrev Loc := List (Option V)
noncomputable def lk : Loc → Nat → Option V
  | [], _ => none
  | a :: _, 0 => a
  | _ :: r, i + 1 => lk r i
noncomputable def st : Loc → Nat → V → Loc
  | [], _, _ => []
  | _ :: r, 0, v => some v :: r
  | a :: r, i + 1, v => a :: st r i v
theorem lk_st_self : ∀ {l : Loc} {i : Nat} {v w : V}, lk (st l i v) i = some w → w = v
  | [], _, _, _, h => by simp [st, lk] at h
  | _ :: _, 0, _, _, h => by simp [st, lk] at h; exact h.symm
  | _ :: r, i + 1, v, w, h => lk_st_self (l := r) h
theorem lk_st_ne : ∀ {l : Loc} {i j : Nat} {v : V}, j ≠ i → lk (st l i v) j = lk l j
  | [], _, _, _, _ => rfl
  | _ :: _, 0, 0, _, h => absurd rfl h
  | _ :: _, 0, j + 1, _, _ => rfl
  | _ :: _, i + 1, 0, _, _ => rfl
  | _ :: r, i + 1, j + 1, v, h => lk_st_ne (l := r) fun q => h (by rw [q])

structure Fd where
  env : Env
  nm : List Str
  own : Bool

structure FdOk (F : Fd) : Prop where
  kind : F.env.scope.kind = .function
  nodup : F.nm.Nodup
  kinds : ∀ x ∈ F.nm, F.env.kindOf x = some .local ∨ (F.env.kindOf x = some .cell ∧ ∃ c, F.env.cells.lookup x = some c)
  apart : F.env.cells.Pairwise fun x y => x.2 ≠ y.2
  plain : ∀ x ∈ F.nm, (x == ("__debug__" : Str)) = false
  globals : F.env.globals = mainGlobals
  builtins : F.env.builtins = builtinsNs

noncomputable def VarIs (F : Fd) (h : Heap) (m : Str → Option Value) (x : Str) (w : V) : Prop :=
  (F.env.kindOf x = some .local ∧ ∃ v, m x = some v ∧ Rel h w v) ∨ (F.env.kindOf x = some .cell ∧ ∃ c v, F.env.cells.lookup x = some c ∧ h.IsCell c (some v) ∧ Rel h w v)

structure St (D : Wd) (F : Fd) (K : Addr → Prop) (loc : Loc) (hp : Hp) (s : Shared) : Prop where
  sim : Sim D K hp s
  ns : ∃ m, s.heap.Ns F.env.locals m ∧ ∀ i x w, F.nm[i]? = some x → lk loc i = some w → VarIs F s.heap m x w
  lK : ¬ K F.env.locals
  lhp : hp F.env.locals = none
  cells : ∀ x c, (x, c) ∈ F.env.cells → (∃ v, s.heap.IsCell c v) ∧ (F.own = true → ¬ K c)
  ok : FdOk F

noncomputable def AOk (A : Around) (n : Nat) : Prop := A.handled = none ∧ A.depth + n < recursionLimit ∧ A.units + 20 * n < cLine

noncomputable abbrev WE := Loc → Hp → (V → Hp → Prop) → Prop
noncomputable abbrev WT := Loc → Hp → (Bool → Hp → Prop) → Prop
inductive Fl where
  | next | brk | cont
  | ret (v : V)
noncomputable abbrev WS := Loc → Hp → (Fl → Loc → Hp → Prop) → Prop

noncomputable def FlRel (h : Heap) : Fl → Flow → Prop
  | .next, f => f = .next
  | .brk, f => f = .brk
  | .cont, f => f = .cont
  | .ret w, f => ∃ v, f = .ret v ∧ Rel h w v

inductive PE (D : Wd) (F : Fd) (K : Addr → Prop) (loc : Loc) (h : Heap) (Q : V → Hp → Prop) (v : Value) (s' : Shared) : Prop
  | mk (u : V) (hp' : Hp) (_ : Rel s'.heap u v) (_ : St D F K loc hp' s') (_ : Ext K h s'.heap) (_ : Q u hp')
inductive PT (D : Wd) (F : Fd) (K : Addr → Prop) (loc : Loc) (h : Heap) (Q : Bool → Hp → Prop) (b : Bool) (s' : Shared) : Prop
  | mk (hp' : Hp) (_ : St D F K loc hp' s') (_ : Ext K h s'.heap) (_ : Q b hp')
inductive PS (D : Wd) (F : Fd) (K : Addr → Prop) (h : Heap) (Q : Fl → Loc → Hp → Prop) (f : Flow) (s' : Shared) : Prop
  | mk (fl : Fl) (loc' : Loc) (hp' : Hp) (_ : FlRel s'.heap fl f) (_ : St D F K loc' hp' s') (_ : Ext K h s'.heap) (_ : Q fl loc' hp')
inductive PL (D : Wd) (F : Fd) (K : Addr → Prop) (loc : Loc) (h : Heap) (Q : List V → Hp → Prop) (vs : List Value) (s' : Shared) : Prop
  | mk (us : List V) (hp' : Hp) (_ : RelL s'.heap us vs) (_ : St D F K loc hp' s') (_ : Ext K h s'.heap) (_ : Q us hp')
/-- after a binding -/
inductive PA (D : Wd) (F : Fd) (K : Addr → Prop) (h : Heap) (Q : Loc → Hp → Prop) (s' : Shared) : Prop
  | mk (loc' : Loc) (hp' : Hp) (_ : St D F K loc' hp' s') (_ : Ext K h s'.heap) (_ : Q loc' hp')
/-- after a change of an object -/
inductive PH (D : Wd) (F : Fd) (K : Addr → Prop) (loc : Loc) (h : Heap) (Q : Hp → Prop) (s' : Shared) : Prop
  | mk (hp' : Hp) (_ : St D F K loc hp' s') (_ : Ext K h s'.heap) (_ : Q hp')

noncomputable abbrev noE : Value → Shared → Prop := fun _ _ => False

noncomputable def EvE (D : Wd) (F : Fd) (n : Nat) (x : Expr) (W : WE) : Prop :=
  ∀ A K loc hp s Q, AOk A n → St D F K loc hp s → W loc hp Q → wpAny (model D.prog D.w) A (eval x F.env) (PE D F K loc s.heap Q) noE s
noncomputable def EvT (D : Wd) (F : Fd) (n : Nat) (x : Expr) (W : WT) : Prop :=
  ∀ A K loc hp s Q, AOk A n → St D F K loc hp s → W loc hp Q → wpAny (model D.prog D.w) A (isTrue x F.env (eval x F.env)) (PT D F K loc s.heap Q) noE s
noncomputable def EvS (D : Wd) (F : Fd) (n : Nat) (x : Stmt) (W : WS) : Prop :=
  ∀ A K loc hp s Q, AOk A n → St D F K loc hp s → W loc hp Q → wpAny (model D.prog D.w) A (exec x F.env) (PS D F K s.heap Q) noE s
noncomputable def EvB (D : Wd) (F : Fd) (n : Nat) (xs : List Stmt) (W : WS) : Prop :=
  ∀ A K loc hp s Q, AOk A n → St D F K loc hp s → W loc hp Q → wpAny (model D.prog D.w) A (execs xs F.env) (PS D F K s.heap Q) noE s
/-- an operation on values at hand: what the machine does of it -/
noncomputable def EvOp (D : Wd) (F : Fd) (n : Nat) (t : List Value → Sem Value) (W : List V → Hp → (V → Hp → Prop) → Prop) : Prop :=
  ∀ A K loc hp s vs us Q, AOk A n → St D F K loc hp s → RelL s.heap us vs → W us hp Q → wpAny (model D.prog D.w) A (t vs) (PE D F K loc s.heap Q) noE s

section
variable {D : Wd} {F : Fd} {n : Nat} {A : Around} {K : Addr → Prop} {loc : Loc} {hp hp' : Hp} {s s' : Shared}

theorem St.toks (T : St D F K loc hp s) (t : Nat) : St D F K loc hp { s with toks := t } := ⟨T.sim.toks t, T.ns, T.lK, T.lhp, T.cells, T.ok⟩

theorem VarIs.mono {h h' : Heap} {m : Str → Option Value} {x : Str} {w : V} (X : VarIs F h m x w) (E : Ext K h h') (kc : ∀ y c, (y, c) ∈ F.env.cells → ∀ o, h.get? c = some o → h'.get? c = some o) : VarIs F h' m x w := by
  rcases X with ⟨a, v, b, c⟩ | ⟨a, c, v, b, d, e⟩
  · exact .inl ⟨a, v, b, c.mono E⟩
  · obtain ⟨o, g, q⟩ := d
    exact .inr ⟨a, c, v, b, ⟨o, kc x c (mem_of_lookup b) o g, q⟩, e.mono E⟩

/-- the frame stays, the abstract heap goes on -/
theorem St.step (T : St D F K loc hp s) (S : Sim D K hp' s') (E : Ext K s.heap s'.heap) (kl : ∀ o, s.heap.get? F.env.locals = some o → s'.heap.get? F.env.locals = some o)
    (kc : ∀ y c, (y, c) ∈ F.env.cells → ∀ o, s.heap.get? c = some o → s'.heap.get? c = some o) (hl : hp' F.env.locals = none) : St D F K loc hp' s' where
  sim := S
  ns := by
    obtain ⟨m, a, b⟩ := T.ns
    exact ⟨m, a.at' kl, fun i x w e1 e2 => (b i x w e1 e2).mono E kc⟩
  lK := T.lK
  lhp := hl
  cells := fun x c hc => by
    obtain ⟨⟨v, o, g, q⟩, b⟩ := T.cells x c hc
    exact ⟨⟨v, o, kc x c hc o g, q⟩, b⟩
  ok := T.ok

theorem St.keep (T : St D F K loc hp s) {h' : Heap} {t : Nat} (k : ∀ b o, s.heap.get? b = some o → h'.get? b = some o) : St D F K loc hp { s with heap := h', toks := t } :=
  T.step (T.sim.keep k) (Ext.of_keep k) (fun o => k _ o) (fun _ c _ o => k c o) T.lhp
theorem St.push (T : St D F K loc hp s) (o : Obj) (t : Nat) : St D F K loc hp { s with heap := s.heap.push o, toks := t } := T.keep fun _ _ e => Heap.get?_push_of_some o e
theorem St.lsome (T : St D F K loc hp s) : ∃ o, s.heap.get? F.env.locals = some o := let ⟨_, ⟨o, _, _, g, _⟩, _⟩ := T.ns; ⟨o, g⟩
/-- a new object, kept under its address -/
theorem St.new (T : St D F K loc hp s) {a : Addr} {o : O} (hk : ¬ K a) (hl : a ≠ F.env.locals) (h : ObjIs D s.heap a o) : St D F K loc (hp.set a o) s :=
  T.step (T.sim.new hk h) (Ext.refl _ _) (fun _ e => e) (fun _ _ _ _ e => e) (by rw [Hp.set_ne _ _ (Ne.symm hl)]; exact T.lhp)
/-- an object that the abstract heap names is changed -/
theorem St.upd (T : St D F K loc hp s) {h' : Heap} {t : Nat} {a : Addr} {o o' : O} (hs : Heap.SameBut a s.heap h') (e : hp a = some o) (h : ObjIs D h' a o') :
    St D F K loc (hp.set a o') { s with heap := h', toks := t } ∧ Ext K s.heap h' := by
  obtain ⟨hk, ho⟩ := T.sim.obj a o e
  obtain ⟨ob, g, c⟩ := ObjIs.there D ho
  have E : Ext K s.heap h' := Ext.same hs g c hk
  have hl : F.env.locals ≠ a := fun q => by rw [← q, T.lhp] at e; cases e
  have hc : ∀ y c, (y, c) ∈ F.env.cells → c ≠ a := fun y c hyc q => by
    obtain ⟨⟨v, oc, gc, dc⟩, _⟩ := T.cells y c hyc
    subst q
    rw [g] at gc; cases gc
    cases o with
    | list ws => obtain ⟨its, n, q, _⟩ := ho; rw [g] at q; cases q; cases dc
    | dict d =>
      obtain ⟨kvs, ⟨o2, es, ep, q, _, dd, _⟩, _⟩ := ho
      rw [g] at q; cases q; rw [dd] at dc; cases dc
    | inst C dx => rw [show s.heap.get? c = some (instObj C dx) from ho] at g; cases g; cases dc
    | ns fs => obtain ⟨es, n, q, _⟩ := ho; rw [g] at q; cases q; cases dc
  exact ⟨T.step (T.sim.upd hs g c hk h) E (fun o q => (hs.2 _ hl).trans q) (fun y c hyc o q => (hs.2 _ (hc y c hyc)).trans q) (by rw [Hp.set_ne _ _ hl]; exact T.lhp), E⟩
/-! the words -/
noncomputable def W.v (i : Nat) : WE := fun loc hp Q => match lk loc i with | some u => Q u hp | none => False
noncomputable def W.c (u : V) : WE := fun _ hp Q => Q u hp

theorem EvE.var {i : Nat} {x : Str} {pos : Pos} (hx : F.nm[i]? = some x) : EvE D F n (.Name x pos) (W.v i) := by
  intro A K loc hp s Q a T h
  unfold W.v at h
  split at h
  · rename_i u e
    obtain ⟨m, hn, hv⟩ := T.ns
    have hm : x ∈ F.nm := List.mem_of_getElem? hx
    refine wpAny_Name ?_ (T.ok.plain x hm)
    rcases hv i x u hx e with ⟨hk, v, hmx, r⟩ | ⟨hk, c, v, hc, hcell, r⟩
    · exact wpAny_loadName_local T.ok.kind hk hn hmx ⟨u, hp, r, T, Ext.refl _ _, h⟩
    · exact wpAny_loadName_cell T.ok.kind hk hc hcell ⟨u, hp, r, T, Ext.refl _ _, h⟩
  · exact h.elim

theorem EvE.intC {i : Int} {k : Nat} {pos : Pos} : EvE D F n (.Constant (.int i) k pos) (W.c (.int i)) :=
  fun A K loc hp s Q a T h => wpAny_Constant_int ⟨.int i, hp, ⟨_, rfl⟩, T.toks _, Ext.refl _ _, h⟩
theorem EvE.strC {x : Str} {k : Nat} {pos : Pos} : EvE D F n (.Constant (.str x) k pos) (W.c (.str x)) :=
  fun A K loc hp s Q a T h => wpAny_Constant_str ⟨.str x, hp, ⟨_, rfl⟩, T.toks _, Ext.refl _ _, h⟩
theorem EvE.noneC {k : Nat} {pos : Pos} : EvE D F n (.Constant .none k pos) (W.c .none) :=
  fun A K loc hp s Q a T h => wpAny_Constant_none ⟨.none, hp, rfl, T, Ext.refl _ _, h⟩
theorem EvE.boolC {b : Bool} {k : Nat} {pos : Pos} : EvE D F n (.Constant (.bool b) k pos) (W.c (.bool b)) :=
  fun A K loc hp s Q a T h => wpAny_Constant_bool ⟨.bool b, hp, rfl, T, Ext.refl _ _, h⟩

theorem PE.back {h h' : Heap} {Q : V → Hp → Prop} {v : Value} {s' : Shared} (p : PE D F K loc h' Q v s') (E : Ext K h h') : PE D F K loc h Q v s' :=
  let ⟨u, hp', a, b, c, d⟩ := p; ⟨u, hp', a, b, E.trans c, d⟩
theorem PT.back {h h' : Heap} {Q : Bool → Hp → Prop} {v : Bool} {s' : Shared} (p : PT D F K loc h' Q v s') (E : Ext K h h') : PT D F K loc h Q v s' :=
  let ⟨hp', b, c, d⟩ := p; ⟨hp', b, E.trans c, d⟩
theorem PS.back {h h' : Heap} {Q : Fl → Loc → Hp → Prop} {v : Flow} {s' : Shared} (p : PS D F K h' Q v s') (E : Ext K h h') : PS D F K h Q v s' :=
  let ⟨fl, l, hp', a, b, c, d⟩ := p; ⟨fl, l, hp', a, b, E.trans c, d⟩

/-! one and two operands -/
noncomputable def W.un (f : V → Hp → (V → Hp → Prop) → Prop) (a : WE) : WE := fun loc hp Q => a loc hp fun x hp₁ => f x hp₁ Q
noncomputable def W.bin (f : V → V → Hp → (V → Hp → Prop) → Prop) (a b : WE) : WE := fun loc hp Q => a loc hp fun x hp₁ => b loc hp₁ fun y hp₂ => f x y hp₂ Q

noncomputable def OpOk (D : Wd) (F : Fd) (n : Nat) (t : Value → Value → Sem Value) (f : V → V → Hp → (V → Hp → Prop) → Prop) : Prop :=
  ∀ A K loc hp s v w x y Q, AOk A n → St D F K loc hp s → Rel s.heap x v → Rel s.heap y w → f x y hp Q → wpAny (model D.prog D.w) A (t v w) (PE D F K loc s.heap Q) noE s
noncomputable def UnOk (D : Wd) (F : Fd) (n : Nat) (t : Value → Sem Value) (f : V → Hp → (V → Hp → Prop) → Prop) : Prop :=
  ∀ A K loc hp s v x Q, AOk A n → St D F K loc hp s → Rel s.heap x v → f x hp Q → wpAny (model D.prog D.w) A (t v) (PE D F K loc s.heap Q) noE s

theorem EvE.then {x : Expr} {a : WE} (h : EvE D F n x a) {A : Around} {K : Addr → Prop} {loc : Loc} {hp : Hp} {s : Shared} {Q : V → Hp → Prop} {R : Value → Shared → Prop} (o : AOk A n) (T : St D F K loc hp s) (q : a loc hp Q)
    (k : ∀ v s' u hp', Rel s'.heap u v → St D F K loc hp' s' → Ext K s.heap s'.heap → Q u hp' → R v s') : wpAny (model D.prog D.w) A (eval x F.env) R noE s :=
  wpAny_mono (h A K loc hp s Q o T q) (fun v s' ⟨u, hp', a, b, c, d⟩ => k v s' u hp' a b c d) fun _ _ e => e
theorem EvT.then {x : Expr} {a : WT} (h : EvT D F n x a) {A : Around} {K : Addr → Prop} {loc : Loc} {hp : Hp} {s : Shared} {Q : Bool → Hp → Prop} {R : Bool → Shared → Prop} (o : AOk A n) (T : St D F K loc hp s) (q : a loc hp Q)
    (k : ∀ v s' hp', St D F K loc hp' s' → Ext K s.heap s'.heap → Q v hp' → R v s') : wpAny (model D.prog D.w) A (isTrue x F.env (eval x F.env)) R noE s :=
  wpAny_mono (h A K loc hp s Q o T q) (fun v s' ⟨hp', b, c, d⟩ => k v s' hp' b c d) fun _ _ e => e

theorem EvE.two {x y : Expr} {a b : WE} (ha : EvE D F n x a) (hb : EvE D F n y b) {f : V → V → Hp → (V → Hp → Prop) → Prop} {t : Value → Value → Sem Value} (ht : OpOk D F n t f)
    {A : Around} {K : Addr → Prop} {loc : Loc} {hp : Hp} {s : Shared} {Q : V → Hp → Prop} (o : AOk A n) (T : St D F K loc hp s) (q : W.bin f a b loc hp Q) :
    wpAny (model D.prog D.w) A (eval x F.env) (fun v s₁ => wpAny (model D.prog D.w) A (eval y F.env) (fun w s₂ => wpAny (model D.prog D.w) A (t v w) (PE D F K loc s.heap Q) noE s₂) noE s₁) noE s :=
  ha.then o T q fun v s₁ u hp₁ r₁ T₁ E₁ q₁ => hb.then o T₁ q₁ fun w s₂ u₂ hp₂ r₂ T₂ E₂ q₂ =>
    wpAny_mono (ht A K loc hp₂ s₂ v w u u₂ Q o T₂ (r₁.mono E₂) r₂ q₂) (fun _ _ p => p.back (E₁.trans E₂)) fun _ _ e => e

theorem EvE.bin {l r : Expr} {op : Operator} {pos : Pos} {a b : WE} {f : V → V → Hp → (V → Hp → Prop) → Prop} (ha : EvE D F n l a) (hb : EvE D F n r b) (ht : OpOk D F n (binaryOp op) f) : EvE D F n (.BinOp l op r pos) (W.bin f a b) :=
  fun A K loc hp s Q o T q => wpAny_BinOp (ha.two hb ht o T q)
theorem EvE.cmp {l r : Expr} {op : CmpOp} {pos : Pos} {a b : WE} {f : V → V → Hp → (V → Hp → Prop) → Prop} (ha : EvE D F n l a) (hb : EvE D F n r b) (ht : OpOk D F n (compareOp op) f)
    (hm : behindInMarks op r = false := by with_unfolding_all rfl) : EvE D F n (.Compare l [op] [r] pos) (W.bin f a b) :=
  fun A K loc hp s Q o T q => wpAny_Compare1 (ha.two hb ht o T q) hm
theorem EvE.un {x : Expr} {op : UnaryOp} {pos : Pos} {a : WE} {f : V → Hp → (V → Hp → Prop) → Prop} (ha : EvE D F n x a) (ht : UnOk D F n (unaryOp op) f) : EvE D F n (.UnaryOp op x pos) (W.un f a) :=
  fun A K loc hp s Q o T q => wpAny_UnaryOp (ha.then o T q fun v s₁ u hp₁ r₁ T₁ E₁ q₁ => wpAny_mono (ht A K loc hp₁ s₁ v u Q o T₁ r₁ q₁) (fun _ _ p => p.back E₁) fun _ _ e => e)

/-! tests -/
noncomputable def tb (Q : Bool → Hp → Prop) : V → Hp → Prop := fun v hp => match v with | .bool b => Q b hp | _ => False
noncomputable def W.t (a : WE) : WT := fun loc hp Q => a loc hp (tb Q)
theorem truthy_tb {Q : Bool → Hp → Prop} {v : Value} {u : V} {h : Heap} (T : St D F K loc hp s) (E : Ext K h s.heap) (r : Rel s.heap u v) (q : tb Q u hp) : wpAny (model D.prog D.w) A (truthy v) (PT D F K loc h Q) noE s := by
  cases u <;> first | exact q.elim | skip
  rename_i b
  unfold Rel at r; subst r
  exact wpAny_truthy_bool ⟨hp, T, E, q⟩
theorem EvT.cmp {l r : Expr} {op : CmpOp} {pos : Pos} {a b : WE} {f : V → V → Hp → (V → Hp → Prop) → Prop} (ha : EvE D F n l a) (hb : EvE D F n r b) (ht : OpOk D F n (compareOp op) f)
    (hm : behindInMarks op r = false := by with_unfolding_all rfl) : EvT D F n (.Compare l [op] [r] pos) (W.t (W.bin f a b)) :=
  fun A K loc hp s Q o T q => wpAny_isTrue_Compare1 (wpAny_mono (ha.two hb ht o T q) (fun v s₁ h₁ => wpAny_mono h₁ (fun w s₂ h₂ => wpAny_mono h₂ (fun c s₃ h₃ => by
    obtain ⟨u, hp', r', T', E', q'⟩ := h₃
    exact truthy_tb T' E' r' q') fun _ _ e => e) fun _ _ e => e) fun _ _ e => e) hm

noncomputable def W.and : List WT → WT
  | [] => fun _ hp Q => Q true hp
  | a :: r => fun loc hp Q => a loc hp fun b hp₁ => (b = true → W.and r loc hp₁ Q) ∧ (b = false → Q false hp₁)
noncomputable def W.or : List WT → WT
  | [] => fun _ hp Q => Q false hp
  | a :: r => fun loc hp Q => a loc hp fun b hp₁ => (b = false → W.or r loc hp₁ Q) ∧ (b = true → Q true hp₁)
noncomputable def AllT (D : Wd) (F : Fd) (n : Nat) : List Expr → List WT → Prop
  | [], [] => True
  | x :: xs, w :: ws => EvT D F n x w ∧ AllT D F n xs ws
  | _, _ => False
theorem AllT.nil : AllT D F n [] [] := trivial
theorem AllT.cons {x : Expr} {xs : List Expr} {w : WT} {ws : List WT} (a : EvT D F n x w) (b : AllT D F n xs ws) : AllT D F n (x :: xs) (w :: ws) := ⟨a, b⟩
theorem allTrue_and : ∀ {xs : List Expr} {ws : List WT}, AllT D F n xs ws → ∀ {A : Around} {K : Addr → Prop} {loc : Loc} {hp : Hp} {s : Shared} {Q : Bool → Hp → Prop}, AOk A n → St D F K loc hp s → W.and ws loc hp Q →
    wpAny (model D.prog D.w) A (allTrue .And xs F.env) (PT D F K loc s.heap Q) noE s
  | [], [], _, _, _, _, _, _, _, _, T, q => wpAny_allTrue_And_nil ⟨_, T, Ext.refl _ _, q⟩
  | x :: xs, w :: ws, h, A, K, loc, hp, s, Q, o, T, q => wpAny_allTrue_And_cons (h.1.then o T q fun b s₁ hp₁ T₁ E₁ q₁ => by
      cases b with
      | true => exact wpAny_mono (allTrue_and h.2 o T₁ (q₁.1 rfl)) (fun _ _ p => p.back E₁) fun _ _ e => e
      | false => exact ⟨hp₁, T₁, E₁, q₁.2 rfl⟩)
  | [], _ :: _, h, _, _, _, _, _, _, _, _, _ => h.elim
  | _ :: _, [], h, _, _, _, _, _, _, _, _, _ => h.elim
theorem allTrue_or : ∀ {xs : List Expr} {ws : List WT}, AllT D F n xs ws → ∀ {A : Around} {K : Addr → Prop} {loc : Loc} {hp : Hp} {s : Shared} {Q : Bool → Hp → Prop}, AOk A n → St D F K loc hp s → W.or ws loc hp Q →
    wpAny (model D.prog D.w) A (allTrue .Or xs F.env) (PT D F K loc s.heap Q) noE s
  | [], [], _, _, _, _, _, _, _, _, T, q => wpAny_allTrue_Or_nil ⟨_, T, Ext.refl _ _, q⟩
  | x :: xs, w :: ws, h, A, K, loc, hp, s, Q, o, T, q => wpAny_allTrue_Or_cons (h.1.then o T q fun b s₁ hp₁ T₁ E₁ q₁ => by
      cases b with
      | false => exact wpAny_mono (allTrue_or h.2 o T₁ (q₁.1 rfl)) (fun _ _ p => p.back E₁) fun _ _ e => e
      | true => exact ⟨hp₁, T₁, E₁, q₁.2 rfl⟩)
  | [], _ :: _, h, _, _, _, _, _, _, _, _, _ => h.elim
  | _ :: _, [], h, _, _, _, _, _, _, _, _, _ => h.elim
theorem EvT.and {xs : List Expr} {pos : Pos} {ws : List WT} (h : AllT D F n xs ws) : EvT D F n (.BoolOp .And xs pos) (W.and ws) :=
  fun A K loc hp s Q o T q => wpAny_isTrue_BoolOp (allTrue_and h o T q)
theorem EvT.or {xs : List Expr} {pos : Pos} {ws : List WT} (h : AllT D F n xs ws) : EvT D F n (.BoolOp .Or xs pos) (W.or ws) :=
  fun A K loc hp s Q o T q => wpAny_isTrue_BoolOp (allTrue_or h o T q)
/-- a test that is a plain value -/
theorem EvT.val {x : Expr} {a : WE} (h : EvE D F n x a) (he : ∀ whole : Sem Value, isTrue x F.env whole = (do let v ← whole; standAt x.pos; holding [v] (truthy v)) := by intro _; rfl) : EvT D F n x (W.t a) :=
  fun A K loc hp s Q o T q => wpAny_isTrue_value (h.then o T q fun v s₁ u hp₁ r₁ T₁ E₁ q₁ => truthy_tb T₁ E₁ r₁ q₁) (he _)

noncomputable def W.ite (t : WT) (a b : WE) : WE := fun loc hp Q => t loc hp fun c hp₁ => (c = true → a loc hp₁ Q) ∧ (c = false → b loc hp₁ Q)
theorem EvE.ite {t x y : Expr} {pos : Pos} {c : WT} {a b : WE} (hc : EvT D F n t c) (ha : EvE D F n x a) (hb : EvE D F n y b) : EvE D F n (.IfExp t x y pos) (W.ite c a b) :=
  fun A K loc hp s Q o T q => wpAny_IfExp (hc.then o T q fun v s₁ hp₁ T₁ E₁ q₁ => by
    cases v with
    | true => exact wpAny_mono (ha A K loc hp₁ s₁ Q o T₁ (q₁.1 rfl)) (fun _ _ p => p.back E₁) fun _ _ e => e
    | false => exact wpAny_mono (hb A K loc hp₁ s₁ Q o T₁ (q₁.2 rfl)) (fun _ _ p => p.back E₁) fun _ _ e => e)
end
end Mine

namespace Mine
open PySem PySem.W PyProof.Rows

noncomputable def isStar : Expr → Bool
  | .Starred .. => true
  | _ => false
theorem starEach_cons {e : Expr} {rest : List Expr} {env : Env} (h : isStar e = false) : starEach (e :: rest) env = (false, eval e env) :: starEach rest env := by
  cases e <;> first | rfl | cases h
theorem starEach_plain {env : Env} {pos : Pos} : ∀ {es : List Expr}, es.any isStar = false → (backTo pos (starEach es env)).any (·.1) = false
  | [], _ => rfl
  | e :: r, h => by
    rw [List.any_cons, Bool.or_eq_false_iff] at h
    rw [starEach_cons h.1]
    exact starEach_plain h.2

noncomputable def W.args : List WE → Loc → Hp → (List V → Hp → Prop) → Prop
  | [], _, hp, Q => Q [] hp
  | a :: r, loc, hp, Q => a loc hp fun u hp₁ => W.args r loc hp₁ fun us hp₂ => Q (u :: us) hp₂

section
variable {D : Wd} {F : Fd} {n : Nat} {A : Around} {K : Addr → Prop} {loc : Loc} {hp hp' : Hp} {s s' : Shared}

theorem Sim.KF (S : Sim D K hp s) : D.KF.In s.heap := fun a o e => (S.base a o (D.X a o e)).1
theorem Sim.hbase (S : Sim D K hp s) : ∀ b o, D.s₁.heap.get? b = some o → s.heap.get? b = some o := fun b o e => (S.base b o e).1

noncomputable def AllE (D : Wd) (F : Fd) (n : Nat) : List Expr → List WE → Prop
  | [], [] => True
  | x :: xs, w :: ws => isStar x = false ∧ EvE D F n x w ∧ AllE D F n xs ws
  | _, _ => False
theorem AllE.nil : AllE D F n [] [] := trivial
theorem AllE.cons {x : Expr} {xs : List Expr} {w : WE} {ws : List WE} (a : EvE D F n x w) (b : AllE D F n xs ws) (h : isStar x = false := by rfl) : AllE D F n (x :: xs) (w :: ws) := ⟨h, a, b⟩
theorem AllE.star : ∀ {xs : List Expr} {ws : List WE}, AllE D F n xs ws → xs.any isStar = false
  | [], _, _ => rfl
  | x :: xs, [], h => h.elim
  | x :: xs, w :: ws, h => by rw [List.any_cons, h.1, AllE.star h.2.2]; rfl

theorem evArgs : ∀ {xs : List Expr} {ws : List WE}, AllE D F n xs ws → ∀ {pos : Pos} {A : Around} {K : Addr → Prop} {loc : Loc} {hp : Hp} {s : Shared} {Q : List V → Hp → Prop}, AOk A n → St D F K loc hp s → W.args ws loc hp Q →
    wpAny (model D.prog D.w) A (spliced (backTo pos (starEach xs F.env))) (PL D F K loc s.heap Q) noE s
  | [], [], _, _, _, _, _, _, _, _, _, T, q => wpAny_items_nil ⟨[], _, .nil, T, Ext.refl _ _, q⟩
  | x :: xs, w :: ws, h, pos, A, K, loc, hp, s, Q, o, T, q => by
    refine wpAny_items_cons (h.2.1.then o T q fun v s₁ u hp₁ r₁ T₁ E₁ q₁ => ?_) (starEach_cons h.1)
    refine wpAny_mono (evArgs h.2.2 o T₁ q₁) (fun vs s₂ ⟨us, hp₂, r₂, T₂, E₂, q₂⟩ => ?_) fun _ _ e => e
    exact ⟨u :: us, hp₂, .cons (r₁.mono E₂) r₂, T₂, E₁.trans E₂, q₂⟩
  | [], _ :: _, h, _, _, _, _, _, _, _, _, _, _ => h.elim
  | _ :: _, [], h, _, _, _, _, _, _, _, _, _, _ => h.elim

/-- callWith for a builtin or a type -/
theorem evCallArgs {xs : List Expr} {ws : List WE} (h : AllE D F n xs ws) {pos : Pos} {f : Value} {A : Around} {K : Addr → Prop} {loc : Loc} {hp : Hp} {s : Shared} {Q : List V → Hp → Prop} {R : Args → Shared → Prop}
    (o : AOk A n) (T : St D F K loc hp s) (q : W.args ws loc hp Q)
    (k : ∀ vs s' us hp', RelL s'.heap us vs → St D F K loc hp' s' → Ext K s.heap s'.heap → Q us hp' → R ⟨vs, []⟩ s') : wpAny (model D.prog D.w) A (evalArgs f true (backTo pos (starEach xs F.env)) []) R noE s := by
  cases xs with
  | nil =>
    cases ws with
    | nil => exact evalArgs_nil3 (k [] s [] hp .nil T (Ext.refl _ _) q)
    | cons => exact h.elim
  | cons x xs =>
    have e := evArgs h (pos := pos) o T q
    cases ws with
    | nil => exact h.elim
    | cons w ws =>
      rw [starEach_cons h.1] at e ⊢
      exact Calls.evalArgs_plain (wpAny_mono e (fun vs s' ⟨us, hp', r, T', E', q'⟩ => k vs s' us hp' r T' E' q') fun _ _ e => e)

noncomputable def W.app (f : List V → Hp → (V → Hp → Prop) → Prop) (as : List WE) : WE := fun loc hp Q => W.args as loc hp fun us hp' => f us hp' Q
/-- what an operation on a list of values does -/
noncomputable def OpsOk (D : Wd) (F : Fd) (n : Nat) (t : List Value → Sem Value) (f : List V → Hp → (V → Hp → Prop) → Prop) : Prop :=
  ∀ A K loc hp s vs us Q, AOk A n → St D F K loc hp s → RelL s.heap us vs → f us hp Q → wpAny (model D.prog D.w) A (t vs) (PE D F K loc s.heap Q) noE s

/-! names of the top -/
theorem ldGlobal {x : Str} {pos : Pos} {v : Value} {Q : Value → Shared → Prop} (T : St D F K loc hp s) (hx : F.env.kindOf x = some .globalImplicit) (e : nsIn D.KF mainGlobals x = some (some v)) (h : Q v s)
    (hd : (x == ("__debug__" : Str)) = false := by decide) : wpAny (model D.prog D.w) A (eval (.Name x pos) F.env) Q noE s :=
  Calls.Name_function_global T.ok.kind hx (Calls.loadGlobal_global (by rw [T.ok.globals]; exact D.T.g.keeps T.sim.hbase) (mg_of D.X D.T.g e) h) hd
theorem ldBuiltin {x : Str} {pos : Pos} {v : Value} {Q : Value → Shared → Prop} (T : St D F K loc hp s) (hx : F.env.kindOf x = some .globalImplicit) (e : nsIn D.KF mainGlobals x = some none) (hv : bootBuiltins x = some v) (hn : x ≠ "__name__") (h : Q v s)
    (hd : (x == ("__debug__" : Str)) = false := by decide) : wpAny (model D.prog D.w) A (eval (.Name x pos) F.env) Q noE s :=
  Calls.Name_function_global T.ok.kind hx (Calls.loadGlobal_builtin (by rw [T.ok.globals]; exact D.T.g.keeps T.sim.hbase) (mg_none_of D.X D.T.g e) (by rw [T.ok.builtins]; exact D.T.b.keeps T.sim.hbase) ((D.T.builtins x hn).trans hv) h) hd

theorem EvE.gint {x : Str} {pos : Pos} {i : Int} {t : Tok} (hx : F.env.kindOf x = some .globalImplicit) (e : nsIn D.KF mainGlobals x = some (some (.int i t))) (hd : (x == ("__debug__" : Str)) = false := by decide) : EvE D F n (.Name x pos) (W.c (.int i)) :=
  fun A K loc hp s Q o T q => ldGlobal T hx e ⟨.int i, hp, ⟨t, rfl⟩, T, Ext.refl _ _, q⟩ hd

/-- a builtin function or a type, called -/
theorem EvE.callB {x : Str} {p pos : Pos} {id : String} {xs : List Expr} {ws : List WE} {f : List V → Hp → (V → Hp → Prop) → Prop} (h : AllE D F n xs ws) (hf : OpsOk D F n (fun vs => call (.builtin id) vs) f)
    (hx : F.env.kindOf x = some .globalImplicit) (e : nsIn D.KF mainGlobals x = some none) (hv : bootBuiltins x = some (.builtin id)) (hn : x ≠ "__name__") (hd : (x == ("__debug__" : Str)) = false := by decide) :
    EvE D F n (.Call (.Name x p) xs [] pos) (W.app f ws) := fun A K loc hp s Q o T q => by
  refine Call_Name rfl (ldBuiltin T hx e hv hn ?_ hd)
  refine Calls.callWith_builtin (starEach_plain h.star) (evCallArgs h o T q fun vs s' us hp' r T' E' q' => ?_)
  exact wpAny_mono (hf A K loc hp' s' vs us Q o T' r q') (fun _ _ p => p.back E') fun _ _ e => e
theorem EvE.callT {x : Str} {p pos : Pos} {ty : String} {xs : List Expr} {ws : List WE} {f : List V → Hp → (V → Hp → Prop) → Prop} (h : AllE D F n xs ws) (hf : OpsOk D F n (fun vs => call (.type ty) vs) f)
    (hx : F.env.kindOf x = some .globalImplicit) (e : nsIn D.KF mainGlobals x = some none) (hv : bootBuiltins x = some (.type ty)) (hn : x ≠ "__name__") (hd : (x == ("__debug__" : Str)) = false := by decide) :
    EvE D F n (.Call (.Name x p) xs [] pos) (W.app f ws) := fun A K loc hp s Q o T q => by
  refine Call_Name rfl (ldBuiltin T hx e hv hn ?_ hd)
  refine PyProof.Rows.callWith_type (starEach_plain h.star) (evCallArgs h o T q fun vs s' us hp' r T' E' q' => ?_)
  exact wpAny_mono (hf A K loc hp' s' vs us Q o T' r q') (fun _ _ p => p.back E') fun _ _ e => e

/-! calls of the text's functions -/
inductive CallR (D : Wd) (K : Addr → Prop) (h : Heap) (Q : V → Hp → Prop) (r : Result) (s' : Shared) : Prop
  | mk (v : Value) (u : V) (hp' : Hp) (_ : r = .ok (.ret v)) (_ : Rel s'.heap u v) (_ : Sim D K hp' s') (_ : Ext K h s'.heap) (_ : Q u hp')
noncomputable def Calls (D : Wd) (f : Addr) (n : Nat) (us : List V) (hp : Hp) (Q : V → Hp → Prop) : Prop :=
  ∀ A K s vs, AOk A n → Sim D K hp s → RelL s.heap us vs → codeAny (model D.prog D.w) A (.call (.ref f) ⟨vs, []⟩) (CallR D K s.heap Q) s
/-- what a call need not know it does not change -/
theorem Calls.forget {f : Addr} {us : List V} {Q Q' : V → Hp → Prop} (h : Calls D f n us hp Q) (k : ∀ u hp', Q u hp' → ∃ hp₂ : Hp, (∀ a o, hp₂ a = some o → hp' a = some o) ∧ Q' u hp₂) : Calls D f n us hp Q' :=
  fun A K s vs a S r => codeAny_mono (h A K s vs a S r) fun _ _ ⟨v, u, hp', a, b, c, d, e⟩ => let ⟨hp₂, l, q⟩ := k _ _ e; ⟨v, u, hp₂, a, b, c.less l, d, q⟩
/-- the caller's frame, kept while a call runs -/
noncomputable def St.Kin (F : Fd) (K : Addr → Prop) : Addr → Prop := fun a => K a ∨ a = F.env.locals ∨ ∃ x, (x, a) ∈ F.env.cells
theorem St.inside (T : St D F K loc hp s) : Sim D (St.Kin F K) hp s where
  base b o e := ⟨(T.sim.base b o e).1, .inl (T.sim.base b o e).2⟩
  k a h := by
    rcases h with h | rfl | ⟨x, h⟩
    · exact T.sim.k a h
    · obtain ⟨o, e⟩ := T.lsome; rw [e]; rfl
    · obtain ⟨⟨v, o, e, _⟩, _⟩ := T.cells x a h; rw [e]; rfl
  obj a o e := by
    refine ⟨?_, (T.sim.obj a o e).2⟩
    rintro (h | rfl | ⟨x, h⟩)
    · exact (T.sim.obj a o e).1 h
    · rw [T.lhp] at e; cases e
    · obtain ⟨⟨v, oc, gc, dc⟩, _⟩ := T.cells x a h
      have ho := (T.sim.obj a o e).2
      cases o with
      | list ws => obtain ⟨its, n, q, _⟩ := ho; rw [gc] at q; cases q; cases dc
      | dict d =>
        obtain ⟨kvs, ⟨o2, es, ep, q, _, dd, _⟩, _⟩ := ho
        rw [gc] at q; cases q; rw [dd] at dc; cases dc
      | inst C dx => rw [show s.heap.get? a = some (instObj C dx) from ho] at gc; cases gc; cases dc
      | ns fs => obtain ⟨es, n, q, _⟩ := ho; rw [gc] at q; cases q; cases dc
  gens := T.sim.gens
  os := T.sim.os
theorem Sim.outside {K' : Addr → Prop} (S : Sim D K' hp' s') (k : ∀ a, K a → K' a) (b : ∀ b o, D.s₁.heap.get? b = some o → K b) : Sim D K hp' s' :=
  ⟨fun b' o e => ⟨(S.base b' o e).1, b b' o e⟩, fun a h => S.k a (k a h), fun a o e => ⟨fun h => (S.obj a o e).1 (k a h), (S.obj a o e).2⟩, S.gens, S.os⟩
theorem St.back (T : St D F K loc hp s) (S : Sim D (St.Kin F K) hp' s') (E : Ext (St.Kin F K) s.heap s'.heap) : St D F K loc hp' s' ∧ Ext K s.heap s'.heap := by
  have E' : Ext K s.heap s'.heap := E.weaken fun a h => .inl h
  refine ⟨T.step (S.outside (fun a h => .inl h) fun b o e => (T.sim.base b o e).2) E' (fun o e => E _ o e (.inr (.inr (.inl rfl)))) (fun y c hc o e => E _ o e (.inr (.inr (.inr ⟨y, hc⟩)))) ?_, E'⟩
  cases e : hp' F.env.locals with
  | none => rfl
  | some o => exact absurd (.inr (.inl rfl)) (S.obj _ _ e).1

theorem St.call {f : Addr} {us : List V} {vs : List Value} {Q : V → Hp → Prop} (T : St D F K loc hp s) (o : AOk A n) (r : RelL s.heap us vs) (h : Calls D f n us hp Q) : wpAny (model D.prog D.w) A (call (.ref f) vs) (PE D F K loc s.heap Q) noE s := by
  refine wpAny_call (codeAny_mono (h A (St.Kin F K) s vs o T.inside r) fun res s' ⟨v, u, hp', e, r', S', E', q'⟩ => ?_)
  subst e
  obtain ⟨T', E''⟩ := T.back S' E'
  exact ⟨u, hp', r', T', E'', q'⟩

noncomputable def isFunc (KF : Frag) (f : Addr) : Prop := ∃ o fd, KF.lookup f = some o ∧ o.data = .func fd
theorem evCallFn {xs : List Expr} {ws : List WE} (h : AllE D F n xs ws) {pos : Pos} {f : Addr} (hf : isFunc D.KF f) {first : List Value} {us₀ : List V} {A : Around} {K : Addr → Prop} {loc : Loc} {hp : Hp} {s : Shared} {Q : V → Hp → Prop} {h₀ : Heap}
    (o : AOk A n) (T : St D F K loc hp s) (r₀ : RelL s.heap us₀ first) (E₀ : Ext K h₀ s.heap) (q : W.args ws loc hp fun us hp' => Calls D f n (us₀ ++ us) hp' Q) :
    wpAny (model D.prog D.w) A (callWith pos (.ref f) first (backTo pos (starEach xs F.env)) []) (PE D F K loc h₀ Q) noE s := by
  obtain ⟨of, fd, e1, e2⟩ := hf
  refine Calls.callWith_function (o := of) (fd := fd) (evCallArgs h o T q fun vs s' us hp' r T' E' q' => ⟨⟨T'.sim.KF _ _ e1, e2⟩, ?_⟩)
  exact wpAny_mono (T'.call o ((r₀.mono E').append r) q') (fun _ _ p => p.back (E₀.trans E')) fun _ _ e => e

noncomputable def W.call (D : Wd) (f : Addr) (n : Nat) (as : List WE) : WE := fun loc hp Q => W.args as loc hp fun us hp' => Calls D f n us hp' Q
theorem EvE.call {x : Str} {p pos : Pos} {f : Addr} {xs : List Expr} {ws : List WE} (h : AllE D F n xs ws) (hx : F.env.kindOf x = some .globalImplicit) (e : nsIn D.KF mainGlobals x = some (some (.ref f))) (hf : isFunc D.KF f)
    (hd : (x == ("__debug__" : Str)) = false := by decide) : EvE D F n (.Call (.Name x p) xs [] pos) (W.call D f n ws) := fun A K loc hp s Q o T q =>
  Call_Name rfl (ldGlobal T hx e (evCallFn h hf (us₀ := []) o T .nil (Ext.refl _ _) q) hd)

/-! attributes -/
noncomputable def look (x : Str) : List (Str × V) → Option V
  | [] => none
  | (y, w) :: r => if y == x then some w else look x r
noncomputable def fld (hp : Hp) (C : Addr) (x : Str) : V → Option V
  | .ref a => match hp a with
    | some (.inst C' dx) => if C' = C then (match hp dx with | some (.ns fs) => look x fs | _ => none) else none
    | _ => none
  | _ => none
noncomputable def isObj (hp : Hp) (C : Addr) (x : Str) : V → Prop
  | .ref a => match hp a with
    | some (.inst C' dx) => C' = C ∧ (match hp dx with | some (.ns fs) => look x fs = none | _ => False)
    | _ => False
  | _ => False
theorem look_some {h : Heap} {x : Str} {w : V} : ∀ {fs : List (Str × V)} {es : List DictEntry}, NsIs h fs es → look x fs = some w → ∃ v, getL x es = some (some v) ∧ Rel h w v
  | [], _, _, e => by cases e
  | (y, w') :: fs, es, h', e => by
    unfold NsIs at h'
    obtain ⟨en, r, rfl, ⟨t, hk⟩, hv, hr⟩ := h'
    unfold look at e
    unfold getL
    rw [List.find?_cons, show en.key.isStr x = (y == x) by rw [hk]; rfl]
    split at e
    · rename_i q
      cases e
      rw [q]; exact ⟨en.val, rfl, hv⟩
    · rename_i q
      rw [Bool.not_eq_true] at q
      rw [q]
      obtain ⟨v, a, b⟩ := look_some hr e
      refine ⟨v, ?_, b⟩
      unfold getL at a
      cases hf : r.find? (·.key.isStr x) with
      | some e' => rw [hf] at a; exact a
      | none =>
        rw [hf] at a
        simp only at a
        split at a <;> cases a
theorem look_none {h : Heap} {x : Str} : ∀ {fs : List (Str × V)} {es : List DictEntry}, NsIs h fs es → look x fs = none → getL x es = some none
  | [], es, h', _ => by unfold NsIs at h'; subst h'; rfl
  | (y, w') :: fs, es, h', e => by
    unfold NsIs at h'
    obtain ⟨en, r, rfl, ⟨t, hk⟩, hv, hr⟩ := h'
    unfold look at e
    split at e
    · cases e
    · rename_i q
      rw [Bool.not_eq_true] at q
      have a := look_none hr e
      unfold getL at a ⊢
      rw [List.find?_cons, show en.key.isStr x = (y == x) by rw [hk]; rfl, q, List.any_cons, show en.refKey = false by unfold DictEntry.refKey; rw [hk]]
      exact a

theorem rel_handed {h : Heap} {u : V} {v : Value} (r : Rel h u v) : handedIn v = true := by
  cases u <;> unfold Rel at r
  · subst r; rfl
  · subst r; rfl
  · obtain ⟨_, rfl⟩ := r; rfl
  · obtain ⟨_, rfl⟩ := r; rfl
  · subst r; rfl
  · obtain ⟨_, _, _, rfl, _⟩ := r; rfl

theorem St.inst {x dx C : Addr} {fs : List (Str × V)} (T : Sim D K hp s) (h1 : hp x = some (.inst C dx)) (h2 : hp dx = some (.ns fs)) :
    ∃ es n, InstAt s.heap x (instObj C dx) C (some (dictOf es n)) ∧ s.heap.get? dx = some (dictOf es n) ∧ NsIs s.heap fs es := by
  obtain ⟨es, n, g, l⟩ := (T.obj _ _ h2).2
  exact ⟨es, n, ⟨(T.obj _ _ h1).2, rfl, rfl, g⟩, g, l⟩

structure AttrOk (KF : Frag) (C : Addr) (x : Str) : Prop where
  get : plainGet KF C x = true
  dict : hasDictIn KF C = true
  find : ∃ attr, findIn KF (.ref C) x = some attr ∧ noGet KF attr = true

noncomputable def W.attr (C : Addr) (x : Str) (a : WE) : WE := fun loc hp Q => a loc hp fun u hp₁ => ∃ w, fld hp₁ C x u = some w ∧ Q w hp₁

theorem fld_some {C : Addr} {x : Str} {u w : V} (e : fld hp C x u = some w) : ∃ a dx fs, u = .ref a ∧ hp a = some (.inst C dx) ∧ hp dx = some (.ns fs) ∧ look x fs = some w := by
  cases u <;> first | (cases e; done) | skip
  rename_i a
  dsimp only [fld] at e
  cases h1 : hp a with
  | none => rw [h1] at e; cases e
  | some o =>
    rw [h1] at e
    cases o <;> first | (cases e; done) | skip
    rename_i C' dx
    dsimp only at e
    by_cases hC : C' = C
    · rw [if_pos hC] at e
      subst hC
      cases h2 : hp dx with
      | none => rw [h2] at e; cases e
      | some o2 =>
        rw [h2] at e
        cases o2 <;> first | (cases e; done) | skip
        rename_i fs
        exact ⟨a, dx, fs, rfl, h1, h2, e⟩
    · rw [if_neg hC] at e; cases e
theorem isObj_of {C : Addr} {x : Str} {u : V} (e : isObj hp C x u) : ∃ a dx fs, u = .ref a ∧ hp a = some (.inst C dx) ∧ hp dx = some (.ns fs) ∧ look x fs = none := by
  cases u <;> first | (exact e.elim) | skip
  rename_i a
  dsimp only [isObj] at e
  cases h1 : hp a with
  | none => rw [h1] at e; exact e.elim
  | some o =>
    rw [h1] at e
    cases o <;> first | (exact e.elim) | skip
    rename_i C' dx
    dsimp only at e
    obtain ⟨rfl, e⟩ := e
    cases h2 : hp dx with
    | none => rw [h2] at e; exact e.elim
    | some o2 =>
      rw [h2] at e
      cases o2 <;> first | (exact e.elim) | skip
      rename_i fs
      exact ⟨a, dx, fs, rfl, h1, h2, e⟩
theorem getAttr_fld {C : Addr} {x : Str} {u w : V} {v : Value} {expr : Bool} {Q : Value → Shared → Prop} (ok : AttrOk D.KF C x) (S : Sim D K hp s) (r : Rel s.heap u v) (e : fld hp C x u = some w)
    (k : ∀ v', Rel s.heap w v' → Q v' { s with toks := s.toks + 1 }) : wpAny (model D.prog D.w) A (getAttr v x expr) Q noE s := by
  obtain ⟨a, dx, fs, rfl, h1, h2, e⟩ := fld_some e
  unfold Rel at r; subst r
  obtain ⟨es, n, I, _, l⟩ := St.inst S h1 h2
  obtain ⟨v', g, rv⟩ := look_some l e
  obtain ⟨attr, f1, f2⟩ := ok.find
  exact get_value S.KF I (plainGet_of ok.get).1 (findObj_own ok.dict f1 f2 (by rw [lookIn_dict]; exact g)) (rel_handed rv) (k v' rv)

theorem EvE.attr {o : Expr} {C : Addr} {x : Str} {pos : Pos} {a : WE} (h : EvE D F n o a) (ok : AttrOk D.KF C x)
    (he : attributeBase o x F.env (eval o F.env) = eval o F.env := by rfl) : EvE D F n (.Attribute o x pos) (W.attr C x a) := fun A K loc hp s Q ao T q => by
  rw [arm_eval_Attribute, he]
  refine wpAny_bind (h.then ao T q fun v s₁ u hp₁ r₁ T₁ E₁ q₁ => wpAny_bind (wpAny_standAt (wpAny_bind (wpAny_holding ?_))))
  obtain ⟨w, e, q₁⟩ := q₁
  exact getAttr_fld ok T₁.sim r₁ e fun v' rv => wpAny_bind (wpAny_letTemporaryGo (wpAny_pure ⟨w, hp₁, rv, T₁.toks _, E₁, q₁⟩))

structure MethOk (KF : Frag) (C : Addr) (x : Str) (f : Addr) : Prop where
  get : plainGet KF C x = true
  find : findIn KF (.ref C) x = some (some (.ref f))
  fn : isFn KF (.ref f) = true
  func : isFunc KF f

noncomputable def W.meth (D : Wd) (C : Addr) (x : Str) (f : Addr) (n : Nat) (a : WE) (as : List WE) : WE := fun loc hp Q => a loc hp fun u hp₁ => isObj hp₁ C x u ∧ W.args as loc hp₁ fun us hp₂ => Calls D f n (u :: us) hp₂ Q

theorem EvE.meth {o : Expr} {C f : Addr} {x : Str} {apos pos : Pos} {a : WE} {xs : List Expr} {ws : List WE} (h : EvE D F n o a) (hs : AllE D F n xs ws) (ok : MethOk D.KF C x f)
    (he : attributeBase o x F.env (eval o F.env) = eval o F.env := by rfl)
    (hfew : methodCallForm (xs.length + 0) (backTo pos (starEach xs F.env)) [] = true := by rfl) (hline : (apos.endLine == pos.line) = true := by rfl) :
    EvE D F n (.Call (.Attribute o x apos) xs [] pos) (W.meth D C x f n a ws) := fun A K loc hp s Q ao T q => by
  rw [arm_eval_Call, he]
  refine wpAny_bind (h.then ao T q fun v s₁ u hp₁ r₁ T₁ E₁ q₁ => wpAny_bind (wpAny_standAt ?_))
  unfold methodCall
  rw [show methodCallForm (xs.length + ([] : List Keyword).length) (backTo pos (starEach xs F.env)) (backToKw pos (keywordEach [] F.env)) = true from hfew]
  obtain ⟨q1, q2⟩ := q₁
  obtain ⟨ax, dx, fs, rfl, h1, h2, q1⟩ := isObj_of q1
  unfold Rel at r₁; subst r₁
  obtain ⟨es, m, I, _, l⟩ := St.inst T₁.sim h1 h2
  refine wpAny_bind (wpAny_holding ?_)
  refine method_fn T₁.sim.KF I (plainGet_of ok.get).1 (plainGet_of ok.get).2 ok.find (beq_iff_eq.mp ok.fn) (by show (lookIn x (dictOf es m)).map _ = _; rw [lookIn_dict, look_none l q1]; rfl) ?_
  refine wpAny_bind (wpAny_of_eq (a := pos) (by unfold methodCallPos; simp [hline]) ?_)
  exact evCallFn hs ok.func (us₀ := [.ref ax]) ao T₁ (.one rfl) E₁ q2
end
end Mine

namespace Mine
open PySem PySem.W PyProof.Rows

section
variable {D : Wd} {F : Fd} {n : Nat} {A : Around} {K : Addr → Prop} {loc : Loc} {hp hp' : Hp} {s s' : Shared}

/-! a field stored -/
noncomputable def putF (x : Str) (w : V) : List (Str × V) → List (Str × V)
  | [] => [(x, w)]
  | (y, w') :: r => if y == x then (y, w) :: r else (y, w') :: putF x w r
theorem NsIs.put {h : Heap} {x : Str} {w : V} {v : Value} {hsh : Int} {t : Tok} (rv : Rel h w v) : ∀ {fs : List (Str × V)} {es : List DictEntry}, NsIs h fs es → NsIs h (putF x w fs) (putL x hsh (.str x t) v es)
  | [], es, h' => by
    unfold NsIs at h'; subst h'
    unfold putF putL NsIs
    exact ⟨_, _, rfl, ⟨t, rfl⟩, rv, rfl⟩
  | (y, w') :: fs, es, h' => by
    unfold NsIs at h'
    obtain ⟨en, r, rfl, ⟨u, hk⟩, hv, hr⟩ := h'
    unfold putF putL
    have e : en.key.isStr x = (y == x) := by rw [hk]; rfl
    rw [e]
    cases q : (y == x) with
    | true =>
      simp only [if_true]
      unfold NsIs
      exact ⟨_, _, rfl, ⟨u, hk⟩, rv, hr⟩
    | false =>
      simp only [Bool.false_eq_true, if_false]
      unfold NsIs
      exact ⟨_, _, rfl, ⟨u, hk⟩, hv, hr.put rv⟩
theorem NsIs.length {h : Heap} : ∀ {fs : List (Str × V)} {es : List DictEntry}, NsIs h fs es → es.length = fs.length
  | [], es, h' => by unfold NsIs at h'; subst h'; rfl
  | (y, w') :: fs, es, h' => by
    unfold NsIs at h'
    obtain ⟨en, r, rfl, _, _, hr⟩ := h'
    simp [hr.length]
theorem NsIs.some {h : Heap} {x : Str} {fs : List (Str × V)} {es : List DictEntry} (l : NsIs h fs es) : (getL x es).isSome = true := by
  cases e : look x fs with
  | none => rw [look_none l e]; rfl
  | some w => obtain ⟨v, g, _⟩ := look_some l e; rw [g]; rfl

structure SetOk (KF : Frag) (C : Addr) (x : Str) : Prop where
  set : findIn KF (.ref C) "__setattr__" = some (some (.builtin "object.__setattr__"))
  plain : plainOver KF C = true
  taker : takerIn KF C x = some none
  dict : hasDictIn KF C = true

theorem setAttr_raw {C x dx : Addr} {name : Str} {es : List DictEntry} {m : Nat} {v : Value} {Q : Unit → Shared → Prop} (X : D.KF.In s.heap) (I : InstAt s.heap x (instObj C dx) C (some (dictOf es m))) (ok : SetOk D.KF C name)
    (hl : (getL name es).isSome = true) (hz : es.length + 1 ≤ 1000)
    (h : ∀ h' m', Heap.SameBut dx s.heap h' → h'.get? dx = some (dictOf (putL name (PyData.keyHash D.w.params name) (.str name (s.toks + 1)) v es) m') → Q () { s with heap := h', toks := s.toks + 2 }) :
    wpAny (model D.prog D.w) A (setAttr (.ref x) name v) Q noE s := by
  refine set_plain X I ok.set (osa_open (s := { s with toks := s.toks + 1 }) X I ok.plain ok.taker fun b => ?_)
  have hx := I.at_
  have hdx : s.heap.get? dx = some (dictOf es m) := I.dict
  obtain ⟨cd, hc, hd⟩ := any_some ok.dict
  refine wpAny_bind (wpAny_pure (wpAny_bind (wpAny_bind (wpAny_loadPart hx (wpAny_bind (Looks.here (s := { s with toks := s.toks + 1 }) (looks_clsIn X hc) ?_))))))
  rw [hd]
  refine wpAny_pure (a := some dx) (wpAny_bind (wpAny_pure (wpAny_bind ?_)))
  unfold nsSet
  refine wpAny_bind (wpAny_bind (wpAny_askSetting (wpAny_pure (wpAny_bind (wpAny_mkText (wpAny_bind (wpAny_loadPart hdx ?_)))))))
  have c : aRefKeyMayBeTheName name es.toArray = false := by
    rw [aRefKeyMayBeTheName_at, ← Array.any_toList, ← Array.any_toList]
    unfold getL at hl
    cases hf : es.find? (·.key.isStr name) with
    | some e =>
      have : es.any (·.key.isStr name) = true := List.any_eq_true.mpr ⟨e, List.mem_of_find?_eq_some hf, List.find?_some (p := fun e : DictEntry => e.key.isStr name) hf⟩
      simp [this]
    | none =>
      rw [hf] at hl
      simp only at hl
      split at hl
      · cases hl
      · rename_i z; simp [z]
  dsimp only
  rw [c]
  have hu : ((s.heap.update dx (Obj.putName name (PyData.keyHash D.w.params name) (.str name (s.toks + 1)) v)).get? dx) = some (dictOf (putL name (PyData.keyHash D.w.params name) (.str name (s.toks + 1)) v es) (putN name es m)) := by
    have := Heap.get?_update_self (Obj.putName name (PyData.keyHash D.w.params name) (.str name (s.toks + 1)) v) hdx (by rw [putName_dict]; rfl)
    rw [this, putName_dict]
  have hlen : (putL name (PyData.keyHash D.w.params name) (.str name (s.toks + 1)) v es).length ≤ 1000 := by
    have : ∀ l : List DictEntry, (putL name (PyData.keyHash D.w.params name) (.str name (s.toks + 1)) v l).length ≤ l.length + 1 := by
      intro l
      induction l with
      | nil => exact Nat.le_refl _
      | cons e r ih => unfold putL; split <;> simp_all
    exact Nat.le_trans (this es) hz
  refine wpAny_updatePart hdx ?_
  refine wpAny_bind (wpAny_lookBehind hu (pastItsLine_dict (by rw [List.size_toArray, sizeLine_eq]; omega)) ?_)
  exact wpAny_pure (h _ _ (Heap.SameBut.update ..) hu)

/-- a field of an object is stored -/
noncomputable def wSetF (C : Addr) (x : Str) (u w : V) (hp : Hp) (Q : Hp → Prop) : Prop := match u with
  | .ref a => match hp a with
    | some (.inst C' dx) => C' = C ∧ (match hp dx with | some (.ns fs) => fs.length < 100 ∧ Q (hp.set dx (.ns (putF x w fs))) | _ => False)
    | _ => False
  | _ => False
theorem wSetF_of {C : Addr} {x : Str} {u w : V} {Q : Hp → Prop} (e : wSetF C x u w hp Q) : ∃ a dx fs, u = .ref a ∧ hp a = some (.inst C dx) ∧ hp dx = some (.ns fs) ∧ fs.length < 100 ∧ Q (hp.set dx (.ns (putF x w fs))) := by
  cases u <;> first | (exact e.elim) | skip
  rename_i a
  dsimp only [wSetF] at e
  cases h1 : hp a with
  | none => rw [h1] at e; exact e.elim
  | some o =>
    rw [h1] at e
    cases o <;> first | (exact e.elim) | skip
    rename_i C' dx
    dsimp only at e
    obtain ⟨rfl, e⟩ := e
    cases h2 : hp dx with
    | none => rw [h2] at e; exact e.elim
    | some o2 =>
      rw [h2] at e
      cases o2 <;> first | (exact e.elim) | skip
      rename_i fs
      exact ⟨a, dx, fs, rfl, h1, h2, e.1, e.2⟩
theorem setAttr_fld {C : Addr} {x : Str} {u w : V} {v v' : Value} {Q : Hp → Prop} {R : Unit → Shared → Prop} (ok : SetOk D.KF C x) (T : St D F K loc hp s) (r : Rel s.heap u v) (rw' : Rel s.heap w v') (e : wSetF C x u w hp Q)
    (k : ∀ s' hp', St D F K loc hp' s' → Ext K s.heap s'.heap → Q hp' → R () s') : wpAny (model D.prog D.w) A (setAttr v x v') R noE s := by
  obtain ⟨a, dx, fs, rfl, h1, h2, hlen, q⟩ := wSetF_of e
  unfold Rel at r; subst r
  obtain ⟨es, m, I, g, l⟩ := St.inst T.sim h1 h2
  refine setAttr_raw T.sim.KF I ok l.some (by rw [l.length]; omega) fun h' m' hs hg => ?_
  have E : Ext K s.heap h' := Ext.same hs g (fun q => by simpa using q.cls) (T.sim.obj _ _ h2).1
  obtain ⟨T', E'⟩ := T.upd (t := s.toks + 2) hs h2 (o' := .ns (putF x w fs)) ⟨_, m', hg, (l.mono E).put (rw'.mono E)⟩
  exact k _ _ T' E' q

/-! new objects of the text's classes -/
structure NewOk (KF : Frag) (C fI : Addr) : Prop where
  makes : makesIn KF C = true
  init : findIn KF (.ref C) "__init__" = some (some (.ref fI))
  fn : typeIn KF (.ref fI) = some (.type "function")
  keep : keepIn KF (.ref C) = true

noncomputable def W.new (D : Wd) (C fI : Addr) (n : Nat) (as : List WE) : WE := fun loc hp Q => W.args as loc hp fun us hp₁ =>
  ∀ x dx, hp₁ x = none → hp₁ dx = none → x ≠ dx → Calls D fI n (.ref x :: us) ((hp₁.set dx (.ns [])).set x (.inst C dx)) fun u hp₂ => u = .none ∧ Q (.ref x) hp₂

theorem make_raw {C fI : Addr} {vs : List Value} {R : Result → Shared → Prop} (X : D.KF.In s.heap) (ok : NewOk D.KF C fI)
    (h : codeAny (model D.prog D.w) (A.under (.builtin "type.__call__" ⟨.ref C :: vs, []⟩)) (.call (.ref fI) ⟨.ref (s.heap.objs.size + 1) :: vs, []⟩) (InitBack (s.heap.objs.size + 1) R) { s with heap := (s.heap.push emptyDict).push (instObj C s.heap.objs.size) }) :
    codeAny (model D.prog D.w) A (.call (.ref C) ⟨vs, []⟩) R s := by
  obtain ⟨hh, g, d, t, os⟩ := s
  exact make_core (makes_of X ok.makes) (looks_findIn X ok.init) (fun self => bind_fn X self ok.fn) (.inl rfl) h

theorem AOk.create {a : AOk A (n + 1)} (C : Addr) (vs : List Value) : AOk (A.under (.builtin "type.__call__" ⟨.ref C :: vs, []⟩)) n := by
  have hw : (Code.builtin "type.__call__" ⟨.ref C :: vs, []⟩).weight = 1 := rfl
  have hu : (Code.builtin "type.__call__" ⟨.ref C :: vs, []⟩).cUnits = 1 := rfl
  refine ⟨a.1, ?_, ?_⟩
  · show A.depth + (Code.builtin "type.__call__" ⟨.ref C :: vs, []⟩).weight + n < recursionLimit
    rw [hw]; have := a.2.1; omega
  · show A.units + (Code.builtin "type.__call__" ⟨.ref C :: vs, []⟩).cUnits + 20 * n < cLine
    rw [hu]; have := a.2.2; omega

theorem EvE.new {x : Str} {p pos : Pos} {C fI : Addr} {xs : List Expr} {ws : List WE} (h : AllE D F (n + 1) xs ws) (hx : F.env.kindOf x = some .globalImplicit) (e : nsIn D.KF mainGlobals x = some (some (.ref C))) (ok : NewOk D.KF C fI)
    (hd : (x == ("__debug__" : Str)) = false := by decide) : EvE D F (n + 1) (.Call (.Name x p) xs [] pos) (W.new D C fI n ws) := fun A K loc hp s Q o T q => by
  refine Call_Name rfl (ldGlobal T hx e ?_ hd)
  refine callWith_of (P := fun h' => D.KF.In h') (first := []) (by rw [starEach_plain h.star]; rfl) (keeps_K ok.keep) (evCallArgs h o T q fun vs s₁ us hp₁ r₁ T₁ E₁ q₁ => ⟨T₁.sim.KF, ?_⟩)
  refine wpAny_call (make_raw T₁.sim.KF ok ?_)
  -- the two new objects
  have hsz : (s₁.heap.push emptyDict).objs.size = s₁.heap.objs.size + 1 := Heap.size_push ..
  have n1 : ¬ K s₁.heap.objs.size := T₁.sim.size
  have e1 : (s₁.heap.push emptyDict).get? s₁.heap.objs.size = some emptyDict := Heap.get?_push_size _ rfl
  have Ta : St D F K loc hp₁ { s₁ with heap := s₁.heap.push emptyDict } := T₁.push emptyDict s₁.toks
  have hl : ∀ a, s₁.heap.objs.size ≤ a → a ≠ F.env.locals := fun a ha q => by
    obtain ⟨ol, gl⟩ := T₁.lsome
    exact Nat.lt_irrefl _ (Nat.lt_of_lt_of_le (Heap.lt_size gl) (q ▸ ha))
  have Tb : St D F K loc (hp₁.set s₁.heap.objs.size (.ns [])) { s₁ with heap := s₁.heap.push emptyDict } := Ta.new n1 (hl _ (Nat.le_refl _)) ⟨[], 0, e1, rfl⟩
  have n2 : ¬ K (s₁.heap.objs.size + 1) := by have := Tb.sim.size; rwa [hsz] at this
  have f2 : hp₁ (s₁.heap.objs.size + 1) = none := by have := Ta.sim.hpSize; rwa [hsz] at this
  have e2 : ((s₁.heap.push emptyDict).push (instObj C s₁.heap.objs.size)).get? (s₁.heap.objs.size + 1) = some (instObj C s₁.heap.objs.size) := by have := Heap.get?_push_size (s₁.heap.push emptyDict) (o := instObj C s₁.heap.objs.size) rfl; rwa [hsz] at this
  have Tc := (Tb.push (instObj C s₁.heap.objs.size) s₁.toks).new (a := s₁.heap.objs.size + 1) (o := .inst C s₁.heap.objs.size) n2 (hl _ (Nat.le_succ _)) e2
  have E2 : Ext K s₁.heap ((s₁.heap.push emptyDict).push (instObj C s₁.heap.objs.size)) := (Ext.push K _ _).trans (Ext.push K _ _)
  refine codeAny_mono (q₁ (s₁.heap.objs.size + 1) s₁.heap.objs.size f2 T₁.sim.hpSize (Nat.succ_ne_self _) _ (St.Kin F K) _ _ (AOk.create (a := o) C vs) Tc.inside (.cons rfl (r₁.mono E2))) fun res s' ⟨v, u, hp', er, r', S', E', hu, q'⟩ => ?_
  subst er hu
  obtain ⟨T', E''⟩ := Tc.back S' E'
  unfold Rel at r'; subst r'
  exact ⟨rfl, .ref (s₁.heap.objs.size + 1), hp', rfl, T', (E₁.trans E2).trans E'', q'⟩

/-! arithmetic -/
noncomputable def wAdd (x y : V) (hp : Hp) (Q : V → Hp → Prop) : Prop := match x, y with
  | .int a, .int b => Q (.int (a + b)) hp
  | .ref a, .ref b => match hp a, hp b with
    | some (.list xs), some (.list ys) => xs.length + ys.length ≤ 100000 ∧ ∀ c, hp c = none → Q (.ref c) (hp.set c (.list (xs ++ ys)))
    | _, _ => False
  | _, _ => False
noncomputable def wSub (x y : V) (hp : Hp) (Q : V → Hp → Prop) : Prop := match x, y with
  | .int a, .int b => Q (.int (a - b)) hp
  | _, _ => False
noncomputable def wMul (x y : V) (hp : Hp) (Q : V → Hp → Prop) : Prop := match x, y with
  | .int a, .int b => -(2 ^ 64) < b ∧ b < 2 ^ 64 ∧ Q (.int (a * b)) hp
  | .ref a, .int b => match hp a with
    | some (.list xs) => xs.length = 1 ∧ 0 ≤ b ∧ b ≤ 1000 ∧ ∀ c, hp c = none → Q (.ref c) (hp.set c (.list (List.flatten (List.replicate b.toNat xs))))
    | _ => False
  | _, _ => False
noncomputable def wMulL (x y : V) (hp : Hp) (Q : V → Hp → Prop) : Prop := match x, y with
  | .int a, .int b => -(2 ^ 64) < a ∧ a < 2 ^ 64 ∧ Q (.int (a * b)) hp
  | _, _ => False
noncomputable def wDiv (x y : V) (hp : Hp) (Q : V → Hp → Prop) : Prop := match x, y with
  | .int a, .int b => 0 < b ∧ b < 1073741824 ∧ Q (.int (a / b)) hp
  | _, _ => False
noncomputable def wMod (x y : V) (hp : Hp) (Q : V → Hp → Prop) : Prop := match x, y with
  | .int a, .int b => 0 < b ∧ Q (.int (a % b)) hp
  | _, _ => False
noncomputable def wPow (x y : V) (hp : Hp) (Q : V → Hp → Prop) : Prop := match x, y with
  | .int a, .int b => 0 ≤ b ∧ b ≤ 1000 ∧ a.natAbs < 2 ^ 64 ∧ Q (.int (a ^ b.toNat)) hp
  | _, _ => False
noncomputable def wNeg (x : V) (hp : Hp) (Q : V → Hp → Prop) : Prop := match x with
  | .int a => Q (.int (-a)) hp
  | _ => False

theorem St.int {Q : V → Hp → Prop} {i : Int} {t tk : Nat} (T : St D F K loc hp s) (q : Q (.int i) hp) : PE D F K loc s.heap Q (.int i t) { s with toks := tk } := ⟨.int i, hp, ⟨t, rfl⟩, T.toks _, Ext.refl _ _, q⟩
theorem St.boolv {Q : V → Hp → Prop} {b : Bool} (T : St D F K loc hp s) (q : Q (.bool b) hp) : PE D F K loc s.heap Q (.bool b) s := ⟨.bool b, hp, rfl, T, Ext.refl _ _, q⟩
/-- a new list -/
theorem St.newL {Q : V → Hp → Prop} {its : Array Value} {ws : List V} {m : Nat} (T : St D F K loc hp s) (r : RelL s.heap ws its.toList) (q : ∀ c, hp c = none → Q (.ref c) (hp.set c (.list ws))) :
    PE D F K loc s.heap Q (.ref s.heap.objs.size) { s with heap := s.heap.push { cls := .type "list", data := .seq its m } } := by
  have T' := T.push { cls := .type "list", data := .seq its m } s.toks
  have hl : s.heap.objs.size ≠ F.env.locals := fun e => by obtain ⟨o, g⟩ := T.lsome; exact Nat.lt_irrefl _ (e ▸ Heap.lt_size g)
  exact ⟨.ref s.heap.objs.size, hp.set s.heap.objs.size (.list ws), rfl, T'.new T.sim.size hl ⟨its, m, Heap.get?_push_size _ rfl, r.mono (Ext.push K _ _)⟩, Ext.push K _ _, q _ T.sim.hpSize⟩

theorem okSub : OpOk D F n (binaryOp .Sub) wSub := fun A K loc hp s v w x y Q o T rx ry q => by
  cases x <;> cases y <;> first | exact q.elim | skip
  obtain ⟨t, rfl⟩ := rx; obtain ⟨u, rfl⟩ := ry
  exact sub_int (T.int q)
theorem okMulL : OpOk D F n (binaryOp .Mult) wMulL := fun A K loc hp s v w x y Q o T rx ry q => by
  cases x <;> cases y <;> first | exact q.elim | skip
  obtain ⟨t, rfl⟩ := rx; obtain ⟨u, rfl⟩ := ry
  exact mul_int (T.int q.2.2) (IntMulOk.of_left (intBits_le_64 q.1 q.2.1))
theorem okDiv : OpOk D F n (binaryOp .FloorDiv) wDiv := fun A K loc hp s v w x y Q o T rx ry q => by
  cases x <;> cases y <;> first | exact q.elim | skip
  obtain ⟨t, rfl⟩ := rx; obtain ⟨u, rfl⟩ := ry
  rename_i a b
  obtain ⟨h1, h2, h3⟩ := q
  have e : a.fdiv b = a / b := Int.fdiv_eq_ediv_of_nonneg a (by omega)
  exact floordiv_int (by omega) (by rw [e]; exact T.int h3) (.inl (PyProof.noPylong_small (by omega)))
theorem okMod : OpOk D F n (binaryOp .Mod) wMod := fun A K loc hp s v w x y Q o T rx ry q => by
  cases x <;> cases y <;> first | exact q.elim | skip
  obtain ⟨t, rfl⟩ := rx; obtain ⟨u, rfl⟩ := ry
  rename_i a b
  have e : a.fmod b = a % b := Int.fmod_eq_emod_of_nonneg a (by have := q.1; omega)
  exact PyProof.Rows.mod_int (by have := q.1; omega) (by rw [e]; exact T.int q.2)
theorem okPow : OpOk D F n (binaryOp .Pow) wPow := fun A K loc hp s v w x y Q o T rx ry q => by
  cases x <;> cases y <;> first | exact q.elim | skip
  obtain ⟨t, rfl⟩ := rx; obtain ⟨u, rfl⟩ := ry
  exact pow_int_small q.1 (by have := q.2.1; omega) q.2.2.1 (T.int q.2.2.2)
theorem okNeg : UnOk D F n (unaryOp .USub) wNeg := fun A K loc hp s v x Q o T rx q => by
  cases x <;> first | exact q.elim | skip
  obtain ⟨t, rfl⟩ := rx
  exact PyProof.Rows.neg_int (T.int q)
end
end Mine

namespace Mine
open PySem PySem.W PyProof.Rows

noncomputable def stAll : Loc → List Nat → List V → Loc
  | l, i :: is, v :: vs => stAll (st l i v) is vs
  | l, _, _ => l

section
variable {D : Wd} {F : Fd} {n : Nat} {A : Around} {K : Addr → Prop} {loc : Loc} {hp hp' : Hp} {s s' : Shared}

/-- a name of the frame's is stored -/
theorem St.store {i : Nat} {x : Str} {w : V} {v : Value} {R : Unit → Shared → Prop} (T : St D F K loc hp s) (hx : F.nm[i]? = some x) (ho : F.own = true ∨ F.env.kindOf x = some .local) (r : Rel s.heap w v)
    (k : ∀ s', St D F K (st loc i w) hp s' → Ext K s.heap s'.heap → R () s') : wpAny (model D.prog D.w) A (storeName F.env x v) R noE s := by
  obtain ⟨m, hn, hv⟩ := T.ns
  have hm : x ∈ F.nm := List.mem_of_getElem? hx
  have lc : ∀ y c, (y, c) ∈ F.env.cells → c ≠ F.env.locals := fun y c hc q => by
    obtain ⟨⟨v', o, g, d⟩, _⟩ := T.cells y c hc
    obtain ⟨o', es, ep, g', d', _⟩ := hn
    rw [q] at g
    rw [g] at g'; cases g'; rw [d] at d'; cases d'
  have inj : ∀ j y, F.nm[j]? = some y → j ≠ i → y ≠ x := fun j y hj hne q => by
    subst q
    exact hne ((List.getElem?_inj (List.getElem?_eq_some_iff.mp hj).1 T.ok.nodup).mp (hj.trans hx.symm))
  rcases T.ok.kinds x hm with hk | ⟨hk, c, hc⟩
  · refine wpAny_storeName_local hk hn (fun h' hn' hs => ?_) (by rw [T.ok.kind]; rfl)
    obtain ⟨oL, esL, epL, gL, dL, _⟩ := id hn
    have nt : ¬ IsT oL := fun q => by obtain ⟨_, _, q⟩ := q.seq; rw [q] at dL; cases dL
    have E : Ext K s.heap h' := Ext.same hs gL nt T.lK
    have kc : ∀ y c, (y, c) ∈ F.env.cells → ∀ o, s.heap.get? c = some o → h'.get? c = some o := fun y c hc o e => (hs.2 c (lc y c hc)).trans e
    refine k _ ⟨T.sim.off hs gL nt T.lK T.lhp, ⟨_, hn', fun j y w' hj e => ?_⟩, T.lK, T.lhp, fun y c hyc => ?_, T.ok⟩ E
    · by_cases q : j = i
      · subst q
        rw [hx] at hj; cases hj
        rw [lk_st_self e]
        exact .inl ⟨hk, v, by simp, r.mono E⟩
      · rw [lk_st_ne q] at e
        have hyx := inj j y hj q
        rcases (hv j y w' hj e).mono E kc with ⟨a, v', b, c⟩ | z
        · exact .inl ⟨a, v', by simp [hyx, b], c⟩
        · exact .inr z
    · obtain ⟨⟨v', o, g, d⟩, b⟩ := T.cells y c hyc
      exact ⟨⟨v', o, kc y c hyc o g, d⟩, b⟩
  · have hw : F.own = true := ho.resolve_right fun q => by rw [hk] at q; cases q
    obtain ⟨⟨v₀, oc, gc, dc⟩, b⟩ := T.cells x c (mem_of_lookup hc)
    have nt : ¬ IsT oc := fun q => by obtain ⟨_, _, q⟩ := q.seq; rw [q] at dc; cases dc
    refine wpAny_storeName_cell T.ok.kind hk hc ⟨oc, gc, dc⟩ fun h' hcv hs => ?_
    have E : Ext K s.heap h' := Ext.same hs gc nt (b hw)
    have hpc : hp c = none := by
      cases e : hp c with
      | none => rfl
      | some o =>
        exfalso
        have hob := (T.sim.obj c o e).2
        cases o with
        | list ws => obtain ⟨its, n, q, _⟩ := hob; rw [gc] at q; cases q; cases dc
        | dict d =>
          obtain ⟨kvs, ⟨o2, es, ep, q, _, dd, _⟩, _⟩ := hob
          rw [gc] at q; cases q; rw [dd] at dc; cases dc
        | inst C dx => rw [show s.heap.get? c = some (instObj C dx) from hob] at gc; cases gc; cases dc
        | ns fs => obtain ⟨es, n, q, _⟩ := hob; rw [gc] at q; cases q; cases dc
    have cc : ∀ y c', F.env.cells.lookup y = some c' → y ≠ x → c' ≠ c := fun y c' hy hne q => hne (name_of_addr T.ok.apart (mem_of_lookup hy) (q ▸ mem_of_lookup hc))
    refine k _ ⟨T.sim.off (t := s.toks) hs gc nt (b hw) hpc, ⟨m, hn.at' fun o e => (hs.2 _ (Ne.symm (lc x c (mem_of_lookup hc)))).trans e, fun j y w' hj e => ?_⟩, T.lK, T.lhp, fun y c' hyc => ?_, T.ok⟩ E
    · by_cases q : j = i
      · subst q
        rw [hx] at hj; cases hj
        rw [lk_st_self e]
        exact .inr ⟨hk, c, v, hc, hcv, r.mono E⟩
      · rw [lk_st_ne q] at e
        have hyx := inj j y hj q
        rcases hv j y w' hj e with ⟨a, v', b', z⟩ | ⟨a, c', v', b', d', z⟩
        · exact .inl ⟨a, v', b', z.mono E⟩
        · exact .inr ⟨a, c', v', b', d'.sameBut hs (cc y c' b' hyx), z.mono E⟩
    · obtain ⟨⟨v', o, g, d⟩, b'⟩ := T.cells y c' hyc
      refine ⟨?_, b'⟩
      by_cases q : c' = c
      · subst q; exact ⟨_, hcv⟩
      · exact ⟨v', o, (hs.2 _ q).trans g, d⟩

/-! targets -/
noncomputable def EvA (D : Wd) (F : Fd) (n : Nat) (t : Expr) (W : V → Loc → Hp → (Loc → Hp → Prop) → Prop) : Prop :=
  ∀ A K loc hp s v u Q, AOk A n → St D F K loc hp s → Rel s.heap u v → W u loc hp Q → wpAny (model D.prog D.w) A (assign t F.env v) (fun _ s' => PA D F K s.heap Q s') noE s
noncomputable def W.one (i : Nat) : V → Loc → Hp → (Loc → Hp → Prop) → Prop := fun u loc hp Q => Q (st loc i u) hp
noncomputable def W.many (is : List Nat) : V → Loc → Hp → (Loc → Hp → Prop) → Prop := fun u loc hp Q => match u with
  | .tup ws => ws.length = is.length ∧ Q (stAll loc is ws) hp
  | _ => False
noncomputable def HasNm (F : Fd) (i : Nat) (x : Str) : Prop := F.nm[i]? = some x ∧ (F.own = true ∨ F.env.kindOf x = some .local)

theorem EvA.one {i : Nat} {x : Str} {pos : Pos} (h : HasNm F i x) : EvA D F n (.Name x pos) (W.one i) := fun A K loc hp s v u Q o T r q =>
  wpAny_assign_Name (T.store h.1 h.2 r fun s' T' E => ⟨_, _, T', E, q⟩)

noncomputable def Names (F : Fd) : List Expr → List Nat → Prop
  | [], [] => True
  | e :: es, i :: is => (∃ x p, e = .Name x p ∧ HasNm F i x) ∧ Names F es is
  | _, _ => False
theorem names_each : ∀ {es : List Expr} {is : List Nat}, Names F es is → (assignEach es F.env).length = is.length ∧ (assignEach es F.env).findIdx? (·.1) = none
  | [], [], _ => ⟨rfl, rfl⟩
  | e :: es, i :: is, h => by
    obtain ⟨⟨x, p, rfl, _⟩, h2⟩ := h
    have ih := names_each h2
    show ((false, assign (.Name x p) F.env) :: assignEach es F.env).length = _ ∧ ((false, assign (.Name x p) F.env) :: assignEach es F.env).findIdx? _ = none
    refine ⟨by simp [ih.1], ?_⟩
    rw [List.findIdx?_cons]
    simp [ih.2]
  | [], _ :: _, h => h.elim
  | _ :: _, [], h => h.elim
theorem names_store : ∀ {es : List Expr} {is : List Nat}, Names F es is → ∀ {A : Around} {K : Addr → Prop} {loc : Loc} {hp : Hp} {s : Shared} {vs : List Value} {us : List V} {Q : Loc → Hp → Prop}, St D F K loc hp s → RelL s.heap us vs → Q (stAll loc is us) hp →
    wpAny (model D.prog D.w) A (assignInOrder ((assignEach es F.env).map (·.2)) vs) (fun _ s' => PA D F K s.heap Q s') noE s
  | [], [], _, A, K, loc, hp, s, vs, us, Q, T, r, q => by
    have : assignInOrder ((assignEach [] F.env).map (·.2)) vs = pure () := by cases vs <;> rfl
    rw [this]
    refine wpAny_pure ⟨loc, hp, T, Ext.refl _ _, ?_⟩
    cases us <;> exact q
  | e :: es, i :: is, h, A, K, loc, hp, s, vs, us, Q, T, r, q => by
    obtain ⟨⟨x, p, rfl, h1⟩, h2⟩ := h
    cases us with
    | nil =>
      unfold RelL at r; subst r
      exact wpAny_pure ⟨loc, hp, T, Ext.refl _ _, q⟩
    | cons u us =>
      unfold RelL at r
      obtain ⟨v, vs', rfl, r1, r2⟩ := r
      show wpAny _ _ (do holding vs' (assign (.Name x p) F.env v); assignInOrder ((assignEach es F.env).map (·.2)) vs') _ _ _
      refine wpAny_bind (wpAny_holding (wpAny_assign_Name (T.store h1.1 h1.2 r1 fun s₁ T₁ E₁ => ?_)))
      refine wpAny_mono (names_store h2 T₁ (r2.mono E₁) (Q := Q) q) (fun _ s' ⟨l', hp', T', E', q'⟩ => ⟨l', hp', T', E₁.trans E', q'⟩) fun _ _ e => e
  | [], _ :: _, h, _, _, _, _, _, _, _, _, _, _, _ => h.elim
  | _ :: _, [], h, _, _, _, _, _, _, _, _, _, _, _ => h.elim

theorem rel_tup {h : Heap} {ws : List V} {v : Value} (r : Rel h (.tup ws) v) : ∃ a n its, v = .ref a ∧ h.get? a = some (tupObj its n) ∧ RelL h ws its.toList := r

theorem EvA.many {es : List Expr} {k : Nat} {pos : Pos} {is : List Nat} (h : Names F es is) : EvA D F n (.Tuple es k pos) (W.many is) := fun A K loc hp s v u Q o T r q => by
  cases u <;> first | exact q.elim | skip
  rename_i ws
  obtain ⟨a, m, its, rfl, g, l⟩ := rel_tup r
  obtain ⟨h1, h2⟩ := names_each h
  have hsz : its.size = ws.length := by have := l.length; simpa using this
  refine wpAny_assign_Tuple o.1 ⟨_, g, rfl, m, rfl⟩ (by rw [h1, hsz]; exact q.1.symm) h2 fun h' he => ?_
  have k : ∀ b o, s.heap.get? b = some o → h'.get? b = some o := fun b o e => he b o (fun z => Nat.lt_irrefl _ (z ▸ Heap.lt_size e)) e
  have T' := T.keep (t := s.toks) k
  exact wpAny_mono (names_store h T' (l.mono (Ext.of_keep (K := K) k)) q.2) (fun _ s' ⟨l', hp', T'', E', q'⟩ => ⟨l', hp', T'', (Ext.of_keep k).trans E', q'⟩) fun _ _ e => e

/-! statements -/
noncomputable def W.nil : WS := fun loc hp Q => Q .next loc hp
noncomputable def W.seq (a b : WS) : WS := fun loc hp Q => a loc hp fun fl loc₁ hp₁ => match fl with | .next => b loc₁ hp₁ Q | fl => Q fl loc₁ hp₁

theorem EvB.nil : EvB D F n [] W.nil := fun A K loc hp s Q o T q => wpAny_execs_nil ⟨.next, loc, hp, rfl, T, Ext.refl _ _, q⟩
theorem EvB.cons {x : Stmt} {xs : List Stmt} {a b : WS} (h : EvS D F n x a) (t : EvB D F n xs b) : EvB D F n (x :: xs) (W.seq a b) := fun A K loc hp s Q o T q =>
  wpAny_execs_cons (wpAny_mono (h A K loc hp s _ o T q) (fun f s' ⟨fl, l', hp', r, T', E', q'⟩ => by
    cases fl with
    | next =>
      unfold FlRel at r; subst r
      exact wpAny_mono (t A K l' hp' s' Q o T' q') (fun _ _ p => p.back E') fun _ _ e => e
    | brk => unfold FlRel at r; subst r; exact ⟨.brk, l', hp', rfl, T', E', q'⟩
    | cont => unfold FlRel at r; subst r; exact ⟨.cont, l', hp', rfl, T', E', q'⟩
    | ret w => obtain ⟨v, rfl, rv⟩ := r; exact ⟨.ret w, l', hp', ⟨v, rfl, rv⟩, T', E', q'⟩) fun _ _ e => e)

noncomputable def W.asg (t : V → Loc → Hp → (Loc → Hp → Prop) → Prop) (a : WE) : WS := fun loc hp Q => a loc hp fun u hp₁ => t u loc hp₁ fun loc₂ hp₂ => Q .next loc₂ hp₂
theorem EvS.asg {x : Str} {p pos : Pos} {e : Expr} {i : Nat} {a : WE} (h : EvE D F n e a) (hi : HasNm F i x) (hs : swapsWith e (some (.Name x p)) pos.line F.env = pure false := by rfl) : EvS D F n (.Assign [.Name x p] e pos) (W.asg (W.one i) a) :=
  fun A K loc hp s Q o T q => wpAny_Assign_Name (h.then o T q fun v s₁ u hp₁ r₁ T₁ E₁ q₁ => T₁.store hi.1 hi.2 r₁ fun s₂ T₂ E₂ => ⟨.next, _, _, rfl, T₂, E₁.trans E₂, q₁⟩) hs
theorem EvS.asgT {es : List Expr} {k : Nat} {p pos : Pos} {e : Expr} {is : List Nat} {a : WE} (h : EvE D F n e a) (hi : Names F es is)
    (hs : swapsWithSole [.Tuple es k p] e pos.line F.env = pure false := by rfl) (hw : swappedStores [.Tuple es k p] e F.env = pure none := by rfl) : EvS D F n (.Assign [.Tuple es k p] e pos) (W.asg (W.many is) a) :=
  fun A K loc hp s Q o T q => Assign_Tuple (h.then o T q fun v s₁ u hp₁ r₁ T₁ E₁ q₁ => wpAny_mono (EvA.many hi A K loc hp₁ s₁ v u _ o T₁ r₁ q₁) (fun _ s₂ ⟨l, hp₂, T₂, E₂, q₂⟩ => ⟨.next, _, _, rfl, T₂, E₁.trans E₂, q₂⟩) fun _ _ e => e) hs hw

noncomputable def W.ret (a : WE) : WS := fun loc hp Q => a loc hp fun u hp₁ => Q (.ret u) loc hp₁
theorem EvS.ret {e : Expr} {pos : Pos} {a : WE} (h : EvE D F n e a) : EvS D F n (.Return (some e) pos) (W.ret a) :=
  fun A K loc hp s Q o T q => wpAny_Return_some (h.then o T q fun v s₁ u hp₁ r₁ T₁ E₁ q₁ => ⟨.ret u, loc, hp₁, ⟨v, rfl, r₁⟩, T₁, E₁, q₁⟩)
noncomputable def W.brk : WS := fun loc hp Q => Q .brk loc hp
noncomputable def W.cont : WS := fun loc hp Q => Q .cont loc hp
theorem EvS.brk {pos : Pos} : EvS D F n (.Break pos) W.brk := fun A K loc hp s Q o T q => wpAny_Break ⟨.brk, loc, hp, rfl, T, Ext.refl _ _, q⟩
theorem EvS.cont {pos : Pos} : EvS D F n (.Continue pos) W.cont := fun A K loc hp s Q o T q => wpAny_Continue ⟨.cont, loc, hp, rfl, T, Ext.refl _ _, q⟩
noncomputable def W.ifs (t : WT) (a b : WS) : WS := fun loc hp Q => t loc hp fun c hp₁ => (c = true → a loc hp₁ Q) ∧ (c = false → b loc hp₁ Q)
theorem EvS.ifs {t : Expr} {xs ys : List Stmt} {pos : Pos} {c : WT} {a b : WS} (hc : EvT D F n t c) (ha : EvB D F n xs a) (hb : EvB D F n ys b) : EvS D F n (.If t xs ys pos) (W.ifs c a b) :=
  fun A K loc hp s Q o T q => wpAny_If (hc.then o T q fun v s₁ hp₁ T₁ E₁ q₁ => by
    cases v with
    | true => exact wpAny_mono (ha A K loc hp₁ s₁ Q o T₁ (q₁.1 rfl)) (fun _ _ p => p.back E₁) fun _ _ e => e
    | false => exact wpAny_mono (hb A K loc hp₁ s₁ Q o T₁ (q₁.2 rfl)) (fun _ _ p => p.back E₁) fun _ _ e => e)
/-- an expression for its effect -/
noncomputable def W.ex (a : WE) : WS := fun loc hp Q => a loc hp fun u hp₁ => match u with | .ref _ => False | .tup _ => False | _ => Q .next loc hp₁
theorem EvS.ex {e : Expr} {pos : Pos} {a : WE} (h : EvE D F n e a) (hi : interactive F.env = false := by rfl) (hs : swapsWith e none pos.line F.env = pure false := by rfl) : EvS D F n (.Expr e pos) (W.ex a) :=
  fun A K loc hp s Q o T q => wpAny_Expr (h.then o T q fun v s₁ u hp₁ r₁ T₁ E₁ q₁ => by
    cases u <;> first | exact q₁.elim | skip
    · unfold Rel at r₁; subst r₁; exact ⟨.next, loc, hp₁, rfl, T₁, E₁, q₁⟩
    · unfold Rel at r₁; subst r₁; exact ⟨.next, loc, hp₁, rfl, T₁, E₁, q₁⟩
    · obtain ⟨_, rfl⟩ := r₁; exact ⟨.next, loc, hp₁, rfl, T₁, E₁, q₁⟩
    · obtain ⟨_, rfl⟩ := r₁; exact ⟨.next, loc, hp₁, rfl, T₁, E₁, q₁⟩) hi hs
/-- x += e, ints -/
noncomputable def W.aug (i : Nat) (a : WE) : WS := fun loc hp Q => match lk loc i with
  | some (.int x) => a loc hp fun u hp₁ => match u with | .int y => Q .next (st loc i (.int (x + y))) hp₁ | _ => False
  | _ => False
theorem EvS.aug {x : Str} {p pos : Pos} {e : Expr} {i : Nat} {a : WE} (h : EvE D F n e a) (hi : HasNm F i x) : EvS D F n (.AugAssign (.Name x p) .Add e pos) (W.aug i a) := fun A K loc hp s Q o T q => by
  unfold W.aug at q
  split at q
  · rename_i y e1
    obtain ⟨m, hn, hv⟩ := T.ns
    have hm : x ∈ F.nm := List.mem_of_getElem? hi.1
    refine wpAny_AugAssign_Name ?_
    have key : ∀ v, Rel s.heap (.int y) v → wpAny (model D.prog D.w) A (eval e F.env) (fun w s₂ => wpAny (model D.prog D.w) A (inplaceOp .Add v w) (fun r s₃ => wpAny (model D.prog D.w) A (storeName F.env x r) (fun _ => PS D F K s.heap Q .next) noE s₃) noE s₂) noE s := by
      intro v rv
      refine h.then o T q fun w s₁ u hp₁ r₁ T₁ E₁ q₁ => ?_
      cases u <;> first | exact q₁.elim | skip
      obtain ⟨t1, rfl⟩ := rv; obtain ⟨t2, rfl⟩ := r₁
      refine iadd_int ?_
      exact (T₁.toks _).store hi.1 hi.2 (w := .int (_ + _)) ⟨_, rfl⟩ fun s₂ T₂ E₂ => ⟨.next, _, _, rfl, T₂, E₁.trans E₂, q₁⟩
    rcases hv i x _ hi.1 e1 with ⟨hk, v, hmx, r⟩ | ⟨hk, c, v, hc, hcell, r⟩
    · exact wpAny_loadName_local T.ok.kind hk hn hmx (key v r)
    · exact wpAny_loadName_cell T.ok.kind hk hc hcell (key v r)
  · exact q.elim
/-- o.x = e -/
noncomputable def W.setF (C : Addr) (x : Str) (o a : WE) : WS := fun loc hp Q => a loc hp fun w hp₁ => o loc hp₁ fun u hp₂ => wSetF C x u w hp₂ fun hp₃ => Q .next loc hp₃
theorem EvS.setF {ob e : Expr} {C : Addr} {x : Str} {p pos : Pos} {o a : WE} (ho : EvE D F n ob o) (h : EvE D F n e a) (ok : SetOk D.KF C x) (hs : swapsWith e (some (.Attribute ob x p)) pos.line F.env = pure false := by rfl) : EvS D F n (.Assign [.Attribute ob x p] e pos) (W.setF C x o a) :=
  fun A K loc hp s Q ao T q => plainObj_wpAny_Assign_Attribute (h.then ao T q fun v s₁ w hp₁ r₁ T₁ E₁ q₁ => ho.then ao T₁ q₁ fun ov s₂ u hp₂ r₂ T₂ E₂ q₂ =>
    setAttr_fld ok T₂ r₂ (r₁.mono E₂) q₂ fun s₃ hp₃ T₃ E₃ q₃ => ⟨.next, loc, hp₃, rfl, T₃, (E₁.trans E₂).trans E₃, q₃⟩) hs
/-- o[i] = e -/
noncomputable def SetItemOk (D : Wd) (F : Fd) (n : Nat) (f : V → V → V → Hp → (Hp → Prop) → Prop) : Prop :=
  ∀ A K loc hp s o i v ou iu vu Q, AOk A n → St D F K loc hp s → Rel s.heap ou o → Rel s.heap iu i → Rel s.heap vu v → f ou iu vu hp Q →
    wpAny (model D.prog D.w) A (setItem o i v) (fun _ s' => PH D F K loc s.heap Q s') noE s
noncomputable def W.setI (f : V → V → V → Hp → (Hp → Prop) → Prop) (o i a : WE) : WS := fun loc hp Q => a loc hp fun w hp₁ => o loc hp₁ fun u hp₂ => i loc hp₂ fun k hp₃ => f u k w hp₃ fun hp₄ => Q .next loc hp₄
theorem EvS.setI {ob ix e : Expr} {p pos : Pos} {f : V → V → V → Hp → (Hp → Prop) → Prop} {o i a : WE} (ho : EvE D F n ob o) (hi : EvE D F n ix i) (h : EvE D F n e a) (ok : SetItemOk D F n f)
    (hs : swapsWith e (some (.Subscript ob ix p)) pos.line F.env = pure false := by rfl) : EvS D F n (.Assign [.Subscript ob ix p] e pos) (W.setI f o i a) :=
  fun A K loc hp s Q ao T q => wpAny_Assign_Subscript (h.then ao T q fun v s₁ w hp₁ r₁ T₁ E₁ q₁ => ho.then ao T₁ q₁ fun ov s₂ u hp₂ r₂ T₂ E₂ q₂ => hi.then ao T₂ q₂ fun iv s₃ k hp₃ r₃ T₃ E₃ q₃ =>
    wpAny_mono (ok A K loc hp₃ s₃ ov iv v u k w _ ao T₃ (r₂.mono E₃) r₃ ((r₁.mono E₂).mono E₃) q₃) (fun _ s₄ ⟨hp₄, T₄, E₄, q₄⟩ => ⟨.next, loc, hp₄, rfl, T₄, ((E₁.trans E₂).trans E₃).trans E₄, q₄⟩) fun _ _ e => e) hs
end
end Mine

namespace Mine
open PySem PySem.W PyProof.Rows

theorem Ext.but {K : Addr → Prop} {h h' : Heap} {a : Addr} {oa : Obj} (s : Heap.ExtBut a h h') (e : h.get? a = some oa) (c : ¬ IsT oa) (k : ¬ K a) : Ext K h h' := by
  intro b o eb q
  by_cases hb : b = a
  · subst hb
    rw [e] at eb; cases eb
    exact absurd q (by rintro (q | q) <;> contradiction)
  · exact s b o hb eb

/-- an iterator's object -/
noncomputable def IsIt (o : Obj) : Prop := ∃ T vs, o.cls = .type T ∧ o.data = .fields vs ∧ (["enumerate", "zip", "dict_itemiterator", "dict_reverseitemiterator", "odict_iterator", "itertools.zip_longest", "itertools.pairwise"].contains T) = false
theorem IsIt.notT {o : Obj} (h : IsIt o) : ¬ IsT o := fun q => by obtain ⟨T, vs, _, d, _⟩ := h; obtain ⟨_, _, q⟩ := q.seq; rw [q] at d; cases d

theorem letOwned {prog : Program} {w : World} {A : Around} {E : Value → Shared → Prop} {s : Shared} {t : Expr} {I : Addr} {o : Obj} {v : Value} {Q : Unit → Shared → Prop} (g : s.heap.get? I = some o) (h : IsIt o) (q : Q () s) : wpAny (model prog w) A (letOwnedTupleGo t (.ref I) v) Q E s := by
  obtain ⟨T, vs, hc, hd, hn⟩ := h
  unfold letOwnedTupleGo
  have go : wpAny (model prog w) A (do
      let (.ref r, .ref a) := (Value.ref I, v) | return
      let o ← load r
      match o.cls, o.data with
      | .type n, .fields vs =>
        if ["enumerate", "zip", "dict_itemiterator", "dict_reverseitemiterator", "odict_iterator", "itertools.zip_longest", "itertools.pairwise"].contains n && vs[0]? == some (rawInt a) then
          rule "for.unpacks-the-owned-tuple"
          updateField r 0 .none
      | _, _ => pure ()) Q E s := by
    cases v <;> first | exact wpAny_pure q | skip
    refine wpAny_bind (wpAny_load g ?_)
    rw [hc, hd]
    dsimp only
    rw [hn, Bool.false_and, if_neg (by decide)]
    exact wpAny_pure q
  split
  · exact go
  · exact go
  · exact wpAny_pure q

section
variable {D : Wd} {F : Fd} {n : Nat} {A : Around} {K : Addr → Prop} {loc : Loc} {hp hp' : Hp} {s s' : Shared}

theorem Sim.but (S : Sim D K hp s) {h' : Heap} {t : Nat} {a : Addr} {oa : Obj} (hs : Heap.ExtBut a s.heap h') (e : s.heap.get? a = some oa) (c : ¬ IsT oa) (k : ¬ K a) (hn : hp a = none) : Sim D K hp { s with heap := h', toks := t } := by
  have E : Ext K s.heap h' := Ext.but hs e c k
  refine ⟨fun b o e' => ?_, fun b hb => ?_, fun b o' e' => ?_, S.gens, S.os⟩
  · have hb : b ≠ a := fun q => k (q ▸ (S.base b o e').2)
    exact ⟨hs b o hb (S.base b o e').1, (S.base b o e').2⟩
  · have hb' : b ≠ a := fun q => k (q ▸ hb)
    obtain ⟨o, g⟩ := Option.isSome_iff_exists.mp (S.k b hb)
    show (h'.get? b).isSome = true
    rw [hs b o hb' g]; rfl
  · have hb : b ≠ a := fun q => by rw [q, hn] at e'; cases e'
    exact ⟨(S.obj b o' e').1, (S.obj b o' e').2.mono (K := K) D E fun ob g => hs b ob hb g⟩

/-- an iterator over the items us, at I; P is what it asks of the abstract heap -/
structure Steps (D : Wd) (P : Hp → Prop) (us : List V) (I : Addr) (At : Nat → Heap → Prop) : Prop where
  frame : ∀ i h h', At i h → (∀ o, h.get? I = some o → h'.get? I = some o) → At i h'
  there : ∀ i h, At i h → ∃ o, h.get? I = some o ∧ IsIt o
  item : ∀ A i u (K : Addr → Prop) hp (s : Shared) (Q : Option Value → Shared → Prop), At i s.heap → Sim D K hp s → P hp → us[i]? = some u →
    (∀ v h' tk, Rel s.heap u v → At (i + 1) h' → Heap.ExtBut I s.heap h' → Q (some v) { s with heap := h', toks := tk }) → wpAny (model D.prog D.w) A (pyNext (.ref I)) Q noE s
  done : ∀ A i (K : Addr → Prop) hp (s : Shared) (Q : Option Value → Shared → Prop), A.handled = none → At i s.heap → Sim D K hp s → P hp → us[i]? = none →
    (∀ h' tk, Heap.ExtBut I s.heap h' → Q none { s with heap := h', toks := tk }) → wpAny (model D.prog D.w) A (pyNext (.ref I)) Q noE s
  self : ∀ A i (s : Shared) (Q : Value → Shared → Prop), At i s.heap → Q (.ref I) s → wpAny (model D.prog D.w) A (pyIter (.ref I)) Q noE s

noncomputable abbrev WI := Loc → Hp → ((Hp → Prop) → List V → Hp → Prop) → Prop
/-- where an iterator stands free -/
structure Free (F : Fd) (K : Addr → Prop) (hp : Hp) (I : Addr) : Prop where
  k : ¬ K I
  hp : hp I = none
  l : I ≠ F.env.locals
  c : ∀ x c, (x, c) ∈ F.env.cells → c ≠ I
/-- after the making of an iterator -/
inductive IP (D : Wd) (F : Fd) (K : Addr → Prop) (loc : Loc) (h : Heap) (Q : (Hp → Prop) → List V → Hp → Prop) (it : Value) (s₂ : Shared) : Prop
  | mk (I : Addr) (At : Nat → Heap → Prop) (P : Hp → Prop) (us : List V) (hp' : Hp) (_ : it = .ref I) (_ : Steps D P us I At) (_ : At 0 s₂.heap) (_ : Free F K hp' I) (_ : St D F K loc hp' s₂) (_ : Ext K h s₂.heap) (_ : P hp') (_ : Q P us hp')
noncomputable def EvI (D : Wd) (F : Fd) (n : Nat) (x : Expr) (W : WI) : Prop :=
  ∀ A K loc hp s Q, AOk A n → St D F K loc hp s → W loc hp Q → wpAny (model D.prog D.w) A (eval x F.env) (fun v s₁ => wpAny (model D.prog D.w) A (pyIter v) (IP D F K loc s.heap Q) noE s₁) noE s

theorem St.free (T : St D F K loc hp s) : Free F K hp s.heap.objs.size where
  k := T.sim.size
  hp := T.sim.hpSize
  l := fun e => by obtain ⟨o, g⟩ := T.lsome; exact Nat.lt_irrefl _ (e ▸ Heap.lt_size g)
  c := fun x c hc e => by obtain ⟨⟨v, o, g, _⟩, _⟩ := T.cells x c hc; exact Nat.lt_irrefl _ (e ▸ Heap.lt_size g)

/-! over a list -/
theorem Steps.list (l I : Addr) (us : List V) (hne : l ≠ I) : Steps D (fun hp => hp l = some (.list us)) us I (fun i h => h.IsListIter I l i) where
  frame i h h' st k := st.at k
  there i h st := let ⟨o, g, c, d⟩ := st; ⟨o, g, "list_iterator", _, c, d, by decide⟩
  item A i u K hp s Q st S hP hu k := by
    obtain ⟨its, m, g, r⟩ := (S.obj _ _ hP).2
    obtain ⟨v, hv, rv⟩ := r.get hu
    exact wpAny_pyNext_list_item st ⟨_, g, rfl, m, rfl⟩ (by simpa using hv) fun h' st' hs => k v h' s.toks rv st' hs.extBut
  done A i K hp s Q hh st S hP hu k := by
    obtain ⟨its, m, g, r⟩ := (S.obj _ _ hP).2
    refine wpAny_pyNext_list_end hh st ⟨_, g, rfl, m, rfl⟩ ?_ fun h' he => k h' s.toks he
    have := r.length
    simp at this hu ⊢
    (and_intros <;> omega)
  self A i s Q st q := wpAny_pyIter_listiter st q

noncomputable def W.iter (a : WE) : WI := fun loc hp Q => a loc hp fun u hp₁ => ∃ l us, u = .ref l ∧ hp₁ l = some (.list us) ∧ Q (fun hp => hp l = some (.list us)) us hp₁
theorem EvI.list {x : Expr} {a : WE} (h : EvE D F n x a) : EvI D F n x (W.iter a) := fun A K loc hp s Q o T q =>
  h.then o T q fun v s₁ u hp₁ r₁ T₁ E₁ q₁ => by
    obtain ⟨l, us, rfl, e, q₁⟩ := q₁
    unfold Rel at r₁; subst r₁
    obtain ⟨its, m, g, r⟩ := (T₁.sim.obj _ _ e).2
    refine wpAny_pyIter_list ⟨_, g, rfl, m, rfl⟩ ⟨s₁.heap.objs.size, _, _, us, hp₁, rfl, Steps.list l s₁.heap.objs.size us (Nat.ne_of_lt (Heap.lt_size g)), ⟨_, Heap.get?_push_size _ rfl, rfl, rfl⟩, T₁.free, T₁.push _ s₁.toks, E₁.trans (Ext.push K _ _), e, q₁⟩

/-! over a range -/
noncomputable def rangeN (a b c : Int) : Nat := (Builtin.Range.rangeSize a b c).toNat
noncomputable def rangeL (a b c : Int) : List V := (List.range (rangeN a b c)).map fun (i : Nat) => V.int (a + i * c)
theorem rangeL_get {a b c : Int} {i : Nat} (h : i < rangeN a b c) : (rangeL a b c)[i]? = some (.int (a + i * c)) := by simp [rangeL, h]
theorem rangeL_none {a b c : Int} {i : Nat} (h : (rangeL a b c)[i]? = none) : rangeN a b c ≤ i := by simpa [rangeL] using h
theorem rangeSize_nonneg (a b c : Int) : 0 ≤ Builtin.Range.rangeSize a b c := by
  unfold Builtin.Range.rangeSize
  split
  · split
    · rename_i h1 h2
      have := Int.ediv_nonneg (a := b - a - 1) (b := c) (by (and_intros <;> omega)) (by (and_intros <;> omega))
      (and_intros <;> omega)
    · exact Int.le_refl _
  · split
    · rename_i h1 h2
      have := Int.ediv_nonneg (a := a - b - 1) (b := -c) (by (and_intros <;> omega)) (by (and_intros <;> omega))
      (and_intros <;> omega)
    · exact Int.le_refl _
theorem Steps.range (a b c : Int) (I : Addr) : Steps D (fun _ => True) (rangeL a b c) I (fun i h => IsRangeIter h I (a + i * c) (Builtin.Range.rangeSize a b c - i) c) where
  frame i h h' st k := k _ st
  there i h st := ⟨_, st, "range_iterator", _, rfl, rfl, by decide⟩
  item A i u K hp s Q st S hP hu k := by
    have hi : i < rangeN a b c := by
      have := (List.getElem?_eq_some_iff.mp hu).1
      simpa [rangeL] using this
    rw [rangeL_get hi] at hu; cases hu
    refine wpAny_pyNext_range_item st (by unfold rangeN at hi; (and_intros <;> omega)) fun h' st' hs => k _ h' (s.toks + 1) ⟨_, rfl⟩ ?_ hs.extBut
    have e1 : a + (i : Int) * c + c = a + ((i + 1 : Nat) : Int) * c := by rw [Int.natCast_add, Int.add_mul]; simp [Int.add_assoc]
    have e2 : Builtin.Range.rangeSize a b c - (i : Int) - 1 = Builtin.Range.rangeSize a b c - ((i + 1 : Nat) : Int) := by (and_intros <;> omega)
    rw [e1, e2] at st'
    exact st'
  done A i K hp s Q hh st S hP hu k := by
    have hi := rangeL_none hu
    have := rangeSize_nonneg a b c
    exact wpAny_pyNext_range_end hh st (by unfold rangeN at hi; (and_intros <;> omega)) fun h' he => k h' s.toks he
  self A i s Q st q := wpAny_pyIter_rangeiter st q

theorem small_of {a b c : Int} (ha : -1000000 ≤ a ∧ a ≤ 1000000) (hb : -1000000 ≤ b ∧ b ≤ 1000000) (hc : c = 1 ∨ c = 4 ∨ c = -1) : Builtin.Range.small a b c = true := by
  have h0 := rangeSize_nonneg a b c
  have h1 : Builtin.Range.rangeSize a b c ≤ 2000001 := by
    unfold Builtin.Range.rangeSize
    rcases hc with rfl | rfl | rfl <;> simp <;> (split <;> omega)
  unfold Builtin.Range.small
  have f : ∀ i : Int, -10000000 ≤ i → i ≤ 10000000 → Builtin.Range.rangeFitsLong i = true := fun i h1 h2 => by
    unfold Builtin.Range.rangeFitsLong
    simp only [Bool.and_eq_true, decide_eq_true_eq]
    (and_intros <;> omega)
  rw [f a (by (and_intros <;> omega)) (by (and_intros <;> omega)), f b (by (and_intros <;> omega)) (by (and_intros <;> omega)), f c (by (and_intros <;> omega)) (by (and_intros <;> omega)), f _ (by (and_intros <;> omega)) (by (and_intros <;> omega))]
  simp only [Bool.true_and]
  rcases hc with rfl | rfl | rfl <;> simp [f _ (show -10000000 ≤ b + (4 - 1) by (and_intros <;> omega)) (by (and_intros <;> omega)), f b (by (and_intros <;> omega)) (by (and_intros <;> omega)), f (b + (-1 + 1)) (by (and_intros <;> omega)) (by (and_intros <;> omega))]
  · right; exact f (b + 3) (by (and_intros <;> omega)) (by (and_intros <;> omega))

noncomputable def rangeOk (a b c : Int) : Prop := (-1000000 ≤ a ∧ a ≤ 1000000) ∧ (-1000000 ≤ b ∧ b ≤ 1000000) ∧ (c = 1 ∨ c = 4 ∨ c = -1)
noncomputable def wRange (us : List V) (hp : Hp) (Q : (Hp → Prop) → List V → Hp → Prop) : Prop := match us with
  | [.int b] => rangeOk 0 b 1 ∧ Q (fun _ => True) (rangeL 0 b 1) hp
  | [.int a, .int b] => rangeOk a b 1 ∧ Q (fun _ => True) (rangeL a b 1) hp
  | [.int a, .int b, .int c] => rangeOk a b c ∧ Q (fun _ => True) (rangeL a b c) hp
  | _ => False
noncomputable def W.range (as : List WE) : WI := fun loc hp Q => W.args as loc hp fun us hp₁ => wRange us hp₁ Q

theorem range_iter {a b c : Int} {r : Addr} {t u v : Tok} {h₀ : Heap} {Q : (Hp → Prop) → List V → Hp → Prop} (T : St D F K loc hp s) (ok : rangeOk a b c) (g : IsRange s.heap r a b c t u v) (E : Ext K h₀ s.heap) (q : Q (fun _ => True) (rangeL a b c) hp) :
    wpAny (model D.prog D.w) A (pyIter (.ref r)) (IP D F K loc h₀ Q) noE s := by
  refine wpAny_pyIter_range g (small_of ok.1 ok.2.1 ok.2.2) ⟨s.heap.objs.size, _, _, _, hp, rfl, Steps.range a b c s.heap.objs.size, ?_, T.free, T.push _ s.toks, E.trans (Ext.push K _ _), trivial, q⟩
  have e1 : a + ((0 : Nat) : Int) * c = a := by simp
  have e2 : Builtin.Range.rangeSize a b c - ((0 : Nat) : Int) = Builtin.Range.rangeSize a b c := by simp
  show IsRangeIter _ _ (a + ((0 : Nat) : Int) * c) (Builtin.Range.rangeSize a b c - ((0 : Nat) : Int)) c
  rw [e1, e2]
  exact Heap.get?_push_size _ rfl

theorem EvI.range {x : Str} {p pos : Pos} {xs : List Expr} {ws : List WE} (h : AllE D F n xs ws) (hx : F.env.kindOf x = some .globalImplicit) (e : nsIn D.KF mainGlobals x = some none) (hv : bootBuiltins x = some (.type "range")) (hn : x ≠ "__name__")
    (hd : (x == ("__debug__" : Str)) = false := by decide) : EvI D F n (.Call (.Name x p) xs [] pos) (W.range ws) := fun A K loc hp s Q o T q => by
  refine Call_Name rfl (ldBuiltin T hx e hv hn ?_ hd)
  refine PyProof.Rows.callWith_type (starEach_plain h.star) (evCallArgs h o T q fun vs s₁ us hp₁ r₁ T₁ E₁ q₁ => ?_)
  unfold wRange at q₁
  split at q₁
  · obtain ⟨v, r, rfl, ⟨t, rfl⟩, hr⟩ := r₁
    unfold RelL at hr; subst hr
    exact call_range_1 (range_iter (T₁.push _ _) q₁.1 (IsRange.new ..) (E₁.trans (Ext.push K _ _)) q₁.2)
  · obtain ⟨v, r, rfl, ⟨t, rfl⟩, v₂, r₂, rfl, ⟨t₂, rfl⟩, hr⟩ := r₁
    unfold RelL at hr; subst hr
    exact call_range_2 (range_iter (T₁.push _ _) q₁.1 (IsRange.new ..) (E₁.trans (Ext.push K _ _)) q₁.2)
  · obtain ⟨v, r, rfl, ⟨t, rfl⟩, v₂, r₂, rfl, ⟨t₂, rfl⟩, v₃, r₃, rfl, ⟨t₃, rfl⟩, hr⟩ := r₁
    unfold RelL at hr; subst hr
    refine call_range_3 ?_ (range_iter (T₁.push _ _) q₁.1 (IsRange.new ..) (E₁.trans (Ext.push K _ _)) q₁.2) (.inl (PyProof.noPylong_small ?_))
    · rcases q₁.1.2.2 with h | h | h <;> omega
    · rcases q₁.1.2.2 with h | h | h <;> omega
  · exact q₁.elim

/-! while -/
noncomputable def W.whileN (c : WT) (b : WS) : Nat → WS
  | 0 => fun _ _ _ => False
  | k + 1 => fun loc hp Q => c loc hp fun t hp₁ => (t = false → Q .next loc hp₁) ∧ (t = true → b loc hp₁ fun fl loc₂ hp₂ => match fl with
      | .next => W.whileN c b k loc₂ hp₂ Q
      | .cont => W.whileN c b k loc₂ hp₂ Q
      | .brk => Q .next loc₂ hp₂
      | .ret v => Q (.ret v) loc₂ hp₂)
inductive WhJ (D : Wd) (F : Fd) (K : Addr → Prop) (h : Heap) (c : WT) (b : WS) (Q : Fl → Loc → Hp → Prop) (k : Nat) (s' : Shared) : Prop
  | mk (loc' : Loc) (hp' : Hp) (_ : St D F K loc' hp' s') (_ : Ext K h s'.heap) (_ : W.whileN c b k loc' hp' Q)
noncomputable def W.while (c : WT) (b : WS) : WS := fun loc hp Q => ∃ k, W.whileN c b k loc hp Q
theorem EvS.while {t : Expr} {xs : List Stmt} {pos : Pos} {c : WT} {b : WS} (hc : EvT D F n t c) (hb : EvB D F n xs b) : EvS D F n (.While t xs [] pos) (W.while c b) := fun A K loc hp s Q o T q => by
  obtain ⟨k, q⟩ := q
  refine wpAny_While (codeAny_whileLoop (WhJ D F K s.heap c b Q) ?_ k ⟨loc, hp, T, Ext.refl _ _, q⟩)
  rintro k s₁ ⟨l₁, hp₁, T₁, E₁, q₁⟩
  cases k with
  | zero => exact q₁.elim
  | succ k =>
    refine wpAny_mono (hc.then o T₁ q₁ fun v s₂ hp₂ T₂ E₂ q₂ => ?_) (fun _ _ p => p) fun _ _ e => e.elim
    cases v with
    | false =>
      simp only [Bool.false_eq_true, if_false]
      exact wpAny_execs_nil ⟨.next, l₁, hp₂, rfl, T₂, E₁.trans E₂, q₂.1 rfl⟩
    | true =>
      simp only [if_true]
      refine wpAny_mono (hb A K l₁ hp₂ s₂ _ o T₂ (q₂.2 rfl)) (fun f s₃ ⟨fl, l₃, hp₃, r, T₃, E₃, q₃⟩ => ?_) fun _ _ e => e.elim
      have E := (E₁.trans E₂).trans E₃
      cases fl with
      | next => unfold FlRel at r; subst r; exact ⟨k, Nat.lt_succ_self _, l₃, hp₃, T₃, E, q₃⟩
      | cont => unfold FlRel at r; subst r; exact ⟨k, Nat.lt_succ_self _, l₃, hp₃, T₃, E, q₃⟩
      | brk => unfold FlRel at r; subst r; exact ⟨.next, l₃, hp₃, rfl, T₃, E, q₃⟩
      | ret w => obtain ⟨v, rfl, rv⟩ := r; exact ⟨.ret w, l₃, hp₃, ⟨v, rfl, rv⟩, T₃, E, q₃⟩

/-! for -/
noncomputable def W.forGo (t : V → Loc → Hp → (Loc → Hp → Prop) → Prop) (b : WS) (P : Hp → Prop) : List V → WS
  | [] => fun loc hp Q => P hp ∧ Q .next loc hp
  | u :: us => fun loc hp Q => P hp ∧ t u loc hp fun loc₁ hp₁ => b loc₁ hp₁ fun fl loc₂ hp₂ => match fl with
    | .next => W.forGo t b P us loc₂ hp₂ Q
    | .cont => W.forGo t b P us loc₂ hp₂ Q
    | .brk => Q .next loc₂ hp₂
    | .ret v => Q (.ret v) loc₂ hp₂
noncomputable def W.for (i : WI) (t : V → Loc → Hp → (Loc → Hp → Prop) → Prop) (b : WS) : WS := fun loc hp Q => i loc hp fun P us hp₁ => W.forGo t b P us loc hp₁ Q

noncomputable def withI (K : Addr → Prop) (I : Addr) : Addr → Prop := fun a => K a ∨ a = I
theorem St.inI {I : Addr} {o : Obj} (T : St D F K loc hp s) (f : Free F K hp I) (g : s.heap.get? I = some o) : St D F (withI K I) loc hp s where
  sim := { base := fun b o e => ⟨(T.sim.base b o e).1, .inl (T.sim.base b o e).2⟩
           k := fun a h => by
             rcases h with h | rfl
             · exact T.sim.k a h
             · rw [g]; rfl
           obj := fun a o e => by
             refine ⟨?_, (T.sim.obj a o e).2⟩
             rintro (h | rfl)
             · exact (T.sim.obj a o e).1 h
             · rw [f.hp] at e; cases e
           gens := T.sim.gens
           os := T.sim.os }
  ns := T.ns
  lK := by
    rintro (h | h)
    · exact T.lK h
    · exact f.l h.symm
  lhp := T.lhp
  cells := fun x c hc => ⟨(T.cells x c hc).1, fun w => by
    rintro (h | h)
    · exact (T.cells x c hc).2 w h
    · exact f.c x c hc h⟩
  ok := T.ok
theorem St.outI {I : Addr} (T : St D F (withI K I) loc hp s) (b : ∀ b o, D.s₁.heap.get? b = some o → K b) : St D F K loc hp s where
  sim := T.sim.outside (fun a h => .inl h) b
  ns := T.ns
  lK := fun h => T.lK (.inl h)
  lhp := T.lhp
  cells := fun x c hc => ⟨(T.cells x c hc).1, fun w h => (T.cells x c hc).2 w (.inl h)⟩
  ok := T.ok
/-- the iterator goes on -/
theorem St.stepI {I : Addr} {o : Obj} {h' : Heap} {t : Nat} (T : St D F K loc hp s) (f : Free F K hp I) (g : s.heap.get? I = some o) (c : ¬ IsT o) (hs : Heap.ExtBut I s.heap h') : St D F K loc hp { s with heap := h', toks := t } ∧ Ext K s.heap h' := by
  have E : Ext K s.heap h' := Ext.but hs g c f.k
  exact ⟨T.step (T.sim.but hs g c f.k f.hp) E (fun o e => hs _ o (Ne.symm f.l) e) (fun y c hc o e => hs _ o (f.c y c hc) e) T.lhp, E⟩

inductive ForJ (D : Wd) (F : Fd) (K : Addr → Prop) (h : Heap) (I : Addr) (At : Nat → Heap → Prop) (us : List V) (G : List V → Loc → Hp → Prop) (k : Nat) (s' : Shared) : Prop
  | mk (j : Nat) (loc' : Loc) (hp' : Hp) (_ : At j s'.heap) (_ : Free F K hp' I) (_ : St D F K loc' hp' s') (_ : Ext K h s'.heap) (_ : k = us.length + 1 - j) (_ : j ≤ us.length) (_ : G (us.drop j) loc' hp')
theorem EvS.for {t x : Expr} {xs : List Stmt} {pos : Pos} {i : WI} {tg : V → Loc → Hp → (Loc → Hp → Prop) → Prop} {b : WS} (hi : EvI D F n x i) (ht : EvA D F n t tg) (hb : EvB D F n xs b) (hs : ∀ v, foldedSetIterable x F.env v = pure v := by intro _; rfl) :
    EvS D F n (.For t x xs [] pos) (W.for i tg b) := fun A K loc hp s Q o T q => by
  refine wpAny_For (wpAny_mono (hi A K loc hp s _ o T q) (fun v s₁ h₁ => wpAny_mono h₁ (fun it s₂ ⟨I, At, P, us, hp₂, e, S, a, f, T₂, E₂, hP, q₂⟩ => ?_) fun _ _ e => e) fun _ _ e => e) hs
  subst e
  refine codeAny_forLoop_any (ForJ D F K s.heap I At us fun us loc' hp' => W.forGo tg b P us loc' hp' Q) ?_ (us.length + 1)
    ⟨0, loc, hp₂, a, f, T₂, E₂, rfl, Nat.zero_le _, q₂⟩
  rintro k s₃ ⟨j, l₃, hp₃, a₃, f₃, T₃, E₃, rfl, hj, q₃⟩
  obtain ⟨oi, gi, hi'⟩ := S.there _ _ a₃
  cases hu : us[j]? with
  | none =>
    have hlen : us.length ≤ j := by simpa using hu
    rw [List.drop_eq_nil_of_le hlen] at q₃
    refine wpAny_mono (S.done A j K hp₃ s₃ _ o.1 a₃ T₃.sim q₃.1 hu fun h' tk hs => ?_) (fun _ _ p => p) fun _ _ e => e.elim
    obtain ⟨T₄, E₄⟩ := T₃.stepI (t := tk) f₃ gi hi'.notT hs
    exact wpAny_execs_nil ⟨.next, l₃, hp₃, rfl, T₄, E₃.trans E₄, q₃.2⟩
  | some u =>
    have hlt : j < us.length := (List.getElem?_eq_some_iff.mp hu).1
    have hd : us.drop j = u :: us.drop (j + 1) := by
      rw [List.drop_eq_getElem_cons hlt]
      congr 1
      exact (List.getElem?_eq_some_iff.mp hu).2
    rw [hd] at q₃
    refine wpAny_mono (S.item A j u K hp₃ s₃ _ a₃ T₃.sim q₃.1 hu fun v h' tk rv a₄ hs => ?_) (fun _ _ p => p) fun _ _ e => e.elim
    obtain ⟨T₄, E₄⟩ := T₃.stepI (t := tk) f₃ gi hi'.notT hs
    obtain ⟨oi', gi', hi''⟩ := S.there _ _ a₄
    refine letOwned (s := { s₃ with heap := h', toks := tk }) gi' hi'' ?_
    have T₄' := T₄.inI f₃ gi'
    refine wpAny_mono (ht A (withI K I) l₃ hp₃ _ v u _ o T₄' (rv.mono E₄) q₃.2) (fun _ s₅ ⟨l₅, hp₅, T₅, E₅, q₅⟩ => ?_) fun _ _ e => e.elim
    refine wpAny_mono (hb A (withI K I) l₅ hp₅ s₅ _ o T₅ q₅) (fun fl s₆ ⟨fl', l₆, hp₆, r₆, T₆, E₆, q₆⟩ => ?_) fun _ _ e => e.elim
    have base := fun b o e => (T.sim.base b o e).2
    have T₇ := T₆.outI base
    have Ei := E₅.trans E₆
    have E₇ : Ext K s.heap s₆.heap := (E₃.trans E₄).trans (Ei.weaken fun a h => .inl h)
    have a₇ : At (j + 1) s₆.heap := S.frame _ _ _ a₄ fun ob g => Ei _ ob g (.inr (.inr rfl))
    have f₇ : Free F K hp₆ I := ⟨f₃.k, by
      cases e : hp₆ I with
      | none => rfl
      | some ob => exact absurd (.inr rfl) (T₆.sim.obj _ _ e).1, f₃.l, f₃.c⟩
    cases fl' with
    | next => unfold FlRel at r₆; subst r₆; exact ⟨us.length + 1 - (j + 1), by (and_intros <;> omega), j + 1, l₆, hp₆, a₇, f₇, T₇, E₇, rfl, hlt, q₆⟩
    | cont => unfold FlRel at r₆; subst r₆; exact ⟨us.length + 1 - (j + 1), by (and_intros <;> omega), j + 1, l₆, hp₆, a₇, f₇, T₇, E₇, rfl, hlt, q₆⟩
    | brk => unfold FlRel at r₆; subst r₆; exact ⟨.next, l₆, hp₆, rfl, T₇, E₇, q₆⟩
    | ret w => obtain ⟨v', rfl, rv'⟩ := r₆; exact ⟨.ret w, l₆, hp₆, ⟨v', rfl, rv'⟩, T₇, E₇, q₆⟩
end
end Mine

namespace Mine
open PySem PySem.W PyProof.Rows

theorem compLoop_own {prog : Program} {w : World} {A : Around} {R : Result → Shared → Prop} {s : Shared} {elt target iter : Expr} {ifs : List Expr} {scope : Scope} {pos : Pos} {it acc : Value} {env : Env} (J : Nat → Shared → Prop)
    (turn : ∀ n s, J n s → wpAny (model prog w) A (pyNext it) (fun r s₁ => match r with
      | none => R (.ok .next) s₁
      | some v => wpAny (model prog w) A (letOwnedTupleGo target it v) (fun _ s₁' => wpAny (model prog w) A (assign target env v) (fun _ s₂ =>
          wpAny (model prog w) A (forIn ifs true fun c r => if r = true then do let ok ← isTrue c env (eval c env); pure (ForInStep.yield ok) else pure (ForInStep.yield r)) (fun ok s₃ =>
            if ok = true then wpAny (model prog w) A (eval elt env) (fun x s₄ =>
              wpAny (model prog w) A (call (.builtin "list.append") [acc, x]) (fun _ s₅ => ∃ m, m < n ∧ J m s₅) noE s₄) noE s₃
            else ∃ m, m < n ∧ J m s₃) noE s₂) noE s₁') noE s₁) noE s)
    (n : Nat) (h : J n s) : codeAny (model prog w) A (.compLoop (.ListComp elt [⟨target, iter, ifs, 0⟩] scope pos) 0 it acc env) R s := by
  refine codeAny_loop rfl J (fun n s hI => ?_) n h
  show wpAny _ A ((compTurn (.ListComp elt [⟨target, iter, ifs, 0⟩] scope pos) 0 it acc env).onRaise (fun x => do noteFrame x env; theTreesLotGoes x)) _ _ s
  refine wpAny_onRaise ?_
  rw [compTurn_list]
  refine wpAny_bind (wpAny_standAt (wpAny_bind (wpAny_mono (turn n s hI) (fun r s₁ h₁ => ?_) fun _ _ e => e.elim)))
  cases r with
  | none => exact wpAny_pure h₁
  | some v =>
    refine wpAny_bind (wpAny_mono h₁ (fun _ s₁' h₁' => ?_) fun _ _ e => e.elim)
    refine wpAny_bind (wpAny_mono h₁' (fun _ s₂ h₂ => wpAny_bind (wpAny_mono h₂ (fun ok s₃ h₃ => ?_) fun _ _ e => e.elim)) fun _ _ e => e.elim)
    cases ok with
    | false => exact wpAny_pure ⟨rfl, h₃⟩
    | true => exact wpAny_bind (wpAny_bind (wpAny_mono h₃ (fun x s₄ h₄ => wpAny_bind (wpAny_mono h₄ (fun _ s₅ h₅ => wpAny_pure (wpAny_pure ⟨rfl, h₅⟩)) fun _ _ e => e.elim)) fun _ _ e => e.elim))

section
variable {D : Wd} {F : Fd} {n : Nat} {A : Around} {K : Addr → Prop} {loc : Loc} {hp hp' : Hp} {s s' : Shared}

noncomputable def compFd (F : Fd) (scope : Scope) (cl : List (Str × Addr)) (nm : List Str) (C : Addr) : Fd := { env := compEnvC scope cl C F.env, nm := nm, own := false }

structure CompOk (F : Fd) (scope : Scope) (cl : List (Str × Addr)) (own cap : List Str) (capi : List Nat) : Prop where
  clos : closureFor scope F.env = pure cl
  kind : scope.kind = .function
  ncell : ∀ y ∈ scope.names, y.2 ≠ .cell
  names : ∀ y ∈ scope.names, y.2 = .local → scope.names.lookup y.1 = some .local
  nodup : (own ++ cap).Nodup
  ownL : ∀ x ∈ own, scope.names.lookup x = some .local
  capF : ∀ x ∈ cap, (relabel scope F.env).names.lookup x = some .cell ∧ ∃ c, cl.lookup x = some c ∧ F.env.cells.lookup x = some c
  capI : cap.length = capi.length ∧ ∀ (k : Nat) (x : Str) (i : Nat), cap[k]? = some x → capi[k]? = some i → F.nm[i]? = some x ∧ F.env.kindOf x = some .cell
  sub : ∀ p ∈ cl, p ∈ F.env.cells
  apart : cl.Pairwise fun x y => x.2 ≠ y.2
  plain : ∀ x ∈ own ++ cap, (x == ("__debug__" : Str)) = false

theorem CompOk.fd {scope : Scope} {cl : List (Str × Addr)} {own cap : List Str} {capi : List Nat} (c : CompOk F scope cl own cap capi) (f : FdOk F) (C : Addr) : FdOk (compFd F scope cl (own ++ cap) C) where
  kind := c.kind
  nodup := c.nodup
  kinds x hx := by
    rcases List.mem_append.mp hx with h | h
    · exact .inl (lookup_relabel_local (c.ownL x h))
    · obtain ⟨a, c', b, _⟩ := c.capF x h
      exact .inr ⟨a, c', b⟩
  apart := c.apart
  plain := c.plain
  globals := f.globals
  builtins := f.builtins

noncomputable def inner (loc : Loc) (k : Nat) (capi : List Nat) : Loc := List.replicate k none ++ capi.map (lk loc)
theorem lk_get : ∀ (l : Loc) (i : Nat), lk l i = (l[i]?).join
  | [], i => by simp [lk]
  | a :: l, 0 => by simp [lk]
  | a :: l, i + 1 => by simp [lk, lk_get l i]

noncomputable def W.compGo (tg : V → Loc → Hp → (Loc → Hp → Prop) → Prop) (c : WT) (e : WE) (P : Hp → Prop) : List V → Loc → Hp → List V → (List V → Hp → Prop) → Prop
  | [], _, hp, acc, Q => P hp ∧ Q acc hp
  | u :: us, loc, hp, acc, Q => P hp ∧ tg u loc hp fun loc₁ hp₁ => c loc₁ hp₁ fun b hp₂ =>
    (b = true → e loc₁ hp₂ fun w hp₃ => acc.length ≤ 10000 ∧ W.compGo tg c e P us loc₁ hp₃ (acc ++ [w]) Q) ∧ (b = false → W.compGo tg c e P us loc₁ hp₂ acc Q)
noncomputable def W.yes : WT := fun _ hp Q => Q true hp
noncomputable def W.comp (i : WI) (k : Nat) (capi : List Nat) (tg : V → Loc → Hp → (Loc → Hp → Prop) → Prop) (c : WT) (e : WE) : WE := fun loc hp Q => i loc hp fun P us hp₁ =>
  W.compGo tg c e P us (inner loc k capi) hp₁ [] fun ws hp₂ => ∀ a, hp₂ a = none → Q (.ref a) (hp₂.set a (.list ws))

/-- the tests of a comprehension -/
noncomputable def EvIfs (D : Wd) (F : Fd) (n : Nat) (ifs : List Expr) (W : WT) : Prop :=
  ∀ A K loc hp s Q, AOk A n → St D F K loc hp s → W loc hp Q → wpAny (model D.prog D.w) A (forIn ifs true fun c r => if r = true then do let ok ← isTrue c F.env (eval c F.env); pure (ForInStep.yield ok) else pure (ForInStep.yield r)) (PT D F K loc s.heap Q) noE s
theorem EvIfs.none : EvIfs D F n [] W.yes := fun A K loc hp s Q o T q => wpAny_tests_nil ⟨hp, T, Ext.refl _ _, q⟩
theorem EvIfs.one {x : Expr} {c : WT} (h : EvT D F n x c) : EvIfs D F n [x] c := fun A K loc hp s Q o T q => wpAny_tests_one (h A K loc hp s Q o T q)

noncomputable def withs (K : Addr → Prop) (L : List Addr) : Addr → Prop := fun a => K a ∨ a ∈ L

inductive CompJ (D : Wd) (F' : Fd) (K' K₀ : Addr → Prop) (h₁ : Heap) (I a : Addr) (At : Nat → Heap → Prop) (us : List V) (G : List V → Loc → Hp → List V → Prop) (k : Nat) (s' : Shared) : Prop
  | mk (j : Nat) (loc' : Loc) (hp' : Hp) (ys : Array Value) (acc : List V) (_ : At j s'.heap) (_ : St D F' K' loc' hp' s') (_ : Ext K₀ h₁ s'.heap) (_ : hp' I = none) (_ : s'.heap.PlainList a ys) (_ : RelL s'.heap acc ys.toList) (_ : acc.length ≤ 10001 + j) (_ : k = us.length + 1 - j) (_ : j ≤ us.length) (_ : G (us.drop j) loc' hp' acc)
inductive CompO (D : Wd) (F' : Fd) (K' K₀ : Addr → Prop) (h₁ : Heap) (I a : Addr) (A : Heap → Prop) (l₈ : Loc) (hp₈ : Hp) (s₈ : Shared) (acc : List V) (ys : Array Value) (my : Nat) : Prop
  | mk (_ : A s₈.heap) (_ : St D F' K' l₈ hp₈ s₈) (_ : Ext K₀ h₁ s₈.heap) (_ : hp₈ I = none) (_ : s₈.heap.get? a = some { cls := .type "list", data := .seq ys my }) (_ : RelL s₈.heap acc ys.toList)

theorem comp_core {elt target iter : Expr} {ifs : List Expr} {scope : Scope} {pos : Pos} {cl : List (Str × Addr)} {own cap : List Str} {capi : List Nat} {tg : V → Loc → Hp → (Loc → Hp → Prop) → Prop} {c : WT} {e : WE}
    (ok : CompOk F scope cl own cap capi) (ht : ∀ C, EvA D (compFd F scope cl (own ++ cap) C) n target tg) (hc : ∀ C, EvIfs D (compFd F scope cl (own ++ cap) C) n ifs c) (he : ∀ C, EvE D (compFd F scope cl (own ++ cap) C) n elt e)
    {A : Around} {K : Addr → Prop} {loc : Loc} {hp : Hp} {s : Shared} {I : Addr} {At : Nat → Heap → Prop} {P : Hp → Prop} {us : List V} {Qf : List V → Hp → Prop} {RR : Value → Addr → Result → Shared → Prop}
    (o : AOk A n) (S : Steps D P us I At) (a₀ : At 0 s.heap) (f₀ : Free F K hp I) (T : St D F K loc hp s) (q : W.compGo tg c e P us (inner loc own.length capi) hp [] Qf)
    (hRR : ∀ a C s' hp' ws, hp' a = none → St D F (withI K C) loc (hp'.set a (.list ws)) s' → Ext K s.heap s'.heap → (∃ m, s'.heap.Ns C m) → ¬ K C → (hp'.set a (.list ws)) C = none → Qf ws hp' → RR (.ref a) C (.ok .next) s') :
    wpAny (model D.prog D.w) A (newList []) (fun acc s₃ => wpAny (model D.prog D.w) A (newFunctionEnv scope F.env.globals cl [] F.env.qual none .none (some F.env)) (fun cenv s₄ =>
      codeAny (model D.prog D.w) A (.compStart (.ListComp elt [⟨target, iter, ifs, 0⟩] scope pos) 0 (.ref I) acc { cenv with scope := relabel scope F.env }) (RR acc cenv.locals) s₄) noE s₃) noE s := by
  refine wpAny_newObj_type (wpAny_newFunctionEnv ok.ncell (by intro y hy; simp at hy) (fun h₁ hns₁ hsb₁ => ?_) ok.kind)
  dsimp only at hns₁ hsb₁ ⊢
  generalize hH2 : s.heap.push { cls := .type "list", dict := none, data := .seq ([] : List Value).toArray } = H2 at hns₁ hsb₁ ⊢
  have hCsz : H2.objs.size = s.heap.objs.size + 1 := by rw [← hH2, Heap.size_push]
  generalize hC : H2.objs.size = C at hns₁ hsb₁ hCsz ⊢
  generalize ha : s.heap.objs.size = a at hCsz ⊢
  have aC : a ≠ C := by rw [hCsz]; exact Nat.ne_of_lt (Nat.lt_succ_self _)
  have keep : ∀ b o, s.heap.get? b = some o → h₁.get? b = some o := fun b o g => by
    have hb : b < a := ha ▸ Heap.lt_size g
    refine hsb₁.extBut b o (Nat.ne_of_lt (Nat.lt_trans hb (by rw [hCsz]; exact Nat.lt_succ_self _))) (Heap.get?_push_of_some _ ?_)
    rw [← hH2]; exact Heap.get?_push_of_some _ g
  have hacc : h₁.PlainList a #[] := ⟨0, hsb₁.extBut _ _ aC (Heap.get?_push_of_some _ (by rw [← hH2, ← ha]; exact Heap.get?_push_size _ rfl))⟩
  obtain ⟨oL, gL⟩ := T.lsome
  have fresh : ∀ b, a ≤ b → s.heap.get? b = none := fun b hb => by
    cases g : s.heap.get? b with
    | none => rfl
    | some ob => exact absurd (Heap.lt_size g) (Nat.not_lt.mpr (ha ▸ hb))
  have fa : s.heap.get? a = none := fresh a (Nat.le_refl _)
  have fC : s.heap.get? C = none := fresh C (by rw [hCsz]; exact Nat.le_succ _)
  have notK : ∀ b, s.heap.get? b = none → ¬ K b := fun b g h => by have := T.sim.k b h; rw [g] at this; cases this
  have notH : ∀ b, s.heap.get? b = none → hp b = none := fun b g => by
    cases e' : hp b with
    | none => rfl
    | some ob => obtain ⟨x, g', _⟩ := ObjIs.there D (T.sim.obj b ob e').2; rw [g] at g'; cases g'
  have notL : ∀ b, s.heap.get? b = none → b ≠ F.env.locals := fun b g h => by rw [h, gL] at g; cases g
  have notc : ∀ b, s.heap.get? b = none → ∀ x c', (x, c') ∈ F.env.cells → c' ≠ b := fun b g x c' hx h => by
    obtain ⟨⟨v, ob, gc, _⟩, _⟩ := T.cells x c' hx
    rw [h, g] at gc; cases gc
  obtain ⟨oi₀, gi₀, hi₀⟩ := S.there _ _ a₀
  have Ia : I ≠ a := fun h => by rw [← h, gi₀] at fa; cases fa
  have IC : I ≠ C := fun h => by rw [← h, gi₀] at fC; cases fC
  -- what the turns keep: what the frame keeps, the frame, the list being made
  let K' : Addr → Prop := fun b => St.Kin F K b ∨ b = a
  have T₁ : St D F K loc hp { s with heap := h₁, toks := s.toks + ([] : List (Str × Value)).length } := T.keep keep
  have E₁ : Ext K s.heap h₁ := Ext.of_keep keep
  let F' := compFd F scope cl (own ++ cap) C
  have inI : ∀ (s' : Shared) (hp' : Hp), Sim D (St.Kin F K) hp' s' → (∃ oa, s'.heap.get? a = some oa) → hp' a = none → Sim D K' hp' s' := fun s' hp' S' ⟨oa, ga⟩ hpa =>
    { base := fun b ob g => ⟨(S'.base b ob g).1, .inl (S'.base b ob g).2⟩
      k := fun b h => by
        rcases h with h | rfl
        · exact S'.k b h
        · rw [ga]; rfl
      obj := fun b ob g => by
        refine ⟨?_, (S'.obj b ob g).2⟩
        rintro (h | rfl)
        · exact (S'.obj b ob g).1 h
        · rw [hpa] at g; cases g
      gens := S'.gens
      os := S'.os }
  -- the block's own frame at its start
  have start : St D F' K' (inner loc own.length capi) hp { s with heap := h₁, toks := s.toks + ([] : List (Str × Value)).length } := by
    refine ⟨inI _ _ T₁.inside ⟨_, hacc.choose_spec⟩ (notH a fa), ⟨_, hns₁, fun i x w hx hw => ?_⟩, ?_, notH C fC, fun x c' hx => ⟨(T₁.cells x c' (ok.sub _ hx)).1, fun h => by cases h⟩, ok.fd T.ok C⟩
    · -- a captured name
      show VarIs F' h₁ _ x w
      rw [lk_get, inner] at hw
      by_cases hi : i < own.length
      · rw [List.getElem?_append_left (by simpa using hi)] at hw
        simp [hi] at hw
      · rw [List.getElem?_append_right (by simpa using Nat.not_lt.mp hi)] at hw
        have hx' : cap[i - own.length]? = some x := by
          have : (own ++ cap)[i]? = some x := hx
          rwa [List.getElem?_append_right (Nat.not_lt.mp hi)] at this
        simp only [List.length_replicate, List.getElem?_map] at hw
        cases hk : capi[i - own.length]? with
        | none => rw [hk] at hw; cases hw
        | some j =>
          rw [hk] at hw
          have hw' : lk loc j = some w := hw
          obtain ⟨h1, h2⟩ := ok.capI.2 _ x j hx' hk
          obtain ⟨m, _, hv⟩ := T₁.ns
          rcases hv j x w h1 hw' with ⟨z, _⟩ | ⟨_, c', v, b, d, r⟩
          · rw [h2] at z; cases z
          · obtain ⟨k1, c'', k2, k3⟩ := ok.capF x (List.mem_of_getElem? hx')
            rw [k3] at b; cases b
            exact .inr ⟨k1, _, v, k2, d, r⟩
    · rintro ((h | h | ⟨x, h⟩) | h)
      · exact notK C fC h
      · exact notL C fC h
      · exact notc C fC x C h rfl
      · exact aC h.symm
  have go : ∀ s₃ : Shared, s₃ = { s with heap := h₁, toks := s.toks + ([] : List (Str × Value)).length } →
      codeAny (model D.prog D.w) A (.compLoop (.ListComp elt [⟨target, iter, ifs, 0⟩] scope pos) 0 (.ref I) (.ref a) (compEnvC scope cl C F.env)) (RR (.ref a) C) s₃ := by
    rintro s₃ rfl
    refine compLoop_own (CompJ D F' K' (St.Kin F K) h₁ I a At us fun us loc' hp' acc => W.compGo tg c e P us loc' hp' acc Qf) ?_ (us.length + 1)
      ⟨0, _, hp, #[], [], S.frame _ _ _ a₀ (fun ob g => keep _ ob g), start, Ext.refl _ _, f₀.hp, hacc, .nil, Nat.zero_le _, rfl, Nat.zero_le _, q⟩
    rintro k s₄ ⟨j, l₄, hp₄, ys, acc, a₄, T₄, E₄, hpI, hpl, racc, hlen, rfl, hj, q₄⟩
    obtain ⟨oi, gi, hi⟩ := S.there _ _ a₄
    obtain ⟨my, gy⟩ := hpl
    have KI : ¬ K' I := by
      rintro ((h | h | ⟨x, h⟩) | h)
      · exact f₀.k h
      · exact f₀.l h
      · exact f₀.c x I h rfl
      · exact Ia h
    have Fr' : Free F' K' hp₄ I := ⟨KI, hpI, IC, fun x c' hx h => f₀.c x c' (ok.sub _ hx) h⟩
    have hpa : hp₄ a = none := by
      cases g : hp₄ a with
      | none => rfl
      | some ob => exact absurd (.inr rfl) (T₄.sim.obj _ _ g).1
    cases hu : us[j]? with
    | none =>
      have hlen' : us.length ≤ j := by simpa using hu
      rw [List.drop_eq_nil_of_le hlen'] at q₄
      refine wpAny_mono (S.done A j K' hp₄ s₄ _ o.1 a₄ T₄.sim q₄.1 hu fun h' tk hs => ?_) (fun _ _ p => p) fun _ _ e => e.elim
      obtain ⟨T₅, E₅⟩ := T₄.stepI (t := tk) Fr' gi hi.notT hs
      have E₅' : Ext (St.Kin F K) h₁ h' := E₄.trans (E₅.weaken fun b h => .inl h)
      -- back in the outer frame
      have sim₅ : Sim D (St.Kin F K) hp₄ { s₄ with heap := h', toks := tk } := T₅.sim.outside (fun b h => .inl h) fun b ob g => .inl (T.sim.base b ob g).2
      obtain ⟨T₆, E₆⟩ := T₁.back sim₅ E₅'
      have gy' : h'.get? a = some { cls := .type "list", data := .seq ys my } := E₅ _ _ gy (.inr (.inr rfl))
      have Ka : ¬ K a := notK a fa
      have T₇ : St D F K loc (hp₄.set a (.list acc)) { s₄ with heap := h', toks := tk } := T₆.new Ka (notL a fa) ⟨ys, my, gy', racc.mono E₅⟩
      obtain ⟨mC, nC, _⟩ := T₅.ns
      have hpC : (hp₄.set a (.list acc)) C = none := by rw [Hp.set_ne _ _ (Ne.symm aC)]; exact T₅.lhp
      obtain ⟨oC, _, _, gC, _⟩ := id nC
      refine hRR a C _ hp₄ acc hpa (T₇.inI ⟨notK C fC, hpC, Ne.symm (Ne.symm (notL C fC)), fun x c' hx => notc C fC x c' hx⟩ gC) (E₁.trans E₆) ⟨mC, nC⟩ (notK C fC) hpC q₄.2
    | some u =>
      have hlt : j < us.length := (List.getElem?_eq_some_iff.mp hu).1
      have hd : us.drop j = u :: us.drop (j + 1) := by
        rw [List.drop_eq_getElem_cons hlt]
        congr 1
        exact (List.getElem?_eq_some_iff.mp hu).2
      rw [hd] at q₄
      refine wpAny_mono (S.item A j u K' hp₄ s₄ _ a₄ T₄.sim q₄.1 hu fun v h' tk rv a₅ hs => ?_) (fun _ _ p => p) fun _ _ e => e.elim
      obtain ⟨T₅, E₅⟩ := T₄.stepI (t := tk) Fr' gi hi.notT hs
      obtain ⟨oi', gi', hi''⟩ := S.there _ _ a₅
      refine letOwned (s := { s₄ with heap := h', toks := tk }) gi' hi'' ?_
      have T₅' := T₅.inI Fr' gi'
      refine wpAny_mono (ht C A (withI K' I) l₄ hp₄ _ v u _ o T₅' (rv.mono E₅) q₄.2) (fun _ s₆ ⟨l₆, hp₆, T₆, E₆, q₆⟩ => ?_) fun _ _ e => e.elim
      refine wpAny_mono (hc C A (withI K' I) l₆ hp₆ s₆ _ o T₆ q₆) (fun b s₇ ⟨hp₇, T₇, E₇, q₇⟩ => ?_) fun _ _ e => e.elim
      have base' : ∀ b ob, D.s₁.heap.get? b = some ob → K' b := fun b ob g => .inl (.inl (T.sim.base b ob g).2)
      have Ei := E₆.trans E₇
      have outI : ∀ (s₈ : Shared) (hp₈ : Hp) l₈, St D F' (withI K' I) l₈ hp₈ s₈ → Ext (withI K' I) h' s₈.heap → CompO D F' K' (St.Kin F K) h₁ I a (At (j + 1)) l₈ hp₈ s₈ acc ys my := by
        intro s₈ hp₈ l₈ T₈ E₈
        refine ⟨S.frame _ _ _ a₅ fun ob g => E₈ _ ob g (.inr (.inr rfl)), T₈.outI base', (E₄.trans (E₅.weaken fun b h => .inl h)).trans (E₈.weaken fun b h => .inl (.inl h)), ?_, E₈ _ _ (E₅ _ _ gy (.inr (.inr rfl))) (.inr (.inl (.inr rfl))), (racc.mono E₅).mono E₈⟩
        cases g : hp₈ I with
        | none => rfl
        | some ob => exact absurd (.inr rfl) (T₈.sim.obj _ _ g).1
      cases b with
      | false =>
        simp only [Bool.false_eq_true, if_false]
        obtain ⟨b1, b2, b3, b4, b5, b6⟩ := outI s₇ hp₇ l₆ T₇ Ei
        exact ⟨us.length + 1 - (j + 1), by (and_intros <;> omega), j + 1, l₆, hp₇, ys, acc, b1, b2, b3, b4, ⟨my, b5⟩, b6, by (and_intros <;> omega), rfl, hlt, q₇.2 rfl⟩
      | true =>
        simp only [if_true]
        refine wpAny_mono (he C A (withI K' I) l₆ hp₇ s₇ _ o T₇ (q₇.1 rfl)) (fun x s₈ ⟨w, hp₈, r₈, T₈, E₈, q₈⟩ => ?_) fun _ _ e => e.elim
        obtain ⟨b1, b2, b3, b4, b5, b6⟩ := outI s₈ hp₈ l₆ T₈ (Ei.trans E₈)
        have hsz : ys.size = acc.length := by have := racc.length; simpa using this
        refine wpAny_list_append_plain (hsz := by rw [hsz, sizeLine_eq]; have := q₈.1; (and_intros <;> omega)) ⟨my, b5⟩ fun h₉ hp₉ hs₉ => ?_
        have nT : ¬ IsT ({ cls := .type "list", data := .seq ys my } : Obj) := fun z => by simpa using z.cls
        have E₉ : Ext (St.Kin F K) s₈.heap h₉ := Ext.same hs₉ b5 nT (by
          rintro (h | h | ⟨x, h⟩)
          · exact notK a fa h
          · exact notL a fa h
          · exact notc a fa x a h rfl)
        have ka : ∀ b ob, b ≠ a → s₈.heap.get? b = some ob → h₉.get? b = some ob := hs₉.extBut
        have hpa₈ : hp₈ a = none := by
          cases g : hp₈ a with
          | none => rfl
          | some ob => exact absurd (.inr rfl) (b2.sim.obj _ _ g).1
        have sim₉ : Sim D K' hp₈ { s₈ with heap := h₉ } := by
          have := (b2.sim.outside (K := St.Kin F K) (fun b h => .inl h) fun b ob g => .inl (T.sim.base b ob g).2).off (t := s₈.toks) hs₉ b5 nT (by
            rintro (h | h | ⟨x, h⟩)
            · exact notK a fa h
            · exact notL a fa h
            · exact notc a fa x a h rfl) hpa₈
          exact inI _ _ this (let ⟨m', g⟩ := hp₉; ⟨_, g⟩) hpa₈
        have T₉ : St D F' K' l₆ hp₈ { s₈ with heap := h₉ } := by
          obtain ⟨mC, nC, hv⟩ := b2.ns
          refine ⟨sim₉, ⟨mC, nC.sameBut hs₉ (Ne.symm aC), fun i y w' hy hw => ?_⟩, b2.lK, b2.lhp, fun y c' hy => ⟨?_, fun h => by cases h⟩, b2.ok⟩
          · exact (hv i y w' hy hw).mono E₉ fun z c' hz ob g => ka c' ob (notc a fa z c' (ok.sub _ hz)) g
          · obtain ⟨⟨v', ob, g, dd⟩, _⟩ := b2.cells y c' hy
            exact ⟨v', ob, ka c' ob (notc a fa y c' (ok.sub _ hy)) g, dd⟩
        refine ⟨us.length + 1 - (j + 1), by (and_intros <;> omega), j + 1, l₆, hp₈, ys.push x, acc ++ [w], S.frame _ _ _ b1 fun ob g => ka I ob Ia g, T₉, b3.trans E₉, b4, hp₉, ?_, ?_, rfl, hlt, q₈.2⟩
        · rw [Array.toList_push]
          exact (b6.mono E₉).append (.one (r₈.mono E₉))
        · rw [List.length_append, List.length_singleton]; have := q₈.1; (and_intros <;> omega)
  exact codeAny_compStart_list (go _ rfl) (wpAny_mono (S.self A 0 _ _ (S.frame _ _ _ a₀ fun ob g => keep _ ob g) (go _ rfl)) (fun _ _ p => p) fun _ _ e => e.elim)
end
end Mine

namespace Mine
open PySem PySem.W PyProof.Rows

section
variable {D : Wd} {F : Fd} {n : Nat} {A : Around} {K : Addr → Prop} {loc : Loc} {hp hp' : Hp} {s s' : Shared}

theorem St.letC {C : Addr} {m : Str → Option Value} {h₀ h' : Heap} (T : St D F (withI K C) loc hp s) (E : Ext K h₀ s.heap) (b : ∀ b o, D.s₁.heap.get? b = some o → K b) (hn : s.heap.Ns C m) (k : ¬ K C) (hc : hp C = none) (hs : Heap.SameBut C s.heap h') :
    St D F K loc hp { s with heap := h' } ∧ Ext K h₀ h' := by
  obtain ⟨oC, es, ep, g, d, _⟩ := hn
  have nt : ¬ IsT oC := fun q => by obtain ⟨_, _, q⟩ := q.seq; rw [q] at d; cases d
  have hl : C ≠ F.env.locals := fun q => T.lK (.inr q.symm)
  have hcell : ∀ x c, (x, c) ∈ F.env.cells → c ≠ C := fun x c hx q => by
    obtain ⟨⟨v, o, g', d'⟩, _⟩ := T.cells x c hx
    rw [q, g] at g'; cases g'; rw [d] at d'; cases d'
  obtain ⟨T', E'⟩ := (T.outI b).stepI (t := s.toks) ⟨k, hc, hl, hcell⟩ g nt hs.extBut
  exact ⟨T', E.trans E'⟩

theorem EvE.comp {elt target iter : Expr} {ifs : List Expr} {scope : Scope} {pos : Pos} {cl : List (Str × Addr)} {own cap : List Str} {capi : List Nat} {tg : V → Loc → Hp → (Loc → Hp → Prop) → Prop} {c : WT} {e : WE} {i : WI}
    (ok : CompOk F scope cl own cap capi) (hi : EvI D F n iter i) (ht : ∀ C, EvA D (compFd F scope cl (own ++ cap) C) n target tg) (hc : ∀ C, EvIfs D (compFd F scope cl (own ++ cap) C) n ifs c) (he : ∀ C, EvE D (compFd F scope cl (own ++ cap) C) n elt e)
    (hs : ∀ x, foldedSetIterable iter F.env x = pure x := by intro _; rfl) : EvE D F n (.ListComp elt [⟨target, iter, ifs, 0⟩] scope pos) (W.comp i own.length capi tg c e) := fun A K loc hp s Q o T q => by
  have base := fun b o e => (T.sim.base b o e).2
  rw [eval_ListComp]
  refine wpAny_comprehension_free (use := none) rfl hs ok.clos ok.kind ok.names (wpAny_mono (hi A K loc hp s _ o T q) (fun v s₁ h₁ => wpAny_mono h₁ (fun it s₂ ⟨I, At, P, us, hp₂, e1, S, a, f, T₂, E₂, hP, q₂⟩ => ?_) fun _ _ e => e) fun _ _ e => e)
  subst e1
  refine comp_core (RR := fun acc C => compPost (model D.prog D.w) A noE none (PE D F K loc s.heap Q) acc C) ok ht hc he o S a f T₂ q₂ fun a C s' hp' ws hpa T' E' ⟨m, hn⟩ hk hpC qf => ?_
  refine ⟨m, hn, fun h' hs' => ?_⟩
  obtain ⟨T'', E''⟩ := T'.letC (E₂.trans E') base hn hk hpC hs'
  exact ⟨.ref a, _, rfl, T'', E'', qf a hpa⟩

theorem EvS.asgComp {y : Str} {py spos : Pos} {j : Nat} {elt target iter : Expr} {ifs : List Expr} {scope : Scope} {pos : Pos} {cl : List (Str × Addr)} {own cap : List Str} {capi : List Nat} {tg : V → Loc → Hp → (Loc → Hp → Prop) → Prop} {c : WT} {e : WE} {i : WI}
    (hsw : swapsWith (.ListComp elt [⟨target, iter, ifs, 0⟩] scope pos) (some (.Name y py)) spos.line F.env = pure true) (hy : HasNm F j y)
    (ok : CompOk F scope cl own cap capi) (hi : EvI D F n iter i) (ht : ∀ C, EvA D (compFd F scope cl (own ++ cap) C) n target tg) (hc : ∀ C, EvIfs D (compFd F scope cl (own ++ cap) C) n ifs c) (he : ∀ C, EvE D (compFd F scope cl (own ++ cap) C) n elt e)
    (hs : ∀ x, foldedSetIterable iter F.env x = pure x := by intro _; rfl) : EvS D F n (.Assign [.Name y py] (.ListComp elt [⟨target, iter, ifs, 0⟩] scope pos) spos) (W.asg (W.one j) (W.comp i own.length capi tg c e)) := fun A K loc hp s Q o T q => by
  have base := fun b o e => (T.sim.base b o e).2
  rw [exec_Assign_Name_used _ _ _ _ hsw]
  refine wpAny_bind (wpAny_standAt (wpAny_bind ?_))
  show wpAny _ A (do let _ ← comprehension (.ListComp elt [⟨target, iter, ifs, 0⟩] scope pos) scope F.env _ (newList []) false (eval iter F.env) (some (assign (.Name y py) F.env))) _ _ s
  refine wpAny_bind (wpAny_mono (wpAny_comprehension_free (use := some (assign (.Name y py) F.env)) (Q := fun _ s' => PS D F K s.heap Q .next s') rfl hs ok.clos ok.kind ok.names
    (wpAny_mono (hi A K loc hp s _ o T q) (fun v s₁ h₁ => wpAny_mono h₁ (fun it s₂ ⟨I, At, P, us, hp₂, e1, S, a, f, T₂, E₂, hP, q₂⟩ => ?_) fun _ _ e => e) fun _ _ e => e)) (fun _ s' hq => wpAny_pure (wpAny_pure hq)) fun _ _ e => e)
  subst e1
  refine comp_core (RR := fun acc C => compPost (model D.prog D.w) A noE (some (assign (.Name y py) F.env)) (fun _ s' => PS D F K s.heap Q .next s') acc C) ok ht hc he o S a f T₂ q₂ fun a C s' hp' ws hpa T' E' ⟨m, hn⟩ hk hpC qf => ?_
  show wpAny _ A (assign (.Name y py) F.env (.ref a)) _ _ _
  refine wpAny_assign_Name (T'.store hy.1 hy.2 (w := .ref a) rfl fun s₅ T₅ E₅ => ?_)
  have hn₅ : s₅.heap.Ns C m := hn.at' fun ob g => E₅ _ ob g (.inr (.inr rfl))
  refine ⟨m, hn₅, fun h' hs' => ?_⟩
  obtain ⟨T'', E''⟩ := T₅.letC ((E₂.trans E').trans (E₅.weaken fun b h => .inl h)) base hn₅ hk hpC hs'
  exact ⟨.next, _, _, rfl, T'', E'', qf a hpa⟩
end
end Mine

namespace Mine
open PySem PySem.W PyProof.Rows

theorem bindL_other (kindOf : Str → Option NameKind) : ∀ (ns : List Str) (vs : List Value) (m : Str → Option Value) {x : Str}, x ∉ ns → bindL kindOf (ns.zip vs) m x = m x
  | [], _, _, _, _ => by simp [bindL]
  | _ :: _, [], _, _, _ => by simp [bindL]
  | y :: ns, v :: vs, m, x, h => by
    rw [List.zip_cons_cons, bindL, bindL_other kindOf ns vs _ (fun q => h (.tail _ q))]
    have hxy : x ≠ y := fun q => h (q ▸ .head _)
    split <;> simp [hxy]
theorem bindL_zip (kindOf : Str → Option NameKind) : ∀ (ns : List Str) (vs : List Value) (m : Str → Option Value) {i : Nat} {x : Str} {v : Value}, ns.Nodup → ns[i]? = some x → vs[i]? = some v → kindOf x = some .local → bindL kindOf (ns.zip vs) m x = some v
  | [], _, _, i, _, _, _, h, _, _ => by simp at h
  | _ :: _, [], _, i, _, _, _, _, h, _ => by simp at h
  | y :: ns, u :: vs, m, i, x, v, nd, hx, hv, hk => by
    rw [List.zip_cons_cons, bindL]
    obtain ⟨n1, n2⟩ := List.nodup_cons.mp nd
    cases i with
    | zero =>
      simp at hx hv; subst hx hv
      rw [bindL_other kindOf ns vs _ n1, if_pos hk]; simp
    | succ i => simp at hx hv; exact bindL_zip kindOf ns vs _ n2 hx hv hk
theorem bindC_other (kindOf : Str → Option NameKind) : ∀ (ns : List Str) (vs : List Value) (m : Str → Option Value) {x : Str}, x ∉ ns → bindC kindOf (ns.zip vs) m x = m x
  | [], _, _, _, _ => by simp [bindC]
  | _ :: _, [], _, _, _ => by simp [bindC]
  | y :: ns, v :: vs, m, x, h => by
    rw [List.zip_cons_cons, bindC, bindC_other kindOf ns vs _ (fun q => h (.tail _ q))]
    have hxy : x ≠ y := fun q => h (q ▸ .head _)
    split <;> simp [hxy]
theorem bindC_zip (kindOf : Str → Option NameKind) : ∀ (ns : List Str) (vs : List Value) (m : Str → Option Value) {i : Nat} {x : Str} {v : Value}, ns.Nodup → ns[i]? = some x → vs[i]? = some v → kindOf x ≠ some .local → bindC kindOf (ns.zip vs) m x = some v
  | [], _, _, i, _, _, _, h, _, _ => by simp at h
  | _ :: _, [], _, i, _, _, _, _, h, _ => by simp at h
  | y :: ns, u :: vs, m, i, x, v, nd, hx, hv, hk => by
    rw [List.zip_cons_cons, bindC]
    obtain ⟨n1, n2⟩ := List.nodup_cons.mp nd
    cases i with
    | zero =>
      simp at hx hv; subst hx hv
      rw [bindC_other kindOf ns vs _ n1, if_neg hk]; simp
    | succ i => simp at hx hv; exact bindC_zip kindOf ns vs _ n2 hx hv hk

theorem cellsFrom_keys : ∀ (names : List (Str × NameKind)) (n m : Nat) (acc acc' : List (Str × Addr)), acc.map (·.1) = acc'.map (·.1) → (cellsFrom n names acc).map (·.1) = (cellsFrom m names acc').map (·.1)
  | [], _, _, _, _, h => h
  | (x, k) :: r, n, m, acc, acc', h => by
    unfold cellsFrom
    split
    · exact cellsFrom_keys r _ _ _ _ (by simp [h])
    · exact cellsFrom_keys r _ _ _ _ h
theorem lookup_of_mem : ∀ {l : List (Str × Addr)} {x : Str} {c : Addr}, (l.map (·.1)).Nodup → (x, c) ∈ l → l.lookup x = some c
  | (y, d) :: r, x, c, nd, h => by
    obtain ⟨n1, n2⟩ := List.nodup_cons.mp nd
    rw [List.lookup_cons]
    rcases List.mem_cons.mp h with e | h
    · cases e; simp
    · have : (x == y) = false := by
        cases q : x == y with
        | false => rfl
        | true =>
          exfalso; apply n1
          have : x = y := by simpa using q
          rw [← this]
          exact List.mem_map.mpr ⟨(x, c), h, rfl⟩
      rw [this]; exact lookup_of_mem n2 h

section
variable {D : Wd} {n : Nat}

noncomputable abbrev bodyFd (fd : FuncData) (nm : List Str) (f L : Addr) : Fd := { env := callEnvC fd L f, nm := nm, own := true }

structure FnOk (KF : Frag) (f : Addr) (fd : FuncData) (body : List Stmt) (nm : List Str) (k : Nat) : Prop where
  at_ : ∃ oc od osl, KF.lookup f = some ⟨oc, od, .func fd, osl⟩
  code : codeIn KF fd.code fd.qualname = true
  body : fd.body = .stmts body
  globals : fd.globals = mainGlobals
  builtins : fd.builtins = builtinsNs
  closure : fd.closure = []
  bind : ∀ vs : List Value, vs.length = k → bindArgs fd ⟨vs, []⟩ = pure ((nm.take k).zip vs)
  len : k ≤ nm.length
  co : fd.scope.isCoroutine = false
  gen : fd.scope.isGenerator = false
  kind : fd.scope.kind = .function
  nodup : nm.Nodup
  kinds : (nm.all fun x => fd.scope.names.lookup x == some .local || (fd.scope.names.lookup x == some .cell)) = true
  cells : ((cellsFrom 0 fd.scope.names []).map (·.1)).Nodup
  plain : (nm.all fun x => !(x == ("__debug__" : Str))) = true

theorem cellsFrom_has {x : Str} {names : List (Str × NameKind)} (h : names.lookup x = some .cell) (n : Nat) : ∃ c, (cellsFrom n names []).lookup x = some c :=
  Option.isSome_iff_exists.mp (cellsFrom_some names n [] (.inl h))

theorem FnOk.fdOk {f : Addr} {fd : FuncData} {body : List Stmt} {nm : List Str} {k : Nat} (h : FnOk D.KF f fd body nm k) (L : Addr) (ap : (cellsFrom (L + 1) fd.scope.names []).Pairwise fun x y => x.2 ≠ y.2) : FdOk (bodyFd fd nm f L) where
  kind := h.kind
  nodup := h.nodup
  kinds x hx := by
    have := List.all_eq_true.mp h.kinds x hx
    rcases Bool.or_eq_true_iff.mp this with q | q
    · have q' : fd.scope.names.lookup x = some .local := by simpa using q
      exact .inl q'
    · have q' : fd.scope.names.lookup x = some .cell := by simpa using q
      exact .inr ⟨q', cellsFrom_has q' _⟩
  apart := ap
  plain x hx := by have := List.all_eq_true.mp h.plain x hx; simpa using this
  globals := h.globals
  builtins := h.builtins

noncomputable def bodyPost (Q : V → Hp → Prop) : Fl → Loc → Hp → Prop := fun fl _ hp => match fl with | .ret u => Q u hp | .next => Q .none hp | _ => False

theorem Calls.of_body {f : Addr} {fd : FuncData} {body : List Stmt} {nm : List Str} {k : Nat} {W : WS} {us : List V} {hp : Hp} {Q : V → Hp → Prop} (h : FnOk D.KF f fd body nm k) (hb : ∀ L, EvB D (bodyFd fd nm f L) n body W)
    (hus : us.length = k) (q : W (us.map some ++ List.replicate (nm.length - k) none) hp (bodyPost Q)) : Calls D f (n + 1) us hp Q := by
  intro A K s vs a S r
  obtain ⟨oc, od, osl, hat⟩ := h.at_
  have hvs : vs.length = k := by rw [r.length, hus]
  refine codeAny_call_cells (by have := a.2.1; (and_intros <;> omega)) (S.KF _ _ hat) rfl (D.T.nolimit.keeps S.hbase) (codeRec_of S.KF h.code) h.body (h.bind vs hvs) h.closure ?_ (fun s₁ x => ?_) h.co h.gen h.kind
  · intro x hx
    have hx1 : x.1 ∈ nm := List.mem_of_mem_take (List.of_mem_zip hx).1
    rcases Bool.or_eq_true_iff.mp (List.all_eq_true.mp h.kinds _ hx1) with q | q
    · exact .inl (by simpa using q)
    · have q' : fd.scope.names.lookup x.1 = some .cell := by simpa using q
      exact .inr ⟨q', cellsFrom_some _ _ _ (.inl q')⟩
  · obtain ⟨h₁, tk, rfl⟩ := x.toInCall.same
    have keep := x.toInCall.keep
    have ap : (cellsFrom (s.heap.objs.size + 1) fd.scope.names []).Pairwise fun x y => x.2 ≠ y.2 := x.apart
    have ok := h.fdOk s.heap.objs.size ap
    have nk : ((cellsFrom (s.heap.objs.size + 1) fd.scope.names []).map (·.1)).Nodup := by
      rw [cellsFrom_keys _ _ 0 [] [] rfl]; exact h.cells
    have T : St D (bodyFd fd nm f s.heap.objs.size) K (us.map some ++ List.replicate (nm.length - k) none) hp { s with heap := h₁, toks := tk } := by
      refine ⟨S.keep keep, ⟨_, x.toInCall.ns, fun i y w hy hw => ?_⟩, S.size, S.hpSize, fun y c hc => ?_, ok⟩
      · have hy' : nm[i]? = some y := hy
        rw [lk_get] at hw
        by_cases hi : i < k
        · rw [List.getElem?_append_left (by simpa [hus] using hi)] at hw
          have hw' : us[i]? = some w := by
            cases e : us[i]? with
            | none => simp [e] at hw
            | some w' => simp [e] at hw; rw [hw]
          obtain ⟨v, hv, rv⟩ := r.get hw'
          have hyt : (nm.take k)[i]? = some y := by rw [List.getElem?_take_of_lt hi]; exact hy'
          have nd : (nm.take k).Nodup := h.nodup.sublist (List.take_sublist _ _)
          rcases ok.kinds y (List.mem_of_getElem? hy') with hk | ⟨hk, c, hc⟩
          · exact .inl ⟨hk, v, bindL_zip _ _ _ _ nd hyt hv hk, rv.mono (Ext.of_keep (K := K) keep)⟩
          · refine .inr ⟨hk, c, v, hc, ?_, rv.mono (Ext.of_keep (K := K) keep)⟩
            have := x.cell y c hc
            rwa [bindC_zip _ _ _ _ nd hyt hv (by rw [hk]; decide)] at this
        · rw [List.getElem?_append_right (by simpa [hus] using Nat.not_lt.mp hi)] at hw
          rw [List.getElem?_replicate] at hw
          split at hw <;> cases hw
      · refine ⟨⟨_, x.cell y c (lookup_of_mem nk hc)⟩, fun _ hK => ?_⟩
        have hlt : s.heap.objs.size < c := x.above y c hc
        have := S.k c hK
        cases e : s.heap.get? c with
        | none => rw [e] at this; cases this
        | some o => exact absurd (Heap.lt_size e) (Nat.not_lt.mpr (Nat.le_of_lt hlt))
    have a' : AOk (A.deeper (callEnvC fd s.heap.objs.size f)) n := by
      refine ⟨a.1, ?_, ?_⟩
      · show A.depth + 1 + n < recursionLimit
        have := a.2.1; (and_intros <;> omega)
      · show A.units + 3 + 20 * n < cLine
        have := a.2.2; (and_intros <;> omega)
    refine wpAny_mono (hb s.heap.objs.size _ K _ hp _ _ a' T q) (fun fl s' ⟨fl', l', hp', rf, T', E', q'⟩ => ?_) fun _ _ e => e.elim
    have E : Ext K s.heap s'.heap := (Ext.of_keep keep).trans E'
    cases fl' with
    | next => unfold FlRel at rf; subst rf; exact ⟨.none, .none, hp', rfl, rfl, T'.sim, E, q'⟩
    | brk => exact q'.elim
    | cont => exact q'.elim
    | ret w => obtain ⟨v, rfl, rv⟩ := rf; exact ⟨v, w, hp', rfl, rv, T'.sim, E, q'⟩
end
end Mine

namespace Mine
open PySem PySem.W PyProof.Rows

noncomputable def ixN (n : Nat) (i : Int) : Nat := if i < 0 then (i + n).toNat else i.toNat
noncomputable def dget (d : List (Int × V)) (k : Int) : Option V := (d.find? fun kv => kv.1 = k).map (·.2)
noncomputable def dput (d : List (Int × V)) (k : Int) (v : V) : List (Int × V) := if d.any (fun kv => kv.1 = k) then d.map (fun kv => if kv.1 = k then (kv.1, v) else kv) else d ++ [(k, v)]

theorem RelD.get {h : Heap} {k : Int} : ∀ {d : List (Int × V)} {kvs : List (Int × Value)}, RelD h d kvs → (dget d k = none ∧ valueAt kvs k = none) ∨ ∃ u v, dget d k = some u ∧ valueAt kvs k = some v ∧ Rel h u v
  | [], kvs, r => by unfold RelD at r; subst r; exact .inl ⟨rfl, rfl⟩
  | (k', w) :: d, kvs, r => by
    unfold RelD at r
    obtain ⟨v, q, rfl, g, l⟩ := r
    unfold dget valueAt
    rw [List.find?_cons, List.find?_cons]
    by_cases e : k' = k
    · simp only [e, decide_true]
      exact .inr ⟨w, v, rfl, rfl, g⟩
    · simp only [e, decide_false]
      exact RelD.get l
theorem RelD.any {h : Heap} {k : Int} : ∀ {d : List (Int × V)} {kvs : List (Int × Value)}, RelD h d kvs → kvs.any (fun kv => kv.1 = k) = d.any (fun kv => kv.1 = k)
  | [], kvs, r => by unfold RelD at r; subst r; rfl
  | (k', w) :: d, kvs, r => by
    unfold RelD at r
    obtain ⟨v, q, rfl, g, l⟩ := r
    rw [List.any_cons, List.any_cons, RelD.any l]
theorem RelD.map {h : Heap} {k : Int} {u : V} {x : Value} (rx : Rel h u x) : ∀ {d : List (Int × V)} {kvs : List (Int × Value)}, RelD h d kvs → RelD h (d.map (fun kv => if kv.1 = k then (kv.1, u) else kv)) (kvs.map (fun kv => if kv.1 = k then (kv.1, x) else kv))
  | [], kvs, r => by unfold RelD at r; subst r; rfl
  | (k', w) :: d, kvs, r => by
    unfold RelD at r
    obtain ⟨v, q, rfl, g, l⟩ := r
    rw [List.map_cons, List.map_cons]
    by_cases e : k' = k
    · simp only [e, if_true]; exact ⟨x, _, rfl, rx, RelD.map rx l⟩
    · simp only [e, if_false]; exact ⟨v, _, rfl, g, RelD.map rx l⟩
theorem RelD.app {h : Heap} {k : Int} {u : V} {x : Value} (rx : Rel h u x) : ∀ {d : List (Int × V)} {kvs : List (Int × Value)}, RelD h d kvs → RelD h (d ++ [(k, u)]) (kvs ++ [(k, x)])
  | [], kvs, r => by unfold RelD at r; subst r; exact ⟨x, [], rfl, rx, rfl⟩
  | (k', w) :: d, kvs, r => by
    unfold RelD at r
    obtain ⟨v, q, rfl, g, l⟩ := r
    exact ⟨v, _, rfl, g, RelD.app rx l⟩
theorem RelD.put {h : Heap} {k : Int} {u : V} {x : Value} (rx : Rel h u x) {d : List (Int × V)} {kvs : List (Int × Value)} (r : RelD h d kvs) : RelD h (dput d k u) (stored kvs k x) := by
  unfold dput stored
  rw [r.any]
  split
  · exact RelD.map rx r
  · exact RelD.app rx r
theorem RelD.length {h : Heap} : ∀ {d : List (Int × V)} {kvs : List (Int × Value)}, RelD h d kvs → kvs.length = d.length
  | [], kvs, r => by unfold RelD at r; subst r; rfl
  | (k', w) :: d, kvs, r => by
    unfold RelD at r
    obtain ⟨v, q, rfl, g, l⟩ := r
    rw [List.length_cons, List.length_cons, RelD.length l]

section
variable {D : Wd} {F : Fd} {n : Nat} {A : Around} {K : Addr → Prop} {loc : Loc} {hp hp' : Hp} {s s' : Shared}

/-! displays -/
noncomputable def wList (us : List V) (hp : Hp) (Q : V → Hp → Prop) : Prop := us.length ≤ 1000 ∧ ∀ c, hp c = none → Q (.ref c) (hp.set c (.list us))
noncomputable def wTup (us : List V) (hp : Hp) (Q : V → Hp → Prop) : Prop := us.length ≤ 1000 ∧ Q (.tup us) hp
noncomputable def W.dict0 : WE := fun _ hp Q => ∀ c, hp c = none → Q (.ref c) (hp.set c (.dict []))

theorem line_ok {n : Nat} (h : n ≤ 1000000) : n ≤ sizeLine := by rw [sizeLine_eq]; (and_intros <;> omega)

theorem EvE.list {xs : List Expr} {ws : List WE} {pos : Pos} (h : AllE D F n xs ws) : EvE D F n (.List xs pos) (W.app wList ws) := fun A K loc hp s Q o T q =>
  wpAny_List (wpAny_mono (evArgs h o T q) (fun vs s₁ ⟨us, hp₁, r, T₁, E₁, q₁⟩ => ⟨line_ok (by rw [r.length]; have := q₁.1; (and_intros <;> omega)), by
    obtain ⟨u, hp', a, b, c, d⟩ := T₁.newL (its := vs.toArray) (m := 0) (by simpa using r) q₁.2
    exact ⟨u, hp', a, b, E₁.trans c, d⟩⟩) fun _ _ e => e)
theorem EvE.tup {xs : List Expr} {ws : List WE} {k : Nat} {pos : Pos} (h : AllE D F n xs ws) : EvE D F n (.Tuple xs k pos) (W.app wTup ws) := fun A K loc hp s Q o T q =>
  wpAny_Tuple (wpAny_mono (evArgs h o T q) (fun vs s₁ ⟨us, hp₁, r, T₁, E₁, q₁⟩ => ⟨line_ok (by rw [r.length]; have := q₁.1; (and_intros <;> omega)), by
    refine ⟨.tup us, hp₁, ?_, T₁.push _ _, E₁.trans (Ext.push K _ _), q₁.2⟩
    exact ⟨_, 0, vs.toArray, rfl, Heap.get?_push_size _ rfl, by simpa using r.mono (Ext.push K _ _)⟩⟩) fun _ _ e => e)
theorem St.notMod (T : St D F K loc hp s) : (s.heap.objs.size == sysModules) = false := by
  have h : sysModules < s.heap.objs.size := modules_low (D.T.nolimit.keeps T.sim.hbase)
  cases e : s.heap.objs.size == sysModules with
  | false => rfl
  | true => rw [beq_iff_eq] at e; rw [e] at h; exact absurd h (Nat.lt_irrefl _)
theorem EvE.dict0 {pos : Pos} : EvE D F n (.Dict [] [] pos) W.dict0 := fun A K loc hp s Q o T q => by
  refine wpAny_Dict_empty ?_
  have g : (s.heap.push { cls := .type "dict", data := .dict #[] }).get? s.heap.objs.size = some { cls := .type "dict", data := .dict #[] } := Heap.get?_push_size _ rfl
  refine ⟨.ref s.heap.objs.size, _, rfl, (T.push { cls := .type "dict", data := .dict #[] } s.toks).new (o := .dict []) T.sim.size T.free.l ⟨[], ⟨_, #[], 0, g, ⟨rfl, rfl, rfl⟩, rfl, ?_, .nil, List.nodup_nil⟩, rfl, T.notMod⟩, Ext.push K _ _, q _ T.sim.hpSize⟩
  intro e he; simp at he

/-! subscripts -/
noncomputable def wIx (u i : V) (hp : Hp) (Q : V → Hp → Prop) : Prop := match u, i with
  | .ref a, .int k => match hp a with
    | some (.list us) => (us.length ≤ 100000 ∧ -(us.length : Int) ≤ k) ∧ ∃ w, us[ixN us.length k]? = some w ∧ Q w hp
    | some (.dict d) => ∃ w, dget d k = some w ∧ Q w hp
    | _ => False
  | .tup us, .int k => (us.length ≤ 100000 ∧ -(us.length : Int) ≤ k) ∧ ∃ w, us[ixN us.length k]? = some w ∧ Q w hp
  | _, _ => False

theorem subTail {value slice : Expr} {o i : Value} {T id : String} {Q : Value → Shared → Prop} (hT : s.TypeIs o T)
    (hl : typeLookup (.type T) "__getitem__" = pure (some (.builtin id))) (h : wpAny (model D.prog D.w) A (getItem o i) Q noE s)
    (hs : subscripted slice false o i = operate [o, i] (getItem o i)) :
    wpAny (model D.prog D.w) A (subscriptTail value slice o i) Q noE s := by
  unfold subscriptTail
  refine wpAny_bind ?_
  rw [getitemInPython_of_ne hT.not_modules]
  refine wpAny_bind (wpAny_specialOf hT hl ?_)
  have fin : wpAny (model D.prog D.w) A (subscripted slice false o i) (fun r s₃ => wpAny (model D.prog D.w) A (letTemporaryGo value o r >>= fun _ => pure r) Q noE s₃) noE s := by
    rw [hs]
    exact wpAny_operating (wpAny_mono h (fun r s₃ h₃ => wpAny_bind (wpAny_letTemporaryGo (wpAny_pure h₃))) fun _ _ x => x)
  first
    | exact wpAny_pure (wpAny_bind fin)
    | exact wpAny_bind (wpAny_pure (wpAny_bind fin))
    | exact wpAny_bind fin

theorem ix_of {us : List V} {k : Int} {w : V} (h : us.length ≤ 100000 ∧ -(us.length : Int) ≤ k) (e : us[ixN us.length k]? = some w) : -(2 ^ 63) ≤ k ∧ k < 2 ^ 63 ∧ seqIndex? k us.length = some (ixN us.length k) := by
  have hlt := (List.getElem?_eq_some_iff.mp e).1
  unfold ixN at hlt ⊢
  by_cases h0 : k < 0
  · rw [if_pos h0] at hlt ⊢
    exact ⟨by (and_intros <;> omega), by (and_intros <;> omega), seqIndex_neg h0 h.2⟩
  · rw [if_neg h0] at hlt ⊢
    refine ⟨by (and_intros <;> omega), by (and_intros <;> omega), ?_⟩
    unfold seqIndex?
    simp only [h0, if_false]
    rw [if_pos (by simp only [Bool.and_eq_true, decide_eq_true_eq]; (and_intros <;> omega))]

theorem EvE.ix {o i : Expr} {pos : Pos} {a b : WE} (ha : EvE D F n o a) (hb : EvE D F n i b) (hs : ∀ x y, subscripted i false x y = operate [x, y] (getItem x y) := by intro _ _; with_unfolding_all rfl) :
    EvE D F n (.Subscript o i pos) (W.bin wIx a b) := fun A K loc hp s Q ao T q => by
  refine Subscript_ (ha.two (t := fun x y => subscriptTail o i x y) hb ?_ ao T q)
  intro A K loc hp s v w x y Q ao T rx ry q
  unfold wIx at q
  split at q
  · unfold Rel at rx; subst rx
    obtain ⟨t, rfl⟩ := ry
    rename_i a k
    split at q
    · rename_i us e
      obtain ⟨h, w, e1, q⟩ := q
      obtain ⟨its, m, g, l⟩ := (T.sim.obj _ _ e).2
      have hl : s.heap.IsList a its := ⟨_, g, rfl, m, rfl⟩
      obtain ⟨v, hv, rv⟩ := l.get e1
      obtain ⟨h1, h2, h3⟩ := ix_of h e1
      have hlen : its.size = us.length := by have := l.length; simpa using this
      have hv' : its[ixN us.length k]? = some v := by simpa using hv
      refine subTail hl.typeIs slot_list_getitem.lookup ?_ (hs _ _)
      have fin : PE D F K loc s.heap Q v s := ⟨w, hp, rv, T, Ext.refl _ _, q⟩
      by_cases h0 : k < 0
      · refine wpAny_getItem_list_neg hl h0 (by rw [hlen]; exact h.2) h1 ?_ fin
        unfold ixN at hv'; rw [if_pos h0] at hv'; rw [hlen]; exact hv'
      · refine wpAny_getItem_list hl (by (and_intros <;> omega)) h2 ?_ fin
        unfold ixN at hv'; rw [if_neg h0] at hv'; exact hv'
    · rename_i d e
      obtain ⟨w, e1, q⟩ := q
      obtain ⟨kvs, hd, l, _⟩ := (T.sim.obj _ _ e).2
      rcases l.get (k := k) with ⟨z, _⟩ | ⟨u, v, z1, z2, z3⟩
      · rw [e1] at z; cases z
      · rw [e1] at z1; cases z1
        refine subTail hd.typeIs slot_dict_getitem.lookup (wpAny_getItem_of (knd := intKind _ _) (k := k) (intKind_is _ _ _ _) hd.mapOf z2 ?_) (hs _ _)
        exact ⟨w, hp, z3, T.toks _, Ext.refl _ _, q⟩
    · exact q.elim
  · rename_i us k
    obtain ⟨a, m, its, rfl, g, l⟩ := rel_tup rx
    obtain ⟨t, rfl⟩ := ry
    obtain ⟨h, w, e1, q⟩ := q
    obtain ⟨v, hv, rv⟩ := l.get e1
    obtain ⟨h1, h2, h3⟩ := ix_of h e1
    have hlen : its.size = us.length := by have := l.length; simpa using this
    have hv' : its[ixN us.length k]? = some v := by simpa using hv
    have ht : IsTup s.heap a its := ⟨_, g, rfl, m, rfl⟩
    exact subTail ht.typeIs slot_tuple_getitem.lookup (getItem_tuple ht h1 h2 (by rw [hlen]; exact h3) hv' ⟨w, hp, rv, T, Ext.refl _ _, q⟩) (hs _ _)
  · exact q.elim
end
end Mine

namespace Mine
open PySem PySem.W PyProof.Rows

/-- a list of plain intsOf -/
noncomputable def intsOf : List V → Option (List Int)
  | [] => some []
  | .int i :: r => (intsOf r).map (i :: ·)
  | _ :: _ => none
theorem ints_some : ∀ {us : List V} {ns : List Int}, intsOf us = some ns → us = ns.map .int
  | [], ns, h => by simp [intsOf] at h; subst h; rfl
  | .int i :: r, ns, h => by
    simp only [intsOf, Option.map_eq_some_iff] at h
    obtain ⟨m, h1, rfl⟩ := h
    rw [ints_some h1]; rfl
  | .none :: _, _, h => by simp [intsOf] at h
  | .bool _ :: _, _, h => by simp [intsOf] at h
  | .str _ :: _, _, h => by simp [intsOf] at h
  | .ref _ :: _, _, h => by simp [intsOf] at h
  | .tup _ :: _, _, h => by simp [intsOf] at h
theorem RelL.ints {h : Heap} : ∀ {ns : List Int} {vs : List Value}, RelL h (ns.map V.int) vs → IntsAre vs ns
  | [], vs, r => by unfold RelL at r; subst r; exact .nil
  | n :: ns, vs, r => by
    rw [List.map_cons] at r
    unfold RelL at r
    obtain ⟨v, q, rfl, ⟨t, rfl⟩, l⟩ := r
    exact .cons n t (RelL.ints l)
theorem IntsAre.relL {h : Heap} : ∀ {vs : List Value} {ns : List Int}, IntsAre vs ns → RelL h (ns.map V.int) vs
  | _, _, .nil => rfl
  | _, _, .cons n t r => ⟨.int n t, _, rfl, ⟨t, rfl⟩, IntsAre.relL r⟩
theorem intItems_of : ∀ {vs : List Value} {ns : List Int}, IntsAre vs ns → ∃ xs : List (Int × Tok), vs = xs.map (fun p => Value.int p.1 p.2) ∧ xs.map (·.1) = ns
  | _, _, .nil => ⟨[], rfl, rfl⟩
  | _, _, .cons n t r => by
    obtain ⟨xs, a, b⟩ := intItems_of r
    exact ⟨(n, t) :: xs, by rw [a]; rfl, by rw [← b]; rfl⟩
theorem intItems_of' {its : Array Value} {ns : List Int} (h : IntsAre its.toList ns) : ∃ xs : Array (Int × Tok), its = intItems xs ∧ xs.toList.map (·.1) = ns := by
  obtain ⟨xs, a, b⟩ := intItems_of h
  refine ⟨xs.toArray, ?_, by simpa using b⟩
  apply Array.toList_inj.mp
  rw [a]; simp [intItems]
theorem numAt_toList {xs : Array (Int × Tok)} {ns : List Int} (h : xs.toList.map (·.1) = ns) (i : Nat) : numAt xs i = ns.getD i 0 := by
  subst h
  unfold numAt
  simp
theorem preSum_eq : ∀ (ns : List Int) (val : Nat → Int), (∀ i, i < ns.length → val i = ns.getD i 0) → ∀ j, j ≤ ns.length → preSum val j = (ns.take j).sum
  | ns, val, h, 0, _ => by simp [preSum]
  | ns, val, h, j + 1, hj => by
    rw [preSum, preSum_eq ns val h j (by (and_intros <;> omega)), h j (by (and_intros <;> omega)), List.take_add_one]
    simp [List.getD]
    have : ns[j]? = some ns[j] := List.getElem?_eq_getElem (by (and_intros <;> omega))
    rw [this]; simp

section
variable {D : Wd} {F : Fd} {n : Nat} {A : Around} {K : Addr → Prop} {loc : Loc} {hp hp' : Hp} {s s' : Shared}

theorem Sim.list (S : Sim D K hp s) {a : Addr} {us : List V} (e : hp a = some (.list us)) : ∃ its m, s.heap.get? a = some { cls := .type "list", data := .seq its m } ∧ RelL s.heap us its.toList ∧ s.heap.IsList a its ∧ its.size = us.length := by
  obtain ⟨its, m, g, l⟩ := (S.obj _ _ e).2
  exact ⟨its, m, g, l, ⟨_, g, rfl, m, rfl⟩, by have := l.length; simpa using this⟩

theorem okAdd : OpOk D F n (binaryOp .Add) wAdd := fun A K loc hp s v w x y Q o T rx ry q => by
  unfold wAdd at q
  split at q
  · obtain ⟨t, rfl⟩ := rx; obtain ⟨u, rfl⟩ := ry
    exact add_int (T.int q)
  · unfold Rel at rx ry; subst rx ry
    split at q
    · rename_i xs ys e1 e2
      obtain ⟨i1, m1, g1, l1, -, z1⟩ := T.sim.list e1
      obtain ⟨i2, m2, g2, l2, -, z2⟩ := T.sim.list e2
      refine PySem.P.add_list (items := i1) (items2 := i2) g1 g2 (T.newL (m := 0) ?_ q.2) (line_ok (by (and_intros <;> omega)))
      rw [Array.toList_append]; exact l1.append l2
    · exact q.elim
  · exact q.elim

/-- [x] * k -/
noncomputable def wRep (x y : V) (hp : Hp) (Q : V → Hp → Prop) : Prop := match x, y with
  | .ref a, .int b => match hp a with
    | some (.list xs) => (xs.length = 1 ∧ 0 ≤ b ∧ b ≤ 1000) ∧ ∀ c, hp c = none → Q (.ref c) (hp.set c (.list (List.flatten (List.replicate b.toNat xs))))
    | _ => False
  | _, _ => False
noncomputable def wMulR (x y : V) (hp : Hp) (Q : V → Hp → Prop) : Prop := match x, y with
  | .int a, .int b => (-(2 ^ 64) < b ∧ b < 2 ^ 64) ∧ Q (.int (a * b)) hp
  | _, _ => False
theorem okMulR : OpOk D F n (binaryOp .Mult) wMulR := fun A K loc hp s v w x y Q o T rx ry q => by
  cases x <;> cases y <;> first | exact q.elim | skip
  obtain ⟨t, rfl⟩ := rx; obtain ⟨u, rfl⟩ := ry
  exact mul_int (T.int q.2) (IntMulOk.of_right (intBits_le_64 q.1.1 q.1.2))
theorem RelL.flat {h : Heap} {ws : List V} {vs : List Value} (r : RelL h ws vs) : ∀ k : Nat, RelL h (List.flatten (List.replicate k ws)) (List.flatten (List.replicate k vs))
  | 0 => by simp; exact .nil
  | k + 1 => by simp only [List.replicate_succ, List.flatten_cons]; exact r.append (RelL.flat r k)
theorem fold_flat (k : Nat) (a : Array Value) : ∀ acc : Array Value, (List.foldl (fun x1 x2 => x1 ++ x2) acc (List.replicate k a)).toList = acc.toList ++ List.flatten (List.replicate k a.toList) := by
  induction k with
  | zero => intro acc; simp
  | succ k ih => intro acc; rw [List.replicate_succ, List.foldl_cons, ih, List.replicate_succ, List.flatten_cons, Array.toList_append, List.append_assoc]
theorem okRep : OpOk D F n (binaryOp .Mult) wRep := fun A K loc hp s v w x y Q o T rx ry q => by
  unfold wRep at q
  split at q
  · unfold Rel at rx; subst rx
    obtain ⟨u, rfl⟩ := ry
    split at q
    · rename_i a b _ xs e1
      obtain ⟨i1, m1, g1, l1, hl, z1⟩ := T.sim.list e1
      obtain ⟨⟨q1, q2, q3⟩, q4⟩ := q
      refine wpAny_binaryOp_repeat_ref (T := "list") (U := "int") (by decide) ⟨_, g1, rfl⟩ (fun s' => typeIs_int s' b u) noFill_list_mul PySem.F.fills_int_mul PySem.F.slot_int_rmul repeat_list PySem.F.slot_int_index.lookup
        (call_meets PySem.F.slot_int_rmul (typeIs_int s b u) PySem.F.entry_int_rmul (PySem.F.args_int_rmul_2 _ _) (int___rmul___int_list b u a i1 m1)
          ⟨g1, rfl, ⟨_, g1, rfl⟩, call_meets PySem.F.slot_list_mul ⟨_, g1, rfl⟩ PySem.F.entry_list_mul (PySem.F.args_list_mul_2 _ _)
            (AutoListH.list___mul___list_int_3 a i1 m1 b u (by simp [Builtin.List.listFitsIndex]; (and_intros <;> omega)) (by rw [show i1.size = 1 by (and_intros <;> omega)]; (and_intros <;> omega)) (by rw [show i1.size = 1 by (and_intros <;> omega)]; simp [Builtin.List.listTooLong, sizeLine]; (and_intros <;> omega)))
            ⟨g1, ?_⟩⟩)
      refine T.newL (m := 0) ?_ q4
      have : i1.isEmpty = false := by
        cases h : i1.isEmpty with
        | false => rfl
        | true => simp at h; rw [h] at z1; simp at z1; (and_intros <;> omega)
      rw [this, fold_flat]
      simpa using l1.flat b.toNat
    · exact q.elim
  · exact q.elim

/-! setItem -/
noncomputable def wSetItem (u i v : V) (hp : Hp) (Q : Hp → Prop) : Prop := match u, i with
  | .ref a, .int k => match hp a with
    | some (.list us) => (0 ≤ k ∧ k < us.length ∧ us.length ≤ 100000) ∧ Q (hp.set a (.list (us.set k.toNat v)))
    | some (.dict d) => d.length ≤ 100000 ∧ Q (hp.set a (.dict (dput d k v)))
    | _ => False
  | _, _ => False

theorem Obj.mapSeq_set_plain (its : Array Value) (n : Nat) (i : Nat) (x : Value) : ∃ n', Obj.mapSeq (·.setIfInBounds i x) { cls := .type "list", data := .seq its n } = { cls := .type "list", data := .seq (its.setIfInBounds i x) n' } := by
  simp [Obj.mapSeq]

theorem setItem_list_exact {l : Addr} {items : Array Value} {n : Nat} {k : Int} {t : Tok} {v : Value} {Q : Unit → Shared → Prop} (ho : s.heap.get? l = some { cls := .type "list", data := .seq items n })
    (h0 : 0 ≤ k) (hfit : k < 2 ^ 63) (hn : k < items.size)
    (hQ : ∀ h' n', h'.get? l = some { cls := .type "list", data := .seq (items.setIfInBounds k.toNat v) n' } → Heap.SameBut l s.heap h' → Q () { s with heap := h' }) :
    wpAny (model D.prog D.w) A (setItem (.ref l) (.int k t) v) Q noE s := by
  have hl : s.heap.IsList l items := ⟨_, ho, rfl, n, rfl⟩
  unfold setItem
  try with_reducible refine wpAny_holding ?_
  first | refine wpAny_bind (wpAny_pure ?_) | skip
  refine wpAny_bind (wpAny_sequenceKey hl.typeIs (by decide) ?_)
  refine wpAny_bind (wpAny_callSpecial?_slot (name := Str.ofString "__setitem__") hl.typeIs slot_list_setitem
    (wpAny_call_entry slot_list_setitem hl.typeIs entry_list_setitem ?_ (args_list_setitem _ _ _)))
  show wpAny _ _ (Builtin.List.listSubscript? (.int k t) >>= _) _ _ s
  refine wpAny_bind (wpAny_listSubscript_int (fitsIndex_of h0 hfit) ?_)
  clear hfit
  obtain ⟨j, rfl⟩ := Int.eq_ofNat_of_zero_le h0
  have hj : j < items.size := by (and_intros <;> omega)
  have hx' : items[j]? = some items[j] := Array.getElem?_eq_getElem hj
  show wpAny _ _ ((seqItemAt l j >>= fun r => pure (r.map (j, ·))) >>= _) _ _ s
  refine wpAny_bind (wpAny_bind (wpAny_seqItemAt ho rfl (wpAny_pure ?_)))
  rw [hx']
  show wpAny _ _ (setSeqItemAt l j v >>= _) _ _ s
  obtain ⟨n', e⟩ := Obj.mapSeq_set_plain items n j v
  have hfin : (s.heap.update l (Obj.mapSeq (·.setIfInBounds j v))).get? l = some { cls := .type "list", data := .seq (items.setIfInBounds j v) n' } := by
    have := Heap.get?_update_self (Obj.mapSeq (·.setIfInBounds j v)) ho (by rw [e]; rfl)
    rw [this, e]
  refine wpAny_bind (wpAny_setSeqItemAt ho rfl ?_)
  first
    | exact wpAny_bind (wpAny_pure (wpAny_pure ⟨.none, rfl, wpAny_pure (hQ _ _ hfin (Heap.SameBut.update ..))⟩))
    | exact wpAny_pure ⟨.none, rfl, wpAny_pure (hQ _ _ hfin (Heap.SameBut.update ..))⟩

theorem okSetItem : SetItemOk D F n wSetItem := fun A K loc hp s o i v ou iu vu Q ao T ro ri rv q => by
  unfold wSetItem at q
  split at q
  · unfold Rel at ro; subst ro
    obtain ⟨t, rfl⟩ := ri
    split at q
    · rename_i a k _ us e
      obtain ⟨its, m, g, l, hl, z⟩ := T.sim.list e
      obtain ⟨⟨q1, q2, q3⟩, q⟩ := q
      refine setItem_list_exact g q1 (by (and_intros <;> omega)) (by rw [z]; exact q2) fun h' n' g' hs => ?_
      have E : Ext K s.heap h' := Ext.same hs g (fun q => by simpa using q.cls) (T.sim.obj _ _ e).1
      obtain ⟨T', E'⟩ := T.upd (t := s.toks) hs e (o' := .list (us.set k.toNat vu)) ⟨_, n', g', by rw [Array.toList_setIfInBounds]; exact (l.mono E).set _ (rv.mono E)⟩
      exact ⟨_, T', E', q⟩
    · rename_i a k _ d e
      obtain ⟨kvs, hd, l, ne⟩ := (T.sim.obj _ _ e).2
      obtain ⟨ob, g, nt⟩ := ObjIs.there D (T.sim.obj _ _ e).2
      refine wpAny_setItem_pairs (knd := intKind _ _) (k := k) (intKind_is _ _ _ _) hd (fun h' hd' hs => ?_) (line_ok (by rw [l.length]; (and_intros <;> omega)))
      have E : Ext K s.heap h' := Ext.same hs g nt (T.sim.obj _ _ e).1
      obtain ⟨T', E'⟩ := T.upd (t := s.toks + 1) hs e (o' := .dict (dput d k vu)) ⟨_, hd', (RelD.mono E l).put (rv.mono E), ne⟩
      exact ⟨_, T', E', q.2⟩
    · exact q.elim
  · exact q.elim

/-! builtin functions -/
noncomputable def wLen (us : List V) (hp : Hp) (Q : V → Hp → Prop) : Prop := match us with
  | [.ref a] => match hp a with
    | some (.list xs) => xs.length ≤ 100000 ∧ Q (.int xs.length) hp
    | _ => False
  | _ => False
theorem okLen : OpsOk D F n (fun vs => call (.builtin "len") vs) wLen := fun A K loc hp s vs us Q o T r q => by
  unfold wLen at q
  split at q
  · obtain ⟨v, r', rfl, ra, hr⟩ := r
    unfold RelL at hr; subst hr
    unfold Rel at ra; subst ra
    split at q
    · rename_i a xs e
      obtain ⟨its, m, g, l, hl, z⟩ := T.sim.list e
      refine PySem.Calls.call_len_list hl (by (and_intros <;> omega)) ?_
      rw [z]; exact T.int q.2
    · exact q.elim
  · exact q.elim

noncomputable def wSum (us : List V) (hp : Hp) (Q : V → Hp → Prop) : Prop := match us with
  | [.ref a] => match hp a with
    | some (.list xs) => ∃ ns, intsOf xs = some ns ∧ Q (.int ns.sum) hp
    | _ => False
  | _ => False
theorem okSum : OpsOk D F n (fun vs => call (.builtin "sum") vs) wSum := fun A K loc hp s vs us Q o T r q => by
  unfold wSum at q
  split at q
  · obtain ⟨v, r', rfl, ra, hr⟩ := r
    unfold RelL at hr; subst hr
    unfold Rel at ra; subst ra
    split at q
    · rename_i a xs e
      obtain ⟨ns, e1, q⟩ := q
      obtain ⟨its, m, g, l, hl, z⟩ := T.sim.list e
      rw [ints_some e1] at l
      obtain ⟨ys, e2, e3⟩ := intItems_of' l.ints
      subst e2
      have hz : ys.size = ns.length := by rw [← e3]; simp
      refine call_sum_walkG (iter_intList hl fun s₂ e st hfp hlI => ?_)
      subst e
      refine ⟨_, _, _, _, _, _, numAt ys, rfl, Walks.list (A := A.in1) o.1 _ _ hlI (intItems ys), st, hfp, (fun _ _ => intItems_at), fun h' tk t' hk => ?_⟩
      have hp : preSum (numAt ys) (intItems ys).size = ns.sum := by
        have := preSum_eq ns (numAt ys) (fun i _ => numAt_toList e3 i) ns.length (Nat.le_refl _)
        rw [show (intItems ys).size = ns.length by simp [intItems, hz], this, List.take_length]
      rw [hp]
      have kept := old_kept hk
      exact ⟨.int ns.sum, _, ⟨_, rfl⟩, T.keep kept, Ext.of_keep kept, q⟩
    · exact q.elim
  · exact q.elim

noncomputable def imax : List Int → Int
  | [] => 0
  | [a] => a
  | a :: r => if imax r > a then imax r else a
noncomputable def lmax (a : Int) : List Int → Int
  | [] => a
  | b :: r => lmax (if b > a then b else a) r
noncomputable def wMax (us : List V) (hp : Hp) (Q : V → Hp → Prop) : Prop := match us with
  | [.int a, .int b] => Q (.int (if b > a then b else a)) hp
  | [.ref a] => match hp a with
    | some (.list xs) => ∃ n ns, intsOf xs = some (n :: ns) ∧ Q (.int (lmax n ns)) hp
    | _ => False
  | _ => False
theorem lmax_snoc (a : Int) : ∀ (l : List Int) (b : Int), lmax a (l ++ [b]) = if b > lmax a l then b else lmax a l
  | [], b => rfl
  | c :: l, b => by simp only [List.cons_append, lmax]; exact lmax_snoc _ l b
theorem argBest_max (n : Int) (ns : List Int) (val : Nat → Int) (h : ∀ i, val i = (n :: ns).getD i 0) : ∀ k, k ≤ ns.length → val (argBest (fun i j => decide (val i > val j)) k) = lmax n (ns.take k)
  | 0, _ => by simp [argBest, h, lmax]
  | k + 1, hk => by
    have ih := argBest_max n ns val h k (by (and_intros <;> omega))
    have e : ns.take (k + 1) = ns.take k ++ [ns[k]] := by rw [List.take_add_one, List.getElem?_eq_getElem (by (and_intros <;> omega))]; rfl
    rw [e, lmax_snoc, ← ih]
    have hv : val (k + 1) = ns[k] := by rw [h]; simp [List.getD]; rw [List.getElem?_eq_getElem (by (and_intros <;> omega))]; rfl
    rw [show argBest (fun i j => decide (val i > val j)) (k + 1) = if decide (val (k + 1) > val (argBest (fun i j => decide (val i > val j)) k)) = true then k + 1 else argBest (fun i j => decide (val i > val j)) k from rfl]
    rw [← hv]
    by_cases c : val (k + 1) > val (argBest (fun i j => decide (val i > val j)) k)
    · rw [if_pos (by simpa using c), if_pos c]
    · rw [if_neg (by simpa using c), if_neg c]
theorem okMax : OpsOk D F n (fun vs => call (.builtin "max") vs) wMax := fun A K loc hp s vs us Q o T r q => by
  unfold wMax at q
  split at q
  · obtain ⟨v, r', rfl, ⟨t, rfl⟩, v2, r2, rfl, ⟨u, rfl⟩, hr⟩ := r
    unfold RelL at hr; subst hr
    rename_i a b
    refine max_two_ints o.1 fun h' tk kept => ?_
    refine ⟨.int (if b > a then b else a), hp, ?_, T.keep kept, Ext.of_keep kept, q⟩
    by_cases c : b > a
    · rw [if_pos c, if_pos c]; exact ⟨_, rfl⟩
    · rw [if_neg c, if_neg c]; exact ⟨_, rfl⟩
  · obtain ⟨v, r', rfl, ra, hr⟩ := r
    unfold RelL at hr; subst hr
    unfold Rel at ra; subst ra
    split at q
    · rename_i a xs e
      obtain ⟨n, ns, e1, q⟩ := q
      obtain ⟨its, m, g, l, hl, z⟩ := T.sim.list e
      rw [ints_some e1] at l
      obtain ⟨ys, e2, e3⟩ := intItems_of' l.ints
      subst e2
      have hz : ys.size = ns.length + 1 := by have := congrArg List.length e3; simpa using this
      refine max_intList o.1 hl (by (and_intros <;> omega)) fun v h' tk hv kept => ?_
      obtain ⟨t, rfl⟩ := intItems_at hv
      have := argBest_max n ns (numAt ys) (fun i => numAt_toList e3 i) ns.length (Nat.le_refl _)
      rw [List.take_length] at this
      rw [show ys.size - 1 = ns.length by (and_intros <;> omega), this]
      exact ⟨.int (lmax n ns), hp, ⟨_, rfl⟩, T.keep kept, Ext.of_keep kept, q⟩
    · exact q.elim
  · exact q.elim

noncomputable def wTuple (us : List V) (hp : Hp) (Q : V → Hp → Prop) : Prop := match us with
  | [.tup ws] => Q (.tup ws) hp
  | _ => False
theorem okTuple : OpsOk D F n (fun vs => call (.type "tuple") vs) wTuple := fun A K loc hp s vs us Q o T r q => by
  unfold wTuple at q
  split at q
  · obtain ⟨v, r', rfl, ra, hr⟩ := r
    unfold RelL at hr; subst hr
    obtain ⟨a, m, its, rfl, g, l⟩ := rel_tup ra
    have ht : IsTup s.heap a its := ⟨_, g, rfl, m, rfl⟩
    exact call_tuple_tup ht ⟨.tup _, hp, ⟨a, m, its, rfl, g, l⟩, T, Ext.refl _ _, q⟩
  · exact q.elim
end
end Mine

namespace Mine
open PySem PySem.W PyProof.Rows

/-! plain data -/
noncomputable def V.sc : V → Bool
  | .int _ => true
  | .str x => PyData.strOk x
  | _ => false
noncomputable def V.dat : V → Bool
  | .tup vs => vs.all V.sc
  | v => v.sc
noncomputable def V.pd0 : V → PyData
  | .int i => .int i
  | .str x => .str x
  | _ => .none
noncomputable def V.pd : V → PyData
  | .tup vs => .tuple (vs.map V.pd0)
  | v => v.pd0
theorem reads_sc {h : Heap} {u : V} {v : Value} (r : Rel h u v) (k : u.sc = true) : Reads h v u.pd0 [] := by
  cases u <;> first | (cases k; done) | skip
  · obtain ⟨t, rfl⟩ := r; exact .int _ _
  · obtain ⟨t, rfl⟩ := r; exact .str _ _
theorem reads_scs {h : Heap} : ∀ {us : List V} {vs : List Value}, RelL h us vs → us.all V.sc = true → ReadsAll h vs (us.map V.pd0) []
  | [], vs, r, _ => by unfold RelL at r; subst r; exact .nil
  | u :: us, vs, r, k => by
    unfold RelL at r
    obtain ⟨v, q, rfl, g, l⟩ := r
    rw [List.all_cons, Bool.and_eq_true] at k
    exact ReadsAll.cons (as := []) (bs := []) (reads_sc g k.1) (reads_scs l k.2)
theorem reads_dat {h : Heap} {u : V} {v : Value} (r : Rel h u v) (k : u.dat = true) : ∃ as, Reads h v u.pd as := by
  cases u with
  | tup ws =>
    obtain ⟨a, m, its, rfl, g, l⟩ := rel_tup r
    exact ⟨[], reads_tuple_at g rfl rfl (reads_scs l k)⟩
  | none => exact ⟨_, reads_sc r k⟩
  | bool b => exact ⟨_, reads_sc r k⟩
  | int b => exact ⟨_, reads_sc r k⟩
  | str b => exact ⟨_, reads_sc r k⟩
  | ref b => exact ⟨_, reads_sc r k⟩
theorem reads_dats {h : Heap} : ∀ {us : List V} {vs : List Value}, RelL h us vs → us.all V.dat = true → ∃ as, ReadsAll h vs (us.map V.pd) as
  | [], vs, r, _ => by unfold RelL at r; subst r; exact ⟨_, .nil⟩
  | u :: us, vs, r, k => by
    unfold RelL at r
    obtain ⟨v, q, rfl, g, l⟩ := r
    rw [List.all_cons, Bool.and_eq_true] at k
    obtain ⟨a, ra⟩ := reads_dat g k.1
    obtain ⟨b, rb⟩ := reads_dats l k.2
    exact ⟨_, .cons ra rb⟩
theorem lay_sc {u : V} (k : u.sc = true) : u.pd0.canLay0 = true ∧ u.pd0.depth = 0 := by
  cases u <;> first | (cases k; done) | skip
  · exact ⟨rfl, rfl⟩
  · exact ⟨k, rfl⟩
theorem lay_scs : ∀ {us : List V}, us.all V.sc = true → PyData.canLayAll0 (us.map V.pd0) = true ∧ PyData.depthAll (us.map V.pd0) = 0
  | [], _ => ⟨rfl, rfl⟩
  | u :: us, k => by
    rw [List.all_cons, Bool.and_eq_true] at k
    have a := lay_sc k.1
    have b := lay_scs k.2
    simp only [List.map_cons, PyData.canLayAll0, PyData.depthAll, a.1, a.2, b.1, b.2]
    exact ⟨rfl, rfl⟩
theorem lay_dat {u : V} (k : u.dat = true) : u.pd.canLay0 = true ∧ u.pd.depth ≤ 1 := by
  cases u with
  | tup ws =>
    have a := lay_scs k
    simp only [V.pd, PyData.canLay0, PyData.depth, a.1, a.2]
    exact ⟨trivial, Nat.le_refl _⟩
  | none => cases k
  | bool b => cases k
  | int b => exact ⟨rfl, Nat.zero_le _⟩
  | str b => exact ⟨k, Nat.zero_le _⟩
  | ref b => cases k
theorem lay_dats : ∀ {us : List V}, us.all V.dat = true → PyData.canLayAll0 (us.map V.pd) = true ∧ PyData.depthAll (us.map V.pd) ≤ 1
  | [], _ => ⟨rfl, Nat.zero_le _⟩
  | u :: us, k => by
    rw [List.all_cons, Bool.and_eq_true] at k
    have a := lay_dat k.1
    have b := lay_dats k.2
    simp only [List.map_cons, PyData.canLayAll0, PyData.depthAll, a.1, b.1]
    exact ⟨rfl, Nat.max_le.mpr ⟨a.2, b.2⟩⟩
theorem shaped_dats {us : List V} (k : us.all V.dat = true) : SeqAt.shaped (.list (us.map V.pd)) = true := by
  have a := lay_dats k
  unfold SeqAt.shaped
  rw [show (PyData.list (us.map V.pd)).canLay0 = true from a.1, Bool.true_and]
  refine decide_eq_true ?_
  show PyData.depth (.list (us.map V.pd)) ≤ 64
  unfold PyData.depth
  (and_intros <;> omega)

/-- the lists are alike -/
noncomputable def eqL (xs ys : List V) : Bool := PyData.eqv (.list (xs.map V.pd)) (.list (ys.map V.pd))
theorem eqL_nil (xs : List V) : eqL xs [] = xs.isEmpty := by cases xs <;> rfl
theorem eqL_self {xs : List V} (k : xs.all V.dat = true) : eqL xs xs = true := SeqAt.eqv_refl _ (lay_dats k).1
noncomputable def V.isNone : V → Bool
  | .none => true
  | _ => false
noncomputable def boolsOf : List V → Option (List Bool)
  | [] => some []
  | .bool b :: r => (boolsOf r).map (b :: ·)
  | _ :: _ => none
noncomputable def strsOf : List V → Option (List Str)
  | [] => some []
  | .str x :: r => (strsOf r).map (x :: ·)
  | _ :: _ => none

noncomputable def wEq (x y : V) (hp : Hp) (Q : V → Hp → Prop) : Prop := match x, y with
  | .int a, .int b => Q (.bool (a == b)) hp
  | .str a, .str b => Q (.bool (a == b)) hp
  | .ref a, .ref b => match hp a, hp b with
    | some (.list xs), some (.list ys) => xs.all V.dat = true ∧ ys.all V.dat = true ∧ Q (.bool (eqL xs ys)) hp
    | _, _ => False
  | _, _ => False
noncomputable def wNe (x y : V) (hp : Hp) (Q : V → Hp → Prop) : Prop := match x, y with
  | .int a, .int b => Q (.bool (a != b)) hp
  | .ref a, .ref b => match hp a, hp b with
    | some (.list xs), some (.list ys) => xs.all V.dat = true ∧ ys.all V.dat = true ∧ Q (.bool (!eqL xs ys)) hp
    | _, _ => False
  | _, _ => False
noncomputable def wLt (x y : V) (hp : Hp) (Q : V → Hp → Prop) : Prop := match x, y with
  | .int a, .int b => Q (.bool (decide (a < b))) hp
  | _, _ => False
noncomputable def wGt (x y : V) (hp : Hp) (Q : V → Hp → Prop) : Prop := match x, y with
  | .int a, .int b => Q (.bool (decide (b < a))) hp
  | _, _ => False
noncomputable def wLe (x y : V) (hp : Hp) (Q : V → Hp → Prop) : Prop := match x, y with
  | .int a, .int b => Q (.bool (decide (a ≤ b))) hp
  | _, _ => False
noncomputable def wGe (x y : V) (hp : Hp) (Q : V → Hp → Prop) : Prop := match x, y with
  | .int a, .int b => Q (.bool (decide (b ≤ a))) hp
  | _, _ => False
noncomputable def wIs (x y : V) (hp : Hp) (Q : V → Hp → Prop) : Prop := match y with
  | .none => Q (.bool x.isNone) hp
  | _ => False
noncomputable def wIsNot (x y : V) (hp : Hp) (Q : V → Hp → Prop) : Prop := match y with
  | .none => Q (.bool (!x.isNone)) hp
  | _ => False
noncomputable def wIn (x y : V) (hp : Hp) (Q : V → Hp → Prop) : Prop := match x, y with
  | .int k, .ref a => match hp a with
    | some (.dict d) => Q (.bool (dget d k).isSome) hp
    | _ => False
  | .str k, .ref a => match hp a with
    | some (.list us) => ∃ ys, strsOf us = some ys ∧ Q (.bool (ys.any (· == k))) hp
    | _ => False
  | _, _ => False
noncomputable def wNotIn (x y : V) (hp : Hp) (Q : V → Hp → Prop) : Prop := match x, y with
  | .int k, .ref a => match hp a with
    | some (.dict d) => Q (.bool (!(dget d k).isSome)) hp
    | _ => False
  | .bool k, .ref a => match hp a with
    | some (.list us) => ∃ ys, boolsOf us = some ys ∧ Q (.bool (!ys.any (· == k))) hp
    | _ => False
  | _, _ => False

theorem rel_isNone {h : Heap} {u : V} {v : Value} (r : Rel h u v) : (v == .none) = u.isNone := by
  cases u <;> unfold Rel at r
  · subst r; rfl
  · subst r; rfl
  · obtain ⟨_, rfl⟩ := r; rfl
  · obtain ⟨_, rfl⟩ := r; rfl
  · subst r; rfl
  · obtain ⟨_, _, _, rfl, _⟩ := r; rfl
noncomputable def bIs (k : Bool) : Value → Bool
  | .bool b => b == k
  | _ => false
theorem bools_rel {h : Heap} {k : Bool} : ∀ {us : List V} {ys : List Bool} {vs : List Value}, boolsOf us = some ys → RelL h us vs → (∀ v ∈ vs, ∃ b, v = .bool b) ∧ vs.any (bIs k) = ys.any (· == k)
  | [], ys, vs, e, r => by simp [boolsOf] at e; subst e; unfold RelL at r; subst r; exact ⟨by simp, rfl⟩
  | .bool b :: us, ys, vs, e, r => by
    simp only [boolsOf, Option.map_eq_some_iff] at e
    obtain ⟨m, h1, rfl⟩ := e
    obtain ⟨v, q, rfl, g, l⟩ := r
    unfold Rel at g; subst g
    obtain ⟨a, b'⟩ := bools_rel (k := k) h1 l
    refine ⟨fun v hv => ?_, by rw [List.any_cons, List.any_cons, b']; rfl⟩
    rcases List.mem_cons.mp hv with e | hv
    · exact ⟨b, e⟩
    · exact a v hv
  | .none :: _, _, _, e, _ => by simp [boolsOf] at e
  | .int _ :: _, _, _, e, _ => by simp [boolsOf] at e
  | .str _ :: _, _, _, e, _ => by simp [boolsOf] at e
  | .ref _ :: _, _, _, e, _ => by simp [boolsOf] at e
  | .tup _ :: _, _, _, e, _ => by simp [boolsOf] at e
noncomputable def sIs (k : Str) : Value → Bool
  | .str b _ => b == k
  | _ => false
theorem strs_rel {h : Heap} {k : Str} : ∀ {us : List V} {ys : List Str} {vs : List Value}, strsOf us = some ys → RelL h us vs → (∀ v ∈ vs, ∃ b t, v = .str b t) ∧ vs.any (sIs k) = ys.any (· == k)
  | [], ys, vs, e, r => by simp [strsOf] at e; subst e; unfold RelL at r; subst r; exact ⟨by simp, rfl⟩
  | .str b :: us, ys, vs, e, r => by
    simp only [strsOf, Option.map_eq_some_iff] at e
    obtain ⟨m, h1, rfl⟩ := e
    obtain ⟨v, q, rfl, ⟨t, rfl⟩, l⟩ := r
    obtain ⟨a, b'⟩ := strs_rel (k := k) h1 l
    refine ⟨fun v hv => ?_, by rw [List.any_cons, List.any_cons, b']; rfl⟩
    rcases List.mem_cons.mp hv with e | hv
    · exact ⟨b, t, e⟩
    · exact a v hv
  | .none :: _, _, _, e, _ => by simp [strsOf] at e
  | .int _ :: _, _, _, e, _ => by simp [strsOf] at e
  | .bool _ :: _, _, _, e, _ => by simp [strsOf] at e
  | .ref _ :: _, _, _, e, _ => by simp [strsOf] at e
  | .tup _ :: _, _, _, e, _ => by simp [strsOf] at e

section
variable {D : Wd} {F : Fd} {n : Nat} {A : Around} {K : Addr → Prop} {loc : Loc} {hp hp' : Hp} {s s' : Shared}

theorem AOk.u64 (a : AOk A (n + 4)) : A.units + 64 < cLine := by have := a.2.2; (and_intros <;> omega)

theorem okEq : OpOk D F (n + 4) (compareOp .Eq) wEq := fun A K loc hp s v w x y Q o T rx ry q => by
  unfold wEq at q
  split at q
  · obtain ⟨t, rfl⟩ := rx; obtain ⟨u, rfl⟩ := ry
    exact PyProof.Rows.eq_int (T.boolv q)
  · obtain ⟨t, rfl⟩ := rx; obtain ⟨u, rfl⟩ := ry
    exact PyProof.Rows.eq_str (T.boolv q)
  · unfold Rel at rx ry; subst rx ry
    split at q
    · rename_i xs ys e1 e2
      obtain ⟨i1, m1, g1, l1, -, z1⟩ := T.sim.list e1
      obtain ⟨i2, m2, g2, l2, -, z2⟩ := T.sim.list e2
      obtain ⟨as, ra⟩ := reads_dats l1 q.1
      obtain ⟨bs, rb⟩ := reads_dats l2 q.2.1
      exact eq_dataH (reads_list_at g1 rfl rfl ra) (reads_list_at g2 rfl rfl rb) (shaped_dats q.1) (shaped_dats q.2.1) o.u64 (T.boolv q.2.2)
    · exact q.elim
  · exact q.elim
theorem okNe : OpOk D F (n + 4) (compareOp .NotEq) wNe := fun A K loc hp s v w x y Q o T rx ry q => by
  unfold wNe at q
  split at q
  · obtain ⟨t, rfl⟩ := rx; obtain ⟨u, rfl⟩ := ry
    exact PyProof.Rows.ne_int (T.boolv q)
  · unfold Rel at rx ry; subst rx ry
    split at q
    · rename_i xs ys e1 e2
      obtain ⟨i1, m1, g1, l1, -, z1⟩ := T.sim.list e1
      obtain ⟨i2, m2, g2, l2, -, z2⟩ := T.sim.list e2
      obtain ⟨as, ra⟩ := reads_dats l1 q.1
      obtain ⟨bs, rb⟩ := reads_dats l2 q.2.1
      exact ne_dataH (reads_list_at g1 rfl rfl ra) (reads_list_at g2 rfl rfl rb) (shaped_dats q.1) (shaped_dats q.2.1) o.u64 (T.boolv q.2.2)
    · exact q.elim
  · exact q.elim
theorem okLt : OpOk D F n (compareOp .Lt) wLt := fun A K loc hp s v w x y Q o T rx ry q => by
  cases x <;> cases y <;> first | exact q.elim | skip
  obtain ⟨t, rfl⟩ := rx; obtain ⟨u, rfl⟩ := ry
  exact PyProof.Rows.lt_int (T.boolv q)
theorem okGt : OpOk D F n (compareOp .Gt) wGt := fun A K loc hp s v w x y Q o T rx ry q => by
  cases x <;> cases y <;> first | exact q.elim | skip
  obtain ⟨t, rfl⟩ := rx; obtain ⟨u, rfl⟩ := ry
  exact PyProof.Rows.gt_int (T.boolv q)
theorem okLe : OpOk D F n (compareOp .LtE) wLe := fun A K loc hp s v w x y Q o T rx ry q => by
  cases x <;> cases y <;> first | exact q.elim | skip
  obtain ⟨t, rfl⟩ := rx; obtain ⟨u, rfl⟩ := ry
  exact PyProof.Rows.le_int (T.boolv q)
theorem okGe : OpOk D F n (compareOp .GtE) wGe := fun A K loc hp s v w x y Q o T rx ry q => by
  cases x <;> cases y <;> first | exact q.elim | skip
  obtain ⟨t, rfl⟩ := rx; obtain ⟨u, rfl⟩ := ry
  exact PyProof.Rows.ge_int (T.boolv q)
theorem okIs : OpOk D F n (compareOp .Is) wIs := fun A K loc hp s v w x y Q o T rx ry q => by
  cases y <;> first | exact q.elim | skip
  unfold Rel at ry; subst ry
  exact PySem.is_none (by rw [rel_isNone rx]; exact T.boolv q)
theorem okIsNot : OpOk D F n (compareOp .IsNot) wIsNot := fun A K loc hp s v w x y Q o T rx ry q => by
  cases y <;> first | exact q.elim | skip
  unfold Rel at ry; subst ry
  exact PySem.isNot_none (by rw [rel_isNone rx]; exact T.boolv q)
theorem okIn : OpOk D F n (compareOp .In) wIn := fun A K loc hp s v w x y Q o T rx ry q => by
  unfold wIn at q
  split at q
  · obtain ⟨t, rfl⟩ := rx
    unfold Rel at ry; subst ry
    split at q
    · rename_i k a _ d e
      obtain ⟨kvs, hd, l, ne⟩ := (T.sim.obj _ _ e).2
      refine wpAny_in_of (knd := intKind _ _) (k := k) (intKind_is _ _ _ _) ne hd.mapOf ?_
      have : (valueAt kvs k).isSome = (dget d k).isSome := by
        rcases l.get (k := k) with ⟨z1, z2⟩ | ⟨u, v, z1, z2, _⟩ <;> rw [z1, z2] <;> rfl
      rw [this]
      exact ⟨.bool _, hp, rfl, T.toks _, Ext.refl _ _, q⟩
    · exact q.elim
  · obtain ⟨t, rfl⟩ := rx
    unfold Rel at ry; subst ry
    split at q
    · rename_i k a _ us e
      obtain ⟨ys, e1, q⟩ := q
      obtain ⟨i1, m1, g1, l1, hl, z1⟩ := T.sim.list e
      obtain ⟨f1, f2⟩ := strs_rel (k := k) e1 l1
      refine SeqAt.in_listAt (sIs k) hl (fun y hy => ?_) ?_
      · obtain ⟨b, t', rfl⟩ := f1 y (by simpa using hy)
        exact SeqAt.EqAt.str_str b t' k t
      · rw [← Array.any_toList, f2]; exact T.boolv q
    · exact q.elim
  · exact q.elim
theorem okNotIn : OpOk D F n (compareOp .NotIn) wNotIn := fun A K loc hp s v w x y Q o T rx ry q => by
  unfold wNotIn at q
  split at q
  · obtain ⟨t, rfl⟩ := rx
    unfold Rel at ry; subst ry
    split at q
    · rename_i k a _ d e
      obtain ⟨kvs, hd, l, ne⟩ := (T.sim.obj _ _ e).2
      refine wpAny_notIn_of (knd := intKind _ _) (k := k) (intKind_is _ _ _ _) ne hd.mapOf ?_
      have : (valueAt kvs k).isSome = (dget d k).isSome := by
        rcases l.get (k := k) with ⟨z1, z2⟩ | ⟨u, v, z1, z2, _⟩ <;> rw [z1, z2] <;> rfl
      rw [this]
      exact ⟨.bool _, hp, rfl, T.toks _, Ext.refl _ _, q⟩
    · exact q.elim
  · unfold Rel at rx ry; subst rx ry
    split at q
    · rename_i k a _ us e
      obtain ⟨ys, e1, q⟩ := q
      obtain ⟨i1, m1, g1, l1, hl, z1⟩ := T.sim.list e
      obtain ⟨f1, f2⟩ := bools_rel (k := k) e1 l1
      refine SeqAt.notIn_listAt (bIs k) hl (fun y hy => ?_) ?_
      · obtain ⟨b, rfl⟩ := f1 y (by simpa using hy)
        exact SeqAt.EqAt.bool_bool b k
      · rw [← Array.any_toList, f2]; exact T.boolv q
    · exact q.elim
  · exact q.elim

/-! and, or as values -/
noncomputable def W.and2 (a b : WE) : WE := fun loc hp Q => a loc hp fun u hp₁ => ∃ c, u = .bool c ∧ (c = true → b loc hp₁ Q) ∧ (c = false → Q (.bool false) hp₁)
noncomputable def W.or2 (a b : WE) : WE := fun loc hp Q => a loc hp fun u hp₁ => ∃ c, u = .bool c ∧ (c = true → Q (.bool true) hp₁) ∧ (c = false → b loc hp₁ Q)
theorem EvE.and2 {x y : Expr} {pos : Pos} {a b : WE} (ha : EvE D F n x a) (hb : EvE D F n y b) : EvE D F n (.BoolOp .And [x, y] pos) (W.and2 a b) := fun A K loc hp s Q o T q =>
  wpAny_And2 (ha.then o T q fun v s₁ u hp₁ r₁ T₁ E₁ q₁ => by
    obtain ⟨c, rfl, qt, qf⟩ := q₁
    unfold Rel at r₁; subst r₁
    refine wpAny_truthy_bool ?_
    cases c with
    | true => simp only [if_true]; exact wpAny_mono (hb A K loc hp₁ s₁ Q o T₁ (qt rfl)) (fun _ _ p => p.back E₁) fun _ _ e => e
    | false => simp only [Bool.false_eq_true, if_false]; exact ⟨.bool false, hp₁, rfl, T₁, E₁, qf rfl⟩)
theorem EvE.or2 {x y : Expr} {pos : Pos} {a b : WE} (ha : EvE D F n x a) (hb : EvE D F n y b) : EvE D F n (.BoolOp .Or [x, y] pos) (W.or2 a b) := fun A K loc hp s Q o T q =>
  wpAny_Or2 (ha.then o T q fun v s₁ u hp₁ r₁ T₁ E₁ q₁ => by
    obtain ⟨c, rfl, qt, qf⟩ := q₁
    unfold Rel at r₁; subst r₁
    refine wpAny_truthy_bool ?_
    cases c with
    | true => simp only [if_true]; exact ⟨.bool true, hp₁, rfl, T₁, E₁, qt rfl⟩
    | false => simp only [Bool.false_eq_true, if_false]; exact wpAny_mono (hb A K loc hp₁ s₁ Q o T₁ (qf rfl)) (fun _ _ p => p.back E₁) fun _ _ e => e)

/-! methods of lists and dicts -/
noncomputable def isL (hp : Hp) : V → Prop
  | .ref a => match hp a with | some (.list _) => True | _ => False
  | _ => False
noncomputable def isD (hp : Hp) : V → Prop
  | .ref a => match hp a with | some (.dict _) => True | _ => False
  | _ => False
noncomputable def W.methB (ok : Hp → V → Prop) (f : List V → Hp → (V → Hp → Prop) → Prop) (a : WE) (as : List WE) : WE := fun loc hp Q => a loc hp fun u hp₁ => ok hp₁ u ∧ W.args as loc hp₁ fun us hp₂ => f (u :: us) hp₂ Q
theorem EvE.methB {ok : Hp → V → Prop} {Ty id : String} {name : Str} {o : Expr} {apos pos : Pos} {a : WE} {xs : List Expr} {ws : List WE} {f : List V → Hp → (V → Hp → Prop) → Prop} (h : EvE D F n o a) (hs : AllE D F n xs ws)
    (pa : PlainAttrs Ty) (slot : Slot Ty name id) (hty : typeOf (Value.builtin id) = pure (.type "method_descriptor")) (hok : ∀ (K : Addr → Prop) hp (s : Shared) u v, Sim D K hp s → Rel s.heap u v → ok hp u → s.TypeIs v Ty ∧ ∀ a, v = .ref a → ∃ ob, s.heap.get? a = some ob ∧ ob.dict = none)
    (hf : OpsOk D F n (fun vs => PySem.call (Value.builtin id) vs) f)
    (he : attributeBase o name F.env (eval o F.env) = eval o F.env := by rfl)
    (hfew : ((backTo pos (starEach xs F.env)).all (fun x => !x.1) && (backToKw pos (keywordEach [] F.env)).all (fun x => x.1.isSome)
      && decide (xs.length + ([] : List Keyword).length + (if ([] : List Keyword).isEmpty then 0 else 1) < 30)) = true := by rfl) (hline : (apos.endLine == pos.line) = true := by rfl) :
    EvE D F n (.Call (.Attribute o name apos) xs [] pos) (W.methB ok f a ws) := fun A K loc hp s Q ao T q => by
  refine wpAny_Call_method he hfew hline pa slot hty (h.then ao T q fun v s₁ u hp₁ r₁ T₁ E₁ q₁ => ?_)
  obtain ⟨b1, b2⟩ := hok K hp₁ s₁ u v T₁.sim r₁ q₁.1
  refine ⟨b1, b2, ?_⟩
  refine Calls.callWith_builtin (starEach_plain hs.star) (evCallArgs hs ao T₁ q₁.2 fun vs s₂ us hp₂ r₂ T₂ E₂ q₂ => ?_)
  exact wpAny_mono (hf A K loc hp₂ s₂ (v :: vs) (u :: us) Q ao T₂ (.cons (r₁.mono E₂) r₂) q₂) (fun _ _ p => p.back (E₁.trans E₂)) fun _ _ e => e
theorem isL_ok : ∀ (K : Addr → Prop) hp (s : Shared) u v, Sim D K hp s → Rel s.heap u v → isL hp u → s.TypeIs v "list" ∧ ∀ a, v = .ref a → ∃ ob, s.heap.get? a = some ob ∧ ob.dict = none := fun K hp s u v S r k => by
  cases u <;> first | exact k.elim | skip
  rename_i a
  unfold Rel at r; subst r
  unfold isL at k
  cases e : hp a with
  | none => simp only [e] at k
  | some o =>
    simp only [e] at k
    cases o <;> first | exact k.elim | skip
    obtain ⟨i1, m1, g1, l1, hl, z1⟩ := S.list e
    exact ⟨hl.typeIs, fun b q => by cases q; exact ⟨_, g1, rfl⟩⟩
theorem isD_ok : ∀ (K : Addr → Prop) hp (s : Shared) u v, Sim D K hp s → Rel s.heap u v → isD hp u → s.TypeIs v "dict" ∧ ∀ a, v = .ref a → ∃ ob, s.heap.get? a = some ob ∧ ob.dict = none := fun K hp s u v S r k => by
  cases u <;> first | exact k.elim | skip
  rename_i a
  unfold Rel at r; subst r
  unfold isD at k
  cases e : hp a with
  | none => simp only [e] at k
  | some o =>
    simp only [e] at k
    cases o <;> first | exact k.elim | skip
    obtain ⟨kvs, hd, l, ne⟩ := (S.obj _ _ e).2
    exact ⟨hd.typeIs, hd.mapOf.noDict⟩

noncomputable def wAppend (us : List V) (hp : Hp) (Q : V → Hp → Prop) : Prop := match us with
  | [.ref a, u] => match hp a with
    | some (.list xs) => xs.length ≤ 100000 ∧ Q .none (hp.set a (.list (xs ++ [u])))
    | _ => False
  | _ => False
theorem okAppend : OpsOk D F n (fun vs => call (.builtin "list.append") vs) wAppend := fun A K loc hp s vs us Q o T r q => by
  unfold wAppend at q
  split at q
  · obtain ⟨v, r', rfl, ra, v2, r2, rfl, rb, hr⟩ := r
    unfold RelL at hr; subst hr
    unfold Rel at ra; subst ra
    split at q
    · rename_i a u _ xs e
      obtain ⟨its, m, g, l, hl, z⟩ := T.sim.list e
      refine wpAny_list_append_plain ⟨m, g⟩ (fun h' ⟨m', g'⟩ hs => ?_) (line_ok (by (and_intros <;> omega)))
      have E : Ext K s.heap h' := Ext.same hs g (fun q => by simpa using q.cls) (T.sim.obj _ _ e).1
      obtain ⟨T', E'⟩ := T.upd (t := s.toks) hs e (o' := .list (xs ++ [u])) ⟨_, m', g', by rw [Array.toList_push]; exact (l.mono E).append (.one (rb.mono E))⟩
      exact ⟨.none, _, rfl, T', E', q.2⟩
    · exact q.elim
  · exact q.elim

noncomputable def wPop (us : List V) (hp : Hp) (Q : V → Hp → Prop) : Prop := match us with
  | [.ref a] => match hp a with
    | some (.list xs) => xs.length ≤ 100000 ∧ ∃ ys u, xs = ys ++ [u] ∧ Q u (hp.set a (.list ys))
    | _ => False
  | _ => False
theorem RelL.snoc {h : Heap} : ∀ {us : List V} {u : V} {vs : List Value}, RelL h (us ++ [u]) vs → ∃ ws w, vs = ws ++ [w] ∧ RelL h us ws ∧ Rel h u w
  | [], u, vs, r => by obtain ⟨v, q, rfl, g, l⟩ := r; unfold RelL at l; subst l; exact ⟨[], v, rfl, .nil, g⟩
  | a :: us, u, vs, r => by
    obtain ⟨v, q, rfl, g, l⟩ := r
    obtain ⟨ws, w, rfl, b, c⟩ := RelL.snoc l
    exact ⟨v :: ws, w, rfl, .cons g b, c⟩
theorem okPop : OpsOk D F n (fun vs => call (.builtin "list.pop") vs) wPop := fun A K loc hp s vs us Q o T r q => by
  unfold wPop at q
  split at q
  · obtain ⟨v, r', rfl, ra, hr⟩ := r
    unfold RelL at hr; subst hr
    unfold Rel at ra; subst ra
    split at q
    · rename_i a _ xs e
      obtain ⟨hz, ys, u, rfl, q⟩ := q
      obtain ⟨its, m, g, l, hl, z⟩ := T.sim.list e
      obtain ⟨ws, w, ew, l1, rw'⟩ := l.snoc
      have ei : its = (ws ++ [w]).toArray := by rw [← ew, Array.toArray_toList]
      subst ei
      have hz' : (ws ++ [w]).toArray.size ≤ sizeLine := line_ok (by rw [z]; (and_intros <;> omega))
      have hk : (ws ++ [w]).toArray.size - 1 = ws.length := by rw [List.size_toArray, List.length_append]; rfl
      have hy : (ws ++ [w]).toArray[(ws ++ [w]).toArray.size - 1]? = some w := by rw [hk]; simp
      refine call_meets PySem.F.slot_list_pop ⟨_, g, rfl⟩ PySem.F.entry_list_pop (PySem.F.args_list_pop_1 _) (PySem.MeetsSeq.list_pop_last a _ m w hy hz') ⟨g, ?_⟩
      have hs := Heap.SameBut.update s.heap a (Obj.mapSeq fun xs => xs.eraseIdxIfInBounds ((ws ++ [w]).toArray.size - 1))
      have he : (ws ++ [w]).toArray.eraseIdxIfInBounds ((ws ++ [w]).toArray.size - 1) = ws.toArray := by rw [hk, kl_erase, List.append_nil]
      have hu := PySem.IsL.update g (fun xs => xs.eraseIdxIfInBounds ((ws ++ [w]).toArray.size - 1))
      rw [he] at hu
      have E : Ext K s.heap _ := Ext.same hs g (fun q => by simpa using q.cls) (T.sim.obj _ _ e).1
      obtain ⟨T', E'⟩ := T.upd (t := s.toks) hs e (o' := .list ys) ⟨_, _, hu, l1.mono E⟩
      exact ⟨u, _, rw'.mono E, T', E', q⟩
    · exact q.elim
  · exact q.elim

noncomputable def wIndex (us : List V) (hp : Hp) (Q : V → Hp → Prop) : Prop := match us with
  | [.ref a, .int k] => match hp a with
    | some (.list xs) => xs.length ≤ 100000 ∧ ∃ ns, intsOf xs = some ns ∧ k ∈ ns ∧ Q (.int (ns.idxOf k : Nat)) hp
    | _ => False
  | _ => False
theorem okIndex : OpsOk D F n (fun vs => call (.builtin "list.index") vs) wIndex := fun A K loc hp s vs us Q o T r q => by
  unfold wIndex at q
  split at q
  · obtain ⟨v, r', rfl, ra, v2, r2, rfl, ⟨t, rfl⟩, hr⟩ := r
    unfold RelL at hr; subst hr
    unfold Rel at ra; subst ra
    split at q
    · rename_i a k _ xs e
      obtain ⟨hz, ns, e1, hk, q⟩ := q
      obtain ⟨its, m, g, l, hl, z⟩ := T.sim.list e
      have hx := ints_some e1
      subst hx
      have hi := l.ints
      have hlen : its.size = ns.length := by simpa using z
      have hj : ns.idxOf k < ns.length := List.idxOf_lt_length_iff.mpr hk
      have hz' : ns.length ≤ 100000 := by simpa using hz
      refine call_meets PySem.F.slot_list_index ⟨_, g, rfl⟩ PySem.F.entry_list_index (PySem.F.args_list_index_2 _ _)
        (SeqAt.list_indexAt a its m none #[] (.int k t) (isInt k) (ns.idxOf k) (by (and_intros <;> omega)) (by (and_intros <;> omega)) ?_ ?_) ⟨g, fun y hy => (eq_isInt k t hi y (by simpa using hy)).at _ _, T.int q⟩
      · show isInt k its[ns.idxOf k] = true
        have := isInt_at k hi (ns.idxOf k) (by simpa [hlen] using hj) hj
        rw [Array.getElem_toList] at this
        rw [this]
        simpa using List.getElem_idxOf hj
      · intro j hjs hlt
        show isInt k its[j] = false
        have := isInt_at k hi j (by simpa using hjs) (by (and_intros <;> omega))
        rw [Array.getElem_toList] at this
        rw [this]
        exact ne_of_lt_idxOf hlt _
    · exact q.elim
  · exact q.elim

noncomputable def wGet (us : List V) (hp : Hp) (Q : V → Hp → Prop) : Prop := match us with
  | [.ref a, .int k, u] => match hp a with
    | some (.dict d) => Q ((dget d k).getD u) hp
    | _ => False
  | _ => False
theorem okGet : OpsOk D F n (fun vs => call (.builtin "dict.get") vs) wGet := fun A K loc hp s vs us Q o T r q => by
  unfold wGet at q
  split at q
  · obtain ⟨v, r', rfl, ra, v2, r2, rfl, ⟨t, rfl⟩, v3, r3, rfl, rc, hr⟩ := r
    unfold RelL at hr; subst hr
    unfold Rel at ra; subst ra
    split at q
    · rename_i a k u _ d e
      obtain ⟨kvs, hd, l, ne⟩ := (T.sim.obj _ _ e).2
      refine call_meetsIn PySem.F.slot_dict_get hd.typeIs PySem.F.entry_dict_get (PySem.F.args_dict_get_3 _ _ _) (meets_dict_get_default (intKind _ _) (k := k) a (intKind_is _ _ _ _) ne v3) ⟨_, hd.mapOf, ?_⟩
      have : Rel s.heap ((dget d k).getD u) ((valueAt kvs k).getD v3) := by
        rcases l.get (k := k) with ⟨z1, z2⟩ | ⟨u', v', z1, z2, z3⟩
        · rw [z1, z2]; exact rc
        · rw [z1, z2]; exact z3
      exact ⟨_, hp, this, T.toks _, Ext.refl _ _, q⟩
    · exact q.elim
  · exact q.elim
end
end Mine

namespace Mine
open PySem PySem.W PyProof.Rows

/-! a list of pairs, the first an int: sorted where it is ascending -/
noncomputable def PairAt (h : Heap) (v : Value) (i : Int) : Prop := ∃ b its m t, v = .ref b ∧ h.get? b = some (tupObj its m) ∧ its[0]? = some (.int i t)
noncomputable def PairsAt (h : Heap) (vs : List Value) (f : Nat → Int) : Prop := ∀ i v, vs[i]? = some v → PairAt h v (f i)

section
variable {prog : Program} {w : World} {A : Around} {E : Value → Shared → Prop} {s : Shared}
theorem pair_lt {x y : Value} {i j : Int} {C : Bool → Shared → Prop} (hx : PairAt s.heap x i) (hy : PairAt s.heap y j) (ne : i ≠ j) (h : C (decide (i < j)) s) : wpAny (model prog w) A (keyLt' (tuples' true) x y) C E s := by
  obtain ⟨a, xs, m, t, rfl, g1, e1⟩ := hx
  obtain ⟨b, ys, k, u, rfl, g2, e2⟩ := hy
  refine kat_lt g1 rfl g2 rfl ?_
  obtain ⟨p, hp⟩ : ∃ p, xs.toList = .int i t :: p := by
    cases e : xs.toList with
    | nil => rw [← Array.getElem?_toList, e] at e1; simp at e1
    | cons q r => rw [← Array.getElem?_toList, e] at e1; simp at e1; exact ⟨r, by rw [e1]⟩
  obtain ⟨q, hq⟩ : ∃ q, ys.toList = .int j u :: q := by
    cases e : ys.toList with
    | nil => rw [← Array.getElem?_toList, e] at e2; simp at e2
    | cons q r => rw [← Array.getElem?_toList, e] at e2; simp at e2; exact ⟨r, by rw [e2]⟩
  rw [hp, hq, List.zip_cons_cons]
  refine kat_cons (wpAny_eqBool_int ?_)
  have : (i == j) = false := by simpa using ne
  rw [this]
  exact kat_no (oneLt_int h)

theorem asc_go (cmp : Nat → Nat → (Bool → Shared → Prop) → Shared → Prop) (N : Nat) (s : Shared) (hc : ∀ i C, i + 1 < N → C false s → cmp (i + 1) i C s) : ∀ (f n : Nat) (Q : Nat → Shared → Prop), 1 ≤ n → n + f ≤ N → Q (n + f) s → (kas_asc (List.toArray (List.range N)) f n).kasWp cmp Q s
  | 0, n, Q, _, _, q => q
  | f + 1, n, Q, h1, h2, q => by
    obtain ⟨k, rfl⟩ : ∃ k, n = k + 1 := ⟨n - 1, by (and_intros <;> omega)⟩
    have e1 : (List.toArray (List.range N)).getD (k + 1) 0 = k + 1 := by simp [show k + 1 < N by (and_intros <;> omega)]
    have e2 : (List.toArray (List.range N)).getD (k + 1 - 1) 0 = k := by simp [show k < N by (and_intros <;> omega)]
    show cmp ((List.toArray (List.range N)).getD (k + 1) 0) ((List.toArray (List.range N)).getD (k + 1 - 1) 0) _ s
    rw [e1, e2]
    refine hc k _ (by (and_intros <;> omega)) ?_
    dsimp only
    rw [if_neg (by simp)]
    exact asc_go cmp N s hc f (k + 2) Q (by (and_intros <;> omega)) (by (and_intros <;> omega)) (by rw [show k + 2 + f = k + 1 + (f + 1) by (and_intros <;> omega)]; exact q)
theorem asc_sort (cmp : Nat → Nat → (Bool → Shared → Prop) → Shared → Prop) (N : Nat) (s : Shared) (h2 : 2 ≤ N) (hc : ∀ i C, i + 1 < N → C false s → cmp (i + 1) i C s) (Q : Array Nat → Shared → Prop) (q : Q (List.toArray (List.range N)) s) : (kas_sort N).kasWp cmp Q s := by
  unfold kas_sort
  rw [KasT.kasWp_bind]
  unfold kas_count
  rw [KasT.kasWp_bind]
  refine asc_go cmp N s hc (N - 1) 1 _ (Nat.le_refl _) (by (and_intros <;> omega)) ?_
  rw [show 1 + (N - 1) = N by (and_intros <;> omega), if_pos (by simp)]
  show (if N < N then _ else KasT.ret _).kasWp cmp Q s
  rw [if_neg (by (and_intros <;> omega))]
  exact q

theorem kat_tups {h : Heap} : ∀ {vs : List Value} {f : Nat → Int}, PairsAt h vs f → ∃ fs, KatTups h vs fs ∧ fs.length = vs.length ∧ ∀ v ∈ fs, ∃ i t, v = .int i t
  | [], f, _ => ⟨[], trivial, rfl, by simp⟩
  | v :: vs, f, p => by
    obtain ⟨b, its, m, t, rfl, g, e⟩ := p 0 v rfl
    obtain ⟨fs, a1, a2, a3⟩ := kat_tups (vs := vs) (f := fun i => f (i + 1)) fun i v hv => p (i + 1) v hv
    refine ⟨.int (f 0) t :: fs, .cons g rfl rfl e a1, by simp [a2], fun v hv => ?_⟩
    rcases List.mem_cons.mp hv with rfl | hv
    · exact ⟨_, _, rfl⟩
    · exact a3 v hv

theorem zip_items (vs : List Value) : vs.toArray.zip vs.toArray = pairsOf vs := rfl
theorem list_sort_pairs {a : Addr} {vs : List Value} {f : Nat → Int} {n : Nat} {P : Fin → Shared → Prop} (ho : s.heap.get? a = some (seqObj "list" vs.toArray n))
    (hp : PairsAt s.heap vs f) (hasc : ∀ i, i + 1 < vs.length → f i < f (i + 1)) (h64 : vs.length < 64)
    (h : P (.done (.ret .none)) { s with heap := sortedHeap s.heap a vs vs.toArray }) :
    wpAny (model prog w) A (Builtin.«list.sort» ⟨[.ref a], []⟩) P E s := by
  rw [list_sort_plain]
  have ha : a < s.heap.objs.size := Heap.lt_size ho
  refine wpAny_bind (listItems_at ho rfl ?_)
  refine wpAny_bind (listUpdate_at ho rfl ?_)
  obtain ⟨e1, ho1⟩ : ∃ e1, (s.heap.update a (Obj.mapSeq fun _ => #[])).get? a = some (seqObj "list" #[] e1) := ⟨_, get?_update_seq ho (fun _ => #[])⟩
  refine wpAny_bind (seqEpoch_at ho1 rfl ?_)
  refine wpAny_bind (wpAny_newTuple ?_)
  refine wpAny_bind (wpAny_newList ?_)
  refine wpAny_holding ?_
  have ho6 : (((s.heap.update a (Obj.mapSeq fun _ => #[])).push (seqObj "tuple" vs.toArray 0)).push (seqObj "list" #[] 0)).get? a = some (seqObj "list" #[] e1) := by
    rw [Heap.get?_push_ne _ _ _ (by rw [size_push', Heap.size_update]; exact Nat.ne_of_lt (Nat.lt_succ_of_lt ha)), Heap.get?_push_ne _ _ _ (by rw [Heap.size_update]; exact Nat.ne_of_lt ha)]
    exact ho1
  show wpAny (model prog w) A _ P E { s with heap := ((s.heap.update a (Obj.mapSeq fun _ => #[])).push (seqObj "tuple" vs.toArray 0)).push (seqObj "list" #[] 0) }
  dsimp only
  have hsz : vs.toArray.size = vs.length := by simp
  have hs2 : (pairsOf vs).map (·.2) = vs.toArray := by
    apply Array.toList_inj.mp
    rw [Array.toList_map, pairsOf_toList]
    apply List.ext_getElem?
    intro i
    simp [List.getElem?_zip_eq_some, List.getElem?_map, List.zip]
    cases vs[i]? <;> rfl
  by_cases h2 : vs.toArray.size < 2
  · rw [if_pos h2, if_pos h2]
    refine wpAny_bind (wpAny_pure ?_)
    rw [StateT.run_pure]
    refine wpAny_bind (wpAny_pure ?_)
    dsimp only
    refine wpAny_bind (seqEpoch_at ho6 rfl ?_)
    refine wpAny_bind (listUpdate_at ho6 rfl ?_ (hsz2 := by rw [Array.size_map]; show (pairsOf vs).size ≤ _; rw [pairsOf_size, sizeLine_eq]; (and_intros <;> omega)))
    simp only [bne_self_eq_false, Bool.false_eq_true, if_false]
    refine wpAny_pure ?_
    show P _ { s with heap := sortedHeap s.heap a vs ((pairsOf vs).map (·.2)) }
    rw [hs2]; exact h
  · rw [if_neg h2, if_neg h2]
    have hlen : 2 ≤ vs.length := by (and_intros <;> omega)
    have hpa : PairsAt (((s.heap.update a (Obj.mapSeq fun _ => #[])).push (seqObj "tuple" vs.toArray 0)).push (seqObj "list" #[] 0)) vs f := fun i v hv => by
      obtain ⟨b, its, m, t, rfl, g, e⟩ := hp i v hv
      refine ⟨b, its, m, t, rfl, ?_, e⟩
      have hne : b ≠ a := fun q => by rw [q, ho] at g; exact absurd (congrArg Obj.cls (Option.some.inj g)) (by show ¬ (Value.type "list" = Value.type "tuple"); simp)
      refine Heap.get?_push_of_some _ (Heap.get?_push_of_some _ ?_)
      rw [Heap.get?_update_ne _ _ _ _ hne]; exact g
    obtain ⟨fs, k1, k2, k3⟩ := kat_tups hpa
    refine wpAny_bind (kat_kind (T := .type "int") k1 (by (and_intros <;> omega)) (fun v hv => ?_) (by rfl) ?_)
    · obtain ⟨i, t, rfl⟩ := k3 v hv
      exact Looks.now
    have get : ∀ i, i < vs.length → PairAt (((s.heap.update a (Obj.mapSeq fun _ => #[])).push (seqObj "tuple" vs.toArray 0)).push (seqObj "list" #[] 0)) (vs.getD i .none) (f i) := fun i hi => by
      have : vs.getD i .none = vs[i] := by simp [hi]
      rw [this]; exact hpa i _ (List.getElem?_eq_getElem hi)
    have run := kat_run (prog := prog) (w := w) (A := A) (E := E) (s := { s with heap := ((s.heap.update a (Obj.mapSeq fun _ => #[])).push (seqObj "tuple" vs.toArray 0)).push (seqObj "list" #[] 0) }) (κ := tuples' true) (ks := vs) (vs := vs)
      (Q := fun st' s' => s' = { s with heap := ((s.heap.update a (Obj.mapSeq fun _ => #[])).push (seqObj "tuple" vs.toArray 0)).push (seqObj "list" #[] 0) } ∧ failedOf st' = none ∧ (arrOf st').map (·.2) = vs.toArray)
      (G := fun p s' => s' = { s with heap := ((s.heap.update a (Obj.mapSeq fun _ => #[])).push (seqObj "tuple" vs.toArray 0)).push (seqObj "list" #[] 0) } ∧ p = List.toArray (List.range vs.length)) rfl hlen h64
      (fun p st' s' _ b1 b2 b3 => ⟨b3.1, b2, by
        rw [kat_snds rfl b1, b3.2]
        congr 1
        apply List.ext_getElem?
        intro i
        simp only [List.getElem?_map, List.getElem?_range]
        by_cases hi : i < vs.length
        · simp [hi]
        · simp [hi]⟩)
      (asc_sort _ _ _ hlen (fun i C hi hC => pair_lt (get (i + 1) hi) (get i (by (and_intros <;> omega))) (by have := hasc i hi; (and_intros <;> omega)) (by rw [decide_eq_false (by have := hasc i hi; (and_intros <;> omega))]; exact hC)) _ ⟨rfl, rfl⟩)
    refine wpAny_bind (wpAny_mono run ?_ fun _ _ e => e)
    rintro ⟨⟨⟩, st'⟩ s' ⟨rfl, hf, hs⟩
    dsimp only at hf hs ⊢
    refine wpAny_bind (seqEpoch_at ho6 rfl ?_)
    rw [hs]
    refine wpAny_bind (listUpdate_at ho6 rfl ?_ (hsz2 := by rw [List.size_toArray, sizeLine_eq]; (and_intros <;> omega)))
    rw [hf]
    simp only [bne_self_eq_false, Bool.false_eq_true, if_false]
    exact wpAny_pure h

/-! sorted -/
theorem sorted_pairs {l : Addr} {vs : List Value} {f : Nat → Int} {Q : Value → Shared → Prop} (hl : s.heap.IsList l vs.toArray) (hp : PairsAt s.heap vs f) (hasc : ∀ i, i + 1 < vs.length → f i < f (i + 1)) (h64 : vs.length < 64)
    (h : Q (.ref (s.heap.objs.size + 1)) { s with heap := sortedAll s.heap vs vs.toArray }) :
    wpAny (model prog w) A (call (.builtin "sorted") [.ref l]) Q E s := by
  refine Calls.call_function_entry kind_sorted plain_sorted entry_sorted (args_sorted1 _) ?_
  unfold Builtin.«sorted»
  refine wpAny_bind (m := checkCount "sorted" 1 1 _) (wpAny_pure ?_)
  refine wpAny_bind (collect_list hl ?_)
  refine wpAny_bind (wpAny_newList ?_)
  have hsz : ((s.heap.push (seqObj "list" #[] 0)).update s.heap.objs.size (Obj.mapSeq (· ++ vs.toArray))).objs.size = s.heap.objs.size + 1 := by
    rw [Heap.size_update, size_push']
  have hoL : (((s.heap.push (seqObj "list" #[] 0)).update s.heap.objs.size (Obj.mapSeq (· ++ vs.toArray))).push (seqObj "list" vs.toArray 0)).get? (s.heap.objs.size + 1) = some (seqObj "list" vs.toArray 0) := by
    rw [← hsz]; exact Heap.get?_push_size _ rfl
  show wpAny _ _ _ _ _ { s with heap := ((s.heap.push (seqObj "list" #[] 0)).update s.heap.objs.size (Obj.mapSeq (· ++ vs.toArray))).push (seqObj "list" vs.toArray 0) }
  rw [hsz]
  refine wpAny_bind (wpAny_holding (wpAny_call_entry slot_list_sort ⟨_, hoL, rfl⟩ entry_list_sort (list_sort_pairs hoL (f := f) (fun i v hv => ?_) hasc h64 ⟨_, rfl, ?_⟩) (args_list_sort _)))
  · obtain ⟨b, its, m, t, rfl, g, e⟩ := hp i v hv
    refine ⟨b, its, m, t, rfl, Heap.get?_push_of_some _ ?_, e⟩
    rw [Heap.get?_update_ne _ _ _ _ (Nat.ne_of_lt (Heap.lt_size g))]
    exact Heap.get?_push_of_some _ g
  · exact wpAny_pure ⟨_, rfl, h⟩

/-- sorted, of a dict with int keys -/
theorem sorted_dict {d : Addr} {kvs : List (Int × Value)} {Q : Value → Shared → Prop} (hh : A.handled = none) (hd : s.heap.DictOf (intKind prog w) d kvs) (lo : (d == sysModules) = false) (h64 : kvs.length < 64)
    (h : ∀ (a : Addr) h' tk (out : Array Value) (ns' : List Int) e, (∀ b o, s.heap.get? b = some o → h'.get? b = some o) → s.heap.get? a = none → h'.get? a = some (seqObj "list" out e) → IntsAre out.toList ns' → ns'.Perm (kvs.map (·.1)) → ns'.Pairwise (· ≤ ·) →
      Q (.ref a) { s with heap := h', toks := tk }) :
    wpAny (model prog w) A (call (.builtin "sorted") [.ref d]) Q E s := by
  obtain ⟨ep, hat⟩ := hd.dictAt
  refine Calls.call_function_entry kind_sorted plain_sorted entry_sorted (args_sorted1 _) ?_
  unfold Builtin.«sorted»
  refine wpAny_bind (m := checkCount "sorted" 1 1 _) (wpAny_pure ?_)
  refine wpAny_bind (kdu_collect (A := A.in1) (kdl_dict (knd := intKind prog w) (kvs := kvs) (ep := ep) lo) hh hat (line_ok (by (and_intros <;> omega))) fun h₁ tk acc hk hacc => ?_)
  have hl : acc.toList.length = kvs.length := by rw [Array.length_toList]; exact hacc.1
  have hi : IntsAre acc.toList (kvs.map (·.1)) := by
    have key : ∀ (vs : List Value) (kv : List (Int × Value)), vs.length = kv.length → (∀ (j : Nat) (v : Value), vs[j]? = some v → ∃ (k : Int) (x : Value), kv[j]? = some (k, x) ∧ (intKind prog w).is k v = true) → IntsAre vs (kv.map (·.1)) := by
      intro vs
      induction vs with
      | nil => intro kv e _; cases kv with
        | nil => exact .nil
        | cons => simp at e
      | cons v vs ih =>
        intro kv e hj
        cases kv with
        | nil => simp at e
        | cons p kv =>
          obtain ⟨k, x, e1, e2⟩ := hj 0 v rfl
          simp at e1; subst e1
          obtain ⟨t, rfl⟩ := Value.isInt_shape e2
          exact .cons k t (ih kv (by simpa using e) fun j v hv => hj (j + 1) v (by simpa using hv))
    exact key acc.toList kvs hl fun j v hv => hacc.2 j v (by rw [← Array.getElem?_toList]; exact hv)
  refine wpAny_bind (wpAny_newList ?_ (line_ok (by rw [hl]; (and_intros <;> omega))))
  have hoL : (h₁.push (seqObj "list" acc.toList.toArray 0)).get? h₁.objs.size = some (seqObj "list" acc.toList.toArray 0) := Heap.get?_push_size _ rfl
  refine wpAny_bind (wpAny_holding (wpAny_call_entry slot_list_sort ⟨_, hoL, rfl⟩ entry_list_sort (list_sort_tree hoL hi (by (and_intros <;> omega)) fun out ns' a1 a2 a3 => ⟨_, rfl, ?_⟩) (args_list_sort _)))
  obtain ⟨e, he⟩ := sortedHeap_at (h := h₁.push (seqObj "list" acc.toList.toArray 0)) (out := out) hoL
  have hsz : s.heap.get? h₁.objs.size = none := by
    cases g : s.heap.get? h₁.objs.size with
    | none => rfl
    | some o => exact absurd (Heap.lt_size (hk _ _ g)) (Nat.lt_irrefl _)
  refine wpAny_pure ⟨_, rfl, h _ _ _ out ns' e (fun b o g => ?_) hsz he a1 a2 a3⟩
  have hb := Heap.lt_size (hk _ _ g)
  rw [sortedHeap_old (Nat.ne_of_lt hb) (by rw [size_push']; exact Nat.lt_succ_of_lt hb)]
  exact Heap.get?_push_of_some _ (hk _ _ g)
end

section
variable {D : Wd} {F : Fd} {n : Nat} {A : Around} {K : Addr → Prop} {loc : Loc} {hp hp' : Hp} {s s' : Shared}

theorem St.freshAt (T : St D F K loc hp s) {a : Addr} (g : s.heap.get? a = none) : Free F K hp a where
  k := fun h => by have := T.sim.k a h; rw [g] at this; cases this
  hp := by
    cases e : hp a with
    | none => rfl
    | some o => obtain ⟨ob, g', _⟩ := ObjIs.there D (T.sim.obj _ _ e).2; rw [g] at g'; cases g'
  l := fun e => by obtain ⟨o, g'⟩ := T.lsome; rw [← e, g] at g'; cases g'
  c := fun x c hc e => by obtain ⟨⟨v, o, g', _⟩, _⟩ := T.cells x c hc; rw [e, g] at g'; cases g'
theorem St.newAt (T : St D F K loc hp s) {h' : Heap} {tk : Nat} {a : Addr} {its : Array Value} {m : Nat} {us : List V} {Q : V → Hp → Prop} (keep : ∀ b o, s.heap.get? b = some o → h'.get? b = some o) (g : s.heap.get? a = none)
    (g' : h'.get? a = some { cls := .type "list", data := .seq its m }) (r : RelL h' us its.toList) (q : ∀ c, hp c = none → Q (.ref c) (hp.set c (.list us))) : PE D F K loc s.heap Q (.ref a) { s with heap := h', toks := tk } := by
  have f := T.freshAt g
  exact ⟨.ref a, _, rfl, (T.keep keep).new (o := .list us) f.k f.l ⟨its, m, g', r⟩, Ext.of_keep keep, q a f.hp⟩
theorem size_none (h : Heap) {a : Addr} (ha : h.objs.size ≤ a) : h.get? a = none := by
  cases g : h.get? a with
  | none => rfl
  | some o => exact absurd (Heap.lt_size g) (Nat.not_lt.mpr ha)

/-! slices -/
noncomputable def W.from (a b : WE) : WE := fun loc hp Q => a loc hp fun u hp₁ => b loc hp₁ fun i hp₂ => ∃ l k us, u = .ref l ∧ i = .int k ∧ hp₂ l = some (.list us) ∧ (0 ≤ k ∧ us.length ≤ 100000) ∧ ∀ c, hp₂ c = none → Q (.ref c) (hp₂.set c (.list (us.drop k.toNat)))
theorem EvE.from {x y : Expr} {a b : WE} {p pos : Pos} (ha : EvE D F n x a) (hb : EvE D F n y b) (ht : ∀ o r, letTemporaryGo x o r = pure () := by intro _ _; rfl) :
    EvE D F n (.Subscript x (.Slice (some y) Option.none Option.none p) pos) (W.from a b) := fun A K loc hp s Q o T q => by
  refine wpAny_Subscript_list_slice (ha.then o T q fun v s₁ u hp₁ r₁ T₁ E₁ q₁ => evalPart_some_step (hb.then o T₁ q₁ fun i s₂ iu hp₂ r₂ T₂ E₂ q₂ => evalPart_none_step ?_)) ht
  obtain ⟨l, k, us, rfl, rfl, e, q₂⟩ := q₂
  unfold Rel at r₁; subst r₁
  obtain ⟨t, rfl⟩ := r₂
  · obtain ⟨its, m, g, rl, hl, z⟩ := T₂.sim.list e
    obtain ⟨j, rfl⟩ := Int.eq_ofNat_of_zero_le q₂.1.1
    refine ⟨l, its, some (j : Int), Option.none, rfl, hl, line_ok (by (and_intros <;> omega)), .int _ _, .none, ?_⟩
    rw [slicePick_from']
    have T₃ := T₂.push { cls := .type "slice", data := .fields #[.int (j : Int) t, .none, .none] } s₂.toks
    have := T₃.newL (its := (its.toList.drop j).toArray) (m := 0) (ws := us.drop j) (Q := Q) (by simpa using (rl.mono (Ext.push K _ _)).drop j) q₂.2
    rw [show (s₂.heap.push { cls := .type "slice", data := .fields #[.int (j : Int) t, .none, .none] }).objs.size = s₂.heap.objs.size + 1 from Heap.size_push ..] at this
    obtain ⟨u', hp', b1, b2, b3, b4⟩ := this
    exact ⟨u', hp', b1, b2, (E₁.trans E₂).trans ((Ext.push K _ _).trans b3), b4⟩
/-- a slice of a list of ints of the ground -/
noncomputable def W.upto (l : Addr) (ns : List Int) (k : Nat) (a : WE) : WE := fun loc hp Q => a loc hp fun u hp₁ => u = .ref l ∧ ∀ c, hp₁ c = none → Q (.ref c) (hp₁.set c (.list ((ns.take k).map .int)))
theorem EvE.upto {x : Expr} {a : WE} {k : Nat} {kd : Nat} {p cp pos : Pos} {l : Addr} {vs : List Value} {ns : List Int} (ha : EvE D F n x a) (hl : D.s₁.heap.IsList l vs.toArray) (hi : IntsAre vs ns) (hz : ns.length ≤ sizeLine) (ht : ∀ o r, letTemporaryGo x o r = pure () := by intro _ _; rfl) :
    EvE D F n (.Subscript x (.Slice Option.none (some (.Constant (.int (k : Int)) kd cp)) Option.none p) pos) (W.upto l ns k a) := fun A K loc hp s Q o T q => by
  refine wpAny_Subscript_list_slice (ha.then o T q fun v s₁ u hp₁ r₁ T₁ E₁ q₁ => evalPart_none_step (evalPart_some_step (wpAny_Constant_int ?_))) ht
  obtain ⟨rfl, q₁⟩ := q₁
  unfold Rel at r₁; subst r₁
  have T₂ := T₁.toks (s₁.toks + 1)
  have hl : s₁.heap.IsList l vs.toArray := by
    obtain ⟨ob, g, c, m, d⟩ := hl
    exact ⟨ob, T₁.sim.hbase _ _ g, c, m, d⟩
  refine ⟨l, vs.toArray, Option.none, some (k : Int), rfl, hl, by rw [List.size_toArray, hi.length]; exact hz, .none, .int _ _, ?_⟩
  rw [slicePick_upto']
  have T₃ := T₂.push { cls := .type "slice", data := .fields #[.none, .int (k : Int) s₁.toks, .none] } (s₁.toks + 1)
  have := T₃.newL (its := (vs.toArray.toList.take k).toArray) (m := 0) (ws := (ns.take k).map .int) (Q := Q) (by simpa [List.map_take] using (RelL.take (IntsAre.relL hi) k)) q₁
  rw [show (s₁.heap.push { cls := .type "slice", data := .fields #[.none, .int (k : Int) s₁.toks, .none] }).objs.size = s₁.heap.objs.size + 1 from Heap.size_push ..] at this
  obtain ⟨u', hp', b1, b2, b3, b4⟩ := this
  exact ⟨u', hp', b1, b2, E₁.trans ((Ext.push K _ _).trans b3), b4⟩

/-! sorted -/
noncomputable def pairKeys : List V → Option (List Int)
  | [] => some []
  | .tup (.int i :: _) :: r => (pairKeys r).map (i :: ·)
  | _ :: _ => none
theorem pairs_at {h : Heap} : ∀ {us : List V} {ks : List Int} {vs : List Value}, pairKeys us = some ks → RelL h us vs → ks.length = us.length ∧ PairsAt h vs fun i => ks.getD i 0
  | [], ks, vs, e, r => by simp [pairKeys] at e; subst e; unfold RelL at r; subst r; exact ⟨rfl, fun i v hv => by simp at hv⟩
  | .tup (.int j :: ws) :: us, ks, vs, e, r => by
    simp only [pairKeys, Option.map_eq_some_iff] at e
    obtain ⟨m, h1, rfl⟩ := e
    obtain ⟨v, q, rfl, g, l⟩ := r
    obtain ⟨a, b⟩ := pairs_at h1 l
    refine ⟨by simp [a], fun i v' hv => ?_⟩
    cases i with
    | zero =>
      simp at hv; subst hv
      obtain ⟨ad, k, its, rfl, g1, l1⟩ := rel_tup g
      obtain ⟨w, r, e1, ⟨t, rfl⟩, _⟩ := l1
      refine ⟨ad, its, k, t, rfl, g1, ?_⟩
      rw [← Array.getElem?_toList, e1]; rfl
    | succ i => exact b i v' (by simpa using hv)
  | .none :: _, _, _, e, _ => by simp [pairKeys] at e
  | .bool _ :: _, _, _, e, _ => by simp [pairKeys] at e
  | .int _ :: _, _, _, e, _ => by simp [pairKeys] at e
  | .str _ :: _, _, _, e, _ => by simp [pairKeys] at e
  | .ref _ :: _, _, _, e, _ => by simp [pairKeys] at e
  | .tup [] :: _, _, _, e, _ => by simp [pairKeys] at e
  | .tup (.none :: _) :: _, _, _, e, _ => by simp [pairKeys] at e
  | .tup (.bool _ :: _) :: _, _, _, e, _ => by simp [pairKeys] at e
  | .tup (.str _ :: _) :: _, _, _, e, _ => by simp [pairKeys] at e
  | .tup (.ref _ :: _) :: _, _, _, e, _ => by simp [pairKeys] at e
  | .tup (.tup _ :: _) :: _, _, _, e, _ => by simp [pairKeys] at e

noncomputable def wSorted (us : List V) (hp : Hp) (Q : V → Hp → Prop) : Prop := match us with
  | [.ref a] => match hp a with
    | some (.list xs) => (xs.length < 64) ∧ ∃ ns, intsOf xs = some ns ∧ ∀ ns' : List Int, ns'.Perm ns → ns'.Pairwise (· ≤ ·) → ∀ c, hp c = none → Q (.ref c) (hp.set c (.list (ns'.map .int)))
    | some (.dict d) => (d.length < 64) ∧ ∀ ns' : List Int, ns'.Perm (d.map (·.1)) → ns'.Pairwise (· ≤ ·) → ∀ c, hp c = none → Q (.ref c) (hp.set c (.list (ns'.map .int)))
    | _ => False
  | _ => False
/-- sorted, of pairs that ascend by their first -/
noncomputable def wSortedP (us : List V) (hp : Hp) (Q : V → Hp → Prop) : Prop := match us with
  | [.ref a] => match hp a with
    | some (.list xs) => (xs.length < 64) ∧ ∃ ks, pairKeys xs = some ks ∧ ks.Pairwise (· < ·) ∧ ∀ c, hp c = none → Q (.ref c) (hp.set c (.list xs))
    | _ => False
  | _ => False
theorem RelD.keys {h : Heap} : ∀ {d : List (Int × V)} {kvs : List (Int × Value)}, RelD h d kvs → kvs.map (·.1) = d.map (·.1)
  | [], kvs, r => by unfold RelD at r; subst r; rfl
  | (k, w) :: d, kvs, r => by
    unfold RelD at r
    obtain ⟨v, q, rfl, g, l⟩ := r
    rw [List.map_cons, List.map_cons, RelD.keys l]
theorem okSorted : OpsOk D F n (fun vs => call (.builtin "sorted") vs) wSorted := fun A K loc hp s vs us Q o T r q => by
  unfold wSorted at q
  split at q
  · obtain ⟨v, r', rfl, ra, hr⟩ := r
    unfold RelL at hr; subst hr
    unfold Rel at ra; subst ra
    split at q
    · rename_i a _ xs e
      obtain ⟨hz, ns, e1, q⟩ := q
      obtain ⟨its, m, g, l, hl, z⟩ := T.sim.list e
      have hx := ints_some e1
      subst hx
      have hl' : s.heap.IsList a its.toList.toArray := by rw [Array.toArray_toList]; exact hl
      refine sorted_ints hl' l.ints (by rw [Array.length_toList, z]; exact hz) fun out ns' a1 a2 a3 => ?_
      obtain ⟨e2, he⟩ := sortedAll_at s.heap its.toList out
      exact T.newAt (tk := s.toks) (fun _ _ => sortedAll_old) (size_none _ (Nat.le_succ _)) he (IntsAre.relL a1) (q ns' a2 a3)
    · rename_i a _ d e
      obtain ⟨kvs, hd, l, ne⟩ := (T.sim.obj _ _ e).2
      refine sorted_dict o.1 hd ne (by rw [l.length]; exact q.1) fun b h' tk out ns' e2 hk hf he a1 a2 a3 => ?_
      exact T.newAt hk hf he (IntsAre.relL a1) (q.2 ns' (by rw [← l.keys]; exact a2) a3)
    · exact q.elim
  · exact q.elim
theorem okSortedP : OpsOk D F n (fun vs => call (.builtin "sorted") vs) wSortedP := fun A K loc hp s vs us Q o T r q => by
  unfold wSortedP at q
  split at q
  · obtain ⟨v, r', rfl, ra, hr⟩ := r
    unfold RelL at hr; subst hr
    unfold Rel at ra; subst ra
    split at q
    · rename_i a _ xs e
      obtain ⟨hz, ks, e1, hk, q⟩ := q
      obtain ⟨its, m, g, l, hl, z⟩ := T.sim.list e
      have hl' : s.heap.IsList a its.toList.toArray := by rw [Array.toArray_toList]; exact hl
      obtain ⟨b1, b2⟩ := pairs_at e1 l
      have hlen : its.toList.length = xs.length := l.length
      refine sorted_pairs hl' b2 (fun i hi => ?_) (by rw [hlen]; exact hz) ?_
      · have h1 : i + 1 < ks.length := by (and_intros <;> omega)
        have := List.pairwise_iff_getElem.mp hk i (i + 1) (by (and_intros <;> omega)) h1 (by (and_intros <;> omega))
        simpa [List.getD, h1, show i < ks.length by (and_intros <;> omega)] using this
      · obtain ⟨e2, he⟩ := sortedAll_at s.heap its.toList its.toList.toArray
        exact T.newAt (tk := s.toks) (fun _ _ => sortedAll_old) (size_none _ (Nat.le_succ _)) he (by
          have := l.mono (K := K) (Ext.of_keep fun b o => sortedAll_old (h := s.heap) (vs := its.toList) (out := its.toList.toArray))
          simpa using this) q
    · exact q.elim
  · exact q.elim
end
end Mine

namespace Mine
open PySem PySem.W PyProof.Rows

noncomputable def W.dead : WS := fun _ _ _ => False
theorem EvB.dead {D : Wd} {F : Fd} {n : Nat} {xs : List Stmt} : EvB D F n xs W.dead := fun A K loc hp s Q o T q => q.elim

section
variable {D : Wd} {n : Nat} {loc : Loc} {hp : Hp}
@[simp] theorem lk_zero (a : Option V) (r : Loc) : lk (a :: r) 0 = a := rfl
@[simp] theorem lk_succ (a : Option V) (r : Loc) (i : Nat) : lk (a :: r) (i + 1) = lk r i := rfl
@[simp] theorem st_zero (a : Option V) (r : Loc) (v : V) : st (a :: r) 0 v = some v :: r := rfl
@[simp] theorem st_succ (a : Option V) (r : Loc) (i : Nat) (v : V) : st (a :: r) (i + 1) v = a :: st r i v := rfl
@[simp] theorem stAll_cons (l : Loc) (i : Nat) (is : List Nat) (v : V) (vs : List V) : stAll l (i :: is) (v :: vs) = stAll (st l i v) is vs := rfl
@[simp] theorem stAll_nil (l : Loc) (vs : List V) : stAll l [] vs = l := by cases vs <;> rfl

theorem W.v_eq (i : Nat) (Q : V → Hp → Prop) : W.v i loc hp Q = ∃ u, lk loc i = some u ∧ Q u hp := by
  unfold W.v
  cases lk loc i <;> simp
@[simp] theorem W.v0 (u : V) (r : Loc) (Q : V → Hp → Prop) : W.v 0 (some u :: r) hp Q = Q u hp := rfl
@[simp] theorem W.vs (a : Option V) (r : Loc) (i : Nat) (Q : V → Hp → Prop) : W.v (i + 1) (a :: r) hp Q = W.v i r hp Q := rfl
@[simp] theorem W.c_eq (u : V) (Q : V → Hp → Prop) : W.c u loc hp Q = Q u hp := rfl
@[simp] theorem W.un_eq (f : V → Hp → (V → Hp → Prop) → Prop) (a : WE) (Q : V → Hp → Prop) : W.un f a loc hp Q = a loc hp fun x hp₁ => f x hp₁ Q := rfl
@[simp] theorem W.bin_eq (f : V → V → Hp → (V → Hp → Prop) → Prop) (a b : WE) (Q : V → Hp → Prop) : W.bin f a b loc hp Q = a loc hp fun x hp₁ => b loc hp₁ fun y hp₂ => f x y hp₂ Q := rfl
@[simp] theorem W.t_eq (a : WE) (Q : Bool → Hp → Prop) : W.t a loc hp Q = a loc hp (tb Q) := rfl
@[simp] theorem tb_eq (b : Bool) (Q : Bool → Hp → Prop) : tb Q (.bool b) hp = Q b hp := rfl
@[simp] theorem W.and_nil (Q : Bool → Hp → Prop) : W.and [] loc hp Q = Q true hp := rfl
@[simp] theorem W.and_cons (a : WT) (r : List WT) (Q : Bool → Hp → Prop) : W.and (a :: r) loc hp Q = a loc hp fun b hp₁ => (b = true → W.and r loc hp₁ Q) ∧ (b = false → Q false hp₁) := rfl
@[simp] theorem W.or_nil (Q : Bool → Hp → Prop) : W.or [] loc hp Q = Q false hp := rfl
@[simp] theorem W.or_cons (a : WT) (r : List WT) (Q : Bool → Hp → Prop) : W.or (a :: r) loc hp Q = a loc hp fun b hp₁ => (b = false → W.or r loc hp₁ Q) ∧ (b = true → Q true hp₁) := rfl
@[simp] theorem W.ite_eq (t : WT) (a b : WE) (Q : V → Hp → Prop) : W.ite t a b loc hp Q = t loc hp fun c hp₁ => (c = true → a loc hp₁ Q) ∧ (c = false → b loc hp₁ Q) := rfl
@[simp] theorem W.args_nil (Q : List V → Hp → Prop) : W.args [] loc hp Q = Q [] hp := rfl
@[simp] theorem W.args_cons (a : WE) (r : List WE) (Q : List V → Hp → Prop) : W.args (a :: r) loc hp Q = a loc hp fun u hp₁ => W.args r loc hp₁ fun us hp₂ => Q (u :: us) hp₂ := rfl
@[simp] theorem W.app_eq (f : List V → Hp → (V → Hp → Prop) → Prop) (as : List WE) (Q : V → Hp → Prop) : W.app f as loc hp Q = W.args as loc hp fun us hp' => f us hp' Q := rfl
@[simp] theorem W.call_eq (f : Addr) (as : List WE) (Q : V → Hp → Prop) : W.call D f n as loc hp Q = W.args as loc hp fun us hp' => Calls D f n us hp' Q := rfl
@[simp] theorem W.attr_eq (C : Addr) (x : Str) (a : WE) (Q : V → Hp → Prop) : W.attr C x a loc hp Q = a loc hp fun u hp₁ => ∃ w, fld hp₁ C x u = some w ∧ Q w hp₁ := rfl
@[simp] theorem W.meth_eq (C : Addr) (x : Str) (f : Addr) (a : WE) (as : List WE) (Q : V → Hp → Prop) : W.meth D C x f n a as loc hp Q = a loc hp fun u hp₁ => isObj hp₁ C x u ∧ W.args as loc hp₁ fun us hp₂ => Calls D f n (u :: us) hp₂ Q := rfl
@[simp] theorem W.methB_eq (ok : Hp → V → Prop) (f : List V → Hp → (V → Hp → Prop) → Prop) (a : WE) (as : List WE) (Q : V → Hp → Prop) : W.methB ok f a as loc hp Q = a loc hp fun u hp₁ => ok hp₁ u ∧ W.args as loc hp₁ fun us hp₂ => f (u :: us) hp₂ Q := rfl
@[simp] theorem W.new_eq (C fI : Addr) (as : List WE) (Q : V → Hp → Prop) : W.new D C fI n as loc hp Q = W.args as loc hp fun us hp₁ =>
  ∀ x dx, hp₁ x = none → hp₁ dx = none → x ≠ dx → Calls D fI n (.ref x :: us) ((hp₁.set dx (.ns [])).set x (.inst C dx)) fun u hp₂ => u = .none ∧ Q (.ref x) hp₂ := rfl
@[simp] theorem W.dict0_eq (Q : V → Hp → Prop) : W.dict0 loc hp Q = ∀ c, hp c = none → Q (.ref c) (hp.set c (.dict [])) := rfl
@[simp] theorem W.nil_eq (Q : Fl → Loc → Hp → Prop) : W.nil loc hp Q = Q .next loc hp := rfl
noncomputable def sq (b : WS) (Q : Fl → Loc → Hp → Prop) : Fl → Loc → Hp → Prop := fun fl loc₁ hp₁ => match fl with | .next => b loc₁ hp₁ Q | fl => Q fl loc₁ hp₁
@[simp] theorem W.seq_eq (a b : WS) (Q : Fl → Loc → Hp → Prop) : W.seq a b loc hp Q = a loc hp (sq b Q) := rfl
theorem W.seq_set {h : Hp} {x : Addr} {o : O} (a b : WS) (Q : Fl → Loc → Hp → Prop) : W.seq a b loc (h.set x o) Q = a loc (h.set x o) (sq b Q) := rfl
@[simp] theorem sq_next (b : WS) (Q : Fl → Loc → Hp → Prop) : sq b Q .next loc hp = b loc hp Q := rfl
@[simp] theorem sq_ret (b : WS) (Q : Fl → Loc → Hp → Prop) (v : V) : sq b Q (.ret v) loc hp = Q (.ret v) loc hp := rfl
@[simp] theorem sq_brk (b : WS) (Q : Fl → Loc → Hp → Prop) : sq b Q .brk loc hp = Q .brk loc hp := rfl
@[simp] theorem sq_cont (b : WS) (Q : Fl → Loc → Hp → Prop) : sq b Q .cont loc hp = Q .cont loc hp := rfl
@[simp] theorem W.asg_eq (t : V → Loc → Hp → (Loc → Hp → Prop) → Prop) (a : WE) (Q : Fl → Loc → Hp → Prop) : W.asg t a loc hp Q = a loc hp fun u hp₁ => t u loc hp₁ fun loc₂ hp₂ => Q .next loc₂ hp₂ := rfl
@[simp] theorem W.one_eq (i : Nat) (u : V) (Q : Loc → Hp → Prop) : W.one i u loc hp Q = Q (st loc i u) hp := rfl
@[simp] theorem W.many_eq (is : List Nat) (ws : List V) (Q : Loc → Hp → Prop) : W.many is (.tup ws) loc hp Q = (ws.length = is.length ∧ Q (stAll loc is ws) hp) := rfl
@[simp] theorem W.ret_eq (a : WE) (Q : Fl → Loc → Hp → Prop) : W.ret a loc hp Q = a loc hp fun u hp₁ => Q (.ret u) loc hp₁ := rfl
@[simp] theorem W.brk_eq (Q : Fl → Loc → Hp → Prop) : W.brk loc hp Q = Q .brk loc hp := rfl
@[simp] theorem W.cont_eq (Q : Fl → Loc → Hp → Prop) : W.cont loc hp Q = Q .cont loc hp := rfl
@[simp] theorem W.dead_eq (Q : Fl → Loc → Hp → Prop) : W.dead loc hp Q = False := rfl
@[simp] theorem W.ifs_eq (t : WT) (a b : WS) (Q : Fl → Loc → Hp → Prop) : W.ifs t a b loc hp Q = t loc hp fun c hp₁ => (c = true → a loc hp₁ Q) ∧ (c = false → b loc hp₁ Q) := rfl
noncomputable def exq (loc : Loc) (Q : Fl → Loc → Hp → Prop) : V → Hp → Prop := fun u hp₁ => match u with | .ref _ => False | .tup _ => False | _ => Q .next loc hp₁
@[simp] theorem W.ex_eq (a : WE) (Q : Fl → Loc → Hp → Prop) : W.ex a loc hp Q = a loc hp (exq loc Q) := rfl
@[simp] theorem exq_none (Q : Fl → Loc → Hp → Prop) : exq loc Q .none hp = Q .next loc hp := rfl
noncomputable def augq (x : Int) (i : Nat) (loc : Loc) (Q : Fl → Loc → Hp → Prop) : V → Hp → Prop := fun u hp₁ => match u with | .int y => Q .next (st loc i (.int (x + y))) hp₁ | _ => False
@[simp] theorem augq_int (x y : Int) (i : Nat) (Q : Fl → Loc → Hp → Prop) : augq x i loc Q (.int y) hp = Q .next (st loc i (.int (x + y))) hp := rfl
theorem W.aug_eq (i : Nat) (x : Int) (a : WE) (Q : Fl → Loc → Hp → Prop) (h : lk loc i = some (.int x)) : W.aug i a loc hp Q = a loc hp (augq x i loc Q) := by
  unfold W.aug; rw [h]; rfl
@[simp] theorem W.setF_eq (C : Addr) (x : Str) (o a : WE) (Q : Fl → Loc → Hp → Prop) : W.setF C x o a loc hp Q = a loc hp fun w hp₁ => o loc hp₁ fun u hp₂ => wSetF C x u w hp₂ fun hp₃ => Q .next loc hp₃ := rfl
@[simp] theorem W.setI_eq (f : V → V → V → Hp → (Hp → Prop) → Prop) (o i a : WE) (Q : Fl → Loc → Hp → Prop) : W.setI f o i a loc hp Q = a loc hp fun w hp₁ => o loc hp₁ fun u hp₂ => i loc hp₂ fun k hp₃ => f u k w hp₃ fun hp₄ => Q .next loc hp₄ := rfl
noncomputable def lpq (k : WS) (Q : Fl → Loc → Hp → Prop) : Fl → Loc → Hp → Prop := fun fl loc₂ hp₂ => match fl with
  | .next => k loc₂ hp₂ Q
  | .cont => k loc₂ hp₂ Q
  | .brk => Q .next loc₂ hp₂
  | .ret v => Q (.ret v) loc₂ hp₂
@[simp] theorem lpq_next (k : WS) (Q : Fl → Loc → Hp → Prop) : lpq k Q .next loc hp = k loc hp Q := rfl
@[simp] theorem lpq_cont (k : WS) (Q : Fl → Loc → Hp → Prop) : lpq k Q .cont loc hp = k loc hp Q := rfl
@[simp] theorem lpq_brk (k : WS) (Q : Fl → Loc → Hp → Prop) : lpq k Q .brk loc hp = Q .next loc hp := rfl
@[simp] theorem lpq_ret (k : WS) (Q : Fl → Loc → Hp → Prop) (v : V) : lpq k Q (.ret v) loc hp = Q (.ret v) loc hp := rfl
theorem W.whileN_succ (c : WT) (b : WS) (k : Nat) (Q : Fl → Loc → Hp → Prop) : W.whileN c b (k + 1) loc hp Q = c loc hp fun t hp₁ => (t = false → Q .next loc hp₁) ∧ (t = true → b loc hp₁ (lpq (W.whileN c b k) Q)) := rfl
@[simp] theorem W.forGo_nil (t : V → Loc → Hp → (Loc → Hp → Prop) → Prop) (b : WS) (P : Hp → Prop) (Q : Fl → Loc → Hp → Prop) : W.forGo t b P [] loc hp Q = (P hp ∧ Q .next loc hp) := rfl
@[simp] theorem W.forGo_cons (t : V → Loc → Hp → (Loc → Hp → Prop) → Prop) (b : WS) (P : Hp → Prop) (u : V) (us : List V) (Q : Fl → Loc → Hp → Prop) : W.forGo t b P (u :: us) loc hp Q = (P hp ∧ t u loc hp fun loc₁ hp₁ => b loc₁ hp₁ (lpq (W.forGo t b P us) Q)) := rfl
@[simp] theorem W.for_eq (i : WI) (t : V → Loc → Hp → (Loc → Hp → Prop) → Prop) (b : WS) (Q : Fl → Loc → Hp → Prop) : W.for i t b loc hp Q = i loc hp fun P us hp₁ => W.forGo t b P us loc hp₁ Q := rfl
@[simp] theorem W.range_eq (as : List WE) (Q : (Hp → Prop) → List V → Hp → Prop) : W.range as loc hp Q = W.args as loc hp fun us hp₁ => wRange us hp₁ Q := rfl
@[simp] theorem wRange1 (b : Int) (Q : (Hp → Prop) → List V → Hp → Prop) : wRange [.int b] hp Q = (rangeOk 0 b 1 ∧ Q (fun _ => True) (rangeL 0 b 1) hp) := rfl
@[simp] theorem wRange2 (a b : Int) (Q : (Hp → Prop) → List V → Hp → Prop) : wRange [.int a, .int b] hp Q = (rangeOk a b 1 ∧ Q (fun _ => True) (rangeL a b 1) hp) := rfl
@[simp] theorem wRange3 (a b c : Int) (Q : (Hp → Prop) → List V → Hp → Prop) : wRange [.int a, .int b, .int c] hp Q = (rangeOk a b c ∧ Q (fun _ => True) (rangeL a b c) hp) := rfl
theorem W.iter_eq (a : WE) (Q : (Hp → Prop) → List V → Hp → Prop) : W.iter a loc hp Q = a loc hp fun u hp₁ => ∃ l us, u = .ref l ∧ hp₁ l = some (.list us) ∧ Q (fun hp => hp l = some (.list us)) us hp₁ := rfl
@[simp] theorem W.compGo_nil (tg : V → Loc → Hp → (Loc → Hp → Prop) → Prop) (c : WT) (e : WE) (P : Hp → Prop) (acc : List V) (Q : List V → Hp → Prop) : W.compGo tg c e P [] loc hp acc Q = (P hp ∧ Q acc hp) := rfl
@[simp] theorem W.compGo_cons (tg : V → Loc → Hp → (Loc → Hp → Prop) → Prop) (c : WT) (e : WE) (P : Hp → Prop) (u : V) (us acc : List V) (Q : List V → Hp → Prop) : W.compGo tg c e P (u :: us) loc hp acc Q = (P hp ∧ tg u loc hp fun loc₁ hp₁ => c loc₁ hp₁ fun b hp₂ =>
    (b = true → e loc₁ hp₂ fun w hp₃ => acc.length ≤ 10000 ∧ W.compGo tg c e P us loc₁ hp₃ (acc ++ [w]) Q) ∧ (b = false → W.compGo tg c e P us loc₁ hp₂ acc Q)) := rfl
@[simp] theorem W.yes_eq (Q : Bool → Hp → Prop) : W.yes loc hp Q = Q true hp := rfl
@[simp] theorem W.comp_eq (i : WI) (k : Nat) (capi : List Nat) (tg : V → Loc → Hp → (Loc → Hp → Prop) → Prop) (c : WT) (e : WE) (Q : V → Hp → Prop) : W.comp i k capi tg c e loc hp Q = i loc hp fun P us hp₁ =>
  W.compGo tg c e P us (inner loc k capi) hp₁ [] fun ws hp₂ => ∀ a, hp₂ a = none → Q (.ref a) (hp₂.set a (.list ws)) := rfl
theorem W.and2_eq (a b : WE) (Q : V → Hp → Prop) : W.and2 a b loc hp Q = a loc hp fun u hp₁ => ∃ c, u = .bool c ∧ (c = true → b loc hp₁ Q) ∧ (c = false → Q (.bool false) hp₁) := rfl
theorem W.or2_eq (a b : WE) (Q : V → Hp → Prop) : W.or2 a b loc hp Q = a loc hp fun u hp₁ => ∃ c, u = .bool c ∧ (c = true → Q (.bool true) hp₁) ∧ (c = false → b loc hp₁ Q) := rfl
theorem W.from_eq (a b : WE) (Q : V → Hp → Prop) : W.from a b loc hp Q = a loc hp fun u hp₁ => b loc hp₁ fun i hp₂ => ∃ l k us, u = .ref l ∧ i = .int k ∧ hp₂ l = some (.list us) ∧ (0 ≤ k ∧ us.length ≤ 100000) ∧ ∀ c, hp₂ c = none → Q (.ref c) (hp₂.set c (.list (us.drop k.toNat))) := rfl
theorem W.upto_eq (l : Addr) (ns : List Int) (k : Nat) (a : WE) (Q : V → Hp → Prop) : W.upto l ns k a loc hp Q = a loc hp fun u hp₁ => u = .ref l ∧ ∀ c, hp₁ c = none → Q (.ref c) (hp₁.set c (.list ((ns.take k).map .int))) := rfl

/-! operations on ints -/
variable {Q : V → Hp → Prop}
@[simp] theorem wAdd_int (a b : Int) : wAdd (.int a) (.int b) hp Q = Q (.int (a + b)) hp := rfl
@[simp] theorem wSub_int (a b : Int) : wSub (.int a) (.int b) hp Q = Q (.int (a - b)) hp := rfl
@[simp] theorem wMulR_int (a b : Int) : wMulR (.int a) (.int b) hp Q = ((-(2 ^ 64) < b ∧ b < 2 ^ 64) ∧ Q (.int (a * b)) hp) := rfl
@[simp] theorem wMulL_int (a b : Int) : wMulL (.int a) (.int b) hp Q = (-(2 ^ 64) < a ∧ a < 2 ^ 64 ∧ Q (.int (a * b)) hp) := rfl
@[simp] theorem wDiv_int (a b : Int) : wDiv (.int a) (.int b) hp Q = (0 < b ∧ b < 1073741824 ∧ Q (.int (a / b)) hp) := rfl
@[simp] theorem wMod_int (a b : Int) : wMod (.int a) (.int b) hp Q = (0 < b ∧ Q (.int (a % b)) hp) := rfl
@[simp] theorem wPow_int (a b : Int) : wPow (.int a) (.int b) hp Q = (0 ≤ b ∧ b ≤ 1000 ∧ a.natAbs < 2 ^ 64 ∧ Q (.int (a ^ b.toNat)) hp) := rfl
@[simp] theorem wNeg_int (a : Int) : wNeg (.int a) hp Q = Q (.int (-a)) hp := rfl
@[simp] theorem wEq_int (a b : Int) : wEq (.int a) (.int b) hp Q = Q (.bool (a == b)) hp := rfl
@[simp] theorem wEq_str (a b : Str) : wEq (.str a) (.str b) hp Q = Q (.bool (a == b)) hp := rfl
@[simp] theorem wNe_int (a b : Int) : wNe (.int a) (.int b) hp Q = Q (.bool (a != b)) hp := rfl
@[simp] theorem wLt_int (a b : Int) : wLt (.int a) (.int b) hp Q = Q (.bool (decide (a < b))) hp := rfl
@[simp] theorem wGt_int (a b : Int) : wGt (.int a) (.int b) hp Q = Q (.bool (decide (b < a))) hp := rfl
@[simp] theorem wLe_int (a b : Int) : wLe (.int a) (.int b) hp Q = Q (.bool (decide (a ≤ b))) hp := rfl
@[simp] theorem wGe_int (a b : Int) : wGe (.int a) (.int b) hp Q = Q (.bool (decide (b ≤ a))) hp := rfl
@[simp] theorem wIs_none (x : V) : wIs x .none hp Q = Q (.bool x.isNone) hp := rfl
@[simp] theorem wIsNot_none (x : V) : wIsNot x .none hp Q = Q (.bool (!x.isNone)) hp := rfl
@[simp] theorem isNone_none : V.isNone .none = true := rfl
@[simp] theorem isNone_int (a : Int) : V.isNone (.int a) = false := rfl
@[simp] theorem wList_eq (us : List V) : wList us hp Q = (us.length ≤ 1000 ∧ ∀ c, hp c = none → Q (.ref c) (hp.set c (.list us))) := rfl
@[simp] theorem wTup_eq (us : List V) : wTup us hp Q = (us.length ≤ 1000 ∧ Q (.tup us) hp) := rfl
@[simp] theorem wTuple_tup (us : List V) : wTuple [.tup us] hp Q = Q (.tup us) hp := rfl
@[simp] theorem wMax_two (a b : Int) : wMax [.int a, .int b] hp Q = Q (.int (if b > a then b else a)) hp := rfl
@[simp] theorem wIx_tup (us : List V) (k : Int) : wIx (.tup us) (.int k) hp Q = ((us.length ≤ 100000 ∧ -(us.length : Int) ≤ k) ∧ ∃ w, us[ixN us.length k]? = some w ∧ Q w hp) := rfl
/-! operations on lists and dicts, the object at hand -/
theorem wIx_list {a : Addr} {us : List V} {k : Int} (h : hp a = some (.list us)) : wIx (.ref a) (.int k) hp Q = ((us.length ≤ 100000 ∧ -(us.length : Int) ≤ k) ∧ ∃ w, us[ixN us.length k]? = some w ∧ Q w hp) := by
  show (match hp a with | some (.list us) => _ | some (.dict d) => _ | _ => _) = _
  rw [h]
theorem wIx_dict {a : Addr} {d : List (Int × V)} {k : Int} (h : hp a = some (.dict d)) : wIx (.ref a) (.int k) hp Q = ∃ w, dget d k = some w ∧ Q w hp := by
  show (match hp a with | some (.list us) => _ | some (.dict d) => _ | _ => _) = _
  rw [h]
theorem wLen_list {a : Addr} {us : List V} (h : hp a = some (.list us)) : wLen [.ref a] hp Q = (us.length ≤ 100000 ∧ Q (.int us.length) hp) := by
  show (match hp a with | some (.list us) => _ | _ => _) = _
  rw [h]
theorem wSum_list {a : Addr} {us : List V} (h : hp a = some (.list us)) : wSum [.ref a] hp Q = ∃ ns, intsOf us = some ns ∧ Q (.int ns.sum) hp := by
  show (match hp a with | some (.list us) => _ | _ => _) = _
  rw [h]
theorem wMax_list {a : Addr} {us : List V} (h : hp a = some (.list us)) : wMax [.ref a] hp Q = ∃ n ns, intsOf us = some (n :: ns) ∧ Q (.int (lmax n ns)) hp := by
  show (match hp a with | some (.list us) => _ | _ => _) = _
  rw [h]
theorem wAdd_list {a b : Addr} {us ws : List V} (h : hp a = some (.list us)) (g : hp b = some (.list ws)) : wAdd (.ref a) (.ref b) hp Q = (us.length + ws.length ≤ 100000 ∧ ∀ c, hp c = none → Q (.ref c) (hp.set c (.list (us ++ ws)))) := by
  show (match hp a, hp b with | some (.list xs), some (.list ys) => _ | _, _ => _) = _
  rw [h, g]
theorem wRep_list {a : Addr} {us : List V} {k : Int} (h : hp a = some (.list us)) : wRep (.ref a) (.int k) hp Q = ((us.length = 1 ∧ 0 ≤ k ∧ k ≤ 1000) ∧ ∀ c, hp c = none → Q (.ref c) (hp.set c (.list (List.flatten (List.replicate k.toNat us))))) := by
  show (match hp a with | some (.list us) => _ | _ => _) = _
  rw [h]
theorem wEq_list {a b : Addr} {us ws : List V} (h : hp a = some (.list us)) (g : hp b = some (.list ws)) : wEq (.ref a) (.ref b) hp Q = (us.all V.dat = true ∧ ws.all V.dat = true ∧ Q (.bool (eqL us ws)) hp) := by
  show (match hp a, hp b with | some (.list xs), some (.list ys) => _ | _, _ => _) = _
  rw [h, g]
theorem wNe_list {a b : Addr} {us ws : List V} (h : hp a = some (.list us)) (g : hp b = some (.list ws)) : wNe (.ref a) (.ref b) hp Q = (us.all V.dat = true ∧ ws.all V.dat = true ∧ Q (.bool (!eqL us ws)) hp) := by
  show (match hp a, hp b with | some (.list xs), some (.list ys) => _ | _, _ => _) = _
  rw [h, g]
theorem wIn_dict {a : Addr} {d : List (Int × V)} {k : Int} (h : hp a = some (.dict d)) : wIn (.int k) (.ref a) hp Q = Q (.bool (dget d k).isSome) hp := by
  show (match hp a with | some (.dict d) => _ | _ => _) = _
  rw [h]
theorem wNotIn_dict {a : Addr} {d : List (Int × V)} {k : Int} (h : hp a = some (.dict d)) : wNotIn (.int k) (.ref a) hp Q = Q (.bool (!(dget d k).isSome)) hp := by
  show (match hp a with | some (.dict d) => _ | _ => _) = _
  rw [h]
theorem wIn_list {a : Addr} {us : List V} {k : Str} (h : hp a = some (.list us)) : wIn (.str k) (.ref a) hp Q = ∃ ys, strsOf us = some ys ∧ Q (.bool (ys.any (· == k))) hp := by
  show (match hp a with | some (.list us) => _ | _ => _) = _
  rw [h]
theorem wNotIn_list {a : Addr} {us : List V} {k : Bool} (h : hp a = some (.list us)) : wNotIn (.bool k) (.ref a) hp Q = ∃ ys, boolsOf us = some ys ∧ Q (.bool (!ys.any (· == k))) hp := by
  show (match hp a with | some (.list us) => _ | _ => _) = _
  rw [h]
theorem isL_list {a : Addr} {us : List V} (h : hp a = some (.list us)) : isL hp (.ref a) = True := by
  show (match hp a with | some (.list _) => True | _ => False) = _
  rw [h]
theorem isD_dict {a : Addr} {d : List (Int × V)} (h : hp a = some (.dict d)) : isD hp (.ref a) = True := by
  show (match hp a with | some (.dict _) => True | _ => False) = _
  rw [h]
theorem wAppend_list {a : Addr} {us : List V} {u : V} (h : hp a = some (.list us)) : wAppend [.ref a, u] hp Q = (us.length ≤ 100000 ∧ Q .none (hp.set a (.list (us ++ [u])))) := by
  show (match hp a with | some (.list us) => _ | _ => _) = _
  rw [h]
theorem wPop_list {a : Addr} {us : List V} (h : hp a = some (.list us)) : wPop [.ref a] hp Q = (us.length ≤ 100000 ∧ ∃ ys u, us = ys ++ [u] ∧ Q u (hp.set a (.list ys))) := by
  show (match hp a with | some (.list us) => _ | _ => _) = _
  rw [h]
theorem wIndex_list {a : Addr} {us : List V} {k : Int} (h : hp a = some (.list us)) : wIndex [.ref a, .int k] hp Q = (us.length ≤ 100000 ∧ ∃ ns, intsOf us = some ns ∧ k ∈ ns ∧ Q (.int (ns.idxOf k : Nat)) hp) := by
  show (match hp a with | some (.list us) => _ | _ => _) = _
  rw [h]
theorem wGet_dict {a : Addr} {d : List (Int × V)} {k : Int} {u : V} (h : hp a = some (.dict d)) : wGet [.ref a, .int k, u] hp Q = Q ((dget d k).getD u) hp := by
  show (match hp a with | some (.dict d) => _ | _ => _) = _
  rw [h]
theorem wSetItem_list {a : Addr} {us : List V} {k : Int} {v : V} {Q : Hp → Prop} (h : hp a = some (.list us)) : wSetItem (.ref a) (.int k) v hp Q = ((0 ≤ k ∧ k < us.length ∧ us.length ≤ 100000) ∧ Q (hp.set a (.list (us.set k.toNat v)))) := by
  show (match hp a with | some (.list us) => _ | some (.dict d) => _ | _ => _) = _
  rw [h]
theorem wSetItem_dict {a : Addr} {d : List (Int × V)} {k : Int} {v : V} {Q : Hp → Prop} (h : hp a = some (.dict d)) : wSetItem (.ref a) (.int k) v hp Q = (d.length ≤ 100000 ∧ Q (hp.set a (.dict (dput d k v)))) := by
  show (match hp a with | some (.list us) => _ | some (.dict d) => _ | _ => _) = _
  rw [h]
theorem wSorted_list {a : Addr} {us : List V} (h : hp a = some (.list us)) : wSorted [.ref a] hp Q = ((us.length < 64) ∧ ∃ ns, intsOf us = some ns ∧ ∀ ns' : List Int, ns'.Perm ns → ns'.Pairwise (· ≤ ·) → ∀ c, hp c = none → Q (.ref c) (hp.set c (.list (ns'.map .int)))) := by
  show (match hp a with | some (.list us) => _ | some (.dict d) => _ | _ => _) = _
  rw [h]
theorem wSorted_dict {a : Addr} {d : List (Int × V)} (h : hp a = some (.dict d)) : wSorted [.ref a] hp Q = ((d.length < 64) ∧ ∀ ns' : List Int, ns'.Perm (d.map (·.1)) → ns'.Pairwise (· ≤ ·) → ∀ c, hp c = none → Q (.ref c) (hp.set c (.list (ns'.map .int)))) := by
  show (match hp a with | some (.list us) => _ | some (.dict d) => _ | _ => _) = _
  rw [h]
theorem wSortedP_list {a : Addr} {us : List V} (h : hp a = some (.list us)) : wSortedP [.ref a] hp Q = ((us.length < 64) ∧ ∃ ks, pairKeys us = some ks ∧ ks.Pairwise (· < ·) ∧ ∀ c, hp c = none → Q (.ref c) (hp.set c (.list us))) := by
  show (match hp a with | some (.list us) => _ | _ => _) = _
  rw [h]
theorem wSetF_inst {C a dx : Addr} {x : Str} {w : V} {fs : List (Str × V)} {Q : Hp → Prop} (h : hp a = some (.inst C dx)) (g : hp dx = some (.ns fs)) : wSetF C x (.ref a) w hp Q = (fs.length < 100 ∧ Q (hp.set dx (.ns (putF x w fs)))) := by
  show (match hp a with | some (.inst C' dx) => C' = C ∧ (match hp dx with | some (.ns fs) => _ | _ => False) | _ => False) = _
  rw [h]; simp only; rw [g]; simp
theorem fld_inst {C a dx : Addr} {x : Str} {fs : List (Str × V)} (h : hp a = some (.inst C dx)) (g : hp dx = some (.ns fs)) : fld hp C x (.ref a) = look x fs := by
  show (match hp a with | some (.inst C' dx) => if C' = C then (match hp dx with | some (.ns fs) => look x fs | _ => none) else none | _ => none) = _
  rw [h]; simp only; rw [g]; simp
theorem isObj_inst {C a dx : Addr} {x : Str} {fs : List (Str × V)} (h : hp a = some (.inst C dx)) (g : hp dx = some (.ns fs)) : isObj hp C x (.ref a) = (look x fs = none) := by
  show (match hp a with | some (.inst C' dx) => C' = C ∧ (match hp dx with | some (.ns fs) => look x fs = none | _ => False) | _ => False) = _
  rw [h]; simp only; rw [g]; simp
@[simp] theorem bodyPost_ret (u : V) : bodyPost Q (.ret u) loc hp = Q u hp := rfl
@[simp] theorem bodyPost_next : bodyPost Q .next loc hp = Q .none hp := rfl
theorem inner_eq (k : Nat) (capi : List Nat) : inner loc k capi = List.replicate k none ++ capi.map (lk loc) := rfl
theorem Hp.ne_of {a c : Addr} {o : O} (h : hp c = none) (g : hp a = some o) : a ≠ c := fun e => by rw [e, h] at g; cases g
theorem Hp.set_comm (hp : Hp) {a b : Addr} (o p : O) (h : a ≠ b) : (hp.set a o).set b p = (hp.set b p).set a o := by
  funext c
  unfold Hp.set
  by_cases h1 : c = a
  · by_cases h2 : c = b
    · exact absurd (h1.symm.trans h2) h
    · simp [h1, h]
  · simp [h1]
@[simp] theorem Hp.set_set (hp : Hp) (a : Addr) (o p : O) : (hp.set a o).set a p = hp.set a p := by
  funext c
  unfold Hp.set
  by_cases h1 : c = a <;> simp [h1]
end
end Mine

namespace Mine
open PySem PySem.W PyProof.Rows

theorem len1 {vs : List Value} (h : vs.length = 1) : ∃ a, vs = [a] := List.length_eq_one_iff.mp h
theorem lenS {n : Nat} {vs : List Value} (h : vs.length = n + 1) : ∃ a r, vs = a :: r ∧ r.length = n := by
  cases vs with
  | nil => cases h
  | cons a r => exact ⟨a, r, rfl, Nat.succ.inj h⟩
theorem len2 {vs : List Value} (h : vs.length = 2) : ∃ a b, vs = [a, b] := by
  obtain ⟨a, r, rfl, h1⟩ := lenS h
  obtain ⟨b, rfl⟩ := len1 h1
  exact ⟨a, b, rfl⟩
theorem len3 {vs : List Value} (h : vs.length = 3) : ∃ a b c, vs = [a, b, c] := by
  obtain ⟨a, r, rfl, h1⟩ := lenS h
  obtain ⟨b, c, rfl⟩ := len2 h1
  exact ⟨a, b, c, rfl⟩
theorem len4 {vs : List Value} (h : vs.length = 4) : ∃ a b c d, vs = [a, b, c, d] := by
  obtain ⟨a, r, rfl, h1⟩ := lenS h
  obtain ⟨b, c, d, rfl⟩ := len3 h1
  exact ⟨a, b, c, d, rfl⟩
theorem len5 {vs : List Value} (h : vs.length = 5) : ∃ a b c d e, vs = [a, b, c, d, e] := by
  obtain ⟨a, r, rfl, h1⟩ := lenS h
  obtain ⟨b, c, d, e, rfl⟩ := len4 h1
  exact ⟨a, b, c, d, e, rfl⟩

noncomputable def CapI (F : Fd) (cap : List Str) (capi : List Nat) : Prop := cap.length = capi.length ∧ ∀ (k : Nat) (x : Str) (i : Nat), cap[k]? = some x → capi[k]? = some i → F.nm[i]? = some x ∧ F.env.kindOf x = some .cell
theorem CapI.nil {F : Fd} : CapI F [] [] := ⟨rfl, fun k x i h => by simp at h⟩
theorem CapI.cons {F : Fd} {x : Str} {cap : List Str} {i : Nat} {capi : List Nat} (h1 : F.nm[i]? = some x) (h2 : F.env.kindOf x = some .cell) (h : CapI F cap capi) : CapI F (x :: cap) (i :: capi) :=
  ⟨by simp [h.1], fun k y j a b => by
    cases k with
    | zero => simp at a b; subst a b; exact ⟨h1, h2⟩
    | succ k => simp at a b; exact h.2 k y j a b⟩

section
variable {D : Wd} {P : Params} (hD : D.KF = HK P)
include hD
theorem g_GRAIN : nsIn D.KF mainGlobals "GRAIN" = some (some (.int 16 196)) := by rw [hD]; rfl
theorem g_HEADER : nsIn D.KF mainGlobals "HEADER" = some (some (.int 8 198)) := by rw [hD]; rfl
theorem g_LISTS : nsIn D.KF mainGlobals "LISTS" = some (some (.int 4 200)) := by rw [hD]; rfl
theorem g_WORD : nsIn D.KF mainGlobals "WORD" = some (some (.int 4294967296 447)) := by rw [hD]; rfl
theorem g_len : nsIn D.KF mainGlobals "len" = some none := by rw [hD]; rfl
theorem g_sum : nsIn D.KF mainGlobals "sum" = some none := by rw [hD]; rfl
theorem g_max : nsIn D.KF mainGlobals "max" = some none := by rw [hD]; rfl
theorem g_sorted : nsIn D.KF mainGlobals "sorted" = some none := by rw [hD]; rfl
theorem g_tuple : nsIn D.KF mainGlobals "tuple" = some none := by rw [hD]; rfl
theorem g_range : nsIn D.KF mainGlobals "range" = some none := by rw [hD]; rfl
theorem g_block_size : nsIn D.KF mainGlobals "block_size" = some (some (.ref 28)) := by rw [hD]; rfl
theorem fn_block_size : isFunc D.KF 28 := by rw [hD]; exact ⟨_, _, rfl, rfl⟩
theorem g_list_number : nsIn D.KF mainGlobals "list_number" = some (some (.ref 35)) := by rw [hD]; rfl
theorem fn_list_number : isFunc D.KF 35 := by rw [hD]; exact ⟨_, _, rfl, rfl⟩
theorem g_told_size : nsIn D.KF mainGlobals "told_size" = some (some (.ref 119)) := by rw [hD]; rfl
theorem fn_told_size : isFunc D.KF 119 := by rw [hD]; exact ⟨_, _, rfl, rfl⟩
theorem g_walk_faults : nsIn D.KF mainGlobals "walk_faults" = some (some (.ref 126)) := by rw [hD]; rfl
theorem fn_walk_faults : isFunc D.KF 126 := by rw [hD]; exact ⟨_, _, rfl, rfl⟩
theorem g_list_faults : nsIn D.KF mainGlobals "list_faults" = some (some (.ref 133)) := by rw [hD]; rfl
theorem fn_list_faults : isFunc D.KF 133 := by rw [hD]; exact ⟨_, _, rfl, rfl⟩
theorem g_heap_faults : nsIn D.KF mainGlobals "heap_faults" = some (some (.ref 140)) := by rw [hD]; rfl
theorem fn_heap_faults : isFunc D.KF 140 := by rw [hD]; exact ⟨_, _, rfl, rfl⟩
theorem g_used_bytes : nsIn D.KF mainGlobals "used_bytes" = some (some (.ref 147)) := by rw [hD]; rfl
theorem fn_used_bytes : isFunc D.KF 147 := by rw [hD]; exact ⟨_, _, rfl, rfl⟩
theorem g_largest_free : nsIn D.KF mainGlobals "largest_free" = some (some (.ref 154)) := by rw [hD]; rfl
theorem fn_largest_free : isFunc D.KF 154 := by rw [hD]; exact ⟨_, _, rfl, rfl⟩
theorem g_free_runs : nsIn D.KF mainGlobals "free_runs" = some (some (.ref 249)) := by rw [hD]; rfl
theorem fn_free_runs : isFunc D.KF 249 := by rw [hD]; exact ⟨_, _, rfl, rfl⟩
theorem g_sweep : nsIn D.KF mainGlobals "sweep" = some (some (.ref 256)) := by rw [hD]; rfl
theorem fn_sweep : isFunc D.KF 256 := by rw [hD]; exact ⟨_, _, rfl, rfl⟩
theorem g_law_pick : nsIn D.KF mainGlobals "_law_pick" = some (some (.ref 263)) := by rw [hD]; rfl
theorem fn_law_pick : isFunc D.KF 263 := by rw [hD]; exact ⟨_, _, rfl, rfl⟩
theorem g_law_area : nsIn D.KF mainGlobals "_law_area" = some (some (.ref 268)) := by rw [hD]; rfl
theorem fn_law_area : isFunc D.KF 268 := by rw [hD]; exact ⟨_, _, rfl, rfl⟩
theorem g_law_block : nsIn D.KF mainGlobals "_law_block" = some (some (.ref 275)) := by rw [hD]; rfl
theorem fn_law_block : isFunc D.KF 275 := by rw [hD]; exact ⟨_, _, rfl, rfl⟩
theorem g_law_made : nsIn D.KF mainGlobals "_law_made" = some (some (.ref 282)) := by rw [hD]; rfl
theorem fn_law_made : isFunc D.KF 282 := by rw [hD]; exact ⟨_, _, rfl, rfl⟩
theorem g_law_listed : nsIn D.KF mainGlobals "_law_listed" = some (some (.ref 289)) := by rw [hD]; rfl
theorem fn_law_listed : isFunc D.KF 289 := by rw [hD]; exact ⟨_, _, rfl, rfl⟩
theorem g_law_linked : nsIn D.KF mainGlobals "_law_linked" = some (some (.ref 296)) := by rw [hD]; rfl
theorem fn_law_linked : isFunc D.KF 296 := by rw [hD]; exact ⟨_, _, rfl, rfl⟩
theorem g_law_spoiled : nsIn D.KF mainGlobals "_law_spoiled" = some (some (.ref 301)) := by rw [hD]; rfl
theorem fn_law_spoiled : isFunc D.KF 301 := by rw [hD]; exact ⟨_, _, rfl, rfl⟩
theorem g_Heap : nsIn D.KF mainGlobals "Heap" = some (some (.ref 108)) := by rw [hD]; rfl
theorem new_Heap : NewOk D.KF 108 49 := by rw [hD]; exact ⟨rfl, rfl, rfl, rfl⟩
theorem g_Memory : nsIn D.KF mainGlobals "Memory" = some (some (.ref 238)) := by rw [hD]; rfl
theorem new_Memory : NewOk D.KF 238 200 := by rw [hD]; exact ⟨rfl, rfl, rfl, rfl⟩
theorem me_Heap_put_free : MethOk D.KF 108 "put_free" 56 := by rw [hD]; exact ⟨rfl, rfl, rfl, ⟨_, _, rfl, rfl⟩⟩
theorem me_Heap_is_free : MethOk D.KF 108 "is_free" 63 := by rw [hD]; exact ⟨rfl, rfl, rfl, ⟨_, _, rfl, rfl⟩⟩
theorem me_Heap_descriptor : MethOk D.KF 108 "descriptor" 70 := by rw [hD]; exact ⟨rfl, rfl, rfl, ⟨_, _, rfl, rfl⟩⟩
theorem me_Heap_size_of : MethOk D.KF 108 "size_of" 77 := by rw [hD]; exact ⟨rfl, rfl, rfl, ⟨_, _, rfl, rfl⟩⟩
theorem me_Heap_take_free : MethOk D.KF 108 "take_free" 84 := by rw [hD]; exact ⟨rfl, rfl, rfl, ⟨_, _, rfl, rfl⟩⟩
theorem me_Heap_alloc : MethOk D.KF 108 "alloc" 91 := by rw [hD]; exact ⟨rfl, rfl, rfl, ⟨_, _, rfl, rfl⟩⟩
theorem me_Heap_blocks : MethOk D.KF 108 "blocks" 98 := by rw [hD]; exact ⟨rfl, rfl, rfl, ⟨_, _, rfl, rfl⟩⟩
theorem me_Memory_place : MethOk D.KF 238 "place" 207 := by rw [hD]; exact ⟨rfl, rfl, rfl, ⟨_, _, rfl, rfl⟩⟩
theorem me_Memory_word : MethOk D.KF 238 "word" 214 := by rw [hD]; exact ⟨rfl, rfl, rfl, ⟨_, _, rfl, rfl⟩⟩
theorem me_Memory_put_word : MethOk D.KF 238 "put_word" 221 := by rw [hD]; exact ⟨rfl, rfl, rfl, ⟨_, _, rfl, rfl⟩⟩
theorem at_Heap_memory : AttrOk D.KF 108 "memory" := by rw [hD]; exact ⟨rfl, rfl, _, rfl, rfl⟩
theorem se_Heap_memory : SetOk D.KF 108 "memory" := by rw [hD]; exact ⟨rfl, rfl, rfl, rfl⟩
theorem at_Heap_start : AttrOk D.KF 108 "start" := by rw [hD]; exact ⟨rfl, rfl, _, rfl, rfl⟩
theorem se_Heap_start : SetOk D.KF 108 "start" := by rw [hD]; exact ⟨rfl, rfl, rfl, rfl⟩
theorem at_Heap_limit : AttrOk D.KF 108 "limit" := by rw [hD]; exact ⟨rfl, rfl, _, rfl, rfl⟩
theorem se_Heap_limit : SetOk D.KF 108 "limit" := by rw [hD]; exact ⟨rfl, rfl, rfl, rfl⟩
theorem at_Heap_free : AttrOk D.KF 108 "free" := by rw [hD]; exact ⟨rfl, rfl, _, rfl, rfl⟩
theorem se_Heap_free : SetOk D.KF 108 "free" := by rw [hD]; exact ⟨rfl, rfl, rfl, rfl⟩
theorem at_Memory_size : AttrOk D.KF 238 "size" := by rw [hD]; exact ⟨rfl, rfl, _, rfl, rfl⟩
theorem se_Memory_size : SetOk D.KF 238 "size" := by rw [hD]; exact ⟨rfl, rfl, rfl, rfl⟩
theorem at_Memory_words : AttrOk D.KF 238 "words" := by rw [hD]; exact ⟨rfl, rfl, _, rfl, rfl⟩
theorem se_Memory_words : SetOk D.KF 238 "words" := by rw [hD]; exact ⟨rfl, rfl, rfl, rfl⟩
end
theorem bt_len : bootBuiltins "len" = some (.builtin "len") := by decide +kernel
theorem bt_sum : bootBuiltins "sum" = some (.builtin "sum") := by decide +kernel
theorem bt_max : bootBuiltins "max" = some (.builtin "max") := by decide +kernel
theorem bt_sorted : bootBuiltins "sorted" = some (.builtin "sorted") := by decide +kernel
theorem bt_tuple : bootBuiltins "tuple" = some (.type "tuple") := by decide +kernel
theorem bt_range : bootBuiltins "range" = some (.type "range") := by decide +kernel
end Mine

set_option maxRecDepth 100000
set_option maxHeartbeats 4000000
namespace Mine
open PySem PySem.W PyProof.Rows
/-- block_size -/
noncomputable def W_block_size (D : Wd) (n : Nat) : WS :=
  (W.seq (W.ret (W.bin wMulR (W.bin wDiv (W.bin wSub (W.bin wAdd (W.bin wAdd (W.v 0) (W.c (.int 8))) (W.c (.int 16))) (W.c (.int 1))) (W.c (.int 16))) (W.c (.int 16)))) W.nil)
theorem c_block_size {D : Wd} {P : Params} (hD : D.KF = HK P) {n : Nat} {us : List V} {hp : Hp} {Q : V → Hp → Prop} (hu : us.length = 1)
    (q : W_block_size D n (us.map some ++ List.replicate 0 none) hp (bodyPost Q)) : Calls D 28 (n + 5) us hp Q := by
  obtain ⟨fd, body, h1, h2⟩ : ∃ fd body, FnOk D.KF 28 fd body ["record_size"] 1 ∧ ∀ L, EvB D (bodyFd fd ["record_size"] 28 L) (n + 4) body (W_block_size D n) := by
    refine ⟨_, _, ⟨⟨_, _, _, by rw [hD]; rfl⟩, by rw [hD]; rfl, rfl, rfl, rfl, rfl, fun vs h => by obtain ⟨a, rfl⟩ := len1 h; rfl, by decide, rfl, rfl, rfl, by decide, by decide, by decide, by decide⟩, fun L => ?_⟩
    unfold W_block_size
    refine EvB.cons (EvS.ret (EvE.bin (EvE.bin (EvE.bin (EvE.bin (EvE.bin (EvE.var (i := 0) rfl) (EvE.gint rfl (g_HEADER hD)) okAdd) (EvE.gint rfl (g_GRAIN hD)) okAdd) EvE.intC okSub) (EvE.gint rfl (g_GRAIN hD)) okDiv) (EvE.gint rfl (g_GRAIN hD)) okMulR)) ?_
    exact EvB.nil
  exact Calls.of_body h1 h2 hu q
/-- list_number -/
noncomputable def W_list_number (D : Wd) (n : Nat) : WS :=
  (W.seq (W.ifs (W.t (W.bin wLt (W.v 0) (W.c (.int 32)))) (W.seq (W.ret (W.c (.int 0))) W.nil) W.nil) (W.seq (W.ifs (W.t (W.bin wLt (W.v 0) (W.c (.int 64)))) (W.seq (W.ret (W.c (.int 1))) W.nil) W.nil) (W.seq (W.ifs (W.t (W.bin wLt (W.v 0) (W.c (.int 128)))) (W.seq (W.ret (W.c (.int 2))) W.nil) W.nil) (W.seq (W.ret (W.c (.int 3))) W.nil))))
theorem c_list_number {D : Wd} {P : Params} (hD : D.KF = HK P) {n : Nat} {us : List V} {hp : Hp} {Q : V → Hp → Prop} (hu : us.length = 1)
    (q : W_list_number D n (us.map some ++ List.replicate 0 none) hp (bodyPost Q)) : Calls D 35 (n + 5) us hp Q := by
  obtain ⟨fd, body, h1, h2⟩ : ∃ fd body, FnOk D.KF 35 fd body ["size"] 1 ∧ ∀ L, EvB D (bodyFd fd ["size"] 35 L) (n + 4) body (W_list_number D n) := by
    refine ⟨_, _, ⟨⟨_, _, _, by rw [hD]; rfl⟩, by rw [hD]; rfl, rfl, rfl, rfl, rfl, fun vs h => by obtain ⟨a, rfl⟩ := len1 h; rfl, by decide, rfl, rfl, rfl, by decide, by decide, by decide, by decide⟩, fun L => ?_⟩
    unfold W_list_number
    refine EvB.cons (EvS.ifs (EvT.cmp (EvE.var (i := 0) rfl) EvE.intC okLt (hm := by kernel_rfl)) (EvB.cons (EvS.ret EvE.intC) EvB.nil) EvB.nil) ?_
    refine EvB.cons (EvS.ifs (EvT.cmp (EvE.var (i := 0) rfl) EvE.intC okLt (hm := by kernel_rfl)) (EvB.cons (EvS.ret EvE.intC) EvB.nil) EvB.nil) ?_
    refine EvB.cons (EvS.ifs (EvT.cmp (EvE.var (i := 0) rfl) EvE.intC okLt (hm := by kernel_rfl)) (EvB.cons (EvS.ret EvE.intC) EvB.nil) EvB.nil) ?_
    refine EvB.cons (EvS.ret EvE.intC) ?_
    exact EvB.nil
  exact Calls.of_body h1 h2 hu q
/-- Heap.put_free -/
noncomputable def W_h_put_free (D : Wd) (n : Nat) : WS :=
  (W.seq (W.asg (W.one 3) (W.call D 35 (n + 4) [(W.v 2)])) (W.seq (W.ex (W.meth D 238 "put_word" 221 (n + 4) (W.attr 108 "memory" (W.v 0)) [(W.v 1), (W.bin wAdd (W.v 2) (W.c (.int 1)))])) (W.seq (W.ex (W.meth D 238 "put_word" 221 (n + 4) (W.attr 108 "memory" (W.v 0)) [(W.bin wAdd (W.v 1) (W.c (.int 4))), (W.bin wIx (W.attr 108 "free" (W.v 0)) (W.v 3))])) (W.seq (W.setI wSetItem (W.attr 108 "free" (W.v 0)) (W.v 3) (W.v 1)) W.nil))))
theorem c_h_put_free {D : Wd} {P : Params} (hD : D.KF = HK P) {n : Nat} {us : List V} {hp : Hp} {Q : V → Hp → Prop} (hu : us.length = 3)
    (q : W_h_put_free D n (us.map some ++ List.replicate 1 none) hp (bodyPost Q)) : Calls D 56 (n + 5) us hp Q := by
  obtain ⟨fd, body, h1, h2⟩ : ∃ fd body, FnOk D.KF 56 fd body ["self", "block", "size", "number"] 3 ∧ ∀ L, EvB D (bodyFd fd ["self", "block", "size", "number"] 56 L) (n + 4) body (W_h_put_free D n) := by
    refine ⟨_, _, ⟨⟨_, _, _, by rw [hD]; rfl⟩, by rw [hD]; rfl, rfl, rfl, rfl, rfl, fun vs h => by obtain ⟨a, b, c, rfl⟩ := len3 h; rfl, by decide, rfl, rfl, rfl, by decide, by decide, by decide, by decide⟩, fun L => ?_⟩
    unfold W_h_put_free
    refine EvB.cons (EvS.asg (EvE.call (.cons (EvE.var (i := 2) rfl) AllE.nil) rfl (g_list_number hD) (fn_list_number hD)) ⟨rfl, .inl rfl⟩) ?_
    refine EvB.cons (EvS.ex (EvE.meth (EvE.attr (EvE.var (i := 0) rfl) (at_Heap_memory hD)) (.cons (EvE.var (i := 1) rfl) (.cons (EvE.bin (EvE.var (i := 2) rfl) EvE.intC okAdd) AllE.nil)) (me_Memory_put_word hD))) ?_
    refine EvB.cons (EvS.ex (EvE.meth (EvE.attr (EvE.var (i := 0) rfl) (at_Heap_memory hD)) (.cons (EvE.bin (EvE.var (i := 1) rfl) EvE.intC okAdd) (.cons (EvE.ix (EvE.attr (EvE.var (i := 0) rfl) (at_Heap_free hD)) (EvE.var (i := 3) rfl)) AllE.nil)) (me_Memory_put_word hD))) ?_
    refine EvB.cons (EvS.setI (EvE.attr (EvE.var (i := 0) rfl) (at_Heap_free hD)) (EvE.var (i := 3) rfl) (EvE.var (i := 1) rfl) okSetItem) ?_
    exact EvB.nil
  exact Calls.of_body h1 h2 hu q
/-- Heap.is_free -/
noncomputable def W_h_is_free (D : Wd) (n : Nat) : WS :=
  (W.seq (W.ret (W.bin wEq (W.bin wMod (W.meth D 238 "word" 214 (n + 4) (W.attr 108 "memory" (W.v 0)) [(W.v 1)]) (W.c (.int 2))) (W.c (.int 1)))) W.nil)
theorem c_h_is_free {D : Wd} {P : Params} (hD : D.KF = HK P) {n : Nat} {us : List V} {hp : Hp} {Q : V → Hp → Prop} (hu : us.length = 2)
    (q : W_h_is_free D n (us.map some ++ List.replicate 0 none) hp (bodyPost Q)) : Calls D 63 (n + 5) us hp Q := by
  obtain ⟨fd, body, h1, h2⟩ : ∃ fd body, FnOk D.KF 63 fd body ["self", "block"] 2 ∧ ∀ L, EvB D (bodyFd fd ["self", "block"] 63 L) (n + 4) body (W_h_is_free D n) := by
    refine ⟨_, _, ⟨⟨_, _, _, by rw [hD]; rfl⟩, by rw [hD]; rfl, rfl, rfl, rfl, rfl, fun vs h => by obtain ⟨a, b, rfl⟩ := len2 h; rfl, by decide, rfl, rfl, rfl, by decide, by decide, by decide, by decide⟩, fun L => ?_⟩
    unfold W_h_is_free
    refine EvB.cons (EvS.ret (EvE.cmp (EvE.bin (EvE.meth (EvE.attr (EvE.var (i := 0) rfl) (at_Heap_memory hD)) (.cons (EvE.var (i := 1) rfl) AllE.nil) (me_Memory_word hD)) EvE.intC okMod) EvE.intC okEq (hm := by kernel_rfl))) ?_
    exact EvB.nil
  exact Calls.of_body h1 h2 hu q
/-- Heap.descriptor -/
noncomputable def W_h_descriptor (D : Wd) (n : Nat) : WS :=
  (W.seq (W.ret (W.meth D 238 "word" 214 (n + 4) (W.attr 108 "memory" (W.v 0)) [(W.v 1)])) W.nil)
theorem c_h_descriptor {D : Wd} {P : Params} (hD : D.KF = HK P) {n : Nat} {us : List V} {hp : Hp} {Q : V → Hp → Prop} (hu : us.length = 2)
    (q : W_h_descriptor D n (us.map some ++ List.replicate 0 none) hp (bodyPost Q)) : Calls D 70 (n + 5) us hp Q := by
  obtain ⟨fd, body, h1, h2⟩ : ∃ fd body, FnOk D.KF 70 fd body ["self", "block"] 2 ∧ ∀ L, EvB D (bodyFd fd ["self", "block"] 70 L) (n + 4) body (W_h_descriptor D n) := by
    refine ⟨_, _, ⟨⟨_, _, _, by rw [hD]; rfl⟩, by rw [hD]; rfl, rfl, rfl, rfl, rfl, fun vs h => by obtain ⟨a, b, rfl⟩ := len2 h; rfl, by decide, rfl, rfl, rfl, by decide, by decide, by decide, by decide⟩, fun L => ?_⟩
    unfold W_h_descriptor
    refine EvB.cons (EvS.ret (EvE.meth (EvE.attr (EvE.var (i := 0) rfl) (at_Heap_memory hD)) (.cons (EvE.var (i := 1) rfl) AllE.nil) (me_Memory_word hD))) ?_
    exact EvB.nil
  exact Calls.of_body h1 h2 hu q
/-- Heap.size_of -/
noncomputable def W_h_size_of (D : Wd) (n : Nat) : WS :=
  (W.seq (W.asg (W.one 2) (W.meth D 238 "word" 214 (n + 4) (W.attr 108 "memory" (W.v 0)) [(W.v 1)])) (W.seq (W.ifs (W.t (W.bin wEq (W.bin wMod (W.v 2) (W.c (.int 2))) (W.c (.int 1)))) (W.seq (W.ret (W.bin wSub (W.v 2) (W.c (.int 1)))) W.nil) W.nil) (W.seq (W.ret (W.call D 28 (n + 4) [(W.meth D 238 "word" 214 (n + 4) (W.attr 108 "memory" (W.v 0)) [(W.v 2)])])) W.nil)))
theorem c_h_size_of {D : Wd} {P : Params} (hD : D.KF = HK P) {n : Nat} {us : List V} {hp : Hp} {Q : V → Hp → Prop} (hu : us.length = 2)
    (q : W_h_size_of D n (us.map some ++ List.replicate 1 none) hp (bodyPost Q)) : Calls D 77 (n + 5) us hp Q := by
  obtain ⟨fd, body, h1, h2⟩ : ∃ fd body, FnOk D.KF 77 fd body ["self", "block", "first"] 2 ∧ ∀ L, EvB D (bodyFd fd ["self", "block", "first"] 77 L) (n + 4) body (W_h_size_of D n) := by
    refine ⟨_, _, ⟨⟨_, _, _, by rw [hD]; rfl⟩, by rw [hD]; rfl, rfl, rfl, rfl, rfl, fun vs h => by obtain ⟨a, b, rfl⟩ := len2 h; rfl, by decide, rfl, rfl, rfl, by decide, by decide, by decide, by decide⟩, fun L => ?_⟩
    unfold W_h_size_of
    refine EvB.cons (EvS.asg (EvE.meth (EvE.attr (EvE.var (i := 0) rfl) (at_Heap_memory hD)) (.cons (EvE.var (i := 1) rfl) AllE.nil) (me_Memory_word hD)) ⟨rfl, .inl rfl⟩) ?_
    refine EvB.cons (EvS.ifs (EvT.cmp (EvE.bin (EvE.var (i := 2) rfl) EvE.intC okMod) EvE.intC okEq (hm := by kernel_rfl)) (EvB.cons (EvS.ret (EvE.bin (EvE.var (i := 2) rfl) EvE.intC okSub)) EvB.nil) EvB.nil) ?_
    refine EvB.cons (EvS.ret (EvE.call (.cons (EvE.meth (EvE.attr (EvE.var (i := 0) rfl) (at_Heap_memory hD)) (.cons (EvE.var (i := 2) rfl) AllE.nil) (me_Memory_word hD)) AllE.nil) rfl (g_block_size hD) (fn_block_size hD))) ?_
    exact EvB.nil
  exact Calls.of_body h1 h2 hu q
/-- Heap.take_free -/
noncomputable def W_h_take_free_b0 (D : Wd) (n : Nat) : WS :=
  (W.seq (W.asg (W.one 5) (W.meth D 238 "word" 214 (n + 4) (W.attr 108 "memory" (W.v 0)) [(W.bin wAdd (W.v 4) (W.c (.int 4)))])) (W.seq (W.ifs (W.t (W.bin wGe (W.meth D 108 "size_of" 77 (n + 4) (W.v 0) [(W.v 4)]) (W.v 1))) (W.seq (W.ifs (W.t (W.bin wEq (W.v 3) (W.c (.int 0)))) (W.seq (W.setI wSetItem (W.attr 108 "free" (W.v 0)) (W.v 2) (W.v 5)) W.nil) (W.seq (W.ex (W.meth D 238 "put_word" 221 (n + 4) (W.attr 108 "memory" (W.v 0)) [(W.bin wAdd (W.v 3) (W.c (.int 4))), (W.v 5)])) W.nil)) (W.seq (W.ret (W.v 4)) W.nil)) W.nil) (W.seq (W.asg (W.one 3) (W.v 4)) (W.seq (W.asg (W.one 4) (W.v 5)) W.nil))))
@[simp] theorem W_h_take_free_b0_eq (D : Wd) (n : Nat) (loc : Loc) (hp : Hp) (Q : Fl → Loc → Hp → Prop) : W_h_take_free_b0 D n loc hp Q = (W.seq (W.asg (W.one 5) (W.meth D 238 "word" 214 (n + 4) (W.attr 108 "memory" (W.v 0)) [(W.bin wAdd (W.v 4) (W.c (.int 4)))])) (W.seq (W.ifs (W.t (W.bin wGe (W.meth D 108 "size_of" 77 (n + 4) (W.v 0) [(W.v 4)]) (W.v 1))) (W.seq (W.ifs (W.t (W.bin wEq (W.v 3) (W.c (.int 0)))) (W.seq (W.setI wSetItem (W.attr 108 "free" (W.v 0)) (W.v 2) (W.v 5)) W.nil) (W.seq (W.ex (W.meth D 238 "put_word" 221 (n + 4) (W.attr 108 "memory" (W.v 0)) [(W.bin wAdd (W.v 3) (W.c (.int 4))), (W.v 5)])) W.nil)) (W.seq (W.ret (W.v 4)) W.nil)) W.nil) (W.seq (W.asg (W.one 3) (W.v 4)) (W.seq (W.asg (W.one 4) (W.v 5)) W.nil)))) loc hp Q := rfl
noncomputable def W_h_take_free_b1 (D : Wd) (n : Nat) : WS :=
  (W.seq (W.asg (W.one 3) (W.c (.int 0))) (W.seq (W.asg (W.one 4) (W.bin wIx (W.attr 108 "free" (W.v 0)) (W.v 2))) (W.seq (W.while (W.t (W.bin wNe (W.v 4) (W.c (.int 0)))) (W_h_take_free_b0 D n)) W.nil)))
@[simp] theorem W_h_take_free_b1_eq (D : Wd) (n : Nat) (loc : Loc) (hp : Hp) (Q : Fl → Loc → Hp → Prop) : W_h_take_free_b1 D n loc hp Q = (W.seq (W.asg (W.one 3) (W.c (.int 0))) (W.seq (W.asg (W.one 4) (W.bin wIx (W.attr 108 "free" (W.v 0)) (W.v 2))) (W.seq (W.while (W.t (W.bin wNe (W.v 4) (W.c (.int 0)))) (W_h_take_free_b0 D n)) W.nil))) loc hp Q := rfl
noncomputable def W_h_take_free (D : Wd) (n : Nat) : WS :=
  (W.seq (W.for (W.range [(W.call D 35 (n + 4) [(W.v 1)]), (W.c (.int 4))]) (W.one 2) (W_h_take_free_b1 D n)) (W.seq (W.ret (W.c (.int 0))) W.nil))
theorem c_h_take_free {D : Wd} {P : Params} (hD : D.KF = HK P) {n : Nat} {us : List V} {hp : Hp} {Q : V → Hp → Prop} (hu : us.length = 2)
    (q : W_h_take_free D n (us.map some ++ List.replicate 4 none) hp (bodyPost Q)) : Calls D 84 (n + 5) us hp Q := by
  obtain ⟨fd, body, h1, h2⟩ : ∃ fd body, FnOk D.KF 84 fd body ["self", "size", "number", "before", "block", "following"] 2 ∧ ∀ L, EvB D (bodyFd fd ["self", "size", "number", "before", "block", "following"] 84 L) (n + 4) body (W_h_take_free D n) := by
    refine ⟨_, _, ⟨⟨_, _, _, by rw [hD]; rfl⟩, by rw [hD]; rfl, rfl, rfl, rfl, rfl, fun vs h => by obtain ⟨a, b, rfl⟩ := len2 h; rfl, by decide, rfl, rfl, rfl, by decide, by decide, by decide, by decide⟩, fun L => ?_⟩
    unfold W_h_take_free
    refine EvB.cons (EvS.for (EvI.range (.cons (EvE.call (.cons (EvE.var (i := 1) rfl) AllE.nil) rfl (g_list_number hD) (fn_list_number hD)) (.cons (EvE.gint rfl (g_LISTS hD)) AllE.nil)) rfl (g_range hD) bt_range (by decide)) (EvA.one ⟨rfl, .inl rfl⟩) (EvB.cons (EvS.asg EvE.intC ⟨rfl, .inl rfl⟩) (EvB.cons (EvS.asg (EvE.ix (EvE.attr (EvE.var (i := 0) rfl) (at_Heap_free hD)) (EvE.var (i := 2) rfl)) ⟨rfl, .inl rfl⟩) (EvB.cons (EvS.while (EvT.cmp (EvE.var (i := 4) rfl) EvE.intC okNe (hm := by kernel_rfl)) (EvB.cons (EvS.asg (EvE.meth (EvE.attr (EvE.var (i := 0) rfl) (at_Heap_memory hD)) (.cons (EvE.bin (EvE.var (i := 4) rfl) EvE.intC okAdd) AllE.nil) (me_Memory_word hD)) ⟨rfl, .inl rfl⟩) (EvB.cons (EvS.ifs (EvT.cmp (EvE.meth (EvE.var (i := 0) rfl) (.cons (EvE.var (i := 4) rfl) AllE.nil) (me_Heap_size_of hD)) (EvE.var (i := 1) rfl) okGe (hm := by kernel_rfl)) (EvB.cons (EvS.ifs (EvT.cmp (EvE.var (i := 3) rfl) EvE.intC okEq (hm := by kernel_rfl)) (EvB.cons (EvS.setI (EvE.attr (EvE.var (i := 0) rfl) (at_Heap_free hD)) (EvE.var (i := 2) rfl) (EvE.var (i := 5) rfl) okSetItem) EvB.nil) (EvB.cons (EvS.ex (EvE.meth (EvE.attr (EvE.var (i := 0) rfl) (at_Heap_memory hD)) (.cons (EvE.bin (EvE.var (i := 3) rfl) EvE.intC okAdd) (.cons (EvE.var (i := 5) rfl) AllE.nil)) (me_Memory_put_word hD))) EvB.nil)) (EvB.cons (EvS.ret (EvE.var (i := 4) rfl)) EvB.nil)) EvB.nil) (EvB.cons (EvS.asg (EvE.var (i := 4) rfl) ⟨rfl, .inl rfl⟩) (EvB.cons (EvS.asg (EvE.var (i := 5) rfl) ⟨rfl, .inl rfl⟩) EvB.nil))))) EvB.nil)))) ?_
    refine EvB.cons (EvS.ret EvE.intC) ?_
    exact EvB.nil
  exact Calls.of_body h1 h2 hu q
/-- Heap.alloc -/
noncomputable def W_h_alloc_b0 (D : Wd) (n : Nat) : WS :=
  (W.seq (W.ex (W.meth D 238 "put_word" 221 (n + 4) (W.attr 108 "memory" (W.v 0)) [(W.v 5), (W.c (.int 0))])) W.nil)
@[simp] theorem W_h_alloc_b0_eq (D : Wd) (n : Nat) (loc : Loc) (hp : Hp) (Q : Fl → Loc → Hp → Prop) : W_h_alloc_b0 D n loc hp Q = (W.seq (W.ex (W.meth D 238 "put_word" 221 (n + 4) (W.attr 108 "memory" (W.v 0)) [(W.v 5), (W.c (.int 0))])) W.nil) loc hp Q := rfl
noncomputable def W_h_alloc (D : Wd) (n : Nat) : WS :=
  (W.seq (W.asg (W.one 2) (W.call D 28 (n + 4) [(W.meth D 238 "word" 214 (n + 4) (W.attr 108 "memory" (W.v 0)) [(W.v 1)])])) (W.seq (W.asg (W.one 3) (W.meth D 108 "take_free" 84 (n + 4) (W.v 0) [(W.v 2)])) (W.seq (W.ifs (W.t (W.bin wEq (W.v 3) (W.c (.int 0)))) (W.seq (W.ret (W.c (.int 0))) W.nil) W.nil) (W.seq (W.asg (W.one 4) (W.bin wSub (W.meth D 108 "size_of" 77 (n + 4) (W.v 0) [(W.v 3)]) (W.v 2))) (W.seq (W.ifs (W.t (W.bin wGt (W.v 4) (W.c (.int 0)))) (W.seq (W.ex (W.meth D 108 "put_free" 56 (n + 4) (W.v 0) [(W.bin wAdd (W.v 3) (W.v 2)), (W.v 4)])) W.nil) W.nil) (W.seq (W.ex (W.meth D 238 "put_word" 221 (n + 4) (W.attr 108 "memory" (W.v 0)) [(W.v 3), (W.v 1)])) (W.seq (W.for (W.range [(W.bin wAdd (W.v 3) (W.c (.int 4))), (W.bin wAdd (W.v 3) (W.v 2)), (W.c (.int 4))]) (W.one 5) (W_h_alloc_b0 D n)) (W.seq (W.ret (W.bin wAdd (W.v 3) (W.c (.int 8)))) W.nil))))))))
theorem c_h_alloc {D : Wd} {P : Params} (hD : D.KF = HK P) {n : Nat} {us : List V} {hp : Hp} {Q : V → Hp → Prop} (hu : us.length = 2)
    (q : W_h_alloc D n (us.map some ++ List.replicate 4 none) hp (bodyPost Q)) : Calls D 91 (n + 5) us hp Q := by
  obtain ⟨fd, body, h1, h2⟩ : ∃ fd body, FnOk D.KF 91 fd body ["self", "descriptor", "size", "block", "rest", "address"] 2 ∧ ∀ L, EvB D (bodyFd fd ["self", "descriptor", "size", "block", "rest", "address"] 91 L) (n + 4) body (W_h_alloc D n) := by
    refine ⟨_, _, ⟨⟨_, _, _, by rw [hD]; rfl⟩, by rw [hD]; rfl, rfl, rfl, rfl, rfl, fun vs h => by obtain ⟨a, b, rfl⟩ := len2 h; rfl, by decide, rfl, rfl, rfl, by decide, by decide, by decide, by decide⟩, fun L => ?_⟩
    unfold W_h_alloc
    refine EvB.cons (EvS.asg (EvE.call (.cons (EvE.meth (EvE.attr (EvE.var (i := 0) rfl) (at_Heap_memory hD)) (.cons (EvE.var (i := 1) rfl) AllE.nil) (me_Memory_word hD)) AllE.nil) rfl (g_block_size hD) (fn_block_size hD)) ⟨rfl, .inl rfl⟩) ?_
    refine EvB.cons (EvS.asg (EvE.meth (EvE.var (i := 0) rfl) (.cons (EvE.var (i := 2) rfl) AllE.nil) (me_Heap_take_free hD)) ⟨rfl, .inl rfl⟩) ?_
    refine EvB.cons (EvS.ifs (EvT.cmp (EvE.var (i := 3) rfl) EvE.intC okEq (hm := by kernel_rfl)) (EvB.cons (EvS.ret EvE.intC) EvB.nil) EvB.nil) ?_
    refine EvB.cons (EvS.asg (EvE.bin (EvE.meth (EvE.var (i := 0) rfl) (.cons (EvE.var (i := 3) rfl) AllE.nil) (me_Heap_size_of hD)) (EvE.var (i := 2) rfl) okSub) ⟨rfl, .inl rfl⟩) ?_
    refine EvB.cons (EvS.ifs (EvT.cmp (EvE.var (i := 4) rfl) EvE.intC okGt (hm := by kernel_rfl)) (EvB.cons (EvS.ex (EvE.meth (EvE.var (i := 0) rfl) (.cons (EvE.bin (EvE.var (i := 3) rfl) (EvE.var (i := 2) rfl) okAdd) (.cons (EvE.var (i := 4) rfl) AllE.nil)) (me_Heap_put_free hD))) EvB.nil) EvB.nil) ?_
    refine EvB.cons (EvS.ex (EvE.meth (EvE.attr (EvE.var (i := 0) rfl) (at_Heap_memory hD)) (.cons (EvE.var (i := 3) rfl) (.cons (EvE.var (i := 1) rfl) AllE.nil)) (me_Memory_put_word hD))) ?_
    refine EvB.cons (EvS.for (EvI.range (.cons (EvE.bin (EvE.var (i := 3) rfl) EvE.intC okAdd) (.cons (EvE.bin (EvE.var (i := 3) rfl) (EvE.var (i := 2) rfl) okAdd) (.cons EvE.intC AllE.nil))) rfl (g_range hD) bt_range (by decide)) (EvA.one ⟨rfl, .inl rfl⟩) (EvB.cons (EvS.ex (EvE.meth (EvE.attr (EvE.var (i := 0) rfl) (at_Heap_memory hD)) (.cons (EvE.var (i := 5) rfl) (.cons EvE.intC AllE.nil)) (me_Memory_put_word hD))) EvB.nil)) ?_
    refine EvB.cons (EvS.ret (EvE.bin (EvE.var (i := 3) rfl) (EvE.gint rfl (g_HEADER hD)) okAdd)) ?_
    exact EvB.nil
  exact Calls.of_body h1 h2 hu q
/-- Heap.blocks -/
noncomputable def W_h_blocks_b0 (D : Wd) (n : Nat) : WS :=
  (W.seq (W.asg (W.one 3) (W.meth D 108 "size_of" 77 (n + 4) (W.v 0) [(W.v 2)])) (W.seq (W.ifs (W.t (W.meth D 108 "is_free" 63 (n + 4) (W.v 0) [(W.v 2)])) (W.seq (W.ex (W.methB isL wAppend (W.v 1) [(W.app wTup [(W.v 2), (W.v 3), (W.c .none)])])) W.nil) (W.seq (W.ex (W.methB isL wAppend (W.v 1) [(W.app wTup [(W.v 2), (W.v 3), (W.meth D 108 "descriptor" 70 (n + 4) (W.v 0) [(W.v 2)])])])) W.nil)) (W.seq (W.aug 2 (W.v 3)) W.nil)))
@[simp] theorem W_h_blocks_b0_eq (D : Wd) (n : Nat) (loc : Loc) (hp : Hp) (Q : Fl → Loc → Hp → Prop) : W_h_blocks_b0 D n loc hp Q = (W.seq (W.asg (W.one 3) (W.meth D 108 "size_of" 77 (n + 4) (W.v 0) [(W.v 2)])) (W.seq (W.ifs (W.t (W.meth D 108 "is_free" 63 (n + 4) (W.v 0) [(W.v 2)])) (W.seq (W.ex (W.methB isL wAppend (W.v 1) [(W.app wTup [(W.v 2), (W.v 3), (W.c .none)])])) W.nil) (W.seq (W.ex (W.methB isL wAppend (W.v 1) [(W.app wTup [(W.v 2), (W.v 3), (W.meth D 108 "descriptor" 70 (n + 4) (W.v 0) [(W.v 2)])])])) W.nil)) (W.seq (W.aug 2 (W.v 3)) W.nil))) loc hp Q := rfl
noncomputable def W_h_blocks (D : Wd) (n : Nat) : WS :=
  (W.seq (W.asg (W.one 1) (W.app wList [])) (W.seq (W.asg (W.one 2) (W.attr 108 "start" (W.v 0))) (W.seq (W.while (W.t (W.bin wLt (W.v 2) (W.attr 108 "limit" (W.v 0)))) (W_h_blocks_b0 D n)) (W.seq (W.ret (W.v 1)) W.nil))))
theorem c_h_blocks {D : Wd} {P : Params} (hD : D.KF = HK P) {n : Nat} {us : List V} {hp : Hp} {Q : V → Hp → Prop} (hu : us.length = 1)
    (q : W_h_blocks D n (us.map some ++ List.replicate 3 none) hp (bodyPost Q)) : Calls D 98 (n + 5) us hp Q := by
  obtain ⟨fd, body, h1, h2⟩ : ∃ fd body, FnOk D.KF 98 fd body ["self", "found", "block", "size"] 1 ∧ ∀ L, EvB D (bodyFd fd ["self", "found", "block", "size"] 98 L) (n + 4) body (W_h_blocks D n) := by
    refine ⟨_, _, ⟨⟨_, _, _, by rw [hD]; rfl⟩, by rw [hD]; rfl, rfl, rfl, rfl, rfl, fun vs h => by obtain ⟨a, rfl⟩ := len1 h; rfl, by decide, rfl, rfl, rfl, by decide, by decide, by decide, by decide⟩, fun L => ?_⟩
    unfold W_h_blocks
    refine EvB.cons (EvS.asg (EvE.list AllE.nil) ⟨rfl, .inl rfl⟩) ?_
    refine EvB.cons (EvS.asg (EvE.attr (EvE.var (i := 0) rfl) (at_Heap_start hD)) ⟨rfl, .inl rfl⟩) ?_
    refine EvB.cons (EvS.while (EvT.cmp (EvE.var (i := 2) rfl) (EvE.attr (EvE.var (i := 0) rfl) (at_Heap_limit hD)) okLt (hm := by kernel_rfl)) (EvB.cons (EvS.asg (EvE.meth (EvE.var (i := 0) rfl) (.cons (EvE.var (i := 2) rfl) AllE.nil) (me_Heap_size_of hD)) ⟨rfl, .inl rfl⟩) (EvB.cons (EvS.ifs (EvT.val (EvE.meth (EvE.var (i := 0) rfl) (.cons (EvE.var (i := 2) rfl) AllE.nil) (me_Heap_is_free hD))) (EvB.cons (EvS.ex (EvE.methB (EvE.var (i := 1) rfl) (.cons (EvE.tup (.cons (EvE.var (i := 2) rfl) (.cons (EvE.var (i := 3) rfl) (.cons EvE.noneC AllE.nil)))) AllE.nil) PySem.F.plainAttrs_list PySem.F.slot_list_append PySem.F.type_list_append isL_ok okAppend)) EvB.nil) (EvB.cons (EvS.ex (EvE.methB (EvE.var (i := 1) rfl) (.cons (EvE.tup (.cons (EvE.var (i := 2) rfl) (.cons (EvE.var (i := 3) rfl) (.cons (EvE.meth (EvE.var (i := 0) rfl) (.cons (EvE.var (i := 2) rfl) AllE.nil) (me_Heap_descriptor hD)) AllE.nil)))) AllE.nil) PySem.F.plainAttrs_list PySem.F.slot_list_append PySem.F.type_list_append isL_ok okAppend)) EvB.nil)) (EvB.cons (EvS.aug (EvE.var (i := 3) rfl) ⟨rfl, .inl rfl⟩) EvB.nil)))) ?_
    refine EvB.cons (EvS.ret (EvE.var (i := 1) rfl)) ?_
    exact EvB.nil
  exact Calls.of_body h1 h2 hu q
/-- told_size -/
noncomputable def W_told_size (D : Wd) (n : Nat) : WS :=
  (W.seq (W.asg (W.one 2) (W.meth D 238 "word" 214 (n + 4) (W.attr 108 "memory" (W.v 0)) [(W.v 1)])) (W.seq (W.ifs (W.t (W.bin wEq (W.bin wMod (W.v 2) (W.c (.int 2))) (W.c (.int 1)))) (W.seq (W.asg (W.one 3) (W.bin wSub (W.v 2) (W.c (.int 1)))) W.nil) (W.seq (W.ifs (W.or [(W.t (W.bin wEq (W.v 2) (W.c (.int 0)))), (W.t (W.bin wNe (W.bin wMod (W.v 2) (W.c (.int 4))) (W.c (.int 0)))), (W.t (W.bin wGe (W.v 2) (W.attr 108 "start" (W.v 0))))]) (W.seq (W.ret (W.c (.int 0))) W.nil) (W.seq (W.asg (W.one 3) (W.call D 28 (n + 4) [(W.meth D 238 "word" 214 (n + 4) (W.attr 108 "memory" (W.v 0)) [(W.v 2)])])) W.nil)) W.nil)) (W.seq (W.ifs (W.or [(W.t (W.bin wLt (W.v 3) (W.c (.int 16)))), (W.t (W.bin wNe (W.bin wMod (W.v 3) (W.c (.int 16))) (W.c (.int 0)))), (W.t (W.bin wGt (W.bin wAdd (W.v 1) (W.v 3)) (W.attr 108 "limit" (W.v 0))))]) (W.seq (W.ret (W.c (.int 0))) W.nil) W.nil) (W.seq (W.ret (W.v 3)) W.nil))))
theorem c_told_size {D : Wd} {P : Params} (hD : D.KF = HK P) {n : Nat} {us : List V} {hp : Hp} {Q : V → Hp → Prop} (hu : us.length = 2)
    (q : W_told_size D n (us.map some ++ List.replicate 2 none) hp (bodyPost Q)) : Calls D 119 (n + 5) us hp Q := by
  obtain ⟨fd, body, h1, h2⟩ : ∃ fd body, FnOk D.KF 119 fd body ["heap", "block", "first", "size"] 2 ∧ ∀ L, EvB D (bodyFd fd ["heap", "block", "first", "size"] 119 L) (n + 4) body (W_told_size D n) := by
    refine ⟨_, _, ⟨⟨_, _, _, by rw [hD]; rfl⟩, by rw [hD]; rfl, rfl, rfl, rfl, rfl, fun vs h => by obtain ⟨a, b, rfl⟩ := len2 h; rfl, by decide, rfl, rfl, rfl, by decide, by decide, by decide, by decide⟩, fun L => ?_⟩
    unfold W_told_size
    refine EvB.cons (EvS.asg (EvE.meth (EvE.attr (EvE.var (i := 0) rfl) (at_Heap_memory hD)) (.cons (EvE.var (i := 1) rfl) AllE.nil) (me_Memory_word hD)) ⟨rfl, .inl rfl⟩) ?_
    refine EvB.cons (EvS.ifs (EvT.cmp (EvE.bin (EvE.var (i := 2) rfl) EvE.intC okMod) EvE.intC okEq (hm := by kernel_rfl)) (EvB.cons (EvS.asg (EvE.bin (EvE.var (i := 2) rfl) EvE.intC okSub) ⟨rfl, .inl rfl⟩) EvB.nil) (EvB.cons (EvS.ifs (EvT.or (.cons (EvT.cmp (EvE.var (i := 2) rfl) EvE.intC okEq (hm := by kernel_rfl)) (.cons (EvT.cmp (EvE.bin (EvE.var (i := 2) rfl) EvE.intC okMod) EvE.intC okNe (hm := by kernel_rfl)) (.cons (EvT.cmp (EvE.var (i := 2) rfl) (EvE.attr (EvE.var (i := 0) rfl) (at_Heap_start hD)) okGe (hm := by kernel_rfl)) AllT.nil)))) (EvB.cons (EvS.ret EvE.intC) EvB.nil) (EvB.cons (EvS.asg (EvE.call (.cons (EvE.meth (EvE.attr (EvE.var (i := 0) rfl) (at_Heap_memory hD)) (.cons (EvE.var (i := 2) rfl) AllE.nil) (me_Memory_word hD)) AllE.nil) rfl (g_block_size hD) (fn_block_size hD)) ⟨rfl, .inl rfl⟩) EvB.nil)) EvB.nil)) ?_
    refine EvB.cons (EvS.ifs (EvT.or (.cons (EvT.cmp (EvE.var (i := 3) rfl) (EvE.gint rfl (g_GRAIN hD)) okLt (hm := by kernel_rfl)) (.cons (EvT.cmp (EvE.bin (EvE.var (i := 3) rfl) (EvE.gint rfl (g_GRAIN hD)) okMod) EvE.intC okNe (hm := by kernel_rfl)) (.cons (EvT.cmp (EvE.bin (EvE.var (i := 1) rfl) (EvE.var (i := 3) rfl) okAdd) (EvE.attr (EvE.var (i := 0) rfl) (at_Heap_limit hD)) okGt (hm := by kernel_rfl)) AllT.nil)))) (EvB.cons (EvS.ret EvE.intC) EvB.nil) EvB.nil) ?_
    refine EvB.cons (EvS.ret (EvE.var (i := 3) rfl)) ?_
    exact EvB.nil
  exact Calls.of_body h1 h2 hu q
/-- walk_faults -/
noncomputable def W_walk_faults_b0 (D : Wd) (n : Nat) : WS :=
  (W.seq (W.asg (W.one 5) (W.call D 119 (n + 4) [(W.v 0), (W.v 4)])) (W.seq (W.ifs (W.t (W.bin wEq (W.v 5) (W.c (.int 0)))) (W.seq (W.ex (W.methB isL wAppend (W.v 1) [(W.app wTup [(W.v 4), (W.c (.str "bad_block"))])])) (W.seq (W.ret (W.app wTup [(W.v 1), (W.v 2)])) W.nil)) W.nil) (W.seq (W.ifs (W.t (W.meth D 108 "is_free" 63 (n + 4) (W.v 0) [(W.v 4)])) (W.seq (W.ifs (W.t (W.v 3)) (W.seq (W.ex (W.methB isL wAppend (W.v 1) [(W.app wTup [(W.v 4), (W.c (.str "not_joined"))])])) W.nil) W.nil) (W.seq (W.setI wSetItem (W.v 2) (W.v 4) (W.v 5)) W.nil)) (W.seq (W.ifs (W.t (W.bin wNe (W.meth D 238 "word" 214 (n + 4) (W.attr 108 "memory" (W.v 0)) [(W.bin wAdd (W.v 4) (W.c (.int 4)))]) (W.c (.int 0)))) (W.seq (W.ex (W.methB isL wAppend (W.v 1) [(W.app wTup [(W.v 4), (W.c (.str "marked"))])])) W.nil) W.nil) W.nil)) (W.seq (W.asg (W.one 3) (W.bin wIn (W.v 4) (W.v 2))) (W.seq (W.aug 4 (W.v 5)) W.nil)))))
@[simp] theorem W_walk_faults_b0_eq (D : Wd) (n : Nat) (loc : Loc) (hp : Hp) (Q : Fl → Loc → Hp → Prop) : W_walk_faults_b0 D n loc hp Q = (W.seq (W.asg (W.one 5) (W.call D 119 (n + 4) [(W.v 0), (W.v 4)])) (W.seq (W.ifs (W.t (W.bin wEq (W.v 5) (W.c (.int 0)))) (W.seq (W.ex (W.methB isL wAppend (W.v 1) [(W.app wTup [(W.v 4), (W.c (.str "bad_block"))])])) (W.seq (W.ret (W.app wTup [(W.v 1), (W.v 2)])) W.nil)) W.nil) (W.seq (W.ifs (W.t (W.meth D 108 "is_free" 63 (n + 4) (W.v 0) [(W.v 4)])) (W.seq (W.ifs (W.t (W.v 3)) (W.seq (W.ex (W.methB isL wAppend (W.v 1) [(W.app wTup [(W.v 4), (W.c (.str "not_joined"))])])) W.nil) W.nil) (W.seq (W.setI wSetItem (W.v 2) (W.v 4) (W.v 5)) W.nil)) (W.seq (W.ifs (W.t (W.bin wNe (W.meth D 238 "word" 214 (n + 4) (W.attr 108 "memory" (W.v 0)) [(W.bin wAdd (W.v 4) (W.c (.int 4)))]) (W.c (.int 0)))) (W.seq (W.ex (W.methB isL wAppend (W.v 1) [(W.app wTup [(W.v 4), (W.c (.str "marked"))])])) W.nil) W.nil) W.nil)) (W.seq (W.asg (W.one 3) (W.bin wIn (W.v 4) (W.v 2))) (W.seq (W.aug 4 (W.v 5)) W.nil))))) loc hp Q := rfl
noncomputable def W_walk_faults (D : Wd) (n : Nat) : WS :=
  (W.seq (W.asg (W.one 1) (W.app wList [])) (W.seq (W.asg (W.one 2) W.dict0) (W.seq (W.asg (W.one 3) (W.c (.bool false))) (W.seq (W.asg (W.one 4) (W.attr 108 "start" (W.v 0))) (W.seq (W.while (W.t (W.bin wLt (W.v 4) (W.attr 108 "limit" (W.v 0)))) (W_walk_faults_b0 D n)) (W.seq (W.ret (W.app wTup [(W.v 1), (W.v 2)])) W.nil))))))
theorem c_walk_faults {D : Wd} {P : Params} (hD : D.KF = HK P) {n : Nat} {us : List V} {hp : Hp} {Q : V → Hp → Prop} (hu : us.length = 1)
    (q : W_walk_faults D n (us.map some ++ List.replicate 5 none) hp (bodyPost Q)) : Calls D 126 (n + 5) us hp Q := by
  obtain ⟨fd, body, h1, h2⟩ : ∃ fd body, FnOk D.KF 126 fd body ["heap", "faults", "free", "before_free", "block", "size"] 1 ∧ ∀ L, EvB D (bodyFd fd ["heap", "faults", "free", "before_free", "block", "size"] 126 L) (n + 4) body (W_walk_faults D n) := by
    refine ⟨_, _, ⟨⟨_, _, _, by rw [hD]; rfl⟩, by rw [hD]; rfl, rfl, rfl, rfl, rfl, fun vs h => by obtain ⟨a, rfl⟩ := len1 h; rfl, by decide, rfl, rfl, rfl, by decide, by decide, by decide, by decide⟩, fun L => ?_⟩
    unfold W_walk_faults
    refine EvB.cons (EvS.asg (EvE.list AllE.nil) ⟨rfl, .inl rfl⟩) ?_
    refine EvB.cons (EvS.asg EvE.dict0 ⟨rfl, .inl rfl⟩) ?_
    refine EvB.cons (EvS.asg EvE.boolC ⟨rfl, .inl rfl⟩) ?_
    refine EvB.cons (EvS.asg (EvE.attr (EvE.var (i := 0) rfl) (at_Heap_start hD)) ⟨rfl, .inl rfl⟩) ?_
    refine EvB.cons (EvS.while (EvT.cmp (EvE.var (i := 4) rfl) (EvE.attr (EvE.var (i := 0) rfl) (at_Heap_limit hD)) okLt (hm := by kernel_rfl)) (EvB.cons (EvS.asg (EvE.call (.cons (EvE.var (i := 0) rfl) (.cons (EvE.var (i := 4) rfl) AllE.nil)) rfl (g_told_size hD) (fn_told_size hD)) ⟨rfl, .inl rfl⟩) (EvB.cons (EvS.ifs (EvT.cmp (EvE.var (i := 5) rfl) EvE.intC okEq (hm := by kernel_rfl)) (EvB.cons (EvS.ex (EvE.methB (EvE.var (i := 1) rfl) (.cons (EvE.tup (.cons (EvE.var (i := 4) rfl) (.cons EvE.strC AllE.nil))) AllE.nil) PySem.F.plainAttrs_list PySem.F.slot_list_append PySem.F.type_list_append isL_ok okAppend)) (EvB.cons (EvS.ret (EvE.tup (.cons (EvE.var (i := 1) rfl) (.cons (EvE.var (i := 2) rfl) AllE.nil)))) EvB.nil)) EvB.nil) (EvB.cons (EvS.ifs (EvT.val (EvE.meth (EvE.var (i := 0) rfl) (.cons (EvE.var (i := 4) rfl) AllE.nil) (me_Heap_is_free hD))) (EvB.cons (EvS.ifs (EvT.val (EvE.var (i := 3) rfl)) (EvB.cons (EvS.ex (EvE.methB (EvE.var (i := 1) rfl) (.cons (EvE.tup (.cons (EvE.var (i := 4) rfl) (.cons EvE.strC AllE.nil))) AllE.nil) PySem.F.plainAttrs_list PySem.F.slot_list_append PySem.F.type_list_append isL_ok okAppend)) EvB.nil) EvB.nil) (EvB.cons (EvS.setI (EvE.var (i := 2) rfl) (EvE.var (i := 4) rfl) (EvE.var (i := 5) rfl) okSetItem) EvB.nil)) (EvB.cons (EvS.ifs (EvT.cmp (EvE.meth (EvE.attr (EvE.var (i := 0) rfl) (at_Heap_memory hD)) (.cons (EvE.bin (EvE.var (i := 4) rfl) EvE.intC okAdd) AllE.nil) (me_Memory_word hD)) EvE.intC okNe (hm := by kernel_rfl)) (EvB.cons (EvS.ex (EvE.methB (EvE.var (i := 1) rfl) (.cons (EvE.tup (.cons (EvE.var (i := 4) rfl) (.cons EvE.strC AllE.nil))) AllE.nil) PySem.F.plainAttrs_list PySem.F.slot_list_append PySem.F.type_list_append isL_ok okAppend)) EvB.nil) EvB.nil) EvB.nil)) (EvB.cons (EvS.asg (EvE.cmp (EvE.var (i := 4) rfl) (EvE.var (i := 2) rfl) okIn (hm := by kernel_rfl)) ⟨rfl, .inl rfl⟩) (EvB.cons (EvS.aug (EvE.var (i := 5) rfl) ⟨rfl, .inl rfl⟩) EvB.nil)))))) ?_
    refine EvB.cons (EvS.ret (EvE.tup (.cons (EvE.var (i := 1) rfl) (.cons (EvE.var (i := 2) rfl) AllE.nil)))) ?_
    exact EvB.nil
  exact Calls.of_body h1 h2 hu q
/-- list_faults -/
noncomputable def W_list_faults_b0 (D : Wd) (n : Nat) : WS :=
  (W.seq (W.ifs (W.t (W.bin wNotIn (W.v 5) (W.v 3))) (W.seq (W.ex (W.methB isL wAppend (W.v 2) [(W.app wTup [(W.v 5), (W.c (.str "not_listed"))])])) W.nil) W.nil) W.nil)
@[simp] theorem W_list_faults_b0_eq (D : Wd) (n : Nat) (loc : Loc) (hp : Hp) (Q : Fl → Loc → Hp → Prop) : W_list_faults_b0 D n loc hp Q = (W.seq (W.ifs (W.t (W.bin wNotIn (W.v 5) (W.v 3))) (W.seq (W.ex (W.methB isL wAppend (W.v 2) [(W.app wTup [(W.v 5), (W.c (.str "not_listed"))])])) W.nil) W.nil) W.nil) loc hp Q := rfl
noncomputable def W_list_faults_b1 (D : Wd) (n : Nat) : WS :=
  (W.seq (W.ifs (W.t (W.bin wNotIn (W.v 5) (W.v 1))) (W.seq (W.ex (W.methB isL wAppend (W.v 2) [(W.app wTup [(W.v 5), (W.c (.str "not_free"))])])) (W.seq W.brk W.nil)) W.nil) (W.seq (W.ifs (W.t (W.bin wIn (W.v 5) (W.v 3))) (W.seq (W.ex (W.methB isL wAppend (W.v 2) [(W.app wTup [(W.v 5), (W.c (.str "listed_twice"))])])) (W.seq W.brk W.nil)) W.nil) (W.seq (W.setI wSetItem (W.v 3) (W.v 5) (W.c (.bool true))) (W.seq (W.ifs (W.t (W.bin wNe (W.call D 35 (n + 4) [(W.bin wIx (W.v 1) (W.v 5))]) (W.v 4))) (W.seq (W.ex (W.methB isL wAppend (W.v 2) [(W.app wTup [(W.v 5), (W.c (.str "wrong_list"))])])) W.nil) W.nil) (W.seq (W.asg (W.one 5) (W.meth D 238 "word" 214 (n + 4) (W.attr 108 "memory" (W.v 0)) [(W.bin wAdd (W.v 5) (W.c (.int 4)))])) W.nil)))))
@[simp] theorem W_list_faults_b1_eq (D : Wd) (n : Nat) (loc : Loc) (hp : Hp) (Q : Fl → Loc → Hp → Prop) : W_list_faults_b1 D n loc hp Q = (W.seq (W.ifs (W.t (W.bin wNotIn (W.v 5) (W.v 1))) (W.seq (W.ex (W.methB isL wAppend (W.v 2) [(W.app wTup [(W.v 5), (W.c (.str "not_free"))])])) (W.seq W.brk W.nil)) W.nil) (W.seq (W.ifs (W.t (W.bin wIn (W.v 5) (W.v 3))) (W.seq (W.ex (W.methB isL wAppend (W.v 2) [(W.app wTup [(W.v 5), (W.c (.str "listed_twice"))])])) (W.seq W.brk W.nil)) W.nil) (W.seq (W.setI wSetItem (W.v 3) (W.v 5) (W.c (.bool true))) (W.seq (W.ifs (W.t (W.bin wNe (W.call D 35 (n + 4) [(W.bin wIx (W.v 1) (W.v 5))]) (W.v 4))) (W.seq (W.ex (W.methB isL wAppend (W.v 2) [(W.app wTup [(W.v 5), (W.c (.str "wrong_list"))])])) W.nil) W.nil) (W.seq (W.asg (W.one 5) (W.meth D 238 "word" 214 (n + 4) (W.attr 108 "memory" (W.v 0)) [(W.bin wAdd (W.v 5) (W.c (.int 4)))])) W.nil))))) loc hp Q := rfl
noncomputable def W_list_faults_b2 (D : Wd) (n : Nat) : WS :=
  (W.seq (W.asg (W.one 5) (W.bin wIx (W.attr 108 "free" (W.v 0)) (W.v 4))) (W.seq (W.while (W.t (W.bin wNe (W.v 5) (W.c (.int 0)))) (W_list_faults_b1 D n)) W.nil))
@[simp] theorem W_list_faults_b2_eq (D : Wd) (n : Nat) (loc : Loc) (hp : Hp) (Q : Fl → Loc → Hp → Prop) : W_list_faults_b2 D n loc hp Q = (W.seq (W.asg (W.one 5) (W.bin wIx (W.attr 108 "free" (W.v 0)) (W.v 4))) (W.seq (W.while (W.t (W.bin wNe (W.v 5) (W.c (.int 0)))) (W_list_faults_b1 D n)) W.nil)) loc hp Q := rfl
noncomputable def W_list_faults (D : Wd) (n : Nat) : WS :=
  (W.seq (W.asg (W.one 2) (W.app wList [])) (W.seq (W.asg (W.one 3) W.dict0) (W.seq (W.for (W.range [(W.c (.int 4))]) (W.one 4) (W_list_faults_b2 D n)) (W.seq (W.for (W.iter (W.app wSorted [(W.v 1)])) (W.one 5) (W_list_faults_b0 D n)) (W.seq (W.ret (W.v 2)) W.nil)))))
theorem c_list_faults {D : Wd} {P : Params} (hD : D.KF = HK P) {n : Nat} {us : List V} {hp : Hp} {Q : V → Hp → Prop} (hu : us.length = 2)
    (q : W_list_faults D n (us.map some ++ List.replicate 4 none) hp (bodyPost Q)) : Calls D 133 (n + 5) us hp Q := by
  obtain ⟨fd, body, h1, h2⟩ : ∃ fd body, FnOk D.KF 133 fd body ["heap", "free", "faults", "seen", "number", "block"] 2 ∧ ∀ L, EvB D (bodyFd fd ["heap", "free", "faults", "seen", "number", "block"] 133 L) (n + 4) body (W_list_faults D n) := by
    refine ⟨_, _, ⟨⟨_, _, _, by rw [hD]; rfl⟩, by rw [hD]; rfl, rfl, rfl, rfl, rfl, fun vs h => by obtain ⟨a, b, rfl⟩ := len2 h; rfl, by decide, rfl, rfl, rfl, by decide, by decide, by decide, by decide⟩, fun L => ?_⟩
    unfold W_list_faults
    refine EvB.cons (EvS.asg (EvE.list AllE.nil) ⟨rfl, .inl rfl⟩) ?_
    refine EvB.cons (EvS.asg EvE.dict0 ⟨rfl, .inl rfl⟩) ?_
    refine EvB.cons (EvS.for (EvI.range (.cons (EvE.gint rfl (g_LISTS hD)) AllE.nil) rfl (g_range hD) bt_range (by decide)) (EvA.one ⟨rfl, .inl rfl⟩) (EvB.cons (EvS.asg (EvE.ix (EvE.attr (EvE.var (i := 0) rfl) (at_Heap_free hD)) (EvE.var (i := 4) rfl)) ⟨rfl, .inl rfl⟩) (EvB.cons (EvS.while (EvT.cmp (EvE.var (i := 5) rfl) EvE.intC okNe (hm := by kernel_rfl)) (EvB.cons (EvS.ifs (EvT.cmp (EvE.var (i := 5) rfl) (EvE.var (i := 1) rfl) okNotIn (hm := by kernel_rfl)) (EvB.cons (EvS.ex (EvE.methB (EvE.var (i := 2) rfl) (.cons (EvE.tup (.cons (EvE.var (i := 5) rfl) (.cons EvE.strC AllE.nil))) AllE.nil) PySem.F.plainAttrs_list PySem.F.slot_list_append PySem.F.type_list_append isL_ok okAppend)) (EvB.cons EvS.brk EvB.nil)) EvB.nil) (EvB.cons (EvS.ifs (EvT.cmp (EvE.var (i := 5) rfl) (EvE.var (i := 3) rfl) okIn (hm := by kernel_rfl)) (EvB.cons (EvS.ex (EvE.methB (EvE.var (i := 2) rfl) (.cons (EvE.tup (.cons (EvE.var (i := 5) rfl) (.cons EvE.strC AllE.nil))) AllE.nil) PySem.F.plainAttrs_list PySem.F.slot_list_append PySem.F.type_list_append isL_ok okAppend)) (EvB.cons EvS.brk EvB.nil)) EvB.nil) (EvB.cons (EvS.setI (EvE.var (i := 3) rfl) (EvE.var (i := 5) rfl) EvE.boolC okSetItem) (EvB.cons (EvS.ifs (EvT.cmp (EvE.call (.cons (EvE.ix (EvE.var (i := 1) rfl) (EvE.var (i := 5) rfl)) AllE.nil) rfl (g_list_number hD) (fn_list_number hD)) (EvE.var (i := 4) rfl) okNe (hm := by kernel_rfl)) (EvB.cons (EvS.ex (EvE.methB (EvE.var (i := 2) rfl) (.cons (EvE.tup (.cons (EvE.var (i := 5) rfl) (.cons EvE.strC AllE.nil))) AllE.nil) PySem.F.plainAttrs_list PySem.F.slot_list_append PySem.F.type_list_append isL_ok okAppend)) EvB.nil) EvB.nil) (EvB.cons (EvS.asg (EvE.meth (EvE.attr (EvE.var (i := 0) rfl) (at_Heap_memory hD)) (.cons (EvE.bin (EvE.var (i := 5) rfl) EvE.intC okAdd) AllE.nil) (me_Memory_word hD)) ⟨rfl, .inl rfl⟩) EvB.nil)))))) EvB.nil))) ?_
    refine EvB.cons (EvS.for (EvI.list (EvE.callB (.cons (EvE.var (i := 1) rfl) AllE.nil) okSorted rfl (g_sorted hD) bt_sorted (by decide))) (EvA.one ⟨rfl, .inl rfl⟩) (EvB.cons (EvS.ifs (EvT.cmp (EvE.var (i := 5) rfl) (EvE.var (i := 3) rfl) okNotIn (hm := by kernel_rfl)) (EvB.cons (EvS.ex (EvE.methB (EvE.var (i := 2) rfl) (.cons (EvE.tup (.cons (EvE.var (i := 5) rfl) (.cons EvE.strC AllE.nil))) AllE.nil) PySem.F.plainAttrs_list PySem.F.slot_list_append PySem.F.type_list_append isL_ok okAppend)) EvB.nil) EvB.nil) EvB.nil)) ?_
    refine EvB.cons (EvS.ret (EvE.var (i := 2) rfl)) ?_
    exact EvB.nil
  exact Calls.of_body h1 h2 hu q
/-- heap_faults -/
noncomputable def W_heap_faults (D : Wd) (n : Nat) : WS :=
  (W.seq (W.asg (W.many [1, 2]) (W.call D 126 (n + 4) [(W.v 0)])) (W.seq (W.ifs (W.and [(W.t (W.bin wGt (W.app wLen [(W.v 1)]) (W.c (.int 0)))), (W.t (W.bin wEq (W.bin wIx (W.bin wIx (W.v 1) (W.un wNeg (W.c (.int 1)))) (W.c (.int 1))) (W.c (.str "bad_block"))))]) (W.seq (W.ret (W.v 1)) W.nil) W.nil) (W.seq (W.ret (W.bin wAdd (W.v 1) (W.call D 133 (n + 4) [(W.v 0), (W.v 2)]))) W.nil)))
theorem c_heap_faults {D : Wd} {P : Params} (hD : D.KF = HK P) {n : Nat} {us : List V} {hp : Hp} {Q : V → Hp → Prop} (hu : us.length = 1)
    (q : W_heap_faults D n (us.map some ++ List.replicate 2 none) hp (bodyPost Q)) : Calls D 140 (n + 5) us hp Q := by
  obtain ⟨fd, body, h1, h2⟩ : ∃ fd body, FnOk D.KF 140 fd body ["heap", "walked", "free"] 1 ∧ ∀ L, EvB D (bodyFd fd ["heap", "walked", "free"] 140 L) (n + 4) body (W_heap_faults D n) := by
    refine ⟨_, _, ⟨⟨_, _, _, by rw [hD]; rfl⟩, by rw [hD]; rfl, rfl, rfl, rfl, rfl, fun vs h => by obtain ⟨a, rfl⟩ := len1 h; rfl, by decide, rfl, rfl, rfl, by decide, by decide, by decide, by decide⟩, fun L => ?_⟩
    unfold W_heap_faults
    refine EvB.cons (EvS.asgT (EvE.call (.cons (EvE.var (i := 0) rfl) AllE.nil) rfl (g_walk_faults hD) (fn_walk_faults hD)) ⟨⟨_, _, rfl, ⟨rfl, .inl rfl⟩⟩, ⟨_, _, rfl, ⟨rfl, .inl rfl⟩⟩, trivial⟩) ?_
    refine EvB.cons (EvS.ifs (EvT.and (.cons (EvT.cmp (EvE.callB (.cons (EvE.var (i := 1) rfl) AllE.nil) okLen rfl (g_len hD) bt_len (by decide)) EvE.intC okGt (hm := by kernel_rfl)) (.cons (EvT.cmp (EvE.ix (EvE.ix (EvE.var (i := 1) rfl) (EvE.un EvE.intC okNeg)) EvE.intC) EvE.strC okEq (hm := by kernel_rfl)) AllT.nil))) (EvB.cons (EvS.ret (EvE.var (i := 1) rfl)) EvB.nil) EvB.nil) ?_
    refine EvB.cons (EvS.ret (EvE.bin (EvE.var (i := 1) rfl) (EvE.call (.cons (EvE.var (i := 0) rfl) (.cons (EvE.var (i := 2) rfl) AllE.nil)) rfl (g_list_faults hD) (fn_list_faults hD)) okAdd)) ?_
    exact EvB.nil
  exact Calls.of_body h1 h2 hu q
/-- used_bytes -/
noncomputable def W_used_bytes_b0 (D : Wd) (n : Nat) : WS :=
  (W.seq (W.ifs (W.t (W.bin wIsNot (W.v 4) (W.c .none))) (W.seq (W.aug 1 (W.v 3)) W.nil) W.nil) W.nil)
@[simp] theorem W_used_bytes_b0_eq (D : Wd) (n : Nat) (loc : Loc) (hp : Hp) (Q : Fl → Loc → Hp → Prop) : W_used_bytes_b0 D n loc hp Q = (W.seq (W.ifs (W.t (W.bin wIsNot (W.v 4) (W.c .none))) (W.seq (W.aug 1 (W.v 3)) W.nil) W.nil) W.nil) loc hp Q := rfl
noncomputable def W_used_bytes (D : Wd) (n : Nat) : WS :=
  (W.seq (W.asg (W.one 1) (W.c (.int 0))) (W.seq (W.for (W.iter (W.meth D 108 "blocks" 98 (n + 4) (W.v 0) [])) (W.many [2, 3, 4]) (W_used_bytes_b0 D n)) (W.seq (W.ret (W.v 1)) W.nil)))
theorem c_used_bytes {D : Wd} {P : Params} (hD : D.KF = HK P) {n : Nat} {us : List V} {hp : Hp} {Q : V → Hp → Prop} (hu : us.length = 1)
    (q : W_used_bytes D n (us.map some ++ List.replicate 4 none) hp (bodyPost Q)) : Calls D 147 (n + 5) us hp Q := by
  obtain ⟨fd, body, h1, h2⟩ : ∃ fd body, FnOk D.KF 147 fd body ["heap", "total", "block", "size", "descriptor"] 1 ∧ ∀ L, EvB D (bodyFd fd ["heap", "total", "block", "size", "descriptor"] 147 L) (n + 4) body (W_used_bytes D n) := by
    refine ⟨_, _, ⟨⟨_, _, _, by rw [hD]; rfl⟩, by rw [hD]; rfl, rfl, rfl, rfl, rfl, fun vs h => by obtain ⟨a, rfl⟩ := len1 h; rfl, by decide, rfl, rfl, rfl, by decide, by decide, by decide, by decide⟩, fun L => ?_⟩
    unfold W_used_bytes
    refine EvB.cons (EvS.asg EvE.intC ⟨rfl, .inl rfl⟩) ?_
    refine EvB.cons (EvS.for (EvI.list (EvE.meth (EvE.var (i := 0) rfl) AllE.nil (me_Heap_blocks hD))) (EvA.many ⟨⟨_, _, rfl, ⟨rfl, .inl rfl⟩⟩, ⟨_, _, rfl, ⟨rfl, .inl rfl⟩⟩, ⟨_, _, rfl, ⟨rfl, .inl rfl⟩⟩, trivial⟩) (EvB.cons (EvS.ifs (EvT.cmp (EvE.var (i := 4) rfl) EvE.noneC okIsNot (hm := by kernel_rfl)) (EvB.cons (EvS.aug (EvE.var (i := 3) rfl) ⟨rfl, .inl rfl⟩) EvB.nil) EvB.nil) EvB.nil)) ?_
    refine EvB.cons (EvS.ret (EvE.var (i := 1) rfl)) ?_
    exact EvB.nil
  exact Calls.of_body h1 h2 hu q
/-- largest_free -/
noncomputable def W_largest_free_b0 (D : Wd) (n : Nat) : WS :=
  (W.seq (W.ifs (W.t (W.bin wIs (W.v 4) (W.c .none))) (W.seq (W.asg (W.one 1) (W.app wMax [(W.v 1), (W.v 3)])) W.nil) W.nil) W.nil)
@[simp] theorem W_largest_free_b0_eq (D : Wd) (n : Nat) (loc : Loc) (hp : Hp) (Q : Fl → Loc → Hp → Prop) : W_largest_free_b0 D n loc hp Q = (W.seq (W.ifs (W.t (W.bin wIs (W.v 4) (W.c .none))) (W.seq (W.asg (W.one 1) (W.app wMax [(W.v 1), (W.v 3)])) W.nil) W.nil) W.nil) loc hp Q := rfl
noncomputable def W_largest_free (D : Wd) (n : Nat) : WS :=
  (W.seq (W.asg (W.one 1) (W.c (.int 0))) (W.seq (W.for (W.iter (W.meth D 108 "blocks" 98 (n + 4) (W.v 0) [])) (W.many [2, 3, 4]) (W_largest_free_b0 D n)) (W.seq (W.ret (W.v 1)) W.nil)))
theorem c_largest_free {D : Wd} {P : Params} (hD : D.KF = HK P) {n : Nat} {us : List V} {hp : Hp} {Q : V → Hp → Prop} (hu : us.length = 1)
    (q : W_largest_free D n (us.map some ++ List.replicate 4 none) hp (bodyPost Q)) : Calls D 154 (n + 5) us hp Q := by
  obtain ⟨fd, body, h1, h2⟩ : ∃ fd body, FnOk D.KF 154 fd body ["heap", "largest", "block", "size", "descriptor"] 1 ∧ ∀ L, EvB D (bodyFd fd ["heap", "largest", "block", "size", "descriptor"] 154 L) (n + 4) body (W_largest_free D n) := by
    refine ⟨_, _, ⟨⟨_, _, _, by rw [hD]; rfl⟩, by rw [hD]; rfl, rfl, rfl, rfl, rfl, fun vs h => by obtain ⟨a, rfl⟩ := len1 h; rfl, by decide, rfl, rfl, rfl, by decide, by decide, by decide, by decide⟩, fun L => ?_⟩
    unfold W_largest_free
    refine EvB.cons (EvS.asg EvE.intC ⟨rfl, .inl rfl⟩) ?_
    refine EvB.cons (EvS.for (EvI.list (EvE.meth (EvE.var (i := 0) rfl) AllE.nil (me_Heap_blocks hD))) (EvA.many ⟨⟨_, _, rfl, ⟨rfl, .inl rfl⟩⟩, ⟨_, _, rfl, ⟨rfl, .inl rfl⟩⟩, ⟨_, _, rfl, ⟨rfl, .inl rfl⟩⟩, trivial⟩) (EvB.cons (EvS.ifs (EvT.cmp (EvE.var (i := 4) rfl) EvE.noneC okIs (hm := by kernel_rfl)) (EvB.cons (EvS.asg (EvE.callB (.cons (EvE.var (i := 1) rfl) (.cons (EvE.var (i := 3) rfl) AllE.nil)) okMax rfl (g_max hD) bt_max (by decide)) ⟨rfl, .inl rfl⟩) EvB.nil) EvB.nil) EvB.nil)) ?_
    refine EvB.cons (EvS.ret (EvE.var (i := 1) rfl)) ?_
    exact EvB.nil
  exact Calls.of_body h1 h2 hu q
/-- Memory.place -/
noncomputable def W_m_place (D : Wd) (n : Nat) : WS :=
  (W.seq (W.ifs (W.or [(W.t (W.bin wLt (W.v 1) (W.c (.int 0)))), (W.t (W.bin wGe (W.v 1) (W.attr 238 "size" (W.v 0))))]) W.dead W.nil) (W.seq (W.ret (W.bin wDiv (W.v 1) (W.c (.int 4)))) W.nil))
theorem c_m_place {D : Wd} {P : Params} (hD : D.KF = HK P) {n : Nat} {us : List V} {hp : Hp} {Q : V → Hp → Prop} (hu : us.length = 2)
    (q : W_m_place D n (us.map some ++ List.replicate 0 none) hp (bodyPost Q)) : Calls D 207 (n + 5) us hp Q := by
  obtain ⟨fd, body, h1, h2⟩ : ∃ fd body, FnOk D.KF 207 fd body ["self", "address"] 2 ∧ ∀ L, EvB D (bodyFd fd ["self", "address"] 207 L) (n + 4) body (W_m_place D n) := by
    refine ⟨_, _, ⟨⟨_, _, _, by rw [hD]; rfl⟩, by rw [hD]; rfl, rfl, rfl, rfl, rfl, fun vs h => by obtain ⟨a, b, rfl⟩ := len2 h; rfl, by decide, rfl, rfl, rfl, by decide, by decide, by decide, by decide⟩, fun L => ?_⟩
    unfold W_m_place
    refine EvB.cons (EvS.ifs (EvT.or (.cons (EvT.cmp (EvE.var (i := 1) rfl) EvE.intC okLt (hm := by kernel_rfl)) (.cons (EvT.cmp (EvE.var (i := 1) rfl) (EvE.attr (EvE.var (i := 0) rfl) (at_Memory_size hD)) okGe (hm := by kernel_rfl)) AllT.nil))) EvB.dead EvB.nil) ?_
    refine EvB.cons (EvS.ret (EvE.bin (EvE.var (i := 1) rfl) EvE.intC okDiv)) ?_
    exact EvB.nil
  exact Calls.of_body h1 h2 hu q
/-- Memory.word -/
noncomputable def W_m_word (D : Wd) (n : Nat) : WS :=
  (W.seq (W.ret (W.methB isD wGet (W.attr 238 "words" (W.v 0)) [(W.meth D 238 "place" 207 (n + 4) (W.v 0) [(W.v 1)]), (W.c (.int 0))])) W.nil)
theorem c_m_word {D : Wd} {P : Params} (hD : D.KF = HK P) {n : Nat} {us : List V} {hp : Hp} {Q : V → Hp → Prop} (hu : us.length = 2)
    (q : W_m_word D n (us.map some ++ List.replicate 0 none) hp (bodyPost Q)) : Calls D 214 (n + 5) us hp Q := by
  obtain ⟨fd, body, h1, h2⟩ : ∃ fd body, FnOk D.KF 214 fd body ["self", "address"] 2 ∧ ∀ L, EvB D (bodyFd fd ["self", "address"] 214 L) (n + 4) body (W_m_word D n) := by
    refine ⟨_, _, ⟨⟨_, _, _, by rw [hD]; rfl⟩, by rw [hD]; rfl, rfl, rfl, rfl, rfl, fun vs h => by obtain ⟨a, b, rfl⟩ := len2 h; rfl, by decide, rfl, rfl, rfl, by decide, by decide, by decide, by decide⟩, fun L => ?_⟩
    unfold W_m_word
    refine EvB.cons (EvS.ret (EvE.methB (EvE.attr (EvE.var (i := 0) rfl) (at_Memory_words hD)) (.cons (EvE.meth (EvE.var (i := 0) rfl) (.cons (EvE.var (i := 1) rfl) AllE.nil) (me_Memory_place hD)) (.cons EvE.intC AllE.nil)) PySem.F.plainAttrs_dict PySem.F.slot_dict_get PySem.F.type_dict_get isD_ok okGet)) ?_
    exact EvB.nil
  exact Calls.of_body h1 h2 hu q
/-- Memory.put_word -/
noncomputable def W_m_put_word (D : Wd) (n : Nat) : WS :=
  (W.seq (W.setI wSetItem (W.attr 238 "words" (W.v 0)) (W.meth D 238 "place" 207 (n + 4) (W.v 0) [(W.v 1)]) (W.bin wMod (W.v 2) (W.c (.int 4294967296)))) W.nil)
theorem c_m_put_word {D : Wd} {P : Params} (hD : D.KF = HK P) {n : Nat} {us : List V} {hp : Hp} {Q : V → Hp → Prop} (hu : us.length = 3)
    (q : W_m_put_word D n (us.map some ++ List.replicate 0 none) hp (bodyPost Q)) : Calls D 221 (n + 5) us hp Q := by
  obtain ⟨fd, body, h1, h2⟩ : ∃ fd body, FnOk D.KF 221 fd body ["self", "address", "value"] 3 ∧ ∀ L, EvB D (bodyFd fd ["self", "address", "value"] 221 L) (n + 4) body (W_m_put_word D n) := by
    refine ⟨_, _, ⟨⟨_, _, _, by rw [hD]; rfl⟩, by rw [hD]; rfl, rfl, rfl, rfl, rfl, fun vs h => by obtain ⟨a, b, c, rfl⟩ := len3 h; rfl, by decide, rfl, rfl, rfl, by decide, by decide, by decide, by decide⟩, fun L => ?_⟩
    unfold W_m_put_word
    refine EvB.cons (EvS.setI (EvE.attr (EvE.var (i := 0) rfl) (at_Memory_words hD)) (EvE.meth (EvE.var (i := 0) rfl) (.cons (EvE.var (i := 1) rfl) AllE.nil) (me_Memory_place hD)) (EvE.bin (EvE.var (i := 2) rfl) (EvE.gint rfl (g_WORD hD)) okMod) okSetItem) ?_
    exact EvB.nil
  exact Calls.of_body h1 h2 hu q
/-- free_runs -/
noncomputable def W_free_runs_b0 (D : Wd) (n : Nat) : WS :=
  (W.seq (W.ifs (W.and [(W.t (W.bin wIsNot (W.v 7) (W.c .none))), (W.t (W.bin wNe (W.meth D 238 "word" 214 (n + 4) (W.v 1) [(W.bin wAdd (W.v 5) (W.c (.int 4)))]) (W.c (.int 0))))]) (W.seq (W.ex (W.meth D 238 "put_word" 221 (n + 4) (W.v 1) [(W.bin wAdd (W.v 5) (W.c (.int 4))), (W.c (.int 0))])) (W.seq W.cont W.nil)) W.nil) (W.seq (W.ifs (W.t (W.bin wIsNot (W.v 7) (W.c .none))) (W.seq (W.aug 3 (W.v 6)) W.nil) W.nil) (W.seq (W.ifs (W.and [(W.t (W.bin wGt (W.app wLen [(W.v 2)]) (W.c (.int 0)))), (W.t (W.bin wEq (W.v 4) (W.v 5)))]) (W.seq (W.asg (W.many [8, 9]) (W.methB isL wPop (W.v 2) [])) (W.seq (W.ex (W.methB isL wAppend (W.v 2) [(W.app wTup [(W.v 8), (W.bin wAdd (W.v 9) (W.v 6))])])) W.nil)) (W.seq (W.ex (W.methB isL wAppend (W.v 2) [(W.app wTup [(W.v 5), (W.v 6)])])) W.nil)) (W.seq (W.asg (W.one 4) (W.bin wAdd (W.v 5) (W.v 6))) W.nil))))
@[simp] theorem W_free_runs_b0_eq (D : Wd) (n : Nat) (loc : Loc) (hp : Hp) (Q : Fl → Loc → Hp → Prop) : W_free_runs_b0 D n loc hp Q = (W.seq (W.ifs (W.and [(W.t (W.bin wIsNot (W.v 7) (W.c .none))), (W.t (W.bin wNe (W.meth D 238 "word" 214 (n + 4) (W.v 1) [(W.bin wAdd (W.v 5) (W.c (.int 4)))]) (W.c (.int 0))))]) (W.seq (W.ex (W.meth D 238 "put_word" 221 (n + 4) (W.v 1) [(W.bin wAdd (W.v 5) (W.c (.int 4))), (W.c (.int 0))])) (W.seq W.cont W.nil)) W.nil) (W.seq (W.ifs (W.t (W.bin wIsNot (W.v 7) (W.c .none))) (W.seq (W.aug 3 (W.v 6)) W.nil) W.nil) (W.seq (W.ifs (W.and [(W.t (W.bin wGt (W.app wLen [(W.v 2)]) (W.c (.int 0)))), (W.t (W.bin wEq (W.v 4) (W.v 5)))]) (W.seq (W.asg (W.many [8, 9]) (W.methB isL wPop (W.v 2) [])) (W.seq (W.ex (W.methB isL wAppend (W.v 2) [(W.app wTup [(W.v 8), (W.bin wAdd (W.v 9) (W.v 6))])])) W.nil)) (W.seq (W.ex (W.methB isL wAppend (W.v 2) [(W.app wTup [(W.v 5), (W.v 6)])])) W.nil)) (W.seq (W.asg (W.one 4) (W.bin wAdd (W.v 5) (W.v 6))) W.nil)))) loc hp Q := rfl
noncomputable def W_free_runs (D : Wd) (n : Nat) : WS :=
  (W.seq (W.asg (W.one 1) (W.attr 108 "memory" (W.v 0))) (W.seq (W.asg (W.one 2) (W.app wList [])) (W.seq (W.asg (W.one 3) (W.c (.int 0))) (W.seq (W.asg (W.one 4) (W.c (.int 0))) (W.seq (W.for (W.iter (W.meth D 108 "blocks" 98 (n + 4) (W.v 0) [])) (W.many [5, 6, 7]) (W_free_runs_b0 D n)) (W.seq (W.ret (W.app wTup [(W.v 2), (W.v 3)])) W.nil))))))
theorem c_free_runs {D : Wd} {P : Params} (hD : D.KF = HK P) {n : Nat} {us : List V} {hp : Hp} {Q : V → Hp → Prop} (hu : us.length = 1)
    (q : W_free_runs D n (us.map some ++ List.replicate 9 none) hp (bodyPost Q)) : Calls D 249 (n + 5) us hp Q := by
  obtain ⟨fd, body, h1, h2⟩ : ∃ fd body, FnOk D.KF 249 fd body ["heap", "memory", "runs", "freed", "behind", "block", "size", "descriptor", "start", "length"] 1 ∧ ∀ L, EvB D (bodyFd fd ["heap", "memory", "runs", "freed", "behind", "block", "size", "descriptor", "start", "length"] 249 L) (n + 4) body (W_free_runs D n) := by
    refine ⟨_, _, ⟨⟨_, _, _, by rw [hD]; rfl⟩, by rw [hD]; rfl, rfl, rfl, rfl, rfl, fun vs h => by obtain ⟨a, rfl⟩ := len1 h; rfl, by decide, rfl, rfl, rfl, by decide, by decide, by decide, by decide⟩, fun L => ?_⟩
    unfold W_free_runs
    refine EvB.cons (EvS.asg (EvE.attr (EvE.var (i := 0) rfl) (at_Heap_memory hD)) ⟨rfl, .inl rfl⟩) ?_
    refine EvB.cons (EvS.asg (EvE.list AllE.nil) ⟨rfl, .inl rfl⟩) ?_
    refine EvB.cons (EvS.asg EvE.intC ⟨rfl, .inl rfl⟩) ?_
    refine EvB.cons (EvS.asg EvE.intC ⟨rfl, .inl rfl⟩) ?_
    refine EvB.cons (EvS.for (EvI.list (EvE.meth (EvE.var (i := 0) rfl) AllE.nil (me_Heap_blocks hD))) (EvA.many ⟨⟨_, _, rfl, ⟨rfl, .inl rfl⟩⟩, ⟨_, _, rfl, ⟨rfl, .inl rfl⟩⟩, ⟨_, _, rfl, ⟨rfl, .inl rfl⟩⟩, trivial⟩) (EvB.cons (EvS.ifs (EvT.and (.cons (EvT.cmp (EvE.var (i := 7) rfl) EvE.noneC okIsNot (hm := by kernel_rfl)) (.cons (EvT.cmp (EvE.meth (EvE.var (i := 1) rfl) (.cons (EvE.bin (EvE.var (i := 5) rfl) EvE.intC okAdd) AllE.nil) (me_Memory_word hD)) EvE.intC okNe (hm := by kernel_rfl)) AllT.nil))) (EvB.cons (EvS.ex (EvE.meth (EvE.var (i := 1) rfl) (.cons (EvE.bin (EvE.var (i := 5) rfl) EvE.intC okAdd) (.cons EvE.intC AllE.nil)) (me_Memory_put_word hD))) (EvB.cons EvS.cont EvB.nil)) EvB.nil) (EvB.cons (EvS.ifs (EvT.cmp (EvE.var (i := 7) rfl) EvE.noneC okIsNot (hm := by kernel_rfl)) (EvB.cons (EvS.aug (EvE.var (i := 6) rfl) ⟨rfl, .inl rfl⟩) EvB.nil) EvB.nil) (EvB.cons (EvS.ifs (EvT.and (.cons (EvT.cmp (EvE.callB (.cons (EvE.var (i := 2) rfl) AllE.nil) okLen rfl (g_len hD) bt_len (by decide)) EvE.intC okGt (hm := by kernel_rfl)) (.cons (EvT.cmp (EvE.var (i := 4) rfl) (EvE.var (i := 5) rfl) okEq (hm := by kernel_rfl)) AllT.nil))) (EvB.cons (EvS.asgT (EvE.methB (EvE.var (i := 2) rfl) AllE.nil PySem.F.plainAttrs_list PySem.F.slot_list_pop PySem.F.type_list_pop isL_ok okPop) ⟨⟨_, _, rfl, ⟨rfl, .inl rfl⟩⟩, ⟨_, _, rfl, ⟨rfl, .inl rfl⟩⟩, trivial⟩) (EvB.cons (EvS.ex (EvE.methB (EvE.var (i := 2) rfl) (.cons (EvE.tup (.cons (EvE.var (i := 8) rfl) (.cons (EvE.bin (EvE.var (i := 9) rfl) (EvE.var (i := 6) rfl) okAdd) AllE.nil))) AllE.nil) PySem.F.plainAttrs_list PySem.F.slot_list_append PySem.F.type_list_append isL_ok okAppend)) EvB.nil)) (EvB.cons (EvS.ex (EvE.methB (EvE.var (i := 2) rfl) (.cons (EvE.tup (.cons (EvE.var (i := 5) rfl) (.cons (EvE.var (i := 6) rfl) AllE.nil))) AllE.nil) PySem.F.plainAttrs_list PySem.F.slot_list_append PySem.F.type_list_append isL_ok okAppend)) EvB.nil)) (EvB.cons (EvS.asg (EvE.bin (EvE.var (i := 5) rfl) (EvE.var (i := 6) rfl) okAdd) ⟨rfl, .inl rfl⟩) EvB.nil))))) ?_
    refine EvB.cons (EvS.ret (EvE.tup (.cons (EvE.var (i := 2) rfl) (.cons (EvE.var (i := 3) rfl) AllE.nil)))) ?_
    exact EvB.nil
  exact Calls.of_body h1 h2 hu q
/-- sweep -/
noncomputable def W_sweep_b0 (D : Wd) (n : Nat) : WS :=
  (W.seq (W.ex (W.meth D 108 "put_free" 56 (n + 4) (W.v 0) [(W.bin wIx (W.bin wIx (W.v 1) (W.v 3)) (W.c (.int 0))), (W.bin wIx (W.bin wIx (W.v 1) (W.v 3)) (W.c (.int 1)))])) W.nil)
@[simp] theorem W_sweep_b0_eq (D : Wd) (n : Nat) (loc : Loc) (hp : Hp) (Q : Fl → Loc → Hp → Prop) : W_sweep_b0 D n loc hp Q = (W.seq (W.ex (W.meth D 108 "put_free" 56 (n + 4) (W.v 0) [(W.bin wIx (W.bin wIx (W.v 1) (W.v 3)) (W.c (.int 0))), (W.bin wIx (W.bin wIx (W.v 1) (W.v 3)) (W.c (.int 1)))])) W.nil) loc hp Q := rfl
noncomputable def W_sweep (D : Wd) (n : Nat) : WS :=
  (W.seq (W.asg (W.many [1, 2]) (W.call D 249 (n + 4) [(W.v 0)])) (W.seq (W.setF 108 "free" (W.v 0) (W.bin wRep (W.app wList [(W.c (.int 0))]) (W.c (.int 4)))) (W.seq (W.for (W.range [(W.bin wSub (W.app wLen [(W.v 1)]) (W.c (.int 1))), (W.un wNeg (W.c (.int 1))), (W.un wNeg (W.c (.int 1)))]) (W.one 3) (W_sweep_b0 D n)) (W.seq (W.ret (W.v 2)) W.nil))))
theorem c_sweep {D : Wd} {P : Params} (hD : D.KF = HK P) {n : Nat} {us : List V} {hp : Hp} {Q : V → Hp → Prop} (hu : us.length = 1)
    (q : W_sweep D n (us.map some ++ List.replicate 3 none) hp (bodyPost Q)) : Calls D 256 (n + 5) us hp Q := by
  obtain ⟨fd, body, h1, h2⟩ : ∃ fd body, FnOk D.KF 256 fd body ["heap", "runs", "freed", "number"] 1 ∧ ∀ L, EvB D (bodyFd fd ["heap", "runs", "freed", "number"] 256 L) (n + 4) body (W_sweep D n) := by
    refine ⟨_, _, ⟨⟨_, _, _, by rw [hD]; rfl⟩, by rw [hD]; rfl, rfl, rfl, rfl, rfl, fun vs h => by obtain ⟨a, rfl⟩ := len1 h; rfl, by decide, rfl, rfl, rfl, by decide, by decide, by decide, by decide⟩, fun L => ?_⟩
    unfold W_sweep
    refine EvB.cons (EvS.asgT (EvE.call (.cons (EvE.var (i := 0) rfl) AllE.nil) rfl (g_free_runs hD) (fn_free_runs hD)) ⟨⟨_, _, rfl, ⟨rfl, .inl rfl⟩⟩, ⟨_, _, rfl, ⟨rfl, .inl rfl⟩⟩, trivial⟩) ?_
    refine EvB.cons (EvS.setF (EvE.var (i := 0) rfl) (EvE.bin (EvE.list (.cons EvE.intC AllE.nil)) (EvE.gint rfl (g_LISTS hD)) okRep) (se_Heap_free hD)) ?_
    refine EvB.cons (EvS.for (EvI.range (.cons (EvE.bin (EvE.callB (.cons (EvE.var (i := 1) rfl) AllE.nil) okLen rfl (g_len hD) bt_len (by decide)) EvE.intC okSub) (.cons (EvE.un EvE.intC okNeg) (.cons (EvE.un EvE.intC okNeg) AllE.nil))) rfl (g_range hD) bt_range (by decide)) (EvA.one ⟨rfl, .inl rfl⟩) (EvB.cons (EvS.ex (EvE.meth (EvE.var (i := 0) rfl) (.cons (EvE.ix (EvE.ix (EvE.var (i := 1) rfl) (EvE.var (i := 3) rfl)) EvE.intC) (.cons (EvE.ix (EvE.ix (EvE.var (i := 1) rfl) (EvE.var (i := 3) rfl)) EvE.intC) AllE.nil)) (me_Heap_put_free hD))) EvB.nil)) ?_
    refine EvB.cons (EvS.ret (EvE.var (i := 2) rfl)) ?_
    exact EvB.nil
  exact Calls.of_body h1 h2 hu q
/-- _law_pick -/
noncomputable def W_law_pick (D : Wd) (n : Nat) : WS :=
  (W.seq (W.ifs (W.t (W.bin wEq (W.bin wIx (W.v 0) (W.c (.int 2))) (W.c (.int 0)))) (W.seq (W.ifs (W.t (W.bin wEq (W.bin wIx (W.v 0) (W.c (.int 1))) (W.app wLen [(W.bin wIx (W.v 0) (W.c (.int 0)))]))) (W.seq (W.setI wSetItem (W.v 0) (W.c (.int 3)) (W.bin wMod (W.bin wMulR (W.bin wIx (W.v 0) (W.c (.int 3))) (W.c (.int 48271))) (W.c (.int 2147483647)))) (W.seq (W.ret (W.bin wMod (W.bin wDiv (W.bin wIx (W.v 0) (W.c (.int 3))) (W.c (.int 7))) (W.v 1))) W.nil)) W.nil) (W.seq (W.asg (W.one 2) (W.bin wIx (W.bin wIx (W.v 0) (W.c (.int 0))) (W.bin wIx (W.v 0) (W.c (.int 1))))) (W.seq (W.setI wSetItem (W.v 0) (W.c (.int 1)) (W.bin wAdd (W.bin wIx (W.v 0) (W.c (.int 1))) (W.c (.int 1)))) (W.seq (W.setI wSetItem (W.v 0) (W.c (.int 2)) (W.ite (W.t (W.bin wGe (W.v 2) (W.c (.int 0)))) (W.v 2) (W.un wNeg (W.v 2)))) W.nil)))) W.nil) (W.seq (W.asg (W.one 3) (W.bin wMod (W.bin wIx (W.v 0) (W.c (.int 2))) (W.v 1))) (W.seq (W.setI wSetItem (W.v 0) (W.c (.int 2)) (W.bin wDiv (W.bin wIx (W.v 0) (W.c (.int 2))) (W.v 1))) (W.seq (W.ret (W.v 3)) W.nil))))
theorem c_law_pick {D : Wd} {P : Params} (hD : D.KF = HK P) {n : Nat} {us : List V} {hp : Hp} {Q : V → Hp → Prop} (hu : us.length = 2)
    (q : W_law_pick D n (us.map some ++ List.replicate 2 none) hp (bodyPost Q)) : Calls D 263 (n + 5) us hp Q := by
  obtain ⟨fd, body, h1, h2⟩ : ∃ fd body, FnOk D.KF 263 fd body ["hand", "limit", "figure", "digit"] 2 ∧ ∀ L, EvB D (bodyFd fd ["hand", "limit", "figure", "digit"] 263 L) (n + 4) body (W_law_pick D n) := by
    refine ⟨_, _, ⟨⟨_, _, _, by rw [hD]; rfl⟩, by rw [hD]; rfl, rfl, rfl, rfl, rfl, fun vs h => by obtain ⟨a, b, rfl⟩ := len2 h; rfl, by decide, rfl, rfl, rfl, by decide, by decide, by decide, by decide⟩, fun L => ?_⟩
    unfold W_law_pick
    refine EvB.cons (EvS.ifs (EvT.cmp (EvE.ix (EvE.var (i := 0) rfl) EvE.intC) EvE.intC okEq (hm := by kernel_rfl)) (EvB.cons (EvS.ifs (EvT.cmp (EvE.ix (EvE.var (i := 0) rfl) EvE.intC) (EvE.callB (.cons (EvE.ix (EvE.var (i := 0) rfl) EvE.intC) AllE.nil) okLen rfl (g_len hD) bt_len (by decide)) okEq (hm := by kernel_rfl)) (EvB.cons (EvS.setI (EvE.var (i := 0) rfl) EvE.intC (EvE.bin (EvE.bin (EvE.ix (EvE.var (i := 0) rfl) EvE.intC) EvE.intC okMulR) EvE.intC okMod) okSetItem) (EvB.cons (EvS.ret (EvE.bin (EvE.bin (EvE.ix (EvE.var (i := 0) rfl) EvE.intC) EvE.intC okDiv) (EvE.var (i := 1) rfl) okMod)) EvB.nil)) EvB.nil) (EvB.cons (EvS.asg (EvE.ix (EvE.ix (EvE.var (i := 0) rfl) EvE.intC) (EvE.ix (EvE.var (i := 0) rfl) EvE.intC)) ⟨rfl, .inl rfl⟩) (EvB.cons (EvS.setI (EvE.var (i := 0) rfl) EvE.intC (EvE.bin (EvE.ix (EvE.var (i := 0) rfl) EvE.intC) EvE.intC okAdd) okSetItem) (EvB.cons (EvS.setI (EvE.var (i := 0) rfl) EvE.intC (EvE.ite (EvT.cmp (EvE.var (i := 2) rfl) EvE.intC okGe (hm := by kernel_rfl)) (EvE.var (i := 2) rfl) (EvE.un (EvE.var (i := 2) rfl) okNeg)) okSetItem) EvB.nil)))) EvB.nil) ?_
    refine EvB.cons (EvS.asg (EvE.bin (EvE.ix (EvE.var (i := 0) rfl) EvE.intC) (EvE.var (i := 1) rfl) okMod) ⟨rfl, .inl rfl⟩) ?_
    refine EvB.cons (EvS.setI (EvE.var (i := 0) rfl) EvE.intC (EvE.bin (EvE.ix (EvE.var (i := 0) rfl) EvE.intC) (EvE.var (i := 1) rfl) okDiv) okSetItem) ?_
    refine EvB.cons (EvS.ret (EvE.var (i := 3) rfl)) ?_
    exact EvB.nil
  exact Calls.of_body h1 h2 hu q
/-- _law_area -/
noncomputable def W_law_area_b0 (D : Wd) (n : Nat) : WS :=
  (W.seq (W.ex (W.meth D 238 "put_word" 221 (n + 4) (W.v 2) [(W.bin wAdd (W.bin wAdd (W.v 7) (W.c (.int 20))) (W.bin wMulL (W.c (.int 4)) (W.v 8))), (W.bin wIx (W.v 6) (W.v 8))])) W.nil)
@[simp] theorem W_law_area_b0_eq (D : Wd) (n : Nat) (loc : Loc) (hp : Hp) (Q : Fl → Loc → Hp → Prop) : W_law_area_b0 D n loc hp Q = (W.seq (W.ex (W.meth D 238 "put_word" 221 (n + 4) (W.v 2) [(W.bin wAdd (W.bin wAdd (W.v 7) (W.c (.int 20))) (W.bin wMulL (W.c (.int 4)) (W.v 8))), (W.bin wIx (W.v 6) (W.v 8))])) W.nil) loc hp Q := rfl
noncomputable def W_law_area_b1 (D : Wd) (n : Nat) : WS :=
  (W.seq (W.asg (W.one 5) (W.bin wMulL (W.c (.int 4)) (W.call D 263 (n + 4) [(W.v 0), (W.c (.int 12))]))) (W.seq (W.asg (W.one 6) (W.comp (W.range [(W.bin wDiv (W.v 5) (W.c (.int 4)))]) 1 [0] (W.one 0) (W.t (W.bin wEq (W.call D 263 (n + 4) [(W.v 1), (W.c (.int 2))]) (W.c (.int 0)))) (W.bin wMulL (W.c (.int 4)) (W.v 0)))) (W.seq (W.asg (W.one 7) (W.bin wAdd (W.c (.int 64)) (W.bin wMulL (W.c (.int 96)) (W.v 4)))) (W.seq (W.ex (W.meth D 238 "put_word" 221 (n + 4) (W.v 2) [(W.v 7), (W.v 5)])) (W.seq (W.for (W.range [(W.app wLen [(W.v 6)])]) (W.one 8) (W_law_area_b0 D n)) (W.seq (W.ex (W.meth D 238 "put_word" 221 (n + 4) (W.v 2) [(W.bin wAdd (W.bin wAdd (W.v 7) (W.c (.int 20))) (W.bin wMulL (W.c (.int 4)) (W.app wLen [(W.v 6)]))), (W.bin wSub (W.bin wPow (W.c (.int 2)) (W.c (.int 32))) (W.c (.int 1)))])) (W.seq (W.ex (W.methB isL wAppend (W.v 3) [(W.app wTup [(W.v 7), (W.v 5), (W.v 6)])])) W.nil)))))))
@[simp] theorem W_law_area_b1_eq (D : Wd) (n : Nat) (loc : Loc) (hp : Hp) (Q : Fl → Loc → Hp → Prop) : W_law_area_b1 D n loc hp Q = (W.seq (W.asg (W.one 5) (W.bin wMulL (W.c (.int 4)) (W.call D 263 (n + 4) [(W.v 0), (W.c (.int 12))]))) (W.seq (W.asg (W.one 6) (W.comp (W.range [(W.bin wDiv (W.v 5) (W.c (.int 4)))]) 1 [0] (W.one 0) (W.t (W.bin wEq (W.call D 263 (n + 4) [(W.v 1), (W.c (.int 2))]) (W.c (.int 0)))) (W.bin wMulL (W.c (.int 4)) (W.v 0)))) (W.seq (W.asg (W.one 7) (W.bin wAdd (W.c (.int 64)) (W.bin wMulL (W.c (.int 96)) (W.v 4)))) (W.seq (W.ex (W.meth D 238 "put_word" 221 (n + 4) (W.v 2) [(W.v 7), (W.v 5)])) (W.seq (W.for (W.range [(W.app wLen [(W.v 6)])]) (W.one 8) (W_law_area_b0 D n)) (W.seq (W.ex (W.meth D 238 "put_word" 221 (n + 4) (W.v 2) [(W.bin wAdd (W.bin wAdd (W.v 7) (W.c (.int 20))) (W.bin wMulL (W.c (.int 4)) (W.app wLen [(W.v 6)]))), (W.bin wSub (W.bin wPow (W.c (.int 2)) (W.c (.int 32))) (W.c (.int 1)))])) (W.seq (W.ex (W.methB isL wAppend (W.v 3) [(W.app wTup [(W.v 7), (W.v 5), (W.v 6)])])) W.nil))))))) loc hp Q := rfl
noncomputable def W_law_area (D : Wd) (n : Nat) : WS :=
  (W.seq (W.asg (W.one 2) (W.new D 238 200 (n + 3) [(W.c (.int 8192))])) (W.seq (W.asg (W.one 3) (W.app wList [])) (W.seq (W.for (W.range [(W.bin wAdd (W.c (.int 1)) (W.call D 263 (n + 4) [(W.v 0), (W.c (.int 4))]))]) (W.one 4) (W_law_area_b1 D n)) (W.seq (W.ret (W.app wTup [(W.new D 108 49 (n + 3) [(W.v 2), (W.c (.int 1024)), (W.bin wAdd (W.c (.int 1024)) (W.bin wMulL (W.c (.int 16)) (W.v 1)))]), (W.v 3)])) W.nil))))
theorem c_law_area {D : Wd} {P : Params} (hD : D.KF = HK P) {n : Nat} {us : List V} {hp : Hp} {Q : V → Hp → Prop} (hu : us.length = 2)
    (q : W_law_area D n (us.map some ++ List.replicate 7 none) hp (bodyPost Q)) : Calls D 268 (n + 5) us hp Q := by
  obtain ⟨fd, body, h1, h2⟩ : ∃ fd body, FnOk D.KF 268 fd body ["hand", "room", "memory", "kinds", "at", "wide", "offsets", "where", "spot"] 2 ∧ ∀ L, EvB D (bodyFd fd ["hand", "room", "memory", "kinds", "at", "wide", "offsets", "where", "spot"] 268 L) (n + 4) body (W_law_area D n) := by
    refine ⟨_, _, ⟨⟨_, _, _, by rw [hD]; rfl⟩, by rw [hD]; rfl, rfl, rfl, rfl, rfl, fun vs h => by obtain ⟨a, b, rfl⟩ := len2 h; rfl, by decide, rfl, rfl, rfl, by decide, by decide, by decide, by decide⟩, fun L => ?_⟩
    unfold W_law_area
    refine EvB.cons (EvS.asg (EvE.new (n := n + 3) (.cons EvE.intC AllE.nil) rfl (g_Memory hD) (new_Memory hD)) ⟨rfl, .inl rfl⟩) ?_
    refine EvB.cons (EvS.asg (EvE.list AllE.nil) ⟨rfl, .inl rfl⟩) ?_
    refine EvB.cons (EvS.for (EvI.range (.cons (EvE.bin EvE.intC (EvE.call (.cons (EvE.var (i := 0) rfl) (.cons EvE.intC AllE.nil)) rfl (g_law_pick hD) (fn_law_pick hD)) okAdd) AllE.nil) rfl (g_range hD) bt_range (by decide)) (EvA.one ⟨rfl, .inl rfl⟩) (EvB.cons (EvS.asg (EvE.bin EvE.intC (EvE.call (.cons (EvE.var (i := 0) rfl) (.cons EvE.intC AllE.nil)) rfl (g_law_pick hD) (fn_law_pick hD)) okMulL) ⟨rfl, .inl rfl⟩) (EvB.cons (EvS.asgComp rfl ⟨rfl, .inl rfl⟩ (own := ["spot"]) (cap := ["hand"]) (capi := [0]) ⟨rfl, rfl, by decide, by decide, by decide, by decide, (List.forall_mem_cons.mpr ⟨⟨rfl, _, rfl, rfl⟩, (List.forall_mem_nil _)⟩), (CapI.cons rfl rfl CapI.nil), (List.forall_mem_cons.mpr ⟨mem_of_lookup rfl, (List.forall_mem_nil _)⟩), (List.pairwise_singleton _ _), by decide⟩ (EvI.range (.cons (EvE.bin (EvE.var (i := 5) rfl) EvE.intC okDiv) AllE.nil) rfl (g_range hD) bt_range (by decide)) (fun _ => (EvA.one ⟨rfl, .inr rfl⟩)) (fun _ => EvIfs.one (EvT.cmp (EvE.call (.cons (EvE.var (i := 1) rfl) (.cons EvE.intC AllE.nil)) rfl (g_law_pick hD) (fn_law_pick hD)) EvE.intC okEq (hm := by kernel_rfl))) (fun _ => (EvE.bin EvE.intC (EvE.var (i := 0) rfl) okMulL))) (EvB.cons (EvS.asg (EvE.bin EvE.intC (EvE.bin EvE.intC (EvE.var (i := 4) rfl) okMulL) okAdd) ⟨rfl, .inl rfl⟩) (EvB.cons (EvS.ex (EvE.meth (EvE.var (i := 2) rfl) (.cons (EvE.var (i := 7) rfl) (.cons (EvE.var (i := 5) rfl) AllE.nil)) (me_Memory_put_word hD))) (EvB.cons (EvS.for (EvI.range (.cons (EvE.callB (.cons (EvE.var (i := 6) rfl) AllE.nil) okLen rfl (g_len hD) bt_len (by decide)) AllE.nil) rfl (g_range hD) bt_range (by decide)) (EvA.one ⟨rfl, .inl rfl⟩) (EvB.cons (EvS.ex (EvE.meth (EvE.var (i := 2) rfl) (.cons (EvE.bin (EvE.bin (EvE.var (i := 7) rfl) EvE.intC okAdd) (EvE.bin EvE.intC (EvE.var (i := 8) rfl) okMulL) okAdd) (.cons (EvE.ix (EvE.var (i := 6) rfl) (EvE.var (i := 8) rfl)) AllE.nil)) (me_Memory_put_word hD))) EvB.nil)) (EvB.cons (EvS.ex (EvE.meth (EvE.var (i := 2) rfl) (.cons (EvE.bin (EvE.bin (EvE.var (i := 7) rfl) EvE.intC okAdd) (EvE.bin EvE.intC (EvE.callB (.cons (EvE.var (i := 6) rfl) AllE.nil) okLen rfl (g_len hD) bt_len (by decide)) okMulL) okAdd) (.cons (EvE.bin (EvE.bin EvE.intC EvE.intC okPow) EvE.intC okSub) AllE.nil)) (me_Memory_put_word hD))) (EvB.cons (EvS.ex (EvE.methB (EvE.var (i := 3) rfl) (.cons (EvE.tup (.cons (EvE.var (i := 7) rfl) (.cons (EvE.var (i := 5) rfl) (.cons (EvE.var (i := 6) rfl) AllE.nil)))) AllE.nil) PySem.F.plainAttrs_list PySem.F.slot_list_append PySem.F.type_list_append isL_ok okAppend)) EvB.nil)))))))) ?_
    refine EvB.cons (EvS.ret (EvE.tup (.cons (EvE.new (n := n + 3) (.cons (EvE.var (i := 2) rfl) (.cons EvE.intC (.cons (EvE.bin EvE.intC (EvE.bin EvE.intC (EvE.var (i := 1) rfl) okMulL) okAdd) AllE.nil))) rfl (g_Heap hD) (new_Heap hD)) (.cons (EvE.var (i := 3) rfl) AllE.nil)))) ?_
    exact EvB.nil
  exact Calls.of_body h1 h2 hu q
/-- _law_block -/
noncomputable def W_law_block (D : Wd) (n : Nat) : WS :=
  (W.seq (W.ret (W.bin wMulR (W.un wNeg (W.bin wDiv (W.un wNeg (W.bin wAdd (W.v 0) (W.c (.int 8)))) (W.c (.int 16)))) (W.c (.int 16)))) W.nil)
theorem c_law_block {D : Wd} {P : Params} (hD : D.KF = HK P) {n : Nat} {us : List V} {hp : Hp} {Q : V → Hp → Prop} (hu : us.length = 1)
    (q : W_law_block D n (us.map some ++ List.replicate 0 none) hp (bodyPost Q)) : Calls D 275 (n + 5) us hp Q := by
  obtain ⟨fd, body, h1, h2⟩ : ∃ fd body, FnOk D.KF 275 fd body ["wide"] 1 ∧ ∀ L, EvB D (bodyFd fd ["wide"] 275 L) (n + 4) body (W_law_block D n) := by
    refine ⟨_, _, ⟨⟨_, _, _, by rw [hD]; rfl⟩, by rw [hD]; rfl, rfl, rfl, rfl, rfl, fun vs h => by obtain ⟨a, rfl⟩ := len1 h; rfl, by decide, rfl, rfl, rfl, by decide, by decide, by decide, by decide⟩, fun L => ?_⟩
    unfold W_law_block
    refine EvB.cons (EvS.ret (EvE.bin (EvE.un (EvE.bin (EvE.un (EvE.bin (EvE.var (i := 0) rfl) EvE.intC okAdd) okNeg) EvE.intC okDiv) okNeg) EvE.intC okMulR)) ?_
    exact EvB.nil
  exact Calls.of_body h1 h2 hu q
/-- _law_made -/
noncomputable def W_law_made_b0 (D : Wd) (n : Nat) : WS :=
  (W.seq (W.asg (W.one 6) (W.bin wIx (W.v 2) (W.call D 263 (n + 4) [(W.v 0), (W.app wLen [(W.v 2)])]))) (W.seq (W.asg (W.one 7) (W.meth D 108 "alloc" 91 (n + 4) (W.v 1) [(W.bin wIx (W.v 6) (W.c (.int 0)))])) (W.seq (W.ifs (W.t (W.bin wNe (W.v 7) (W.c (.int 0)))) (W.seq (W.ex (W.methB isL wAppend (W.v 4) [(W.app wTup [(W.v 7), (W.v 6)])])) W.nil) W.nil) W.nil)))
@[simp] theorem W_law_made_b0_eq (D : Wd) (n : Nat) (loc : Loc) (hp : Hp) (Q : Fl → Loc → Hp → Prop) : W_law_made_b0 D n loc hp Q = (W.seq (W.asg (W.one 6) (W.bin wIx (W.v 2) (W.call D 263 (n + 4) [(W.v 0), (W.app wLen [(W.v 2)])]))) (W.seq (W.asg (W.one 7) (W.meth D 108 "alloc" 91 (n + 4) (W.v 1) [(W.bin wIx (W.v 6) (W.c (.int 0)))])) (W.seq (W.ifs (W.t (W.bin wNe (W.v 7) (W.c (.int 0)))) (W.seq (W.ex (W.methB isL wAppend (W.v 4) [(W.app wTup [(W.v 7), (W.v 6)])])) W.nil) W.nil) W.nil))) loc hp Q := rfl
noncomputable def W_law_made (D : Wd) (n : Nat) : WS :=
  (W.seq (W.asg (W.one 4) (W.app wList [])) (W.seq (W.for (W.range [(W.v 3)]) (W.one 5) (W_law_made_b0 D n)) (W.seq (W.ret (W.v 4)) W.nil)))
theorem c_law_made {D : Wd} {P : Params} (hD : D.KF = HK P) {n : Nat} {us : List V} {hp : Hp} {Q : V → Hp → Prop} (hu : us.length = 4)
    (q : W_law_made D n (us.map some ++ List.replicate 4 none) hp (bodyPost Q)) : Calls D 282 (n + 5) us hp Q := by
  obtain ⟨fd, body, h1, h2⟩ : ∃ fd body, FnOk D.KF 282 fd body ["hand", "area", "kinds", "most", "records", "_", "kind", "told"] 4 ∧ ∀ L, EvB D (bodyFd fd ["hand", "area", "kinds", "most", "records", "_", "kind", "told"] 282 L) (n + 4) body (W_law_made D n) := by
    refine ⟨_, _, ⟨⟨_, _, _, by rw [hD]; rfl⟩, by rw [hD]; rfl, rfl, rfl, rfl, rfl, fun vs h => by obtain ⟨a, b, c, d, rfl⟩ := len4 h; rfl, by decide, rfl, rfl, rfl, by decide, by decide, by decide, by decide⟩, fun L => ?_⟩
    unfold W_law_made
    refine EvB.cons (EvS.asg (EvE.list AllE.nil) ⟨rfl, .inl rfl⟩) ?_
    refine EvB.cons (EvS.for (EvI.range (.cons (EvE.var (i := 3) rfl) AllE.nil) rfl (g_range hD) bt_range (by decide)) (EvA.one ⟨rfl, .inl rfl⟩) (EvB.cons (EvS.asg (EvE.ix (EvE.var (i := 2) rfl) (EvE.call (.cons (EvE.var (i := 0) rfl) (.cons (EvE.callB (.cons (EvE.var (i := 2) rfl) AllE.nil) okLen rfl (g_len hD) bt_len (by decide)) AllE.nil)) rfl (g_law_pick hD) (fn_law_pick hD))) ⟨rfl, .inl rfl⟩) (EvB.cons (EvS.asg (EvE.meth (EvE.var (i := 1) rfl) (.cons (EvE.ix (EvE.var (i := 6) rfl) EvE.intC) AllE.nil) (me_Heap_alloc hD)) ⟨rfl, .inl rfl⟩) (EvB.cons (EvS.ifs (EvT.cmp (EvE.var (i := 7) rfl) EvE.intC okNe (hm := by kernel_rfl)) (EvB.cons (EvS.ex (EvE.methB (EvE.var (i := 4) rfl) (.cons (EvE.tup (.cons (EvE.var (i := 7) rfl) (.cons (EvE.var (i := 6) rfl) AllE.nil))) AllE.nil) PySem.F.plainAttrs_list PySem.F.slot_list_append PySem.F.type_list_append isL_ok okAppend)) EvB.nil) EvB.nil) EvB.nil)))) ?_
    refine EvB.cons (EvS.ret (EvE.var (i := 4) rfl)) ?_
    exact EvB.nil
  exact Calls.of_body h1 h2 hu q
/-- _law_listed -/
noncomputable def W_law_listed_b0 (D : Wd) (n : Nat) : WS :=
  (W.seq (W.ex (W.methB isL wAppend (W.v 2) [(W.v 3)])) (W.seq (W.asg (W.one 3) (W.meth D 238 "word" 214 (n + 4) (W.attr 108 "memory" (W.v 0)) [(W.bin wAdd (W.v 3) (W.c (.int 4)))])) W.nil))
@[simp] theorem W_law_listed_b0_eq (D : Wd) (n : Nat) (loc : Loc) (hp : Hp) (Q : Fl → Loc → Hp → Prop) : W_law_listed_b0 D n loc hp Q = (W.seq (W.ex (W.methB isL wAppend (W.v 2) [(W.v 3)])) (W.seq (W.asg (W.one 3) (W.meth D 238 "word" 214 (n + 4) (W.attr 108 "memory" (W.v 0)) [(W.bin wAdd (W.v 3) (W.c (.int 4)))])) W.nil)) loc hp Q := rfl
noncomputable def W_law_listed (D : Wd) (n : Nat) : WS :=
  (W.seq (W.asg (W.one 2) (W.app wList [])) (W.seq (W.asg (W.one 3) (W.bin wIx (W.attr 108 "free" (W.v 0)) (W.v 1))) (W.seq (W.while (W.and [(W.t (W.bin wNe (W.v 3) (W.c (.int 0)))), (W.t (W.bin wLt (W.app wLen [(W.v 2)]) (W.c (.int 40))))]) (W_law_listed_b0 D n)) (W.seq (W.ret (W.v 2)) W.nil))))
theorem c_law_listed {D : Wd} {P : Params} (hD : D.KF = HK P) {n : Nat} {us : List V} {hp : Hp} {Q : V → Hp → Prop} (hu : us.length = 2)
    (q : W_law_listed D n (us.map some ++ List.replicate 2 none) hp (bodyPost Q)) : Calls D 289 (n + 5) us hp Q := by
  obtain ⟨fd, body, h1, h2⟩ : ∃ fd body, FnOk D.KF 289 fd body ["area", "which", "found", "block"] 2 ∧ ∀ L, EvB D (bodyFd fd ["area", "which", "found", "block"] 289 L) (n + 4) body (W_law_listed D n) := by
    refine ⟨_, _, ⟨⟨_, _, _, by rw [hD]; rfl⟩, by rw [hD]; rfl, rfl, rfl, rfl, rfl, fun vs h => by obtain ⟨a, b, rfl⟩ := len2 h; rfl, by decide, rfl, rfl, rfl, by decide, by decide, by decide, by decide⟩, fun L => ?_⟩
    unfold W_law_listed
    refine EvB.cons (EvS.asg (EvE.list AllE.nil) ⟨rfl, .inl rfl⟩) ?_
    refine EvB.cons (EvS.asg (EvE.ix (EvE.attr (EvE.var (i := 0) rfl) (at_Heap_free hD)) (EvE.var (i := 1) rfl)) ⟨rfl, .inl rfl⟩) ?_
    refine EvB.cons (EvS.while (EvT.and (.cons (EvT.cmp (EvE.var (i := 3) rfl) EvE.intC okNe (hm := by kernel_rfl)) (.cons (EvT.cmp (EvE.callB (.cons (EvE.var (i := 2) rfl) AllE.nil) okLen rfl (g_len hD) bt_len (by decide)) EvE.intC okLt (hm := by kernel_rfl)) AllT.nil))) (EvB.cons (EvS.ex (EvE.methB (EvE.var (i := 2) rfl) (.cons (EvE.var (i := 3) rfl) AllE.nil) PySem.F.plainAttrs_list PySem.F.slot_list_append PySem.F.type_list_append isL_ok okAppend)) (EvB.cons (EvS.asg (EvE.meth (EvE.attr (EvE.var (i := 0) rfl) (at_Heap_memory hD)) (.cons (EvE.bin (EvE.var (i := 3) rfl) EvE.intC okAdd) AllE.nil) (me_Memory_word hD)) ⟨rfl, .inl rfl⟩) EvB.nil))) ?_
    refine EvB.cons (EvS.ret (EvE.var (i := 2) rfl)) ?_
    exact EvB.nil
  exact Calls.of_body h1 h2 hu q
/-- _law_linked -/
noncomputable def W_law_linked_b0 (D : Wd) (n : Nat) : WS :=
  (W.seq (W.ex (W.meth D 238 "put_word" 221 (n + 4) (W.attr 108 "memory" (W.v 0)) [(W.bin wAdd (W.bin wIx (W.v 2) (W.v 3)) (W.c (.int 4))), (W.ite (W.t (W.bin wLt (W.bin wAdd (W.v 3) (W.c (.int 1))) (W.app wLen [(W.v 2)]))) (W.bin wIx (W.v 2) (W.bin wAdd (W.v 3) (W.c (.int 1)))) (W.c (.int 0)))])) W.nil)
@[simp] theorem W_law_linked_b0_eq (D : Wd) (n : Nat) (loc : Loc) (hp : Hp) (Q : Fl → Loc → Hp → Prop) : W_law_linked_b0 D n loc hp Q = (W.seq (W.ex (W.meth D 238 "put_word" 221 (n + 4) (W.attr 108 "memory" (W.v 0)) [(W.bin wAdd (W.bin wIx (W.v 2) (W.v 3)) (W.c (.int 4))), (W.ite (W.t (W.bin wLt (W.bin wAdd (W.v 3) (W.c (.int 1))) (W.app wLen [(W.v 2)]))) (W.bin wIx (W.v 2) (W.bin wAdd (W.v 3) (W.c (.int 1)))) (W.c (.int 0)))])) W.nil) loc hp Q := rfl
noncomputable def W_law_linked (D : Wd) (n : Nat) : WS :=
  (W.seq (W.setI wSetItem (W.attr 108 "free" (W.v 0)) (W.v 1) (W.ite (W.t (W.bin wNe (W.v 2) (W.app wList []))) (W.bin wIx (W.v 2) (W.c (.int 0))) (W.c (.int 0)))) (W.seq (W.for (W.range [(W.app wLen [(W.v 2)])]) (W.one 3) (W_law_linked_b0 D n)) W.nil))
theorem c_law_linked {D : Wd} {P : Params} (hD : D.KF = HK P) {n : Nat} {us : List V} {hp : Hp} {Q : V → Hp → Prop} (hu : us.length = 3)
    (q : W_law_linked D n (us.map some ++ List.replicate 1 none) hp (bodyPost Q)) : Calls D 296 (n + 5) us hp Q := by
  obtain ⟨fd, body, h1, h2⟩ : ∃ fd body, FnOk D.KF 296 fd body ["area", "which", "spots_of", "at"] 3 ∧ ∀ L, EvB D (bodyFd fd ["area", "which", "spots_of", "at"] 296 L) (n + 4) body (W_law_linked D n) := by
    refine ⟨_, _, ⟨⟨_, _, _, by rw [hD]; rfl⟩, by rw [hD]; rfl, rfl, rfl, rfl, rfl, fun vs h => by obtain ⟨a, b, c, rfl⟩ := len3 h; rfl, by decide, rfl, rfl, rfl, by decide, by decide, by decide, by decide⟩, fun L => ?_⟩
    unfold W_law_linked
    refine EvB.cons (EvS.setI (EvE.attr (EvE.var (i := 0) rfl) (at_Heap_free hD)) (EvE.var (i := 1) rfl) (EvE.ite (EvT.cmp (EvE.var (i := 2) rfl) (EvE.list AllE.nil) okNe (hm := by kernel_rfl)) (EvE.ix (EvE.var (i := 2) rfl) EvE.intC) EvE.intC) okSetItem) ?_
    refine EvB.cons (EvS.for (EvI.range (.cons (EvE.callB (.cons (EvE.var (i := 2) rfl) AllE.nil) okLen rfl (g_len hD) bt_len (by decide)) AllE.nil) rfl (g_range hD) bt_range (by decide)) (EvA.one ⟨rfl, .inl rfl⟩) (EvB.cons (EvS.ex (EvE.meth (EvE.attr (EvE.var (i := 0) rfl) (at_Heap_memory hD)) (.cons (EvE.bin (EvE.ix (EvE.var (i := 2) rfl) (EvE.var (i := 3) rfl)) EvE.intC okAdd) (.cons (EvE.ite (EvT.cmp (EvE.bin (EvE.var (i := 3) rfl) EvE.intC okAdd) (EvE.callB (.cons (EvE.var (i := 2) rfl) AllE.nil) okLen rfl (g_len hD) bt_len (by decide)) okLt (hm := by kernel_rfl)) (EvE.ix (EvE.var (i := 2) rfl) (EvE.bin (EvE.var (i := 3) rfl) EvE.intC okAdd)) EvE.intC) AllE.nil)) (me_Memory_put_word hD))) EvB.nil)) ?_
    exact EvB.nil
  exact Calls.of_body h1 h2 hu q
end Mine

set_option maxRecDepth 100000
set_option maxHeartbeats 4000000
namespace Mine
open PySem PySem.W PyProof.Rows
/-- _law_spoiled -/
noncomputable def W_law_spoiled (D : Wd) (n : Nat) : WS :=
  (W.seq (W.ifs (W.or [(W.t (W.bin wLt (W.v 2) (W.c (.int 2)))), (W.t (W.bin wEq (W.v 4) (W.app wList [])))]) (W.seq (W.ifs (W.t (W.bin wEq (W.v 3) (W.app wList []))) (W.seq (W.ret (W.app wList [])) W.nil) W.nil) (W.seq (W.asg (W.one 5) (W.bin wIx (W.bin wIx (W.v 3) (W.call D 263 (n + 4) [(W.v 0), (W.app wLen [(W.v 3)])])) (W.c (.int 0)))) (W.seq (W.ifs (W.t (W.bin wEq (W.v 2) (W.c (.int 0)))) (W.seq (W.ex (W.meth D 238 "put_word" 221 (n + 4) (W.attr 108 "memory" (W.v 1)) [(W.bin wAdd (W.v 5) (W.c (.int 4))), (W.c (.int 8))])) (W.seq (W.ret (W.app wList [(W.app wTup [(W.v 5), (W.c (.str "marked"))])])) W.nil)) W.nil) (W.seq (W.ex (W.meth D 238 "put_word" 221 (n + 4) (W.attr 108 "memory" (W.v 1)) [(W.v 5), (W.bin wIx (W.app wList [(W.c (.int 0)), (W.c (.int 6)), (W.c (.int 2000))]) (W.call D 263 (n + 4) [(W.v 0), (W.c (.int 3))]))])) (W.seq (W.ret (W.app wList [(W.app wTup [(W.v 5), (W.c (.str "bad_block"))])])) W.nil))))) W.nil) (W.seq (W.asg (W.many [5, 6]) (W.bin wIx (W.v 4) (W.call D 263 (n + 4) [(W.v 0), (W.app wLen [(W.v 4)])]))) (W.seq (W.asg (W.one 7) (W.call D 35 (n + 4) [(W.v 6)])) (W.seq (W.asg (W.one 8) (W.call D 289 (n + 4) [(W.v 1), (W.v 7)])) (W.seq (W.ifs (W.t (W.bin wEq (W.v 2) (W.c (.int 2)))) (W.seq (W.ex (W.call D 296 (n + 4) [(W.v 1), (W.v 7), (W.comp (W.iter (W.v 8)) 1 [5] (W.one 0) (W.t (W.bin wNe (W.v 0) (W.v 1))) (W.v 0))])) (W.seq (W.ret (W.app wList [(W.app wTup [(W.v 5), (W.c (.str "not_listed"))])])) W.nil)) W.nil) (W.seq (W.ifs (W.t (W.bin wEq (W.v 2) (W.c (.int 3)))) (W.seq (W.asg (W.one 9) (W.bin wMod (W.bin wAdd (W.v 7) (W.c (.int 1))) (W.c (.int 4)))) (W.seq (W.ex (W.call D 296 (n + 4) [(W.v 1), (W.v 7), (W.comp (W.iter (W.v 8)) 1 [5] (W.one 0) (W.t (W.bin wNe (W.v 0) (W.v 1))) (W.v 0))])) (W.seq (W.ex (W.call D 296 (n + 4) [(W.v 1), (W.v 9), (W.bin wAdd (W.call D 289 (n + 4) [(W.v 1), (W.v 9)]) (W.app wList [(W.v 5)]))])) (W.seq (W.ret (W.app wList [(W.app wTup [(W.v 5), (W.c (.str "wrong_list"))])])) W.nil)))) W.nil) (W.seq (W.ifs (W.t (W.bin wEq (W.v 2) (W.c (.int 4)))) (W.seq (W.ex (W.meth D 238 "put_word" 221 (n + 4) (W.attr 108 "memory" (W.v 1)) [(W.bin wAdd (W.v 5) (W.c (.int 4))), (W.v 5)])) (W.seq (W.ret (W.bin wAdd (W.app wList [(W.app wTup [(W.v 5), (W.c (.str "listed_twice"))])]) (W.comp (W.iter (W.app wSorted [(W.from (W.v 8) (W.bin wAdd (W.methB isL wIndex (W.v 8) [(W.v 5)]) (W.c (.int 1))))])) 1 [] (W.one 0) W.yes (W.app wTup [(W.v 0), (W.c (.str "not_listed"))])))) W.nil)) W.nil) (W.seq (W.ifs (W.and [(W.t (W.bin wEq (W.v 2) (W.c (.int 5)))), (W.t (W.bin wNe (W.v 3) (W.app wList [])))]) (W.seq (W.setI wSetItem (W.attr 108 "free" (W.v 1)) (W.v 7) (W.bin wIx (W.bin wIx (W.v 3) (W.c (.int 0))) (W.c (.int 0)))) (W.seq (W.ret (W.bin wAdd (W.app wList [(W.app wTup [(W.bin wIx (W.bin wIx (W.v 3) (W.c (.int 0))) (W.c (.int 0))), (W.c (.str "not_free"))])]) (W.comp (W.iter (W.app wSorted [(W.v 8)])) 1 [] (W.one 0) W.yes (W.app wTup [(W.v 0), (W.c (.str "not_listed"))])))) W.nil)) W.nil) (W.seq (W.ifs (W.and [(W.t (W.bin wEq (W.v 2) (W.c (.int 6)))), (W.t (W.bin wGt (W.v 6) (W.c (.int 16))))]) (W.seq (W.ex (W.call D 296 (n + 4) [(W.v 1), (W.v 7), (W.comp (W.iter (W.v 8)) 1 [5] (W.one 0) (W.t (W.bin wNe (W.v 0) (W.v 1))) (W.v 0))])) (W.seq (W.ex (W.meth D 108 "put_free" 56 (n + 4) (W.v 1) [(W.v 5), (W.c (.int 16))])) (W.seq (W.ex (W.meth D 108 "put_free" 56 (n + 4) (W.v 1) [(W.bin wAdd (W.v 5) (W.c (.int 16))), (W.bin wSub (W.v 6) (W.c (.int 16)))])) (W.seq (W.ret (W.app wList [(W.app wTup [(W.bin wAdd (W.v 5) (W.c (.int 16))), (W.c (.str "not_joined"))])])) W.nil)))) W.nil) (W.seq (W.ex (W.meth D 238 "put_word" 221 (n + 4) (W.attr 108 "memory" (W.v 1)) [(W.v 5), (W.bin wIx (W.app wList [(W.c (.int 1)), (W.c (.int 9)), (W.c (.int 4001))]) (W.call D 263 (n + 4) [(W.v 0), (W.c (.int 3))]))])) (W.seq (W.ret (W.app wList [(W.app wTup [(W.v 5), (W.c (.str "bad_block"))])])) W.nil)))))))))))
theorem c_law_spoiled {D : Wd} {P : Params} (hD : D.KF = HK P) {n : Nat} {us : List V} {hp : Hp} {Q : V → Hp → Prop} (hu : us.length = 5)
    (q : W_law_spoiled D n (us.map some ++ List.replicate 5 none) hp (bodyPost Q)) : Calls D 301 (n + 5) us hp Q := by
  obtain ⟨fd, body, h1, h2⟩ : ∃ fd body, FnOk D.KF 301 fd body ["hand", "area", "form", "taken_rows", "bare", "block", "size_of", "which", "row", "other"] 5 ∧ ∀ L, EvB D (bodyFd fd ["hand", "area", "form", "taken_rows", "bare", "block", "size_of", "which", "row", "other"] 301 L) (n + 4) body (W_law_spoiled D n) := by
    refine ⟨_, _, ⟨⟨_, _, _, by rw [hD]; rfl⟩, by rw [hD]; rfl, rfl, rfl, rfl, rfl, fun vs h => by obtain ⟨a, b, c, d, e, rfl⟩ := len5 h; rfl, by decide, rfl, rfl, rfl, by decide, by decide, by decide, by decide⟩, fun L => ?_⟩
    unfold W_law_spoiled
    refine EvB.cons (EvS.ifs (EvT.or (.cons (EvT.cmp (EvE.var (i := 2) rfl) EvE.intC okLt (hm := by kernel_rfl)) (.cons (EvT.cmp (EvE.var (i := 4) rfl) (EvE.list AllE.nil) okEq (hm := by kernel_rfl)) AllT.nil))) (EvB.cons (EvS.ifs (EvT.cmp (EvE.var (i := 3) rfl) (EvE.list AllE.nil) okEq (hm := by kernel_rfl)) (EvB.cons (EvS.ret (EvE.list AllE.nil)) EvB.nil) EvB.nil) (EvB.cons (EvS.asg (EvE.ix (EvE.ix (EvE.var (i := 3) rfl) (EvE.call (.cons (EvE.var (i := 0) rfl) (.cons (EvE.callB (.cons (EvE.var (i := 3) rfl) AllE.nil) okLen rfl (g_len hD) bt_len (by decide)) AllE.nil)) rfl (g_law_pick hD) (fn_law_pick hD))) EvE.intC) ⟨rfl, .inl rfl⟩) (EvB.cons (EvS.ifs (EvT.cmp (EvE.var (i := 2) rfl) EvE.intC okEq (hm := by kernel_rfl)) (EvB.cons (EvS.ex (EvE.meth (EvE.attr (EvE.var (i := 1) rfl) (at_Heap_memory hD)) (.cons (EvE.bin (EvE.var (i := 5) rfl) EvE.intC okAdd) (.cons EvE.intC AllE.nil)) (me_Memory_put_word hD))) (EvB.cons (EvS.ret (EvE.list (.cons (EvE.tup (.cons (EvE.var (i := 5) rfl) (.cons EvE.strC AllE.nil))) AllE.nil))) EvB.nil)) EvB.nil) (EvB.cons (EvS.ex (EvE.meth (EvE.attr (EvE.var (i := 1) rfl) (at_Heap_memory hD)) (.cons (EvE.var (i := 5) rfl) (.cons (EvE.ix (EvE.list (.cons EvE.intC (.cons EvE.intC (.cons EvE.intC AllE.nil)))) (EvE.call (.cons (EvE.var (i := 0) rfl) (.cons EvE.intC AllE.nil)) rfl (g_law_pick hD) (fn_law_pick hD))) AllE.nil)) (me_Memory_put_word hD))) (EvB.cons (EvS.ret (EvE.list (.cons (EvE.tup (.cons (EvE.var (i := 5) rfl) (.cons EvE.strC AllE.nil))) AllE.nil))) EvB.nil))))) EvB.nil) ?_
    refine EvB.cons (EvS.asgT (EvE.ix (EvE.var (i := 4) rfl) (EvE.call (.cons (EvE.var (i := 0) rfl) (.cons (EvE.callB (.cons (EvE.var (i := 4) rfl) AllE.nil) okLen rfl (g_len hD) bt_len (by decide)) AllE.nil)) rfl (g_law_pick hD) (fn_law_pick hD))) ⟨⟨_, _, rfl, ⟨rfl, .inl rfl⟩⟩, ⟨_, _, rfl, ⟨rfl, .inl rfl⟩⟩, trivial⟩) ?_
    refine EvB.cons (EvS.asg (EvE.call (.cons (EvE.var (i := 6) rfl) AllE.nil) rfl (g_list_number hD) (fn_list_number hD)) ⟨rfl, .inl rfl⟩) ?_
    refine EvB.cons (EvS.asg (EvE.call (.cons (EvE.var (i := 1) rfl) (.cons (EvE.var (i := 7) rfl) AllE.nil)) rfl (g_law_listed hD) (fn_law_listed hD)) ⟨rfl, .inl rfl⟩) ?_
    refine EvB.cons (EvS.ifs (EvT.cmp (EvE.var (i := 2) rfl) EvE.intC okEq (hm := by kernel_rfl)) (EvB.cons (EvS.ex (EvE.call (.cons (EvE.var (i := 1) rfl) (.cons (EvE.var (i := 7) rfl) (.cons (EvE.comp (own := ["one"]) (cap := ["block"]) (capi := [5]) ⟨rfl, rfl, by decide, by decide, by decide, by decide, (List.forall_mem_cons.mpr ⟨⟨rfl, _, rfl, rfl⟩, (List.forall_mem_nil _)⟩), (CapI.cons rfl rfl CapI.nil), (List.forall_mem_cons.mpr ⟨mem_of_lookup rfl, (List.forall_mem_nil _)⟩), (List.pairwise_singleton _ _), by decide⟩ (EvI.list (EvE.var (i := 8) rfl)) (fun _ => (EvA.one ⟨rfl, .inr rfl⟩)) (fun _ => EvIfs.one (EvT.cmp (EvE.var (i := 0) rfl) (EvE.var (i := 1) rfl) okNe (hm := by kernel_rfl))) (fun _ => (EvE.var (i := 0) rfl))) AllE.nil))) rfl (g_law_linked hD) (fn_law_linked hD))) (EvB.cons (EvS.ret (EvE.list (.cons (EvE.tup (.cons (EvE.var (i := 5) rfl) (.cons EvE.strC AllE.nil))) AllE.nil))) EvB.nil)) EvB.nil) ?_
    refine EvB.cons (EvS.ifs (EvT.cmp (EvE.var (i := 2) rfl) EvE.intC okEq (hm := by kernel_rfl)) (EvB.cons (EvS.asg (EvE.bin (EvE.bin (EvE.var (i := 7) rfl) EvE.intC okAdd) EvE.intC okMod) ⟨rfl, .inl rfl⟩) (EvB.cons (EvS.ex (EvE.call (.cons (EvE.var (i := 1) rfl) (.cons (EvE.var (i := 7) rfl) (.cons (EvE.comp (own := ["one"]) (cap := ["block"]) (capi := [5]) ⟨rfl, rfl, by decide, by decide, by decide, by decide, (List.forall_mem_cons.mpr ⟨⟨rfl, _, rfl, rfl⟩, (List.forall_mem_nil _)⟩), (CapI.cons rfl rfl CapI.nil), (List.forall_mem_cons.mpr ⟨mem_of_lookup rfl, (List.forall_mem_nil _)⟩), (List.pairwise_singleton _ _), by decide⟩ (EvI.list (EvE.var (i := 8) rfl)) (fun _ => (EvA.one ⟨rfl, .inr rfl⟩)) (fun _ => EvIfs.one (EvT.cmp (EvE.var (i := 0) rfl) (EvE.var (i := 1) rfl) okNe (hm := by kernel_rfl))) (fun _ => (EvE.var (i := 0) rfl))) AllE.nil))) rfl (g_law_linked hD) (fn_law_linked hD))) (EvB.cons (EvS.ex (EvE.call (.cons (EvE.var (i := 1) rfl) (.cons (EvE.var (i := 9) rfl) (.cons (EvE.bin (EvE.call (.cons (EvE.var (i := 1) rfl) (.cons (EvE.var (i := 9) rfl) AllE.nil)) rfl (g_law_listed hD) (fn_law_listed hD)) (EvE.list (.cons (EvE.var (i := 5) rfl) AllE.nil)) okAdd) AllE.nil))) rfl (g_law_linked hD) (fn_law_linked hD))) (EvB.cons (EvS.ret (EvE.list (.cons (EvE.tup (.cons (EvE.var (i := 5) rfl) (.cons EvE.strC AllE.nil))) AllE.nil))) EvB.nil)))) EvB.nil) ?_
    refine EvB.cons (EvS.ifs (EvT.cmp (EvE.var (i := 2) rfl) EvE.intC okEq (hm := by kernel_rfl)) (EvB.cons (EvS.ex (EvE.meth (EvE.attr (EvE.var (i := 1) rfl) (at_Heap_memory hD)) (.cons (EvE.bin (EvE.var (i := 5) rfl) EvE.intC okAdd) (.cons (EvE.var (i := 5) rfl) AllE.nil)) (me_Memory_put_word hD))) (EvB.cons (EvS.ret (EvE.bin (EvE.list (.cons (EvE.tup (.cons (EvE.var (i := 5) rfl) (.cons EvE.strC AllE.nil))) AllE.nil)) (EvE.comp (own := ["one"]) (cap := []) (capi := []) ⟨rfl, rfl, by decide, by decide, by decide, by decide, (List.forall_mem_nil _), CapI.nil, (List.forall_mem_nil _), List.Pairwise.nil, by decide⟩ (EvI.list (EvE.callB (.cons (EvE.from (EvE.var (i := 8) rfl) (EvE.bin (EvE.methB (EvE.var (i := 8) rfl) (.cons (EvE.var (i := 5) rfl) AllE.nil) PySem.F.plainAttrs_list PySem.F.slot_list_index PySem.F.type_list_index isL_ok okIndex) EvE.intC okAdd)) AllE.nil) okSorted rfl (g_sorted hD) bt_sorted (by decide))) (fun _ => (EvA.one ⟨rfl, .inr rfl⟩)) (fun _ => EvIfs.none) (fun _ => (EvE.tup (.cons (EvE.var (i := 0) rfl) (.cons EvE.strC AllE.nil))))) okAdd)) EvB.nil)) EvB.nil) ?_
    refine EvB.cons (EvS.ifs (EvT.and (.cons (EvT.cmp (EvE.var (i := 2) rfl) EvE.intC okEq (hm := by kernel_rfl)) (.cons (EvT.cmp (EvE.var (i := 3) rfl) (EvE.list AllE.nil) okNe (hm := by kernel_rfl)) AllT.nil))) (EvB.cons (EvS.setI (EvE.attr (EvE.var (i := 1) rfl) (at_Heap_free hD)) (EvE.var (i := 7) rfl) (EvE.ix (EvE.ix (EvE.var (i := 3) rfl) EvE.intC) EvE.intC) okSetItem) (EvB.cons (EvS.ret (EvE.bin (EvE.list (.cons (EvE.tup (.cons (EvE.ix (EvE.ix (EvE.var (i := 3) rfl) EvE.intC) EvE.intC) (.cons EvE.strC AllE.nil))) AllE.nil)) (EvE.comp (own := ["one"]) (cap := []) (capi := []) ⟨rfl, rfl, by decide, by decide, by decide, by decide, (List.forall_mem_nil _), CapI.nil, (List.forall_mem_nil _), List.Pairwise.nil, by decide⟩ (EvI.list (EvE.callB (.cons (EvE.var (i := 8) rfl) AllE.nil) okSorted rfl (g_sorted hD) bt_sorted (by decide))) (fun _ => (EvA.one ⟨rfl, .inr rfl⟩)) (fun _ => EvIfs.none) (fun _ => (EvE.tup (.cons (EvE.var (i := 0) rfl) (.cons EvE.strC AllE.nil))))) okAdd)) EvB.nil)) EvB.nil) ?_
    refine EvB.cons (EvS.ifs (EvT.and (.cons (EvT.cmp (EvE.var (i := 2) rfl) EvE.intC okEq (hm := by kernel_rfl)) (.cons (EvT.cmp (EvE.var (i := 6) rfl) EvE.intC okGt (hm := by kernel_rfl)) AllT.nil))) (EvB.cons (EvS.ex (EvE.call (.cons (EvE.var (i := 1) rfl) (.cons (EvE.var (i := 7) rfl) (.cons (EvE.comp (own := ["one"]) (cap := ["block"]) (capi := [5]) ⟨rfl, rfl, by decide, by decide, by decide, by decide, (List.forall_mem_cons.mpr ⟨⟨rfl, _, rfl, rfl⟩, (List.forall_mem_nil _)⟩), (CapI.cons rfl rfl CapI.nil), (List.forall_mem_cons.mpr ⟨mem_of_lookup rfl, (List.forall_mem_nil _)⟩), (List.pairwise_singleton _ _), by decide⟩ (EvI.list (EvE.var (i := 8) rfl)) (fun _ => (EvA.one ⟨rfl, .inr rfl⟩)) (fun _ => EvIfs.one (EvT.cmp (EvE.var (i := 0) rfl) (EvE.var (i := 1) rfl) okNe (hm := by kernel_rfl))) (fun _ => (EvE.var (i := 0) rfl))) AllE.nil))) rfl (g_law_linked hD) (fn_law_linked hD))) (EvB.cons (EvS.ex (EvE.meth (EvE.var (i := 1) rfl) (.cons (EvE.var (i := 5) rfl) (.cons EvE.intC AllE.nil)) (me_Heap_put_free hD))) (EvB.cons (EvS.ex (EvE.meth (EvE.var (i := 1) rfl) (.cons (EvE.bin (EvE.var (i := 5) rfl) EvE.intC okAdd) (.cons (EvE.bin (EvE.var (i := 6) rfl) EvE.intC okSub) AllE.nil)) (me_Heap_put_free hD))) (EvB.cons (EvS.ret (EvE.list (.cons (EvE.tup (.cons (EvE.bin (EvE.var (i := 5) rfl) EvE.intC okAdd) (.cons EvE.strC AllE.nil))) AllE.nil))) EvB.nil)))) EvB.nil) ?_
    refine EvB.cons (EvS.ex (EvE.meth (EvE.attr (EvE.var (i := 1) rfl) (at_Heap_memory hD)) (.cons (EvE.var (i := 5) rfl) (.cons (EvE.ix (EvE.list (.cons EvE.intC (.cons EvE.intC (.cons EvE.intC AllE.nil)))) (EvE.call (.cons (EvE.var (i := 0) rfl) (.cons EvE.intC AllE.nil)) rfl (g_law_pick hD) (fn_law_pick hD))) AllE.nil)) (me_Memory_put_word hD))) ?_
    refine EvB.cons (EvS.ret (EvE.list (.cons (EvE.tup (.cons (EvE.var (i := 5) rfl) (.cons EvE.strC AllE.nil))) AllE.nil))) ?_
    exact EvB.nil
  exact Calls.of_body h1 h2 hu q
/-- law -/
noncomputable def W_law_b0 (D : Wd) (n : Nat) : WS :=
  (W.seq (W.ex (W.meth D 238 "put_word" 221 (n + 4) (W.attr 108 "memory" (W.v 3)) [(W.bin wAdd (W.attr 108 "start" (W.v 3)) (W.bin wMulL (W.c (.int 4)) (W.call D 263 (n + 4) [(W.v 2), (W.bin wDiv (W.bin wSub (W.attr 108 "limit" (W.v 3)) (W.attr 108 "start" (W.v 3))) (W.c (.int 4)))]))), (W.bin wIx (W.app wList [(W.c (.int 0)), (W.c (.int 1)), (W.c (.int 17)), (W.c (.int 33)), (W.c (.int 64)), (W.c (.int 1024)), (W.c (.int 1040)), (W.bin wSub (W.bin wPow (W.c (.int 2)) (W.c (.int 32))) (W.c (.int 1)))]) (W.call D 263 (n + 4) [(W.v 2), (W.c (.int 8))]))])) W.nil)
@[simp] theorem W_law_b0_eq (D : Wd) (n : Nat) (loc : Loc) (hp : Hp) (Q : Fl → Loc → Hp → Prop) : W_law_b0 D n loc hp Q = (W.seq (W.ex (W.meth D 238 "put_word" 221 (n + 4) (W.attr 108 "memory" (W.v 3)) [(W.bin wAdd (W.attr 108 "start" (W.v 3)) (W.bin wMulL (W.c (.int 4)) (W.call D 263 (n + 4) [(W.v 2), (W.bin wDiv (W.bin wSub (W.attr 108 "limit" (W.v 3)) (W.attr 108 "start" (W.v 3))) (W.c (.int 4)))]))), (W.bin wIx (W.app wList [(W.c (.int 0)), (W.c (.int 1)), (W.c (.int 17)), (W.c (.int 33)), (W.c (.int 64)), (W.c (.int 1024)), (W.c (.int 1040)), (W.bin wSub (W.bin wPow (W.c (.int 2)) (W.c (.int 32))) (W.c (.int 1)))]) (W.call D 263 (n + 4) [(W.v 2), (W.c (.int 8))]))])) W.nil) loc hp Q := rfl
noncomputable def W_law_b1 (D : Wd) (n : Nat) : WS :=
  (W.seq (W.ex (W.meth D 238 "put_word" 221 (n + 4) (W.attr 108 "memory" (W.v 3)) [(W.bin wSub (W.v 6) (W.c (.int 4))), (W.c (.int 4))])) W.nil)
@[simp] theorem W_law_b1_eq (D : Wd) (n : Nat) (loc : Loc) (hp : Hp) (Q : Fl → Loc → Hp → Prop) : W_law_b1 D n loc hp Q = (W.seq (W.ex (W.meth D 238 "put_word" 221 (n + 4) (W.attr 108 "memory" (W.v 3)) [(W.bin wSub (W.v 6) (W.c (.int 4))), (W.c (.int 4))])) W.nil) loc hp Q := rfl
noncomputable def W_law (D : Wd) (n : Nat) (sl : Addr) (sns : List Int) : WS :=
  (W.seq (W.asg (W.one 1) (W.upto sl sns 63 (W.v 0))) (W.seq (W.asg (W.one 2) (W.app wList [(W.v 1), (W.c (.int 0)), (W.c (.int 0)), (W.bin wMulR (W.bin wMod (W.app wSum [(W.v 1)]) (W.c (.int 100003))) (W.c (.int 7)))])) (W.seq (W.asg (W.many [3, 4]) (W.call D 268 (n + 4) [(W.v 2), (W.bin wAdd (W.c (.int 4)) (W.call D 263 (n + 4) [(W.v 2), (W.c (.int 20))]))])) (W.seq (W.asg (W.one 5) (W.call D 282 (n + 4) [(W.v 2), (W.v 3), (W.v 4), (W.call D 263 (n + 4) [(W.v 2), (W.c (.int 13))])])) (W.seq (W.ifs (W.t (W.bin wGt (W.call D 263 (n + 4) [(W.v 2), (W.c (.int 3))]) (W.c (.int 0)))) (W.seq (W.asg (W.one 5) (W.comp (W.iter (W.v 5)) 1 [2] (W.one 0) (W.t (W.bin wEq (W.call D 263 (n + 4) [(W.v 1), (W.c (.int 2))]) (W.c (.int 0)))) (W.v 0))) (W.seq (W.for (W.iter (W.v 5)) (W.many [6, 7]) (W_law_b1 D n)) (W.seq (W.ex (W.call D 256 (n + 4) [(W.v 3)])) W.nil))) W.nil) (W.seq (W.asg (W.one 8) (W.comp (W.iter (W.app wSortedP [(W.v 5)])) 2 [] (W.many [0, 1]) W.yes (W.app wTup [(W.bin wSub (W.v 0) (W.c (.int 8))), (W.call D 275 (n + 4) [(W.bin wIx (W.v 1) (W.c (.int 1)))])]))) (W.seq (W.asg (W.one 9) (W.comp (W.iter (W.meth D 108 "blocks" 98 (n + 4) (W.v 3) [])) 3 [] (W.many [0, 1, 2]) (W.t (W.bin wIs (W.v 2) (W.c .none))) (W.app wTup [(W.v 0), (W.v 1)]))) (W.seq (W.ifs (W.or [(W.t (W.bin wNe (W.call D 140 (n + 4) [(W.v 3)]) (W.app wList []))), (W.t (W.bin wNe (W.call D 147 (n + 4) [(W.v 3)]) (W.app wSum [(W.comp (W.iter (W.v 8)) 2 [] (W.many [0, 1]) W.yes (W.v 1))])))]) (W.seq (W.ret (W.c (.bool false))) W.nil) W.nil) (W.seq (W.ifs (W.t (W.bin wNe (W.call D 154 (n + 4) [(W.v 3)]) (W.app wMax [(W.bin wAdd (W.app wList [(W.c (.int 0))]) (W.comp (W.iter (W.v 9)) 2 [] (W.many [0, 1]) W.yes (W.v 1)))]))) (W.seq (W.ret (W.c (.bool false))) W.nil) W.nil) (W.seq (W.asg (W.one 10) (W.call D 263 (n + 4) [(W.v 2), (W.c (.int 10))])) (W.seq (W.ifs (W.t (W.bin wLt (W.v 10) (W.c (.int 8)))) (W.seq (W.asg (W.one 11) (W.call D 301 (n + 4) [(W.v 2), (W.v 3), (W.v 10), (W.v 8), (W.v 9)])) (W.seq (W.ret (W.bin wEq (W.comp (W.iter (W.call D 140 (n + 4) [(W.v 3)])) 1 [] (W.one 0) W.yes (W.app wTuple [(W.v 0)])) (W.v 11))) W.nil)) W.nil) (W.seq (W.for (W.range [(W.bin wAdd (W.c (.int 1)) (W.call D 263 (n + 4) [(W.v 2), (W.c (.int 6))]))]) (W.one 12) (W_law_b0 D n)) (W.seq (W.asg (W.one 13) (W.app wList [(W.c (.str "bad_block")), (W.c (.str "not_joined")), (W.c (.str "marked")), (W.c (.str "not_free")), (W.c (.str "listed_twice")), (W.c (.str "wrong_list")), (W.c (.str "not_listed"))])) (W.seq (W.ret (W.bin wNotIn (W.c (.bool false)) (W.comp (W.iter (W.call D 140 (n + 4) [(W.v 3)])) 2 [13, 3] (W.many [0, 1]) W.yes (W.or2 (W.and2 (W.bin wLe (W.bin wSub (W.attr 108 "start" (W.v 3)) (W.c (.int 64))) (W.v 0)) (W.bin wIn (W.v 1) (W.v 2))) (W.bin wEq (W.v 1) (W.c (.str "not_free"))))))) W.nil))))))))))))))
theorem c_law {D : Wd} {P : Params} (hD : D.KF = HK P) {n : Nat} {sl : Addr} {svs : List Value} {sns : List Int} (hsl : D.s₁.heap.IsList sl svs.toArray) (hsi : IntsAre svs sns) (hsz : sns.length ≤ sizeLine) {us : List V} {hp : Hp} {Q : V → Hp → Prop} (hu : us.length = 1)
    (q : W_law D n sl sns (us.map some ++ List.replicate 13 none) hp (bodyPost Q)) : Calls D 306 (n + 5) us hp Q := by
  obtain ⟨fd, body, h1, h2⟩ : ∃ fd body, FnOk D.KF 306 fd body ["script", "cells", "hand", "area", "kinds", "records", "where", "kind", "taken_rows", "bare", "form", "due", "_", "named"] 1 ∧ ∀ L, EvB D (bodyFd fd ["script", "cells", "hand", "area", "kinds", "records", "where", "kind", "taken_rows", "bare", "form", "due", "_", "named"] 306 L) (n + 4) body (W_law D n sl sns) := by
    refine ⟨_, _, ⟨⟨_, _, _, by rw [hD]; rfl⟩, by rw [hD]; rfl, rfl, rfl, rfl, rfl, fun vs h => by obtain ⟨a, rfl⟩ := len1 h; rfl, by decide, rfl, rfl, rfl, by decide, by decide, by decide, by decide⟩, fun L => ?_⟩
    unfold W_law
    refine EvB.cons (EvS.asg (EvE.upto (EvE.var (i := 0) rfl) hsl hsi hsz) ⟨rfl, .inl rfl⟩) ?_
    refine EvB.cons (EvS.asg (EvE.list (.cons (EvE.var (i := 1) rfl) (.cons EvE.intC (.cons EvE.intC (.cons (EvE.bin (EvE.bin (EvE.callB (.cons (EvE.var (i := 1) rfl) AllE.nil) okSum rfl (g_sum hD) bt_sum (by decide)) EvE.intC okMod) EvE.intC okMulR) AllE.nil))))) ⟨rfl, .inl rfl⟩) ?_
    refine EvB.cons (EvS.asgT (EvE.call (.cons (EvE.var (i := 2) rfl) (.cons (EvE.bin EvE.intC (EvE.call (.cons (EvE.var (i := 2) rfl) (.cons EvE.intC AllE.nil)) rfl (g_law_pick hD) (fn_law_pick hD)) okAdd) AllE.nil)) rfl (g_law_area hD) (fn_law_area hD)) ⟨⟨_, _, rfl, ⟨rfl, .inl rfl⟩⟩, ⟨_, _, rfl, ⟨rfl, .inl rfl⟩⟩, trivial⟩) ?_
    refine EvB.cons (EvS.asg (EvE.call (.cons (EvE.var (i := 2) rfl) (.cons (EvE.var (i := 3) rfl) (.cons (EvE.var (i := 4) rfl) (.cons (EvE.call (.cons (EvE.var (i := 2) rfl) (.cons EvE.intC AllE.nil)) rfl (g_law_pick hD) (fn_law_pick hD)) AllE.nil)))) rfl (g_law_made hD) (fn_law_made hD)) ⟨rfl, .inl rfl⟩) ?_
    refine EvB.cons (EvS.ifs (EvT.cmp (EvE.call (.cons (EvE.var (i := 2) rfl) (.cons EvE.intC AllE.nil)) rfl (g_law_pick hD) (fn_law_pick hD)) EvE.intC okGt (hm := by kernel_rfl)) (EvB.cons (EvS.asgComp rfl ⟨rfl, .inl rfl⟩ (own := ["entry"]) (cap := ["hand"]) (capi := [2]) ⟨rfl, rfl, by decide, by decide, by decide, by decide, (List.forall_mem_cons.mpr ⟨⟨rfl, _, rfl, rfl⟩, (List.forall_mem_nil _)⟩), (CapI.cons rfl rfl CapI.nil), (List.forall_mem_cons.mpr ⟨mem_of_lookup rfl, (List.forall_mem_nil _)⟩), (List.pairwise_singleton _ _), by decide⟩ (EvI.list (EvE.var (i := 5) rfl)) (fun _ => (EvA.one ⟨rfl, .inr rfl⟩)) (fun _ => EvIfs.one (EvT.cmp (EvE.call (.cons (EvE.var (i := 1) rfl) (.cons EvE.intC AllE.nil)) rfl (g_law_pick hD) (fn_law_pick hD)) EvE.intC okEq (hm := by kernel_rfl))) (fun _ => (EvE.var (i := 0) rfl))) (EvB.cons (EvS.for (EvI.list (EvE.var (i := 5) rfl)) (EvA.many ⟨⟨_, _, rfl, ⟨rfl, .inl rfl⟩⟩, ⟨_, _, rfl, ⟨rfl, .inl rfl⟩⟩, trivial⟩) (EvB.cons (EvS.ex (EvE.meth (EvE.attr (EvE.var (i := 3) rfl) (at_Heap_memory hD)) (.cons (EvE.bin (EvE.var (i := 6) rfl) EvE.intC okSub) (.cons EvE.intC AllE.nil)) (me_Memory_put_word hD))) EvB.nil)) (EvB.cons (EvS.ex (EvE.call (.cons (EvE.var (i := 3) rfl) AllE.nil) rfl (g_sweep hD) (fn_sweep hD))) EvB.nil))) EvB.nil) ?_
    refine EvB.cons (EvS.asgComp rfl ⟨rfl, .inl rfl⟩ (own := ["where", "kind"]) (cap := []) (capi := []) ⟨rfl, rfl, by decide, by decide, by decide, by decide, (List.forall_mem_nil _), CapI.nil, (List.forall_mem_nil _), List.Pairwise.nil, by decide⟩ (EvI.list (EvE.callB (.cons (EvE.var (i := 5) rfl) AllE.nil) okSortedP rfl (g_sorted hD) bt_sorted (by decide))) (fun _ => (EvA.many ⟨⟨_, _, rfl, ⟨rfl, .inr rfl⟩⟩, ⟨_, _, rfl, ⟨rfl, .inr rfl⟩⟩, trivial⟩)) (fun _ => EvIfs.none) (fun _ => (EvE.tup (.cons (EvE.bin (EvE.var (i := 0) rfl) EvE.intC okSub) (.cons (EvE.call (.cons (EvE.ix (EvE.var (i := 1) rfl) EvE.intC) AllE.nil) rfl (g_law_block hD) (fn_law_block hD)) AllE.nil))))) ?_
    refine EvB.cons (EvS.asgComp rfl ⟨rfl, .inl rfl⟩ (own := ["block", "size_of", "tag"]) (cap := []) (capi := []) ⟨rfl, rfl, by decide, by decide, by decide, by decide, (List.forall_mem_nil _), CapI.nil, (List.forall_mem_nil _), List.Pairwise.nil, by decide⟩ (EvI.list (EvE.meth (EvE.var (i := 3) rfl) AllE.nil (me_Heap_blocks hD))) (fun _ => (EvA.many ⟨⟨_, _, rfl, ⟨rfl, .inr rfl⟩⟩, ⟨_, _, rfl, ⟨rfl, .inr rfl⟩⟩, ⟨_, _, rfl, ⟨rfl, .inr rfl⟩⟩, trivial⟩)) (fun _ => EvIfs.one (EvT.cmp (EvE.var (i := 2) rfl) EvE.noneC okIs (hm := by kernel_rfl))) (fun _ => (EvE.tup (.cons (EvE.var (i := 0) rfl) (.cons (EvE.var (i := 1) rfl) AllE.nil))))) ?_
    refine EvB.cons (EvS.ifs (EvT.or (.cons (EvT.cmp (EvE.call (.cons (EvE.var (i := 3) rfl) AllE.nil) rfl (g_heap_faults hD) (fn_heap_faults hD)) (EvE.list AllE.nil) okNe (hm := by kernel_rfl)) (.cons (EvT.cmp (EvE.call (.cons (EvE.var (i := 3) rfl) AllE.nil) rfl (g_used_bytes hD) (fn_used_bytes hD)) (EvE.callB (.cons (EvE.comp (own := ["block", "size_of"]) (cap := []) (capi := []) ⟨rfl, rfl, by decide, by decide, by decide, by decide, (List.forall_mem_nil _), CapI.nil, (List.forall_mem_nil _), List.Pairwise.nil, by decide⟩ (EvI.list (EvE.var (i := 8) rfl)) (fun _ => (EvA.many ⟨⟨_, _, rfl, ⟨rfl, .inr rfl⟩⟩, ⟨_, _, rfl, ⟨rfl, .inr rfl⟩⟩, trivial⟩)) (fun _ => EvIfs.none) (fun _ => (EvE.var (i := 1) rfl))) AllE.nil) okSum rfl (g_sum hD) bt_sum (by decide)) okNe (hm := by kernel_rfl)) AllT.nil))) (EvB.cons (EvS.ret EvE.boolC) EvB.nil) EvB.nil) ?_
    refine EvB.cons (EvS.ifs (EvT.cmp (EvE.call (.cons (EvE.var (i := 3) rfl) AllE.nil) rfl (g_largest_free hD) (fn_largest_free hD)) (EvE.callB (.cons (EvE.bin (EvE.list (.cons EvE.intC AllE.nil)) (EvE.comp (own := ["block", "size_of"]) (cap := []) (capi := []) ⟨rfl, rfl, by decide, by decide, by decide, by decide, (List.forall_mem_nil _), CapI.nil, (List.forall_mem_nil _), List.Pairwise.nil, by decide⟩ (EvI.list (EvE.var (i := 9) rfl)) (fun _ => (EvA.many ⟨⟨_, _, rfl, ⟨rfl, .inr rfl⟩⟩, ⟨_, _, rfl, ⟨rfl, .inr rfl⟩⟩, trivial⟩)) (fun _ => EvIfs.none) (fun _ => (EvE.var (i := 1) rfl))) okAdd) AllE.nil) okMax rfl (g_max hD) bt_max (by decide)) okNe (hm := by kernel_rfl)) (EvB.cons (EvS.ret EvE.boolC) EvB.nil) EvB.nil) ?_
    refine EvB.cons (EvS.asg (EvE.call (.cons (EvE.var (i := 2) rfl) (.cons EvE.intC AllE.nil)) rfl (g_law_pick hD) (fn_law_pick hD)) ⟨rfl, .inl rfl⟩) ?_
    refine EvB.cons (EvS.ifs (EvT.cmp (EvE.var (i := 10) rfl) EvE.intC okLt (hm := by kernel_rfl)) (EvB.cons (EvS.asg (EvE.call (.cons (EvE.var (i := 2) rfl) (.cons (EvE.var (i := 3) rfl) (.cons (EvE.var (i := 10) rfl) (.cons (EvE.var (i := 8) rfl) (.cons (EvE.var (i := 9) rfl) AllE.nil))))) rfl (g_law_spoiled hD) (fn_law_spoiled hD)) ⟨rfl, .inl rfl⟩) (EvB.cons (EvS.ret (EvE.cmp (EvE.comp (own := ["fault"]) (cap := []) (capi := []) ⟨rfl, rfl, by decide, by decide, by decide, by decide, (List.forall_mem_nil _), CapI.nil, (List.forall_mem_nil _), List.Pairwise.nil, by decide⟩ (EvI.list (EvE.call (.cons (EvE.var (i := 3) rfl) AllE.nil) rfl (g_heap_faults hD) (fn_heap_faults hD))) (fun _ => (EvA.one ⟨rfl, .inr rfl⟩)) (fun _ => EvIfs.none) (fun _ => (EvE.callT (.cons (EvE.var (i := 0) rfl) AllE.nil) okTuple rfl (g_tuple hD) bt_tuple (by decide)))) (EvE.var (i := 11) rfl) okEq (hm := by kernel_rfl))) EvB.nil)) EvB.nil) ?_
    refine EvB.cons (EvS.for (EvI.range (.cons (EvE.bin EvE.intC (EvE.call (.cons (EvE.var (i := 2) rfl) (.cons EvE.intC AllE.nil)) rfl (g_law_pick hD) (fn_law_pick hD)) okAdd) AllE.nil) rfl (g_range hD) bt_range (by decide)) (EvA.one ⟨rfl, .inl rfl⟩) (EvB.cons (EvS.ex (EvE.meth (EvE.attr (EvE.var (i := 3) rfl) (at_Heap_memory hD)) (.cons (EvE.bin (EvE.attr (EvE.var (i := 3) rfl) (at_Heap_start hD)) (EvE.bin EvE.intC (EvE.call (.cons (EvE.var (i := 2) rfl) (.cons (EvE.bin (EvE.bin (EvE.attr (EvE.var (i := 3) rfl) (at_Heap_limit hD)) (EvE.attr (EvE.var (i := 3) rfl) (at_Heap_start hD)) okSub) EvE.intC okDiv) AllE.nil)) rfl (g_law_pick hD) (fn_law_pick hD)) okMulL) okAdd) (.cons (EvE.ix (EvE.list (.cons EvE.intC (.cons EvE.intC (.cons EvE.intC (.cons EvE.intC (.cons EvE.intC (.cons EvE.intC (.cons EvE.intC (.cons (EvE.bin (EvE.bin EvE.intC EvE.intC okPow) EvE.intC okSub) AllE.nil))))))))) (EvE.call (.cons (EvE.var (i := 2) rfl) (.cons EvE.intC AllE.nil)) rfl (g_law_pick hD) (fn_law_pick hD))) AllE.nil)) (me_Memory_put_word hD))) EvB.nil)) ?_
    refine EvB.cons (EvS.asg (EvE.list (.cons EvE.strC (.cons EvE.strC (.cons EvE.strC (.cons EvE.strC (.cons EvE.strC (.cons EvE.strC (.cons EvE.strC AllE.nil)))))))) ⟨rfl, .inl rfl⟩) ?_
    refine EvB.cons (EvS.ret (EvE.cmp EvE.boolC (EvE.comp (own := ["where", "kind"]) (cap := ["named", "area"]) (capi := [13, 3]) ⟨rfl, rfl, by decide, by decide, by decide, by decide, (List.forall_mem_cons.mpr ⟨⟨rfl, _, rfl, rfl⟩, (List.forall_mem_cons.mpr ⟨⟨rfl, _, rfl, rfl⟩, (List.forall_mem_nil _)⟩)⟩), (CapI.cons rfl rfl (CapI.cons rfl rfl CapI.nil)), (List.forall_mem_cons.mpr ⟨mem_of_lookup rfl, (List.forall_mem_cons.mpr ⟨mem_of_lookup rfl, (List.forall_mem_nil _)⟩)⟩), (List.Pairwise.cons (List.forall_mem_cons.mpr ⟨by first | exact Nat.ne_of_lt (Nat.lt_succ_self _) | exact Nat.ne_of_gt (Nat.lt_succ_self _), List.forall_mem_nil _⟩) (List.pairwise_singleton _ _)), by decide⟩ (EvI.list (EvE.call (.cons (EvE.var (i := 3) rfl) AllE.nil) rfl (g_heap_faults hD) (fn_heap_faults hD))) (fun _ => (EvA.many ⟨⟨_, _, rfl, ⟨rfl, .inr rfl⟩⟩, ⟨_, _, rfl, ⟨rfl, .inr rfl⟩⟩, trivial⟩)) (fun _ => EvIfs.none) (fun _ => (EvE.or2 (EvE.and2 (EvE.cmp (EvE.bin (EvE.attr (EvE.var (i := 3) rfl) (at_Heap_start hD)) EvE.intC okSub) (EvE.var (i := 0) rfl) okLe (hm := by kernel_rfl)) (EvE.cmp (EvE.var (i := 1) rfl) (EvE.var (i := 2) rfl) okIn (hm := by kernel_rfl))) (EvE.cmp (EvE.var (i := 1) rfl) EvE.strC okEq (hm := by kernel_rfl))))) okNotIn (hm := by kernel_rfl))) ?_
    exact EvB.nil
  exact Calls.of_body h1 h2 hu q
end Mine

set_option maxRecDepth 100000
set_option maxHeartbeats 4000000
namespace Mine
open PySem PySem.W PyProof.Rows
/-- Heap.__init__ -/
noncomputable def W_Heap_init (D : Wd) (n : Nat) : WS :=
  (W.seq (W.setF 108 "memory" (W.v 0) (W.v 1)) (W.seq (W.setF 108 "start" (W.v 0) (W.v 2)) (W.seq (W.setF 108 "limit" (W.v 0) (W.v 3)) (W.seq (W.setF 108 "free" (W.v 0) (W.bin wRep (W.app wList [(W.c (.int 0))]) (W.c (.int 4)))) (W.seq (W.ifs (W.t (W.bin wGt (W.v 3) (W.v 2))) (W.seq (W.ex (W.meth D 108 "put_free" 56 (n + 4) (W.v 0) [(W.v 2), (W.bin wSub (W.v 3) (W.v 2))])) W.nil) W.nil) W.nil)))))
theorem c_Heap_init {D : Wd} {P : Params} (hD : D.KF = HK P) {n : Nat} {us : List V} {hp : Hp} {Q : V → Hp → Prop} (hu : us.length = 4)
    (q : W_Heap_init D n (us.map some ++ List.replicate 0 none) hp (bodyPost Q)) : Calls D 49 (n + 5) us hp Q := by
  obtain ⟨fd, body, h1, h2⟩ : ∃ fd body, FnOk D.KF 49 fd body ["self", "memory", "start", "limit"] 4 ∧ ∀ L, EvB D (bodyFd fd ["self", "memory", "start", "limit"] 49 L) (n + 4) body (W_Heap_init D n) := by
    refine ⟨_, _, ⟨⟨_, _, _, by rw [hD]; rfl⟩, by rw [hD]; rfl, rfl, rfl, rfl, rfl, fun vs h => by obtain ⟨a, b, c, d, rfl⟩ := len4 h; rfl, by decide, rfl, rfl, rfl, by decide, by decide, by decide, by decide⟩, fun L => ?_⟩
    unfold W_Heap_init
    refine EvB.cons (EvS.setF (EvE.var (i := 0) rfl) (EvE.var (i := 1) rfl) (se_Heap_memory hD)) ?_
    refine EvB.cons (EvS.setF (EvE.var (i := 0) rfl) (EvE.var (i := 2) rfl) (se_Heap_start hD)) ?_
    refine EvB.cons (EvS.setF (EvE.var (i := 0) rfl) (EvE.var (i := 3) rfl) (se_Heap_limit hD)) ?_
    refine EvB.cons (EvS.setF (EvE.var (i := 0) rfl) (EvE.bin (EvE.list (.cons EvE.intC AllE.nil)) (EvE.gint rfl (g_LISTS hD)) okRep) (se_Heap_free hD)) ?_
    refine EvB.cons (EvS.ifs (EvT.cmp (EvE.var (i := 3) rfl) (EvE.var (i := 2) rfl) okGt (hm := by kernel_rfl)) (EvB.cons (EvS.ex (EvE.meth (EvE.var (i := 0) rfl) (.cons (EvE.var (i := 2) rfl) (.cons (EvE.bin (EvE.var (i := 3) rfl) (EvE.var (i := 2) rfl) okSub) AllE.nil)) (me_Heap_put_free hD))) EvB.nil) EvB.nil) ?_
    exact EvB.nil
  exact Calls.of_body h1 h2 hu q
/-- Memory.__init__ -/
noncomputable def W_Memory_init (D : Wd) (n : Nat) : WS :=
  (W.seq (W.setF 238 "size" (W.v 0) (W.v 1)) (W.seq (W.setF 238 "words" (W.v 0) W.dict0) W.nil))
theorem c_Memory_init {D : Wd} {P : Params} (hD : D.KF = HK P) {n : Nat} {us : List V} {hp : Hp} {Q : V → Hp → Prop} (hu : us.length = 2)
    (q : W_Memory_init D n (us.map some ++ List.replicate 0 none) hp (bodyPost Q)) : Calls D 200 (n + 5) us hp Q := by
  obtain ⟨fd, body, h1, h2⟩ : ∃ fd body, FnOk D.KF 200 fd body ["self", "size"] 2 ∧ ∀ L, EvB D (bodyFd fd ["self", "size"] 200 L) (n + 4) body (W_Memory_init D n) := by
    refine ⟨_, _, ⟨⟨_, _, _, by rw [hD]; rfl⟩, by rw [hD]; rfl, rfl, rfl, rfl, rfl, fun vs h => by obtain ⟨a, b, rfl⟩ := len2 h; rfl, by decide, rfl, rfl, rfl, by decide, by decide, by decide, by decide⟩, fun L => ?_⟩
    unfold W_Memory_init
    refine EvB.cons (EvS.setF (EvE.var (i := 0) rfl) (EvE.var (i := 1) rfl) (se_Memory_size hD)) ?_
    refine EvB.cons (EvS.setF (EvE.var (i := 0) rfl) EvE.dict0 (se_Memory_words hD)) ?_
    exact EvB.nil
  exact Calls.of_body h1 h2 hu q
end Mine

namespace Mine
open PySem PySem.W PyProof.Rows

/-! words of a memory -/
noncomputable def mw (d : List (Int × V)) (k : Int) : Int := match dget d k with
  | some (.int v) => v
  | _ => 0
noncomputable def wr (d : List (Int × V)) (a v : Int) : List (Int × V) := dput d (a / 4) (.int (v % 4294967296))
structure DOk (d : List (Int × V)) : Prop where
  vals : ∀ k u, dget d k = some u → ∃ v, u = .int v ∧ 0 ≤ v ∧ v < 4294967296
  keys : ∀ p ∈ d, 0 ≤ p.1 ∧ p.1 < 2048
  nodup : (d.map (·.1)).Nodup

theorem dget_map (d : List (Int × V)) (k j : Int) (u : V) : dget (d.map fun kv => if kv.1 = k then (kv.1, u) else kv) j = if j = k then (dget d j).map (fun _ => u) else dget d j := by
  unfold dget
  induction d with
  | nil => simp
  | cons p d ih =>
    rw [List.map_cons, List.find?_cons, List.find?_cons]
    by_cases h1 : p.1 = k
    · simp only [h1, if_true]
      by_cases h2 : k = j
      · subst h2; simp
      · have h3 : ¬ j = k := fun e => h2 e.symm
        simp only [h2, decide_false, h3, if_false] at ih ⊢
        exact ih
    · simp only [h1, if_false]
      by_cases h2 : p.1 = j
      · have h3 : ¬ j = k := fun e => h1 (h2.trans e)
        simp [h2, h3]
      · simp only [h2, decide_false]
        exact ih
theorem dget_app (d : List (Int × V)) (k j : Int) (u : V) (h : d.any (fun kv => kv.1 = k) = false) : dget (d ++ [(k, u)]) j = if j = k then some u else dget d j := by
  unfold dget
  induction d with
  | nil =>
    by_cases h2 : k = j
    · subst h2; simp
    · have h3 : ¬ j = k := fun e => h2 e.symm
      simp [h2, h3]
  | cons p d ih =>
    rw [List.any_cons, Bool.or_eq_false_iff] at h
    rw [List.cons_append, List.find?_cons, List.find?_cons]
    have h1 : ¬ p.1 = k := by simpa using h.1
    by_cases h2 : p.1 = j
    · have h3 : ¬ j = k := fun e => h1 (h2.trans e)
      simp [h2, h3]
    · simp only [h2, decide_false]
      exact ih h.2
theorem dget_any (d : List (Int × V)) (k : Int) : (dget d k).isSome = d.any (fun kv => kv.1 = k) := by
  unfold dget
  induction d with
  | nil => rfl
  | cons p d ih =>
    rw [List.find?_cons, List.any_cons]
    by_cases h : p.1 = k
    · simp [h]
    · simp only [h, decide_false, Bool.false_or]; exact ih
theorem dget_put (d : List (Int × V)) (k j : Int) (u : V) : dget (dput d k u) j = if j = k then some u else dget d j := by
  unfold dput
  cases h : d.any (fun kv => kv.1 = k) with
  | true =>
    rw [if_pos rfl, dget_map]
    by_cases e : j = k
    · subst e
      have := dget_any d j
      rw [h] at this
      obtain ⟨w, hw⟩ := Option.isSome_iff_exists.mp this
      simp [hw]
    · simp [e]
  | false => rw [if_neg (by simp), dget_app d k j u h]
theorem dput_keys (d : List (Int × V)) (k : Int) (u : V) : (dput d k u).map (·.1) = if d.any (fun kv => kv.1 = k) then d.map (·.1) else d.map (·.1) ++ [k] := by
  unfold dput
  split
  · rw [List.map_map]
    apply List.map_congr_left
    intro p _
    show (if p.1 = k then (p.1, u) else p).1 = p.1
    split <;> rfl
  · simp
theorem mw_wr (d : List (Int × V)) (a v j : Int) : mw (wr d a v) j = if j = a / 4 then v % 4294967296 else mw d j := by
  unfold mw wr
  rw [dget_put]
  by_cases e : j = a / 4 <;> simp [e]
theorem DOk.nil : DOk [] := ⟨fun k u h => by simp [dget] at h, by simp, List.nodup_nil⟩
theorem DOk.wr {d : List (Int × V)} (h : DOk d) {a v : Int} (h0 : 0 ≤ a) (h1 : a < 8192) : DOk (wr d a v) := by
  refine ⟨fun k u hk => ?_, fun p hp => ?_, ?_⟩
  · unfold Mine.wr at hk
    rw [dget_put] at hk
    split at hk
    · cases hk; exact ⟨_, rfl, by (and_intros <;> omega), by (and_intros <;> omega)⟩
    · exact h.vals k u hk
  · have : p.1 ∈ (Mine.wr d a v).map (·.1) := List.mem_map.mpr ⟨p, hp, rfl⟩
    unfold Mine.wr at this
    rw [dput_keys] at this
    split at this
    · obtain ⟨q, hq, e⟩ := List.mem_map.mp this
      rw [← e]; exact h.keys q hq
    · rcases List.mem_append.mp this with q | q
      · obtain ⟨q, hq, e⟩ := List.mem_map.mp q
        rw [← e]; exact h.keys q hq
      · rw [List.mem_singleton.mp q]; (and_intros <;> omega)
  · unfold Mine.wr
    rw [dput_keys]
    split
    · exact h.nodup
    · rename_i hn
      rw [List.nodup_append]
      refine ⟨h.nodup, by simp, fun x hx y hy e => hn ?_⟩
      rw [List.mem_singleton.mp hy] at e
      subst e
      obtain ⟨p, hp, e⟩ := List.mem_map.mp hx
      exact List.any_eq_true.mpr ⟨p, hp, by simpa using e⟩
theorem mw_get {d : List (Int × V)} (h : DOk d) (k : Int) : (dget d k).getD (.int 0) = .int (mw d k) := by
  unfold mw
  cases e : dget d k with
  | none => rfl
  | some u => obtain ⟨v, rfl, _⟩ := h.vals k u e; rfl
theorem mw_range {d : List (Int × V)} (h : DOk d) (k : Int) : 0 ≤ mw d k ∧ mw d k < 4294967296 := by
  unfold mw
  cases e : dget d k with
  | none => exact ⟨Int.le_refl _, by decide⟩
  | some u => obtain ⟨v, rfl, h⟩ := h.vals k u e; exact h
theorem nodup_len : ∀ (N : Nat) (l : List Int), l.Nodup → (∀ x ∈ l, 0 ≤ x ∧ x < N) → l.length ≤ N
  | 0, l, _, h => by
    cases l with
    | nil => exact Nat.le_refl _
    | cons x r => have := h x (.head _); (and_intros <;> omega)
  | N + 1, l, nd, h => by
    have ih := nodup_len N (l.filter (· ≠ (N : Int))) (nd.sublist List.filter_sublist) fun x hx => by
      obtain ⟨h1, h2⟩ := List.mem_filter.mp hx
      have := h x h1
      have : x ≠ N := by simpa using h2
      (and_intros <;> omega)
    have : ∀ l : List Int, l.Nodup → l.length ≤ (l.filter (· ≠ (N : Int))).length + 1 := by
      intro l
      induction l with
      | nil => intro _; simp
      | cons x r ihr =>
        intro nd
        obtain ⟨n1, n2⟩ := List.nodup_cons.mp nd
        by_cases e : x = N
        · have : r.filter (· ≠ (N : Int)) = r := List.filter_eq_self.mpr fun y hy => by
            have : y ≠ x := fun q => n1 (q ▸ hy)
            simpa [e] using this
          rw [List.filter_cons_of_neg (by simpa using e), this]
          simp
        · rw [List.filter_cons_of_pos (by simpa using e)]
          have := ihr n2
          simp only [List.length_cons]; (and_intros <;> omega)
    have := this l nd
    (and_intros <;> omega)
theorem DOk.len {d : List (Int × V)} (h : DOk d) : d.length ≤ 2048 := by
  have := nodup_len 2048 (d.map (·.1)) h.nodup fun x hx => by
    obtain ⟨p, hp, rfl⟩ := List.mem_map.mp hx
    have := h.keys p hp
    (and_intros <;> omega)
  simpa using this

section
variable {D : Wd} {P : Params} (hD : D.KF = HK P) {n : Nat} {hp : Hp} {Q : V → Hp → Prop}

structure MemAt (hp : Hp) (aM dM aW : Addr) : Prop where
  M : hp aM = some (.inst 238 dM)
  dM : hp dM = some (.ns [("size", .int 8192), ("words", .ref aW)])
variable {aM dM aW : Addr}
theorem MemAt.size (h : MemAt hp aM dM aW) : fld hp 238 "size" (.ref aM) = some (.int 8192) := fld_inst h.M h.dM
theorem MemAt.words (h : MemAt hp aM dM aW) : fld hp 238 "words" (.ref aM) = some (.ref aW) := fld_inst h.M h.dM
theorem MemAt.o_place (h : MemAt hp aM dM aW) : isObj hp 238 "place" (.ref aM) = True := (isObj_inst h.M h.dM).trans (eq_true rfl)
theorem MemAt.o_word (h : MemAt hp aM dM aW) : isObj hp 238 "word" (.ref aM) = True := (isObj_inst h.M h.dM).trans (eq_true rfl)
theorem MemAt.o_put_word (h : MemAt hp aM dM aW) : isObj hp 238 "put_word" (.ref aM) = True := (isObj_inst h.M h.dM).trans (eq_true rfl)

include hD
theorem s_place (h : MemAt hp aM dM aW) {a : Int} (h0 : 0 ≤ a) (h1 : a < 8192) (q : Q (.int (a / 4)) hp) : Calls D 207 (n + 5) [.ref aM, .int a] hp Q := by
  refine c_m_place hD rfl ?_
  simp [W_m_place, h.size]
  exact ⟨fun _ => ⟨fun _ => q, h1⟩, h0⟩
theorem s_word (h : MemAt hp aM dM aW) {d : List (Int × V)} (hd : hp aW = some (.dict d)) (ok : DOk d) {a : Int} (h0 : 0 ≤ a) (h1 : a < 8192) (q : Q (.int (mw d (a / 4))) hp) : Calls D 214 (n + 6) [.ref aM, .int a] hp Q := by
  refine c_m_word hD (n := n + 1) rfl ?_
  simp [W_m_word, h.words, h.o_place, isD_dict hd]
  refine s_place hD h h0 h1 ?_
  rw [wGet_dict hd, mw_get ok]; exact q
theorem s_put_word (h : MemAt hp aM dM aW) {d : List (Int × V)} (hd : hp aW = some (.dict d)) (ok : DOk d) {a v : Int} (h0 : 0 ≤ a) (h1 : a < 8192) (q : Q .none (hp.set aW (.dict (wr d a v)))) : Calls D 221 (n + 6) [.ref aM, .int a, .int v] hp Q := by
  refine c_m_put_word hD (n := n + 1) rfl ?_
  simp [W_m_put_word, h.words, h.o_place]
  refine s_place hD h h0 h1 ?_
  rw [wSetItem_dict hd]
  exact ⟨by have := ok.len; (and_intros <;> omega), q⟩
noncomputable def bsz (r : Int) : Int := (r + 8 + 16 - 1) / 16 * 16
noncomputable def cls (s : Int) : Int := if s < 32 then 0 else if s < 64 then 1 else if s < 128 then 2 else 3
theorem s_block_size {r : Int} (q : Q (.int (bsz r)) hp) : Calls D 28 (n + 5) [.int r] hp Q := by
  refine c_block_size hD rfl ?_
  simp [W_block_size]
  exact q
theorem s_list_number {r : Int} (q : Q (.int (cls r)) hp) : Calls D 35 (n + 5) [.int r] hp Q := by
  refine c_list_number hD rfl ?_
  simp [W_list_number]
  unfold cls at q
  refine ⟨fun h => ?_, fun h => ⟨fun h' => ?_, fun h' => ⟨fun h'' => ?_, fun h'' => ?_⟩⟩⟩
  · rwa [if_pos h] at q
  · rwa [if_neg (by (and_intros <;> omega)), if_pos h'] at q
  · rwa [if_neg (by (and_intros <;> omega)), if_neg (by (and_intros <;> omega)), if_pos h''] at q
  · rwa [if_neg (by (and_intros <;> omega)), if_neg (by (and_intros <;> omega)), if_neg (by (and_intros <;> omega))] at q
end
end Mine

namespace Mine
open PySem PySem.W PyProof.Rows

structure Lay where
  aM : Addr
  dM : Addr
  aW : Addr
  aH : Addr
  dH : Addr
  aF : Addr
  lim : Int
noncomputable def Lay.put (L : Lay) (d : List (Int × V)) (fr : List Int) (hp : Hp) : Hp := (hp.set L.aW (.dict d)).set L.aF (.list (fr.map .int))
theorem W.seq_put {loc : Loc} {L : Lay} {d : List (Int × V)} {fr : List Int} {hp : Hp} (a b : WS) (Q : Fl → Loc → Hp → Prop) : W.seq a b loc (L.put d fr hp) Q = a loc (L.put d fr hp) (sq b Q) := rfl
structure Lay.Ok (L : Lay) (hp : Hp) : Prop where
  M : hp L.aM = some (.inst 238 L.dM)
  dM : hp L.dM = some (.ns [("size", .int 8192), ("words", .ref L.aW)])
  H : hp L.aH = some (.inst 108 L.dH)
  dH : hp L.dH = some (.ns [("memory", .ref L.aM), ("start", .int 1024), ("limit", .int L.lim), ("free", .ref L.aF)])
  n1 : L.aM ≠ L.aW
  n2 : L.aM ≠ L.aF
  n3 : L.dM ≠ L.aW
  n4 : L.dM ≠ L.aF
  n5 : L.aH ≠ L.aW
  n6 : L.aH ≠ L.aF
  n7 : L.dH ≠ L.aW
  n8 : L.dH ≠ L.aF
  n9 : L.aW ≠ L.aF

section
variable {L : Lay} {hp : Hp} {d d' : List (Int × V)} {fr fr' : List Int}
theorem Lay.put_ne {a : Addr} (h1 : a ≠ L.aW) (h2 : a ≠ L.aF) : L.put d fr hp a = hp a := by
  unfold Lay.put; rw [Hp.set_ne _ _ h2, Hp.set_ne _ _ h1]
theorem Lay.put_none {c : Addr} (h : L.put d fr hp c = none) : c ≠ L.aW ∧ c ≠ L.aF ∧ hp c = none := by
  have h1 : c ≠ L.aF := fun e => by unfold Lay.put at h; rw [e, Hp.set_self] at h; cases h
  have h2 : c ≠ L.aW := fun e => by
    unfold Lay.put at h
    rw [Hp.set_ne _ _ h1, e, Hp.set_self] at h; cases h
  exact ⟨h2, h1, by rwa [Lay.put_ne h2 h1] at h⟩
theorem Lay.put_set {c : Addr} {o : O} (h1 : c ≠ L.aW) (h2 : c ≠ L.aF) : (L.put d fr hp).set c o = L.put d fr (hp.set c o) := by
  unfold Lay.put
  rw [Hp.set_comm _ _ _ (Ne.symm h2), Hp.set_comm hp _ _ (Ne.symm h1)]
namespace Lay.Ok
variable (k : L.Ok hp)
include k
theorem atW : L.put d fr hp L.aW = some (.dict d) := by unfold Lay.put; rw [Hp.set_ne _ _ k.n9, Hp.set_self]
theorem atF : L.put d fr hp L.aF = some (.list (fr.map .int)) := by unfold Lay.put; rw [Hp.set_self]
theorem atM : L.put d fr hp L.aM = some (.inst 238 L.dM) := by rw [Lay.put_ne k.n1 k.n2]; exact k.M
theorem atdM : L.put d fr hp L.dM = some (.ns [("size", .int 8192), ("words", .ref L.aW)]) := by rw [Lay.put_ne k.n3 k.n4]; exact k.dM
theorem atH : L.put d fr hp L.aH = some (.inst 108 L.dH) := by rw [Lay.put_ne k.n5 k.n6]; exact k.H
theorem atdH : L.put d fr hp L.dH = some (.ns [("memory", .ref L.aM), ("start", .int 1024), ("limit", .int L.lim), ("free", .ref L.aF)]) := by rw [Lay.put_ne k.n7 k.n8]; exact k.dH
theorem mem : MemAt (L.put d fr hp) L.aM L.dM L.aW := ⟨k.atM, k.atdM⟩
theorem setW : (L.put d fr hp).set L.aW (.dict d') = L.put d' fr hp := by
  unfold Lay.put
  rw [Hp.set_comm _ _ _ (Ne.symm k.n9), Hp.set_set]
theorem setF : (L.put d fr hp).set L.aF (.list (fr'.map .int)) = L.put d fr' hp := by unfold Lay.put; rw [Hp.set_set]
theorem f_memory : fld (L.put d fr hp) 108 "memory" (.ref L.aH) = some (.ref L.aM) := fld_inst k.atH k.atdH
theorem f_start : fld (L.put d fr hp) 108 "start" (.ref L.aH) = some (.int 1024) := fld_inst k.atH k.atdH
theorem f_limit : fld (L.put d fr hp) 108 "limit" (.ref L.aH) = some (.int L.lim) := fld_inst k.atH k.atdH
theorem f_free : fld (L.put d fr hp) 108 "free" (.ref L.aH) = some (.ref L.aF) := fld_inst k.atH k.atdH
theorem o_put_free : isObj (L.put d fr hp) 108 "put_free" (.ref L.aH) = True := (isObj_inst k.atH k.atdH).trans (eq_true rfl)
theorem o_is_free : isObj (L.put d fr hp) 108 "is_free" (.ref L.aH) = True := (isObj_inst k.atH k.atdH).trans (eq_true rfl)
theorem o_descriptor : isObj (L.put d fr hp) 108 "descriptor" (.ref L.aH) = True := (isObj_inst k.atH k.atdH).trans (eq_true rfl)
theorem o_size_of : isObj (L.put d fr hp) 108 "size_of" (.ref L.aH) = True := (isObj_inst k.atH k.atdH).trans (eq_true rfl)
theorem o_take_free : isObj (L.put d fr hp) 108 "take_free" (.ref L.aH) = True := (isObj_inst k.atH k.atdH).trans (eq_true rfl)
theorem o_alloc : isObj (L.put d fr hp) 108 "alloc" (.ref L.aH) = True := (isObj_inst k.atH k.atdH).trans (eq_true rfl)
theorem o_blocks : isObj (L.put d fr hp) 108 "blocks" (.ref L.aH) = True := (isObj_inst k.atH k.atdH).trans (eq_true rfl)
theorem set {c : Addr} {o : O} (h1 : c ≠ L.aM) (h2 : c ≠ L.dM) (h3 : c ≠ L.aH) (h4 : c ≠ L.dH) : L.Ok (hp.set c o) :=
  ⟨by rw [Hp.set_ne _ _ (Ne.symm h1)]; exact k.M, by rw [Hp.set_ne _ _ (Ne.symm h2)]; exact k.dM, by rw [Hp.set_ne _ _ (Ne.symm h3)]; exact k.H, by rw [Hp.set_ne _ _ (Ne.symm h4)]; exact k.dH,
    k.n1, k.n2, k.n3, k.n4, k.n5, k.n6, k.n7, k.n8, k.n9⟩
theorem setNew {c : Addr} {o : O} (h : hp c = none) : L.Ok (hp.set c o) :=
  k.set (fun e => by rw [e, k.M] at h; cases h) (fun e => by rw [e, k.dM] at h; cases h) (fun e => by rw [e, k.H] at h; cases h) (fun e => by rw [e, k.dH] at h; cases h)
theorem setList {c : Addr} {o : O} {us : List V} (h : hp c = some (.list us)) : L.Ok (hp.set c o) :=
  k.set (fun e => by rw [e, k.M] at h; cases h) (fun e => by rw [e, k.dM] at h; cases h) (fun e => by rw [e, k.H] at h; cases h) (fun e => by rw [e, k.dH] at h; cases h)
theorem setDict {c : Addr} {o : O} {us : List (Int × V)} (h : hp c = some (.dict us)) : L.Ok (hp.set c o) :=
  k.set (fun e => by rw [e, k.M] at h; cases h) (fun e => by rw [e, k.dM] at h; cases h) (fun e => by rw [e, k.H] at h; cases h) (fun e => by rw [e, k.dH] at h; cases h)
end Lay.Ok
end

/-- the size that size_of tells -/
noncomputable def sizeP (m : Int → Int) (b : Int) : Int := if m (b / 4) % 2 = 1 then m (b / 4) - 1 else bsz (m (m (b / 4) / 4))
noncomputable def pfd (d : List (Int × V)) (fr : List Int) (b s : Int) : List (Int × V) := wr (wr d b (s + 1)) (b + 4) (fr.getD (cls s).toNat 0)
noncomputable def pff (fr : List Int) (b s : Int) : List Int := fr.set (cls s).toNat b
theorem cls_range (s : Int) : 0 ≤ cls s ∧ cls s < 4 := by
  unfold cls
  split
  · (and_intros <;> omega)
  · split
    · (and_intros <;> omega)
    · split <;> omega

theorem ints_ix {us : List Int} {k : Int} (h0 : 0 ≤ k) (h1 : k < us.length) : (us.map V.int)[ixN (us.map V.int).length k]? = some (.int (us.getD k.toNat 0)) := by
  unfold ixN
  rw [if_neg (by (and_intros <;> omega))]
  have : k.toNat < us.length := by (and_intros <;> omega)
  simp [List.getD, this]

section
variable {D : Wd} {P : Params} (hD : D.KF = HK P) {n : Nat} {hp : Hp} {Q : V → Hp → Prop} {L : Lay} (k : L.Ok hp) {d : List (Int × V)} (ok : DOk d) {fr : List Int}
include hD k ok
theorem s_descriptor {b : Int} (h0 : 0 ≤ b) (h1 : b < 8192) (q : Q (.int (mw d (b / 4))) (L.put d fr hp)) : Calls D 70 (n + 7) [.ref L.aH, .int b] (L.put d fr hp) Q := by
  refine c_h_descriptor hD (n := n + 2) rfl ?_
  simp [W_h_descriptor, k.f_memory, k.mem.o_word]
  exact s_word hD k.mem k.atW ok h0 h1 q
theorem s_is_free {b : Int} (h0 : 0 ≤ b) (h1 : b < 8192) (q : Q (.bool (decide (mw d (b / 4) % 2 = 1))) (L.put d fr hp)) : Calls D 63 (n + 7) [.ref L.aH, .int b] (L.put d fr hp) Q := by
  refine c_h_is_free hD (n := n + 2) rfl ?_
  simp [W_h_is_free, k.f_memory, k.mem.o_word]
  refine s_word hD k.mem k.atW ok h0 h1 ?_
  simp
  exact q
theorem s_size_of {b : Int} (h0 : 0 ≤ b) (h1 : b < 8192) (h2 : mw d (b / 4) % 2 = 1 ∨ mw d (b / 4) < 8192) (q : Q (.int (sizeP (mw d) b)) (L.put d fr hp)) : Calls D 77 (n + 7) [.ref L.aH, .int b] (L.put d fr hp) Q := by
  refine c_h_size_of hD (n := n + 2) rfl ?_
  simp [W_h_size_of, k.f_memory, k.mem.o_word]
  refine s_word hD k.mem k.atW ok h0 h1 ?_
  unfold sizeP at q
  simp
  refine ⟨fun h => ?_, fun h => ?_⟩
  · rwa [if_pos h] at q
  · rw [if_neg (by (and_intros <;> omega))] at q
    simp [k.f_memory, k.mem.o_word]
    refine s_word hD k.mem k.atW ok (mw_range ok _).1 (by (and_intros <;> omega)) ?_
    exact s_block_size hD (n := n + 1) q
theorem s_put_free (hf : fr.length = 4) {b s : Int} (h0 : 0 ≤ b) (h1 : b + 4 < 8192) (q : Q .none (L.put (pfd d fr b s) (pff fr b s) hp)) : Calls D 56 (n + 7) [.ref L.aH, .int b, .int s] (L.put d fr hp) Q := by
  refine c_h_put_free hD (n := n + 2) rfl ?_
  have hc := cls_range s
  simp [W_h_put_free]
  refine s_list_number hD (n := n + 1) ?_
  simp [k.f_memory, k.mem.o_put_word]
  refine s_put_word hD k.mem k.atW ok h0 (by (and_intros <;> omega)) ?_
  rw [k.setW]
  simp [k.f_memory, k.f_free, k.mem.o_put_word]
  have ok1 : DOk (wr d b (s + 1)) := ok.wr h0 (by (and_intros <;> omega))
  rw [wIx_list k.atF]
  refine ⟨⟨by simp [hf], by simp [hf]; (and_intros <;> omega)⟩, _, ints_ix hc.1 (by rw [hf]; exact hc.2), ?_⟩
  refine s_put_word hD k.mem k.atW ok1 (by (and_intros <;> omega)) h1 ?_
  rw [k.setW]
  simp [k.f_free]
  rw [wSetItem_list k.atF]
  refine ⟨⟨hc.1, by simp [hf]; exact hc.2, by simp [hf]⟩, ?_⟩
  have : (fr.map V.int).set (cls s).toNat (.int b) = (pff fr b s).map .int := by unfold pff; rw [List.map_set]
  rw [this, k.setF]
  exact q
end
end Mine

namespace Mine
open PySem PySem.W PyProof.Rows

noncomputable def Hp.le (hp hp' : Hp) : Prop := ∀ a o, hp a = some o → hp' a = some o
theorem Hp.le.refl (hp : Hp) : hp.le hp := fun _ _ h => h
theorem Hp.le.trans {a b c : Hp} (h : a.le b) (g : b.le c) : a.le c := fun x o e => g x o (h x o e)
theorem Hp.le.new {hp hp' : Hp} (h : hp.le hp') {c : Addr} {o : O} (g : hp c = none) : hp.le (hp'.set c o) := fun a o' e => by
  rw [Hp.set_ne _ _ (fun q => by rw [q, g] at e; cases e)]; exact h a o' e
theorem Hp.le.set {hp hp' : Hp} (h : hp.le hp') (c : Addr) (o : O) : (hp.set c o).le (hp'.set c o) := fun a o' e => by
  by_cases q : a = c
  · subst q; rw [Hp.set_self] at e ⊢; exact e
  · rw [Hp.set_ne _ _ q] at e ⊢; exact h a o' e
noncomputable def chkP (lim b s : Int) : Int := if s < 16 ∨ s % 16 ≠ 0 ∨ b + s > lim then 0 else s
noncomputable def toldP (m : Int → Int) (lim b : Int) : Int :=
  if m (b / 4) % 2 = 1 then chkP lim b (m (b / 4) - 1)
  else if m (b / 4) = 0 ∨ m (b / 4) % 4 ≠ 0 ∨ 1024 ≤ m (b / 4) then 0
  else chkP lim b (bsz (m (m (b / 4) / 4)))
theorem chkP_cases (lim b s : Int) : chkP lim b s = 0 ∨ (chkP lim b s = s ∧ 16 ≤ s ∧ s % 16 = 0 ∧ b + s ≤ lim) := by
  unfold chkP
  split
  · exact .inl rfl
  · exact .inr ⟨rfl, by (and_intros <;> omega), by (and_intros <;> omega), by (and_intros <;> omega)⟩
theorem toldP_cases (m : Int → Int) (lim b : Int) : toldP m lim b = 0 ∨ (16 ≤ toldP m lim b ∧ toldP m lim b % 16 = 0 ∧ b + toldP m lim b ≤ lim) := by
  unfold toldP
  split
  · rcases chkP_cases lim b (m (b / 4) - 1) with h | ⟨h, a⟩
    · exact .inl h
    · rw [h]; exact .inr a
  · split
    · exact .inl rfl
    · rcases chkP_cases lim b (bsz (m (m (b / 4) / 4))) with h | ⟨h, a⟩
      · exact .inl h
      · rw [h]; exact .inr a

section
variable {D : Wd} {P : Params} (hD : D.KF = HK P) {n : Nat} {hp : Hp} {Q : V → Hp → Prop} {L : Lay} (k : L.Ok hp) {d : List (Int × V)} (ok : DOk d) {fr : List Int}
include hD k ok
theorem s_told_size {b : Int} (h0 : 0 ≤ b) (h1 : b < 8192) (q : Q (.int (toldP (mw d) L.lim b)) (L.put d fr hp)) : Calls D 119 (n + 7) [.ref L.aH, .int b] (L.put d fr hp) Q := by
  refine c_told_size hD (n := n + 2) rfl ?_
  have tail : ∀ (v : Int) (s : Int) (Q' : V → Hp → Prop), Q' (.int (chkP L.lim b s)) (L.put d fr hp) →
      (((s < 16 → Q' (.int 0) (L.put d fr hp)) ∧ (16 ≤ s → ((¬ s % 16 = 0 → Q' (.int 0) (L.put d fr hp)) ∧ (s % 16 = 0 → (L.lim < b + s → Q' (.int 0) (L.put d fr hp)) ∧ (b + s ≤ L.lim → Q' (.int s) (L.put d fr hp))))))) := fun v s Q' q => by
    unfold chkP at q
    refine ⟨fun h => ?_, fun h => ⟨fun h' => ?_, fun h' => ⟨fun h'' => ?_, fun h'' => ?_⟩⟩⟩
    · rwa [if_pos (by (and_intros <;> omega))] at q
    · rwa [if_pos (by (and_intros <;> omega))] at q
    · rwa [if_pos (by (and_intros <;> omega))] at q
    · rwa [if_neg (by (and_intros <;> omega))] at q
  simp [-W.seq_eq, W.seq_put, W_told_size, k.f_memory, k.mem.o_word]
  refine s_word hD k.mem k.atW ok h0 h1 ?_
  have hr := mw_range ok (b / 4)
  unfold toldP at q
  generalize hv : mw d (b / 4) = v at *
  simp [-W.seq_eq, W.seq_put, k.f_memory, k.mem.o_word, k.f_start, k.f_limit]
  by_cases c1 : v % 2 = 1
  · rw [if_pos c1] at q
    have t := tail v (v - 1) Q q
    refine ⟨fun _ => ?_, fun h => absurd c1 (by (and_intros <;> omega))⟩
    refine ⟨fun h => ⟨fun h' => ⟨fun h'' => ?_, fun h'' => ?_⟩, fun h' => ?_⟩, fun h => ?_⟩
    · exact ((t.2 (by (and_intros <;> omega))).2 (by (and_intros <;> omega))).2 (by (and_intros <;> omega))
    · exact ((t.2 (by (and_intros <;> omega))).2 (by (and_intros <;> omega))).1 (by (and_intros <;> omega))
    · exact (t.2 (by (and_intros <;> omega))).1 (by (and_intros <;> omega))
    · exact t.1 (by (and_intros <;> omega))
  · rw [if_neg c1] at q
    refine ⟨fun h => absurd h c1, fun _ => ?_⟩
    by_cases c2 : v = 0 ∨ v % 4 ≠ 0 ∨ 1024 ≤ v
    · rw [if_pos c2] at q
      refine ⟨fun h => ⟨fun h' => ⟨fun h'' => ?_, fun h'' => q⟩, fun h' => q⟩, fun h => q⟩
      exfalso; (and_intros <;> omega)
    · rw [if_neg c2] at q
      refine ⟨fun h => ⟨fun h' => ⟨fun h'' => ?_, fun h'' => ?_⟩, fun h' => ?_⟩, fun h => ?_⟩
      · refine s_word hD k.mem k.atW ok hr.1 (by (and_intros <;> omega)) ?_
        refine s_block_size hD (n := n + 1) ?_
        have t := tail v (bsz (mw d (v / 4))) Q q
        generalize bsz (mw d (v / 4)) = s at t
        simp [-W.seq_eq, W.seq_put, k.f_limit]
        refine ⟨fun h => ⟨fun h' => ⟨fun h'' => ?_, fun h'' => ?_⟩, fun h' => ?_⟩, fun h => ?_⟩
        · exact ((t.2 (by (and_intros <;> omega))).2 (by (and_intros <;> omega))).2 (by (and_intros <;> omega))
        · exact ((t.2 (by (and_intros <;> omega))).2 (by (and_intros <;> omega))).1 (by (and_intros <;> omega))
        · exact (t.2 (by (and_intros <;> omega))).1 (by (and_intros <;> omega))
        · exact t.1 (by (and_intros <;> omega))
      · exfalso; (and_intros <;> omega)
      · exfalso; (and_intros <;> omega)
      · exfalso; (and_intros <;> omega)
end
end Mine

namespace Mine
open PySem PySem.W PyProof.Rows

noncomputable def fv (p : Int × Str) : V := .tup [.int p.1, .str p.2]
noncomputable def gv (p : Int × Int) : Int × V := (p.1, .int p.2)
noncomputable def walkP (m : Int → Int) (lim : Int) : Nat → Int → Bool → List (Int × Str) × List (Int × Int)
  | 0, _, _ => ([], [])
  | k + 1, a, bf => if a < lim then
      if toldP m lim a = 0 then ([(a, "bad_block")], [])
      else if m (a / 4) % 2 = 1 then
        ((if bf = true then [(a, ("not_joined" : Str))] else []) ++ (walkP m lim k (a + toldP m lim a) true).1, (a, toldP m lim a) :: (walkP m lim k (a + toldP m lim a) true).2)
      else ((if m ((a + 4) / 4) ≠ 0 then [(a, ("marked" : Str))] else []) ++ (walkP m lim k (a + toldP m lim a) false).1, (walkP m lim k (a + toldP m lim a) false).2)
    else ([], [])
/-- two lists at hand over the layout -/
noncomputable def two (L : Lay) (d : List (Int × V)) (fr : List Int) (hp : Hp) (cF cD : Addr) (fa : List V) (fd : List (Int × V)) : Hp := L.put d fr ((hp.set cF (.list fa)).set cD (.dict fd))
theorem W.seq_two {loc : Loc} {L : Lay} {d : List (Int × V)} {fr : List Int} {hp : Hp} {cF cD : Addr} {fa : List V} {fd : List (Int × V)} (a b : WS) (Q : Fl → Loc → Hp → Prop) : W.seq a b loc (two L d fr hp cF cD fa fd) Q = a loc (two L d fr hp cF cD fa fd) (sq b Q) := rfl
structure Two (L : Lay) (hp : Hp) (cF cD : Addr) : Prop where
  ok : L.Ok hp
  ne : cF ≠ cD
  f1 : cF ≠ L.aW
  f2 : cF ≠ L.aF
  f3 : cD ≠ L.aW
  f4 : cD ≠ L.aF
  f5 : hp cF = none
  f6 : hp cD = none
namespace Two
variable {L : Lay} {hp : Hp} {cF cD : Addr} (t : Two L hp cF cD) {d : List (Int × V)} {fr : List Int} {fa fa' : List V} {fd fd' : List (Int × V)}
include t
theorem ok' : L.Ok ((hp.set cF (.list fa)).set cD (.dict fd)) := (t.ok.setNew t.f5).setNew (by rw [Hp.set_ne _ _ (Ne.symm t.ne)]; exact t.f6)
theorem atF : two L d fr hp cF cD fa fd cF = some (.list fa) := by
  unfold two; rw [Lay.put_ne t.f1 t.f2, Hp.set_ne _ _ t.ne, Hp.set_self]
theorem atD : two L d fr hp cF cD fa fd cD = some (.dict fd) := by
  unfold two; rw [Lay.put_ne t.f3 t.f4, Hp.set_self]
theorem setF : (two L d fr hp cF cD fa fd).set cF (.list fa') = two L d fr hp cF cD fa' fd := by
  unfold two
  rw [Lay.put_set t.f1 t.f2, Hp.set_comm _ _ _ (Ne.symm t.ne), Hp.set_set]
theorem setD : (two L d fr hp cF cD fa fd).set cD (.dict fd') = two L d fr hp cF cD fa fd' := by
  unfold two
  rw [Lay.put_set t.f3 t.f4, Hp.set_set]
end Two
theorem Two.of {L : Lay} {hp : Hp} (k : L.Ok hp) {d : List (Int × V)} {fr : List Int} {cF cD : Addr} {o : O} (h1 : L.put d fr hp cF = none) (h2 : ((L.put d fr hp).set cF o) cD = none) : Two L hp cF cD := by
  have a := Lay.put_none h1
  have ne : cD ≠ cF := fun e => by rw [e, Hp.set_self] at h2; cases h2
  rw [Hp.set_ne _ _ ne] at h2
  have b := Lay.put_none h2
  exact ⟨k, Ne.symm ne, a.1, a.2.1, b.1, b.2.1, a.2.2, b.2.2⟩

theorem dget_none {fd : List (Int × V)} {a : Int} (h : ∀ p ∈ fd, p.1 < a) : dget fd a = none := by
  unfold dget
  rw [Option.map_eq_none_iff, List.find?_eq_none]
  intro p hp
  have := h p hp
  simp; (and_intros <;> omega)
theorem dput_new {fd : List (Int × V)} {a : Int} {u : V} (h : ∀ p ∈ fd, p.1 < a) : dput fd a u = fd ++ [(a, u)] := by
  unfold dput
  rw [if_neg]
  intro e
  obtain ⟨p, hp, e⟩ := List.any_eq_true.mp e
  have := h p hp
  simp at e; (and_intros <;> omega)

section
variable {D : Wd} {P : Params} (hD : D.KF = HK P) {n : Nat} {hp : Hp} {L : Lay} {d : List (Int × V)} (ok : DOk d) {fr : List Int} {cF cD : Addr}
include hD ok
theorem walk_loop (t : Two L hp cF cD) (hlim : L.lim ≤ 8000) {Q : Fl → Loc → Hp → Prop} : ∀ (k : Nat) (a : Int) (bf : Bool) (fa : List V) (fd : List (Int × V)) (x : Option V), L.lim - a < 16 * k → 0 ≤ a → (∀ p ∈ fd, p.1 < a) → fa.length + k ≤ 10000 → fd.length + k ≤ 10000 →
    (∀ fl loc', (fl = .next ∧ lk loc' 1 = some (.ref cF) ∧ lk loc' 2 = some (.ref cD) ∧ loc'.length = 6) ∨ fl = .ret (.tup [.ref cF, .ref cD]) →
      Q fl loc' (two L d fr hp cF cD (fa ++ (walkP (mw d) L.lim k a bf).1.map fv) (fd ++ (walkP (mw d) L.lim k a bf).2.map gv))) →
    W.whileN (W.t (W.bin wLt (W.v 4) (W.attr 108 "limit" (W.v 0)))) (W_walk_faults_b0 D (n + 3))
      (k + 1) [some (.ref L.aH), some (.ref cF), some (.ref cD), some (.bool bf), some (.int a), x] (two L d fr hp cF cD fa fd) Q := by
  intro k
  induction k with
  | zero =>
    intro a bf fa fd x hk h0 hfd hl1 hl2 q
    have kk : L.Ok ((hp.set cF (.list fa)).set cD (.dict fd)) := t.ok'
    rw [W.whileN_succ]
    simp [-W.seq_eq, W.seq_put, W.seq_two, two, kk.f_limit]
    refine ⟨fun _ => ?_, fun h => by (and_intros <;> omega)⟩
    have := q .next [some (.ref L.aH), some (.ref cF), some (.ref cD), some (.bool bf), some (.int a), x] (.inl ⟨rfl, rfl, rfl, rfl⟩)
    simpa [-W.seq_eq, W.seq_put, W.seq_two, walkP, two] using this
  | succ k ih =>
    intro a bf fa fd x hk h0 hfd hl1 hl2 q
    have kk : L.Ok ((hp.set cF (.list fa)).set cD (.dict fd)) := t.ok'
    have st0 : two L d fr hp cF cD fa fd = L.put d fr ((hp.set cF (.list fa)).set cD (.dict fd)) := rfl
    rw [W.whileN_succ]
    simp only [W.t_eq, W.bin_eq, W.vs, W.v0, W.attr_eq]
    rw [st0, kk.f_limit]
    simp [-W.seq_eq, W.seq_put, W.seq_two]
    refine ⟨fun h => ?_, fun h => ?_⟩
    · have := q .next [some (.ref L.aH), some (.ref cF), some (.ref cD), some (.bool bf), some (.int a), x] (.inl ⟨rfl, rfl, rfl, rfl⟩)
      unfold walkP at this
      rw [if_neg (by (and_intros <;> omega))] at this
      simpa [-W.seq_eq, W.seq_put, W.seq_two, two] using this
    unfold walkP at q
    rw [if_pos h] at q
    refine s_told_size hD kk ok h0 (by (and_intros <;> omega)) ?_
    rw [← st0]
    have tc := toldP_cases (mw d) L.lim a
    generalize htd : toldP (mw d) L.lim a = td at *
    simp [-W.seq_eq, W.seq_put, W.seq_two]
    refine ⟨fun e => ?_, fun e => ?_⟩
    · rw [if_pos e] at q
      rw [isL_list t.atF, wAppend_list t.atF]
      refine ⟨trivial, by (and_intros <;> omega), ?_⟩
      rw [t.setF]
      have := q (.ret (.tup [.ref cF, .ref cD])) [some (.ref L.aH), some (.ref cF), some (.ref cD), some (.bool bf), some (.int a), some (.int td)] (.inr rfl)
      simpa [-W.seq_eq, W.seq_put, W.seq_two, fv] using this
    rw [if_neg e] at q
    have tc' := tc.resolve_left e
    rw [st0, kk.o_is_free]
    refine ⟨trivial, ?_⟩
    refine s_is_free hD kk ok h0 (by (and_intros <;> omega)) ?_
    rw [← st0]
    simp [-W.seq_eq, W.seq_put, W.seq_two]
    refine ⟨fun hodd => ?_, fun hev => ?_⟩
    · rw [if_pos hodd] at q
      refine ⟨fun hb => ?_, fun hb => ?_⟩
      · rw [isL_list t.atF, wAppend_list t.atF]
        refine ⟨trivial, by (and_intros <;> omega), ?_⟩
        rw [t.setF]
        simp [-W.seq_eq, W.seq_put, W.seq_two]
        rw [wSetItem_dict t.atD]
        refine ⟨by (and_intros <;> omega), ?_⟩
        rw [t.setD, dput_new hfd]
        (try simp)
        rw [wIn_dict t.atD]
        (try simp)
        have hin : (dget (fd ++ [(a, V.int td)]) a).isSome = true := by rw [dget_any]; simp
        rw [hin, W.aug_eq (x := a) (h := rfl)]
        simp [-W.seq_eq, W.seq_put, W.seq_two]
        refine ih (a + td) true _ _ _ (by (and_intros <;> omega)) (by (and_intros <;> omega)) (fun p hp => ?_) (by simp; (and_intros <;> omega)) (by simp; (and_intros <;> omega)) fun fl loc' hfl => ?_
        · rcases List.mem_append.mp hp with h | h
          · have := hfd p h; (and_intros <;> omega)
          · rw [List.mem_singleton.mp h]; show a < _; (and_intros <;> omega)
        · have := q fl loc' hfl
          simpa [-W.seq_eq, W.seq_put, W.seq_two, hb, fv, gv] using this
      · (try simp)
        rw [wSetItem_dict t.atD]
        refine ⟨by (and_intros <;> omega), ?_⟩
        rw [t.setD, dput_new hfd]
        (try simp)
        rw [wIn_dict t.atD]
        (try simp)
        have hin : (dget (fd ++ [(a, V.int td)]) a).isSome = true := by rw [dget_any]; simp
        rw [hin, W.aug_eq (x := a) (h := rfl)]
        simp [-W.seq_eq, W.seq_put, W.seq_two]
        refine ih (a + td) true _ _ _ (by (and_intros <;> omega)) (by (and_intros <;> omega)) (fun p hp => ?_) (by (and_intros <;> omega)) (by simp; (and_intros <;> omega)) fun fl loc' hfl => ?_
        · rcases List.mem_append.mp hp with h | h
          · have := hfd p h; (and_intros <;> omega)
          · rw [List.mem_singleton.mp h]; show a < _; (and_intros <;> omega)
        · have := q fl loc' hfl
          simpa [-W.seq_eq, W.seq_put, W.seq_two, hb, fv, gv] using this
    · rw [if_neg (by (and_intros <;> omega))] at q
      rw [st0, kk.f_memory]
      simp only [Option.some.injEq, exists_eq_left', kk.mem.o_word]
      refine ⟨trivial, ?_⟩
      refine s_word hD (n := n + 1) kk.mem kk.atW ok (by (and_intros <;> omega)) (by (and_intros <;> omega)) ?_
      rw [← st0]
      have fin : ∀ (fa' : List V) (b0 : V), fa'.length + k ≤ 10000 → (∀ fl loc', (fl = .next ∧ lk loc' 1 = some (.ref cF) ∧ lk loc' 2 = some (.ref cD) ∧ loc'.length = 6) ∨ fl = .ret (.tup [.ref cF, .ref cD]) →
          Q fl loc' (two L d fr hp cF cD (fa' ++ (walkP (mw d) L.lim k (a + td) false).1.map fv) (fd ++ (walkP (mw d) L.lim k (a + td) false).2.map gv))) →
          W.asg (W.one 3) (W.bin wIn (W.v 4) (W.v 2)) [some (.ref L.aH), some (.ref cF), some (.ref cD), some b0, some (.int a), some (.int td)] (two L d fr hp cF cD fa' fd) (sq (W.seq (W.aug 4 (W.v 5)) W.nil) (lpq (W.whileN (W.t (W.bin wLt (W.v 4) (W.attr 108 "limit" (W.v 0)))) (W_walk_faults_b0 D (n + 3)) (k + 1)) Q)) := by
        intro fa' b0 hl q
        simp [-W.seq_eq, W.seq_put, W.seq_two]
        rw [wIn_dict t.atD, dget_none hfd]
        simp [-W.seq_eq, W.seq_put, W.seq_two]
        rw [W.aug_eq (x := a) (h := rfl)]
        simp [-W.seq_eq, W.seq_put, W.seq_two]
        refine ih (a + td) false _ _ _ (by (and_intros <;> omega)) (by (and_intros <;> omega)) (fun p hp => ?_) (by (and_intros <;> omega)) (by (and_intros <;> omega)) q
        have := hfd p hp; (and_intros <;> omega)
      simp [-W.seq_eq, W.seq_put, W.seq_two]
      refine ⟨fun hm => ?_, fun hm => ?_⟩
      · rw [isL_list t.atF, wAppend_list t.atF]
        refine ⟨trivial, by (and_intros <;> omega), ?_⟩
        rw [t.setF]
        have := fin (fa ++ [V.tup [V.int a, V.str "marked"]]) (.bool bf) (by simp; (and_intros <;> omega)) (fun fl loc' hfl => by
          have := q fl loc' hfl
          simpa [-W.seq_eq, W.seq_put, W.seq_two, hm, fv] using this)
        simpa [-W.seq_eq, W.seq_put, W.seq_two] using this
      · have := fin fa (.bool bf) (by (and_intros <;> omega)) (fun fl loc' hfl => by
          have := q fl loc' hfl
          simpa [-W.seq_eq, W.seq_put, W.seq_two, hm] using this)
        simpa [-W.seq_eq, W.seq_put, W.seq_two] using this
end
end Mine

namespace Mine
open PySem PySem.W PyProof.Rows

theorem perm_sorted_eq : ∀ {a b : List Int}, a.Perm b → a.Pairwise (· ≤ ·) → b.Pairwise (· ≤ ·) → a = b
  | [], b, p, _, _ => (List.Perm.nil_eq p)
  | x :: a, [], p, _, _ => absurd p.length_eq (by simp)
  | x :: a, y :: b, p, h1, h2 => by
    obtain ⟨a1, a2⟩ := List.pairwise_cons.mp h1
    obtain ⟨b1, b2⟩ := List.pairwise_cons.mp h2
    have e : x = y := by
      have hx : x ∈ y :: b := p.mem_iff.mp (.head _)
      have hy : y ∈ x :: a := p.mem_iff.mpr (.head _)
      rcases List.mem_cons.mp hx with q | q
      · exact q
      · rcases List.mem_cons.mp hy with r | r
        · exact r.symm
        · have := b1 x q; have := a1 y r; (and_intros <;> omega)
    subst e
    rw [perm_sorted_eq (List.Perm.cons_inv p) a2 b2]

noncomputable def fget (F : List (Int × Int)) (b : Int) : Option Int := (F.find? fun p => p.1 = b).map (·.2)
theorem dget_gv (F : List (Int × Int)) (b : Int) : dget (F.map gv) b = (fget F b).map .int := by
  unfold dget fget
  induction F with
  | nil => rfl
  | cons p F ih =>
    rw [List.map_cons, List.find?_cons, List.find?_cons]
    by_cases h : p.1 = b
    · simp [-W.seq_eq, W.seq_put, W.seq_two, gv, h]
    · have : (gv p).1 ≠ b := h
      simp only [this, decide_false, h]
      exact ih
noncomputable def sv (b : Int) : Int × V := (b, .bool true)
theorem dget_sv (S : List Int) (b : Int) : (dget (S.map sv) b).isSome = decide (b ∈ S) := by
  rw [dget_any]
  induction S with
  | nil => rfl
  | cons x S ih =>
    rw [List.map_cons, List.any_cons, ih]
    by_cases h : x = b
    · subst h; simp [sv]
    · have h' : ¬ b = x := fun e => h e.symm
      simp [-W.seq_eq, W.seq_put, W.seq_two, sv, h, h']
theorem dput_sv (S : List Int) (b : Int) (h : b ∉ S) : dput (S.map sv) b (.bool true) = (S ++ [b]).map sv := by
  unfold dput
  rw [if_neg, List.map_append]; rfl
  have := dget_sv S b
  rw [dget_any] at this
  rw [this]; simpa [-W.seq_eq, W.seq_put, W.seq_two] using h

noncomputable def rowP (m : Int → Int) (F : List (Int × Int)) (i : Int) : Nat → Int → List Int → List (Int × Str) × List Int
  | 0, _, seen => ([], seen)
  | k + 1, b, seen => if b = 0 then ([], seen) else match fget F b with
    | none => ([(b, "not_free")], seen)
    | some s => if b ∈ seen then ([(b, "listed_twice")], seen) else
      ((if cls s ≠ i then [(b, ("wrong_list" : Str))] else []) ++ (rowP m F i k (m ((b + 4) / 4)) (seen ++ [b])).1, (rowP m F i k (m ((b + 4) / 4)) (seen ++ [b])).2)
noncomputable def rowsP (m : Int → Int) (F : List (Int × Int)) (fr : List Int) : List Int → List Int → List (Int × Str) × List Int
  | [], seen => ([], seen)
  | i :: is, seen => ((rowP m F i 64 (fr.getD i.toNat 0) seen).1 ++ (rowsP m F fr is (rowP m F i 64 (fr.getD i.toNat 0) seen).2).1, (rowsP m F fr is (rowP m F i 64 (fr.getD i.toNat 0) seen).2).2)
noncomputable def listP (m : Int → Int) (F : List (Int × Int)) (fr : List Int) : List (Int × Str) :=
  (rowsP m F fr [0, 1, 2, 3] []).1 ++ ((F.map (·.1)).filter (fun b => decide (b ∉ (rowsP m F fr [0, 1, 2, 3] []).2))).map fun b => (b, ("not_listed" : Str))
noncomputable def left (F : List (Int × Int)) (seen : List Int) : Nat := ((F.map (·.1)).filter (fun b => decide (b ∉ seen))).length
theorem fget_mem {F : List (Int × Int)} {b s : Int} (h : fget F b = some s) : (b, s) ∈ F := by
  unfold fget at h
  rw [Option.map_eq_some_iff] at h
  obtain ⟨p, h1, rfl⟩ := h
  have := List.find?_some h1
  have h2 := List.mem_of_find?_eq_some h1
  have : p.1 = b := by simpa [-W.seq_eq, W.seq_put, W.seq_two] using this
  rw [← this]; exact h2
theorem left_lt {F : List (Int × Int)} {seen : List Int} {b s : Int} (h : fget F b = some s) (hs : b ∉ seen) : left F (seen ++ [b]) < left F seen := by
  have hm : b ∈ F.map (·.1) := List.mem_map.mpr ⟨_, fget_mem h, rfl⟩
  unfold left
  generalize F.map (·.1) = l at hm
  have le : ∀ l : List Int, (l.filter (fun b' => decide (b' ∉ seen ++ [b]))).length ≤ (l.filter (fun b => decide (b ∉ seen))).length := by
    intro l
    induction l with
    | nil => simp
    | cons x l ih =>
      by_cases h1 : x ∈ seen
      · rw [List.filter_cons_of_neg (by simp [h1]), List.filter_cons_of_neg (by simp [h1])]; exact ih
      · rw [List.filter_cons_of_pos (p := fun b => decide (b ∉ seen)) (by simpa [-W.seq_eq, W.seq_put, W.seq_two] using h1)]
        by_cases h2 : x = b
        · rw [List.filter_cons_of_neg (by simp [h2])]; simp only [List.length_cons]; (and_intros <;> omega)
        · rw [List.filter_cons_of_pos (by simp [h1, h2])]; simp only [List.length_cons]; (and_intros <;> omega)
  induction l with
  | nil => cases hm
  | cons x l ih =>
    by_cases h2 : x = b
    · subst h2
      rw [List.filter_cons_of_neg (by simp), List.filter_cons_of_pos (by simpa [-W.seq_eq, W.seq_put, W.seq_two] using hs)]
      have := le l
      simp only [List.length_cons]; (and_intros <;> omega)
    · have hm' : b ∈ l := by
        rcases List.mem_cons.mp hm with e | e
        · exact absurd e.symm h2
        · exact e
      have := ih hm'
      by_cases h1 : x ∈ seen
      · rw [List.filter_cons_of_neg (by simp [h1]), List.filter_cons_of_neg (by simp [h1])]; exact this
      · rw [List.filter_cons_of_pos (by simp [h1, h2]), List.filter_cons_of_pos (by simpa [-W.seq_eq, W.seq_put, W.seq_two] using h1)]; simp only [List.length_cons]; (and_intros <;> omega)

section
variable {D : Wd} {P : Params} (hD : D.KF = HK P) {n : Nat} {hp : Hp} {L : Lay} {d : List (Int × V)} (ok : DOk d) {fr : List Int} {cL cS cD : Addr} {F : List (Int × Int)}
include hD ok
theorem row_loop (t : Two L hp cL cS) (hD1 : hp cD = some (.dict (F.map gv))) (hD2 : cD ≠ L.aW) (hD3 : cD ≠ L.aF) (hF : ∀ p ∈ F, 0 ≤ p.1 ∧ p.1 + 4 < 8192) {Q : Fl → Loc → Hp → Prop} (i : Int) : ∀ (k : Nat) (b : Int) (fa : List V) (seen : List Int), left F seen < k → fa.length + k ≤ 50000 → seen.length + k ≤ 50000 →
    (∀ b', Q .next [some (.ref L.aH), some (.ref cD), some (.ref cL), some (.ref cS), some (.int i), some (.int b')] (two L d fr hp cL cS (fa ++ (rowP (mw d) F i k b seen).1.map fv) ((rowP (mw d) F i k b seen).2.map sv))) →
    W.whileN (W.t (W.bin wNe (W.v 5) (W.c (.int 0)))) (W_list_faults_b1 D (n + 3))
      k [some (.ref L.aH), some (.ref cD), some (.ref cL), some (.ref cS), some (.int i), some (.int b)] (two L d fr hp cL cS fa (seen.map sv)) Q := by
  have nL : cD ≠ cL := fun e => by rw [e, t.f5] at hD1; cases hD1
  have nS : cD ≠ cS := fun e => by rw [e, t.f6] at hD1; cases hD1
  have atD : ∀ fa fd, two L d fr hp cL cS fa fd cD = some (.dict (F.map gv)) := fun fa fd => by
    unfold two; rw [Lay.put_ne hD2 hD3, Hp.set_ne _ _ nS, Hp.set_ne _ _ nL]; exact hD1
  intro k
  induction k with
  | zero => intro b fa seen h; (and_intros <;> omega)
  | succ k ih =>
    intro b fa seen hk hl hl2 q
    have kk : ∀ fa fd, L.Ok ((hp.set cL (.list fa)).set cS (.dict fd)) := fun fa fd => t.ok'
    rw [W.whileN_succ]
    unfold rowP at q
    simp
    refine ⟨fun h => ?_, fun h => ?_⟩
    · rw [if_pos h] at q
      simpa using q b
    rw [if_neg h] at q
    rw [wNotIn_dict (atD _ _), dget_gv]
    cases hg : fget F b with
    | none =>
      rw [hg] at q
      simp [-W.seq_eq, W.seq_put, W.seq_two]
      rw [isL_list t.atF, wAppend_list t.atF]
      refine ⟨trivial, by (and_intros <;> omega), ?_⟩
      rw [t.setF]
      simpa [fv] using q b
    | some s =>
      rw [hg] at q
      simp [-W.seq_eq, W.seq_put, W.seq_two]
      rw [wIn_dict t.atD, dget_sv]
      simp [-W.seq_eq, W.seq_put, W.seq_two]
      refine ⟨fun hs => ?_, fun hs => ?_⟩
      · simp only [if_pos hs] at q
        rw [isL_list t.atF, wAppend_list t.atF]
        refine ⟨trivial, by (and_intros <;> omega), ?_⟩
        rw [t.setF]
        simpa [fv] using q b
      · simp only [if_neg hs] at q
        rw [wSetItem_dict t.atD]
        refine ⟨by simp; (and_intros <;> omega), ?_⟩
        rw [t.setD, dput_sv seen b hs]
        rw [wIx_dict (atD _ _), dget_gv, hg]
        refine ⟨_, rfl, ?_⟩
        refine s_list_number hD (n := n + 2) ?_
        simp [-W.seq_eq, W.seq_put, W.seq_two]
        have hb := hF _ (fget_mem hg)
        have fin : ∀ (fa' : List V), fa'.length + k ≤ 50000 → (∀ b', Q .next [some (.ref L.aH), some (.ref cD), some (.ref cL), some (.ref cS), some (.int i), some (.int b')] (two L d fr hp cL cS (fa' ++ (rowP (mw d) F i k (mw d ((b + 4) / 4)) (seen ++ [b])).1.map fv) ((rowP (mw d) F i k (mw d ((b + 4) / 4)) (seen ++ [b])).2.map sv))) →
            ∃ w, fld (two L d fr hp cL cS fa' ((seen ++ [b]).map sv)) 108 "memory" (.ref L.aH) = some w ∧ isObj (two L d fr hp cL cS fa' ((seen ++ [b]).map sv)) 238 "word" w ∧
              Calls D 214 (n + 7) [w, .int (b + 4)] (two L d fr hp cL cS fa' ((seen ++ [b]).map sv)) fun u hp₁ => W.whileN (W.t (W.bin wNe (W.v 5) (W.c (.int 0)))) (W_list_faults_b1 D (n + 3)) k [some (.ref L.aH), some (.ref cD), some (.ref cL), some (.ref cS), some (.int i), some u] hp₁ Q := by
          intro fa' hl' q'
          refine ⟨_, (kk _ _).f_memory, (kk _ _).mem.o_word ▸ trivial, ?_⟩
          refine s_word hD (n := n + 1) (kk _ _).mem (kk _ _).atW ok (by (and_intros <;> omega)) (by (and_intros <;> omega)) ?_
          refine ih (mw d ((b + 4) / 4)) fa' (seen ++ [b]) ?_ (by (and_intros <;> omega)) (by simp; (and_intros <;> omega)) q'
          have := left_lt hg hs
          (and_intros <;> omega)
        refine ⟨fun hc => ?_, fun hc => ?_⟩
        · rw [isL_list t.atF, wAppend_list t.atF]
          refine ⟨trivial, by (and_intros <;> omega), ?_⟩
          rw [t.setF]
          have := fin (fa ++ [V.tup [V.int b, V.str "wrong_list"]]) (by simp; (and_intros <;> omega)) (fun b' => by simpa [-W.seq_eq, W.seq_put, W.seq_two, hc, fv] using q b')
          simpa [-W.seq_eq, W.seq_put, W.seq_two] using this
        · have := fin fa (by (and_intros <;> omega)) (fun b' => by simpa [-W.seq_eq, W.seq_put, W.seq_two, hc] using q b')
          simpa [-W.seq_eq, W.seq_put, W.seq_two] using this
end
end Mine

namespace Mine
open PySem PySem.W PyProof.Rows

theorem rangeL04 : rangeL 0 4 1 = [0, 1, 2, 3].map .int := by rfl
theorem walk_keys (m : Int → Int) (lim : Int) : ∀ (k : Nat) (a : Int) (bf : Bool), (∀ p ∈ (walkP m lim k a bf).2, a ≤ p.1 ∧ p.1 + 16 ≤ lim) ∧ ((walkP m lim k a bf).2.map (·.1)).Pairwise (· < ·) ∧ (0 ≤ lim - a → 16 * ((walkP m lim k a bf).2.length : Int) ≤ lim - a)
  | 0, a, bf => ⟨fun p h => by simp [walkP] at h, by simp [walkP], fun h => by simpa [-W.seq_eq, W.seq_put, W.seq_two, walkP] using h⟩
  | k + 1, a, bf => by
    unfold walkP
    split
    · rename_i h
      split
      · exact ⟨fun p h => by simp at h, by simp, fun _ => by simp; (and_intros <;> omega)⟩
      · rename_i h0
        have tc := (toldP_cases m lim a).resolve_left h0
        split
        · obtain ⟨i1, i2, i3⟩ := walk_keys m lim k (a + toldP m lim a) true
          refine ⟨fun p hp => ?_, ?_, fun _ => ?_⟩
          · rcases List.mem_cons.mp hp with e | hp
            · subst e; exact ⟨Int.le_refl _, by show a + 16 ≤ lim; (and_intros <;> omega)⟩
            · have := i1 p hp; (and_intros <;> omega)
          · show ((a, toldP m lim a).1 :: ((walkP m lim k (a + toldP m lim a) true).2.map (·.1))).Pairwise (· < ·)
            refine List.pairwise_cons.mpr ⟨fun x hx => ?_, i2⟩
            obtain ⟨p, hp, rfl⟩ := List.mem_map.mp hx
            have := i1 p hp; show a < _; (and_intros <;> omega)
          · have := i3 (by (and_intros <;> omega))
            show 16 * (((a, toldP m lim a) :: (walkP m lim k (a + toldP m lim a) true).2).length : Int) ≤ _
            rw [List.length_cons]; push_cast; (and_intros <;> omega)
        · obtain ⟨i1, i2, i3⟩ := walk_keys m lim k (a + toldP m lim a) false
          refine ⟨fun p hp => ?_, i2, fun _ => ?_⟩
          · have := i1 p hp; (and_intros <;> omega)
          · have := i3 (by (and_intros <;> omega)); show 16 * (((walkP m lim k (a + toldP m lim a) false).2).length : Int) ≤ _; (and_intros <;> omega)
    · exact ⟨fun p h => by simp at h, by simp, fun h => by simp; (and_intros <;> omega)⟩

theorem left_lt64 {F : List (Int × Int)} (h : F.length < 64) (seen : List Int) : left F seen < 64 := by
  unfold left
  have := List.length_filter_le (fun b => decide (b ∉ seen)) (F.map (·.1))
  rw [List.length_map] at this
  (and_intros <;> omega)
theorem rowP_len (m : Int → Int) (F : List (Int × Int)) (i : Int) : ∀ (k : Nat) (b : Int) (seen : List Int), (rowP m F i k b seen).1.length ≤ k ∧ (rowP m F i k b seen).2.length ≤ seen.length + k
  | 0, b, seen => by simp [rowP]
  | k + 1, b, seen => by
    unfold rowP
    split
    · simp [-W.seq_eq, W.seq_put, W.seq_two]
    · split
      · simp [-W.seq_eq, W.seq_put, W.seq_two]
      · split
        · simp [-W.seq_eq, W.seq_put, W.seq_two]
        · have := rowP_len m F i k (m ((b + 4) / 4)) (seen ++ [b])
          simp only [List.length_append, List.length_cons, List.length_nil] at this ⊢
          refine ⟨?_, by (and_intros <;> omega)⟩
          split <;> simp <;> omega

section
variable {D : Wd} {P : Params} (hD : D.KF = HK P) {n : Nat} {hp : Hp} {L : Lay} {d : List (Int × V)} (ok : DOk d) {fr : List Int} {cL cS cD : Addr} {F : List (Int × Int)}
include hD ok
theorem s_walk_faults (k : L.Ok hp) (hlim : 1024 ≤ L.lim ∧ L.lim ≤ 8000) {Q : V → Hp → Prop} (q : ∀ cF cD, L.put d fr hp cF = none → L.put d fr hp cD = none → Two L hp cF cD →
    Q (.tup [.ref cF, .ref cD]) (two L d fr hp cF cD ((walkP (mw d) L.lim 500 1024 false).1.map fv) ((walkP (mw d) L.lim 500 1024 false).2.map gv))) : Calls D 126 (n + 8) [.ref L.aH] (L.put d fr hp) Q := by
  refine c_walk_faults hD (n := n + 3) rfl ?_
  simp [W_walk_faults]
  intro cF h1 cD h2
  have t := Two.of k h1 h2
  have e : ((L.put d fr hp).set cF (.list [])).set cD (.dict []) = two L d fr hp cF cD [] [] := by
    unfold two
    rw [Lay.put_set t.f1 t.f2, Lay.put_set t.f3 t.f4]
  have h3 : L.put d fr hp cD = none := by rw [Hp.set_ne _ _ (Ne.symm t.ne)] at h2; exact h2
  have kk : L.Ok ((hp.set cF (.list [])).set cD (.dict [])) := t.ok'
  rw [e]
  have e2 : two L d fr hp cF cD [] [] = L.put d fr ((hp.set cF (.list [])).set cD (.dict [])) := rfl
  rw [e2, kk.f_start, ← e2]
  refine ⟨_, rfl, 501, ?_⟩
  refine walk_loop hD ok t hlim.2 500 1024 false [] [] none (by (and_intros <;> omega)) (by (and_intros <;> omega)) (by simp) (by simp) (by simp) fun fl loc' h => ?_
  have q' := q cF cD h1 h3 t
  rcases h with ⟨rfl, h4, h5, h6⟩ | rfl
  · simp only [sq_next, W.seq_eq, W.ret_eq, W.app_eq, W.args_cons, W.args_nil, W.v_eq, h4, h5]
    simpa [-W.seq_eq, W.seq_put, W.seq_two] using q'
  · simpa [-W.seq_eq, W.seq_put, W.seq_two] using q'

theorem s_list_faults (k : L.Ok hp) (hD1 : hp cD = some (.dict (F.map gv))) (hD2 : cD ≠ L.aW) (hD3 : cD ≠ L.aF) (hF : ∀ p ∈ F, 0 ≤ p.1 ∧ p.1 + 4 < 8192) (hlen : F.length < 64) (hasc : (F.map (·.1)).Pairwise (· < ·)) (hf4 : fr.length = 4)
    {Q : V → Hp → Prop} (q : ∀ cL, L.put d fr hp cL = none → Q (.ref cL) (L.put d fr (hp.set cL (.list ((listP (mw d) F fr).map fv))))) : Calls D 133 (n + 8) [.ref L.aH, .ref cD] (L.put d fr hp) Q := by
  refine Calls.forget (Q := fun u hp' => ∃ cL, u = .ref cL ∧ L.put d fr hp cL = none ∧ (L.put d fr (hp.set cL (.list ((listP (mw d) F fr).map fv)))).le hp') ?main (fun u hp' h => by
    obtain ⟨cL, rfl, h, hle⟩ := h
    exact ⟨_, hle, q cL h⟩)
  case main =>
  refine c_list_faults hD (n := n + 3) rfl ?_
  simp [W_list_faults]
  intro cL h1 cS h2
  have t := Two.of k h1 h2
  have e : ((L.put d fr hp).set cL (.list [])).set cS (.dict []) = two L d fr hp cL cS [] ([].map sv) := by
    unfold two
    rw [Lay.put_set t.f1 t.f2, Lay.put_set t.f3 t.f4]; rfl
  rw [e]
  refine ⟨by unfold rangeOk; (and_intros <;> omega), ?_⟩
  rw [rangeL04]
  have nL : cD ≠ cL := fun e => by rw [e, t.f5] at hD1; cases hD1
  have nS : cD ≠ cS := fun e => by rw [e, t.f6] at hD1; cases hD1
  have atD : ∀ fa fd, two L d fr hp cL cS fa fd cD = some (.dict (F.map gv)) := fun fa fd => by
    unfold two; rw [Lay.put_ne hD2 hD3, Hp.set_ne _ _ nS, Hp.set_ne _ _ nL]; exact hD1
  have hkl : (F.map (·.1)).length < 64 := by simpa using hlen
  -- the end: sorted keys
  have fin : ∀ (fa : List V) (seen : List Int) (b₁ b₂ : Option V), fa.length ≤ 1000 →
      (fa ++ (((F.map (·.1)).filter (fun b => decide (b ∉ seen))).map fun b => fv (b, "not_listed"))) = (listP (mw d) F fr).map fv →
      W.seq (W.for (W.iter (W.app wSorted [(W.v 1)])) (W.one 5) (W_list_faults_b0 D (n + 3))) (W.seq (W.ret (W.v 2)) W.nil)
        [some (.ref L.aH), some (.ref cD), some (.ref cL), some (.ref cS), b₁, b₂] (two L d fr hp cL cS fa (seen.map sv)) (bodyPost fun u hp' => ∃ cL, u = .ref cL ∧ L.put d fr hp cL = none ∧ (L.put d fr (hp.set cL (.list ((listP (mw d) F fr).map fv)))).le hp') := by
    intro fa seen b₁ b₂ hfa heq
    simp only [W.seq_eq, W.for_eq, W.iter_eq, W.app_eq, W.args_cons, W.args_nil, W.vs, W.v0]
    rw [wSorted_dict (atD _ _)]
    refine ⟨by simpa using hlen, fun ns' hp' hs' c hc => ?_⟩
    have hk : (F.map gv).map (·.1) = F.map (·.1) := by rw [List.map_map]; rfl
    rw [hk] at hp'
    have hns : ns' = F.map (·.1) := perm_sorted_eq hp' hs' (hasc.imp fun h => Int.le_of_lt h)
    subst hns
    refine ⟨_, _, rfl, Hp.set_self _ _ _, ?_⟩
    have hc' : c ≠ cL ∧ c ≠ cS := ⟨fun e => (by rw [e, t.atF] at hc; cases hc), fun e => (by rw [e, t.atD] at hc; cases hc)⟩
    generalize hall : F.map (·.1) = ks at heq hkl ⊢
    clear hall hp' hs' hasc
    have go : ∀ (us : List Int) (fa : List V) (b₁ b₂ : Option V), fa.length + us.length ≤ 2000 → fa ++ ((us.filter (fun b => decide (b ∉ seen))).map fun b => fv (b, "not_listed")) = (listP (mw d) F fr).map fv → (L.put d fr hp c = none) → 
        W.forGo (W.one 5) (W_list_faults_b0 D (n + 3)) (fun hp => hp c = some (.list (ks.map .int))) (us.map .int)
          [some (.ref L.aH), some (.ref cD), some (.ref cL), some (.ref cS), b₁, b₂] ((two L d fr hp cL cS fa (seen.map sv)).set c (.list (ks.map .int))) (sq (W.seq (W.ret (W.v 2)) W.nil) (bodyPost fun u hp' => ∃ cL, u = .ref cL ∧ L.put d fr hp cL = none ∧ (L.put d fr (hp.set cL (.list ((listP (mw d) F fr).map fv)))).le hp')) := by
      intro us
      induction us with
      | nil =>
        intro fa b₁ b₂ hl he hcc
        simp
        refine ⟨h1, ?_⟩
        have he' : (listP (mw d) F fr).map fv = fa := by simpa using he.symm
        rw [he']
        have l1 : (L.put d fr (hp.set cL (.list fa))).le (two L d fr hp cL cS fa (seen.map sv)) := by
          unfold two
          rw [← Lay.put_set t.f3 t.f4]
          refine (Hp.le.refl _).new ?_
          rw [Lay.put_ne t.f3 t.f4, Hp.set_ne _ _ (Ne.symm t.ne)]; exact t.f6
        refine l1.new ?_
        have hc3 := Lay.put_none hcc
        rw [← Lay.put_set t.f1 t.f2, Hp.set_ne _ _ hc'.1]; exact hcc
      | cons u us ih =>
        intro fa b₁ b₂ hl he hcc
        rw [List.map_cons, W.forGo_cons]
        simp
        rw [wNotIn_dict (show ((two L d fr hp cL cS fa (seen.map sv)).set c (.list (ks.map .int))) cS = some (.dict (seen.map sv)) by rw [Hp.set_ne _ _ (Ne.symm hc'.2)]; exact t.atD), dget_sv]
        simp
        have hL : ((two L d fr hp cL cS fa (seen.map sv)).set c (.list (ks.map .int))) cL = some (.list fa) := by rw [Hp.set_ne _ _ (Ne.symm hc'.1)]; exact t.atF
        refine ⟨fun hs => ?_, fun hs => ?_⟩
        · rw [isL_list hL, wAppend_list hL]
          refine ⟨trivial, by simp at hl; (and_intros <;> omega), ?_⟩
          rw [Hp.set_comm _ _ _ hc'.1, t.setF]
          simp
          refine ih _ _ _ (by simp at hl ⊢; (and_intros <;> omega)) ?_ hcc
          rw [List.filter_cons_of_pos (by simpa using hs)] at he
          rw [← he]; simp [fv]
        · refine ih _ _ _ (by simp at hl ⊢; (and_intros <;> omega)) ?_ hcc
          rw [List.filter_cons_of_neg (by simpa using hs)] at he
          exact he
    refine go ks fa b₁ b₂ (by (and_intros <;> omega)) heq ?_
    have := hc
    unfold two at this
    have := Lay.put_none this
    rw [Lay.put_ne this.1 this.2.1]
    have h3 := this.2.2
    rwa [Hp.set_ne _ _ hc'.2, Hp.set_ne _ _ hc'.1] at h3
  -- the rows
  have rows : ∀ (is : List Int) (fa : List V) (seen : List Int) (b₁ b₂ : Option V), (∀ i ∈ is, 0 ≤ i ∧ i < 4) → fa.length + 70 * is.length ≤ 600 → seen.length + 70 * is.length ≤ 600 →
      (fa ++ (rowsP (mw d) F fr is seen).1.map fv) ++ (((F.map (·.1)).filter (fun b => decide (b ∉ (rowsP (mw d) F fr is seen).2))).map fun b => fv (b, "not_listed")) = (listP (mw d) F fr).map fv →
      W.forGo (W.one 4) (W_list_faults_b2 D (n + 3)) (fun _ => True) (is.map .int)
        [some (.ref L.aH), some (.ref cD), some (.ref cL), some (.ref cS), b₁, b₂] (two L d fr hp cL cS fa (seen.map sv)) (sq (W.seq (W.for (W.iter (W.app wSorted [(W.v 1)])) (W.one 5) (W_list_faults_b0 D (n + 3))) (W.seq (W.ret (W.v 2)) W.nil))
          (bodyPost fun u hp' => ∃ cL, u = .ref cL ∧ L.put d fr hp cL = none ∧ (L.put d fr (hp.set cL (.list ((listP (mw d) F fr).map fv)))).le hp')) := by
    intro is
    induction is with
    | nil =>
      intro fa seen b₁ b₂ hi h1 h2 he
      simp only [List.map_nil, W.forGo_nil, true_and, sq_next]
      simp only [rowsP, List.map_nil, List.append_nil] at he
      exact fin fa seen b₁ b₂ (by (and_intros <;> omega)) he
    | cons i is ih =>
      intro fa seen b₁ b₂ hi h1 h2 he
      have kk : L.Ok ((hp.set cL (.list fa)).set cS (.dict (seen.map sv))) := t.ok'
      have e2 : two L d fr hp cL cS fa (seen.map sv) = L.put d fr ((hp.set cL (.list fa)).set cS (.dict (seen.map sv))) := rfl
      rw [List.map_cons, W.forGo_cons]
      simp only [true_and, W.one_eq, st_succ, st_zero, W_list_faults_b2_eq, W.seq_eq, W.asg_eq, W.bin_eq, W.attr_eq, W.vs, W.v0]
      rw [e2, kk.f_free]
      simp only [Option.some.injEq, exists_eq_left']
      have hi0 := hi i (.head _)
      rw [wIx_list kk.atF]
      refine ⟨⟨by simp [hf4], by simp [hf4]; (and_intros <;> omega)⟩, _, ints_ix hi0.1 (by (and_intros <;> omega)), ?_⟩
      rw [← e2]
      simp only [sq_next, W.seq_eq]
      refine ⟨64, ?_⟩
      have hlen64 := rowP_len (mw d) F i 64 (fr.getD i.toNat 0) seen
      simp only [List.length_cons] at h1 h2
      refine row_loop hD ok t hD1 hD2 hD3 hF i 64 (fr.getD i.toNat 0) fa seen (left_lt64 hlen seen) (by (and_intros <;> omega)) (by (and_intros <;> omega)) fun b' => ?_
      simp only [sq_next, W.nil_eq, lpq_next]
      refine ih _ _ _ _ (fun j hj => hi j (.tail _ hj)) (by rw [List.length_append, List.length_map]; (and_intros <;> omega)) (by (and_intros <;> omega)) ?_
      rw [← he]
      simp [rowsP]
  have := rows [0, 1, 2, 3] [] [] none none (by decide) (by simp) (by simp) (by simp [listP, List.map_append, List.map_map, Function.comp_def])
  simpa using this
end
end Mine

namespace Mine
open PySem PySem.W PyProof.Rows

noncomputable def isBad (w : List (Int × Str)) : Bool := match w.getLast? with
  | some p => p.2 == "bad_block"
  | none => false
noncomputable def faultsP (m : Int → Int) (lim : Int) (fr : List Int) : List (Int × Str) :=
  if isBad (walkP m lim 500 1024 false).1 = true then (walkP m lim 500 1024 false).1
  else (walkP m lim 500 1024 false).1 ++ listP m (walkP m lim 500 1024 false).2 fr
theorem walk_len (m : Int → Int) (lim : Int) : ∀ (k : Nat) (a : Int) (bf : Bool), (walkP m lim k a bf).1.length ≤ k
  | 0, a, bf => by simp [walkP]
  | k + 1, a, bf => by
    unfold walkP
    split
    · split
      · simp [-W.seq_eq, W.seq_put, W.seq_two]
      · split
        · have := walk_len m lim k (a + toldP m lim a) true
          rw [List.length_append]
          split <;> simp <;> omega
        · have := walk_len m lim k (a + toldP m lim a) false
          rw [List.length_append]
          split <;> simp <;> omega
    · simp [-W.seq_eq, W.seq_put, W.seq_two]
theorem rows_len (m : Int → Int) (F : List (Int × Int)) (fr : List Int) : ∀ (is seen : List Int), (rowsP m F fr is seen).1.length ≤ 64 * is.length
  | [], seen => by simp [rowsP]
  | i :: is, seen => by
    unfold rowsP
    have h1 := (rowP_len m F i 64 (fr.getD i.toNat 0) seen).1
    have h2 := rows_len m F fr is (rowP m F i 64 (fr.getD i.toNat 0) seen).2
    rw [List.length_append, List.length_cons]; (and_intros <;> omega)
theorem listP_len (m : Int → Int) (F : List (Int × Int)) (fr : List Int) : (listP m F fr).length ≤ 256 + F.length := by
  unfold listP
  have h1 := rows_len m F fr [0, 1, 2, 3] []
  have h2 := List.length_filter_le (fun b => decide (b ∉ (rowsP m F fr [0, 1, 2, 3] []).2)) (F.map (·.1))
  rw [List.length_append, List.length_map]
  rw [List.length_map] at h2
  simp only [List.length_cons, List.length_nil] at h1
  (and_intros <;> omega)

section
variable {D : Wd} {P : Params} (hD : D.KF = HK P) {n : Nat} {hp : Hp} {L : Lay} {d : List (Int × V)} (ok : DOk d) {fr : List Int}
include hD ok
theorem s_heap_faults (k : L.Ok hp) (hlim : 1024 ≤ L.lim ∧ L.lim ≤ 2000) (hf4 : fr.length = 4)
    {Q : V → Hp → Prop} (q : ∀ c, L.put d fr hp c = none → Q (.ref c) (L.put d fr (hp.set c (.list ((faultsP (mw d) L.lim fr).map fv))))) : Calls D 140 (n + 9) [.ref L.aH] (L.put d fr hp) Q := by
  refine Calls.forget (Q := fun u hp' => ∃ c, u = .ref c ∧ L.put d fr hp c = none ∧ (L.put d fr (hp.set c (.list ((faultsP (mw d) L.lim fr).map fv)))).le hp') ?main (fun u hp' h => by
    obtain ⟨cL, rfl, h, hle⟩ := h
    exact ⟨_, hle, q cL h⟩)
  case main =>
  refine c_heap_faults hD (n := n + 4) rfl ?_
  simp only [W_heap_faults, W.seq_eq, W.asg_eq, W.call_eq, W.args_cons, W.args_nil, List.map_cons, List.map_nil, List.cons_append, List.nil_append, W.v0]
  refine s_walk_faults hD ok k ⟨hlim.1, by (and_intros <;> omega)⟩ fun cF cD h1 h2 t => ?_
  have wk := walk_keys (mw d) L.lim 500 1024 false
  have wl := walk_len (mw d) L.lim 500 1024 false
  unfold faultsP
  generalize hw : walkP (mw d) L.lim 500 1024 false = w at *
  have nF : cF ≠ cD := t.ne
  have gle : ∀ x y, (L.put d fr (hp.set cF (.list x))).le (two L d fr hp cF cD x y) := fun x y => by
    unfold two
    rw [← Lay.put_set t.f3 t.f4]
    refine (Hp.le.refl _).new ?_
    rw [← Lay.put_set t.f1 t.f2, Hp.set_ne _ _ (Ne.symm nF)]; exact h2
  rw [W.many_eq]
  refine ⟨rfl, ?_⟩
  have e : stAll [some (V.ref L.aH), none, none] [1, 2] [V.ref cF, V.ref cD] = [some (.ref L.aH), some (.ref cF), some (.ref cD)] := rfl
  show sq _ _ .next (stAll [some (V.ref L.aH), none, none] [1, 2] [V.ref cF, V.ref cD]) _
  rw [e]
  simp [-W.seq_eq, W.seq_put, W.seq_two]
  rw [wLen_list t.atF]
  simp [-W.seq_eq, W.seq_put, W.seq_two]
  refine ⟨by (and_intros <;> omega), fun hne => ?_, fun hnil => ?_⟩
  · rw [wIx_list t.atF]
    obtain ⟨p, hp1⟩ : ∃ p, w.1.getLast? = some p := by
      cases e : w.1.getLast? with
      | none => rw [List.getLast?_eq_none_iff] at e; rw [e] at hne; simp at hne
      | some p => exact ⟨p, rfl⟩
    refine ⟨⟨by simp; (and_intros <;> omega), by simp; (and_intros <;> omega)⟩, fv p, ?_, ?_⟩
    · unfold ixN
      rw [if_pos (by (and_intros <;> omega)), List.length_map]
      have : (-1 + (w.1.length : Int)).toNat = w.1.length - 1 := by (and_intros <;> omega)
      rw [this, List.getElem?_map]
      rw [List.getLast?_eq_getElem?] at hp1
      rw [hp1]; rfl
    have hb : isBad w.1 = (p.2 == "bad_block") := by unfold isBad; rw [hp1]
    show wIx (.tup [.int p.1, .str p.2]) _ _ _
    rw [wIx_tup]
    refine ⟨⟨by simp, by simp⟩, _, rfl, ?_⟩
    simp [-W.seq_eq, W.seq_put, W.seq_two]
    refine ⟨fun h => ?_, fun h => ?_⟩
    · refine ⟨h1, ?_⟩
      rw [hb, if_pos (by simpa [-W.seq_eq, W.seq_put, W.seq_two] using h)]
      exact gle _ _
    · have hb' : isBad w.1 = false := by rw [hb]; simpa [-W.seq_eq, W.seq_put, W.seq_two] using h
      rw [if_neg (by rw [hb']; simp)]
      refine s_list_faults hD ok (n := n) (cD := cD) (F := w.2) t.ok' (Hp.set_self _ _ _) t.f3 t.f4 (fun p hp => ?_) ?_ wk.2.1 hf4 fun cL hcL => ?_
      · have := wk.1 p hp; (and_intros <;> omega)
      · have := wk.2.2 (by (and_intros <;> omega)); (and_intros <;> omega)
      have hcL' := Lay.put_none hcL
      have nLF : cL ≠ cF := fun e => by
        have h3 := hcL'.2.2
        rw [e, Hp.set_ne _ _ nF, Hp.set_self] at h3; cases h3
      have nLD : cL ≠ cD := fun e => by
        have h3 := hcL'.2.2
        rw [e, Hp.set_self] at h3; cases h3
      rw [wAdd_list (us := w.1.map fv) (ws := (listP (mw d) w.2 fr).map fv)]
      rotate_left
      · rw [Lay.put_ne t.f1 t.f2, Hp.set_ne _ _ (Ne.symm nLF), Hp.set_ne _ _ nF, Hp.set_self]
      · rw [Lay.put_ne hcL'.1 hcL'.2.1, Hp.set_self]
      refine ⟨?_, fun c hc => ?_⟩
      · have := listP_len (mw d) w.2 fr
        have := wk.2.2 (by (and_intros <;> omega))
        simp only [List.length_map]; (and_intros <;> omega)
      have hc' := Lay.put_none hc
      have h3 := hc'.2.2
      have n1 : c ≠ cL := fun e => by rw [e, Hp.set_self] at h3; cases h3
      rw [Hp.set_ne _ _ n1] at h3
      have n2 : c ≠ cD := fun e => by rw [e, Hp.set_self] at h3; cases h3
      rw [Hp.set_ne _ _ n2] at h3
      have n3 : c ≠ cF := fun e => by rw [e, Hp.set_self] at h3; cases h3
      rw [Hp.set_ne _ _ n3] at h3
      refine ⟨c, rfl, by rw [Lay.put_ne hc'.1 hc'.2.1]; exact h3, ?_⟩
      rw [← List.map_append, ← Lay.put_set hc'.1 hc'.2.1]
      refine Hp.le.set ?_ _ _
      rw [← Lay.put_set hcL'.1 hcL'.2.1, ← Lay.put_set t.f3 t.f4, ← Lay.put_set t.f1 t.f2]
      refine (((Hp.le.refl _).new h1).new h2).new ?_
      rw [Lay.put_ne hcL'.1 hcL'.2.1]
      have h4 := hcL'.2.2
      rwa [Hp.set_ne _ _ nLD, Hp.set_ne _ _ nLF] at h4
  · have hnil' : w.1 = [] := hnil
    have hb' : isBad w.1 = false := by rw [hnil']; rfl
    rw [if_neg (by rw [hb']; simp)]
    refine s_list_faults hD ok (n := n) (cD := cD) (F := w.2) t.ok' (Hp.set_self _ _ _) t.f3 t.f4 (fun p hp => ?_) ?_ wk.2.1 hf4 fun cL hcL => ?_
    · have := wk.1 p hp; (and_intros <;> omega)
    · have := wk.2.2 (by (and_intros <;> omega)); (and_intros <;> omega)
    have hcL' := Lay.put_none hcL
    have nLF : cL ≠ cF := fun e => by
      have h3 := hcL'.2.2
      rw [e, Hp.set_ne _ _ nF, Hp.set_self] at h3; cases h3
    have nLD : cL ≠ cD := fun e => by
      have h3 := hcL'.2.2
      rw [e, Hp.set_self] at h3; cases h3
    rw [wAdd_list (us := w.1.map fv) (ws := (listP (mw d) w.2 fr).map fv)]
    rotate_left
    · rw [Lay.put_ne t.f1 t.f2, Hp.set_ne _ _ (Ne.symm nLF), Hp.set_ne _ _ nF, Hp.set_self]
    · rw [Lay.put_ne hcL'.1 hcL'.2.1, Hp.set_self]
    refine ⟨?_, fun c hc => ?_⟩
    · have := listP_len (mw d) w.2 fr
      have := wk.2.2 (by (and_intros <;> omega))
      simp only [List.length_map]; (and_intros <;> omega)
    have hc' := Lay.put_none hc
    have h3 := hc'.2.2
    have n1 : c ≠ cL := fun e => by rw [e, Hp.set_self] at h3; cases h3
    rw [Hp.set_ne _ _ n1] at h3
    have n2 : c ≠ cD := fun e => by rw [e, Hp.set_self] at h3; cases h3
    rw [Hp.set_ne _ _ n2] at h3
    have n3 : c ≠ cF := fun e => by rw [e, Hp.set_self] at h3; cases h3
    rw [Hp.set_ne _ _ n3] at h3
    refine ⟨c, rfl, by rw [Lay.put_ne hc'.1 hc'.2.1]; exact h3, ?_⟩
    rw [← List.map_append, ← Lay.put_set hc'.1 hc'.2.1]
    refine Hp.le.set ?_ _ _
    rw [← Lay.put_set hcL'.1 hcL'.2.1, ← Lay.put_set t.f3 t.f4, ← Lay.put_set t.f1 t.f2]
    refine (((Hp.le.refl _).new h1).new h2).new ?_
    rw [Lay.put_ne hcL'.1 hcL'.2.1]
    have h4 := hcL'.2.2
    rwa [Hp.set_ne _ _ nLD, Hp.set_ne _ _ nLF] at h4
end
end Mine

namespace Mine
open PySem PySem.W PyProof.Rows

structure Blk where
  s : Int
  t : Option (Int × Int)
noncomputable def KOk (m : Int → Int) (c s : Int) : Prop := 0 < c ∧ c < 1024 ∧ c % 4 = 0 ∧ s = bsz (m (c / 4))
noncomputable def Bl (m : Int → Int) : Int → List Blk → Int → Prop
  | a, [], e => a = e
  | a, b :: r, e => (16 ≤ b.s ∧ b.s % 16 = 0) ∧ (match b.t with
    | none => m (a / 4) = b.s + 1
    | some ck => m (a / 4) = ck.1 ∧ m ((a + 4) / 4) = ck.2 ∧ KOk m ck.1 b.s) ∧ Bl m (a + b.s) r e
theorem Bl.le {m : Int → Int} : ∀ {bs : List Blk} {a e : Int}, Bl m a bs e → a + 16 * bs.length ≤ e
  | [], a, e, h => by simp [Bl] at h; simp; (and_intros <;> omega)
  | b :: r, a, e, h => by
    have := Bl.le h.2.2
    have := h.1
    rw [List.length_cons]; push_cast; (and_intros <;> omega)
theorem Bl.congr {m m' : Int → Int} : ∀ {bs : List Blk} {a e : Int}, a % 16 = 0 → (∀ j, j < 256 → m' j = m j) → (∀ j, a / 4 ≤ j → j < e / 4 → m' j = m j) → Bl m a bs e → Bl m' a bs e
  | [], a, e, _, _, _, h => h
  | b :: r, a, e, h16, h1, h2, h => by
    obtain ⟨hs, ht, hr⟩ := h
    have hle := hr.le
    refine ⟨hs, ?_, Bl.congr (by (and_intros <;> omega)) h1 (fun j hj hj' => h2 j (by (and_intros <;> omega)) hj') hr⟩
    obtain ⟨s, t⟩ := b
    cases t with
    | none =>
      show m' (a / 4) = s + 1
      rw [h2 (a / 4) (Int.le_refl _) (by simp at hs hle; (and_intros <;> omega))]; exact ht
    | some ck =>
      obtain ⟨t1, t2, t3⟩ := ht
      refine ⟨by rw [h2 (a / 4) (Int.le_refl _) (by simp at hs hle; (and_intros <;> omega))]; exact t1, by rw [h2 _ (by (and_intros <;> omega)) (by simp at hs hle; (and_intros <;> omega))]; exact t2, t3.1, t3.2.1, t3.2.2.1, ?_⟩
      have := t3.2.1
      rw [h1 _ (by (and_intros <;> omega))]; exact t3.2.2.2
theorem KOk.even {m : Int → Int} {c s : Int} (h : KOk m c s) : c % 2 = 0 ∧ c < 8192 ∧ 0 < c := by
  have := h.2.2.1; have := h.1; have := h.2.1; (and_intros <;> omega)
theorem Bl.size {m : Int → Int} {b : Blk} {r : List Blk} {a e : Int} (h : Bl m a (b :: r) e) : sizeP m a = b.s ∧ (m (a / 4) % 2 = 1 ∨ m (a / 4) < 8192) ∧ (m (a / 4) % 2 = 1 ↔ b.t = none) := by
  obtain ⟨⟨h1, h2⟩, h3, -⟩ := h
  obtain ⟨s, t⟩ := b
  simp only at h1 h2 h3 ⊢
  unfold sizeP
  cases t with
  | none =>
    simp only at h3
    rw [if_pos (by (and_intros <;> omega))]
    refine ⟨by (and_intros <;> omega), .inl (by (and_intros <;> omega)), by simp; (and_intros <;> omega)⟩
  | some ck =>
    simp only at h3
    obtain ⟨t1, t2, t3⟩ := h3
    have := t3.even
    rw [if_neg (by (and_intros <;> omega)), t1]
    exact ⟨t3.2.2.2.symm, .inr (by (and_intros <;> omega)), by simp; (and_intros <;> omega)⟩
noncomputable def tagV : Option (Int × Int) → V
  | none => .none
  | some ck => .int ck.1
noncomputable def blocksV : Int → List Blk → List V
  | _, [] => []
  | a, b :: r => .tup [.int a, .int b.s, tagV b.t] :: blocksV (a + b.s) r
section
variable {D : Wd} {P : Params} (hD : D.KF = HK P) {n : Nat} {hp : Hp} {L : Lay} (k : L.Ok hp) {d : List (Int × V)} (ok : DOk d) {fr : List Int}
include hD k ok
theorem s_blocks (hlim : L.lim ≤ 8000) {bs : List Blk} (hb : Bl (mw d) 1024 bs L.lim) {Q : V → Hp → Prop} (q : ∀ c, L.put d fr hp c = none → Q (.ref c) (L.put d fr (hp.set c (.list (blocksV 1024 bs))))) : Calls D 98 (n + 8) [.ref L.aH] (L.put d fr hp) Q := by
  refine c_h_blocks hD (n := n + 3) rfl ?_
  simp [W_h_blocks]
  intro c hc
  have hc' := Lay.put_none hc
  rw [Lay.put_set hc'.1 hc'.2.1]
  have kk : ∀ x, L.Ok (hp.set c (.list x)) := fun x => k.setNew hc'.2.2
  have atc : ∀ x, L.put d fr (hp.set c (.list x)) c = some (.list x) := fun x => by rw [Lay.put_ne hc'.1 hc'.2.1, Hp.set_self]
  rw [(kk _).f_start]
  refine ⟨_, rfl, bs.length + 1, ?_⟩
  have loop : ∀ (bs : List Blk) (a : Int) (fa : List V) (x : Option V), 0 ≤ a → Bl (mw d) a bs L.lim → fa.length + bs.length ≤ 10000 → Q (.ref c) (L.put d fr (hp.set c (.list (fa ++ blocksV a bs)))) →
      W.whileN (W.t (W.bin wLt (W.v 2) (W.attr 108 "limit" (W.v 0)))) (W_h_blocks_b0 D (n + 3))
        (bs.length + 1) [some (.ref L.aH), some (.ref c), some (.int a), x] (L.put d fr (hp.set c (.list fa))) (sq (W.seq (W.ret (W.v 1)) W.nil) (bodyPost Q)) := by
    intro bs
    induction bs with
    | nil =>
      intro a fa x h0 hb hl q
      rw [W.whileN_succ]
      simp [-W.seq_eq, W.seq_put, (kk _).f_limit]
      have e : a = L.lim := hb
      refine ⟨fun _ => ?_, fun h => by (and_intros <;> omega)⟩
      simpa [-W.seq_eq, W.seq_put, blocksV] using q
    | cons b r ih =>
      intro a fa x h0 hb hl q
      rw [W.whileN_succ]
      have hs := hb.size
      have hle := hb.le
      simp only [List.length_cons] at hle
      simp [-W.seq_eq, W.seq_put, (kk _).f_limit, (kk _).o_size_of]
      refine ⟨fun h => by (and_intros <;> omega), fun h => ?_⟩
      refine s_size_of hD (kk _) ok h0 (by (and_intros <;> omega)) hs.2.1 ?_
      rw [hs.1]
      simp [-W.seq_eq, W.seq_put, (kk _).o_is_free, (kk _).o_descriptor]
      refine s_is_free hD (kk _) ok h0 (by (and_intros <;> omega)) ?_
      have e1 : blocksV a (b :: r) = .tup [.int a, .int b.s, tagV b.t] :: blocksV (a + b.s) r := rfl
      rw [e1] at q
      have h16 := hb.1
      simp [-W.seq_eq, W.seq_put]
      refine ⟨fun hf => ?_, fun hf => ?_⟩
      · have hn := hs.2.2.mp hf
        rw [isL_list (atc _), wAppend_list (atc _)]
        refine ⟨trivial, by simp at hl; (and_intros <;> omega), ?_⟩
        rw [Lay.put_set hc'.1 hc'.2.1, Hp.set_set]
        simp [-W.seq_eq, W.seq_put]
        rw [W.aug_eq (x := a) (h := rfl)]
        simp [-W.seq_eq, W.seq_put]
        refine ih _ _ _ (by (and_intros <;> omega)) hb.2.2 (by simp at hl ⊢; (and_intros <;> omega)) ?_
        rw [hn] at q
        simpa [-W.seq_eq, W.seq_put, tagV] using q
      · rw [isL_list (atc _)]
        refine ⟨trivial, (kk _).o_descriptor ▸ trivial, ?_⟩
        refine s_descriptor hD (kk _) ok h0 (by (and_intros <;> omega)) ?_
        rw [wAppend_list (atc _)]
        refine ⟨by simp at hl; (and_intros <;> omega), ?_⟩
        rw [Lay.put_set hc'.1 hc'.2.1, Hp.set_set]
        simp [-W.seq_eq, W.seq_put]
        rw [W.aug_eq (x := a) (h := rfl)]
        simp [-W.seq_eq, W.seq_put]
        refine ih _ _ _ (by (and_intros <;> omega)) hb.2.2 (by simp at hl ⊢; (and_intros <;> omega)) ?_
        have hne : b.t ≠ none := fun e => by have := hs.2.2.mpr e; (and_intros <;> omega)
        obtain ⟨ck, hck⟩ := Option.ne_none_iff_exists'.mp hne
        have h3 := hb.2.1
        rw [hck] at h3 q
        simp only at h3
        rw [h3.1]
        simpa [-W.seq_eq, W.seq_put, tagV] using q
  have hle := hb.le
  exact loop bs 1024 [] none (by (and_intros <;> omega)) hb (by simp; (and_intros <;> omega)) (by simpa [-W.seq_eq, W.seq_put] using q c hc)

noncomputable def usedP : List Blk → Int
  | [] => 0
  | b :: r => (if b.t = none then 0 else b.s) + usedP r
theorem s_used_bytes (hlim : L.lim ≤ 8000) {bs : List Blk} (hb : Bl (mw d) 1024 bs L.lim) {Q : V → Hp → Prop} (q : Q (.int (usedP bs)) (L.put d fr hp)) : Calls D 147 (n + 9) [.ref L.aH] (L.put d fr hp) Q := by
  refine Calls.forget (Q := fun u hp' => u = .int (usedP bs) ∧ (L.put d fr hp).le hp') ?main (fun u hp' h => ⟨_, h.2, by rw [h.1]; exact q⟩)
  case main =>
  refine c_used_bytes hD (n := n + 4) rfl ?_
  simp [-W.seq_eq, W.seq_put, W_used_bytes, W.iter_eq, k.o_blocks]
  refine s_blocks hD k ok (n := n) hlim hb fun c hc => ?_
  have hc' := Lay.put_none hc
  refine ⟨_, rfl, _, by rw [Lay.put_ne hc'.1 hc'.2.1, Hp.set_self], ?_⟩
  have fin : (L.put d fr hp).le (L.put d fr (hp.set c (.list (blocksV 1024 bs)))) := by
    rw [← Lay.put_set hc'.1 hc'.2.1]
    exact (Hp.le.refl _).new hc
  have hat : L.put d fr (hp.set c (.list (blocksV 1024 bs))) c = some (.list (blocksV 1024 bs)) := by rw [Lay.put_ne hc'.1 hc'.2.1, Hp.set_self]
  generalize hH : L.put d fr (hp.set c (.list (blocksV 1024 bs))) = H at *
  generalize hU : blocksV 1024 bs = U at hat hH
  have loop : ∀ (bs : List Blk) (a tot : Int) (x y z : Option V), W.forGo (W.many [2, 3, 4]) (W_used_bytes_b0 D (n + 4)) (fun hp => hp c = some (.list U)) (blocksV a bs)
      [some (.ref L.aH), some (.int tot), x, y, z] H (sq (W.seq (W.ret (W.v 1)) W.nil) (bodyPost fun u hp' => u = .int (tot + usedP bs) ∧ (L.put d fr hp).le hp')) := by
    intro bs
    induction bs with
    | nil => intro a tot x y z; simp [blocksV, usedP, hat, fin]
    | cons b r ih =>
      intro a tot x y z
      simp only [blocksV, W.forGo_cons, hat, true_and, W.many_eq, List.length_cons, List.length_nil, stAll_cons, stAll_nil, st_succ, st_zero]
      simp [-W.seq_eq, W.seq_put]
      obtain ⟨s, t⟩ := b
      cases t with
      | none =>
        simp [tagV, usedP]
        exact ih _ _ _ _ _
      | some ck =>
        simp [tagV, usedP]
        rw [W.aug_eq (x := tot) (h := rfl)]
        simp [-W.seq_eq, W.seq_put]
        have := ih (a + s) (tot + s) (some (.int a)) (some (.int s)) (some (.int ck.1))
        simpa [-W.seq_eq, W.seq_put, Int.add_assoc] using this
  have := loop bs 1024 0 none none none
  rw [hU] at this
  simpa [-W.seq_eq, W.seq_put] using this

noncomputable def largP (x : Int) : List Blk → Int
  | [] => x
  | b :: r => largP (if b.t = none then (if b.s > x then b.s else x) else x) r
theorem s_largest_free (hlim : L.lim ≤ 8000) {bs : List Blk} (hb : Bl (mw d) 1024 bs L.lim) {Q : V → Hp → Prop} (q : Q (.int (largP 0 bs)) (L.put d fr hp)) : Calls D 154 (n + 9) [.ref L.aH] (L.put d fr hp) Q := by
  refine Calls.forget (Q := fun u hp' => u = .int (largP 0 bs) ∧ (L.put d fr hp).le hp') ?main (fun u hp' h => ⟨_, h.2, by rw [h.1]; exact q⟩)
  case main =>
  refine c_largest_free hD (n := n + 4) rfl ?_
  simp [-W.seq_eq, W.seq_put, W_largest_free, W.iter_eq, k.o_blocks]
  refine s_blocks hD k ok (n := n) hlim hb fun c hc => ?_
  have hc' := Lay.put_none hc
  refine ⟨_, rfl, _, by rw [Lay.put_ne hc'.1 hc'.2.1, Hp.set_self], ?_⟩
  have fin : (L.put d fr hp).le (L.put d fr (hp.set c (.list (blocksV 1024 bs)))) := by
    rw [← Lay.put_set hc'.1 hc'.2.1]
    exact (Hp.le.refl _).new hc
  have hat : L.put d fr (hp.set c (.list (blocksV 1024 bs))) c = some (.list (blocksV 1024 bs)) := by rw [Lay.put_ne hc'.1 hc'.2.1, Hp.set_self]
  generalize hH : L.put d fr (hp.set c (.list (blocksV 1024 bs))) = H at *
  generalize hU : blocksV 1024 bs = U at hat hH
  have loop : ∀ (bs : List Blk) (a tot : Int) (x y z : Option V), W.forGo (W.many [2, 3, 4]) (W_largest_free_b0 D (n + 4)) (fun hp => hp c = some (.list U)) (blocksV a bs)
      [some (.ref L.aH), some (.int tot), x, y, z] H (sq (W.seq (W.ret (W.v 1)) W.nil) (bodyPost fun u hp' => u = .int (largP tot bs) ∧ (L.put d fr hp).le hp')) := by
    intro bs
    induction bs with
    | nil => intro a tot x y z; simp [blocksV, largP, hat, fin]
    | cons b r ih =>
      intro a tot x y z
      simp only [blocksV, W.forGo_cons, hat, true_and, W.many_eq, List.length_cons, List.length_nil, stAll_cons, stAll_nil, st_succ, st_zero]
      simp [-W.seq_eq, W.seq_put]
      obtain ⟨s, t⟩ := b
      cases t with
      | none =>
        simp [tagV, largP]
        exact ih _ _ _ _ _
      | some ck =>
        simp [tagV, largP]
        exact ih _ _ _ _ _
  have := loop bs 1024 0 none none none
  rw [hU] at this
  simpa [-W.seq_eq, W.seq_put] using this
end
end Mine

namespace Mine
open PySem PySem.W PyProof.Rows

/-- the free lists of a heap with at most one free block -/
noncomputable def frT (has : Bool) (a T : Int) : List Int := if has = true then ([0, 0, 0, 0] : List Int).set (cls T).toNat a else [0, 0, 0, 0]
theorem four {P : Int → Prop} (h0 : P 0) (h1 : P 1) (h2 : P 2) (h3 : P 3) (c : Int) (h : 0 ≤ c) (h' : c < 4) : P c := by
  have : c = 0 ∨ c = 1 ∨ c = 2 ∨ c = 3 := by (and_intros <;> omega)
  rcases this with rfl | rfl | rfl | rfl <;> assumption
theorem frT_len (has : Bool) (a T : Int) : (frT has a T).length = 4 := by unfold frT; split <;> simp
theorem frT_get (has : Bool) (a T i : Int) (h : 0 ≤ i) (h' : i < 4) : (frT has a T).getD i.toNat 0 = if has = true ∧ i = cls T then a else 0 := by
  have hc := cls_range T
  unfold frT
  cases has with
  | false =>
    simp only [Bool.false_eq_true, false_and, if_false]
    revert i h h'; intro i h h'
    exact four (P := fun i => ([0, 0, 0, 0] : List Int).getD i.toNat 0 = 0) rfl rfl rfl rfl i h h'
  | true =>
    simp only [true_and, if_true]
    generalize cls T = c at hc
    by_cases e : i = c
    · subst e
      rw [if_pos rfl]
      simp [-W.seq_eq, W.seq_put, List.getD]
      rw [List.getElem?_set_self (by simp; (and_intros <;> omega))]; rfl
    · rw [if_neg e]
      have : c.toNat ≠ i.toNat := by (and_intros <;> omega)
      simp only [List.getD]
      rw [List.getElem?_set_ne this]
      exact four (P := fun i => ([0, 0, 0, 0] : List Int)[i.toNat]?.getD 0 = 0) rfl rfl rfl rfl i h h'
theorem frT_clear (a T : Int) : (frT true a T).set (cls T).toNat 0 = [0, 0, 0, 0] := by
  have hc := cls_range T
  unfold frT
  rw [if_pos rfl, List.set_set]
  exact four (P := fun c => ([0, 0, 0, 0] : List Int).set c.toNat 0 = [0, 0, 0, 0]) rfl rfl rfl rfl _ hc.1 hc.2
theorem range4 (c : Int) (h : 0 ≤ c) (h' : c < 4) : rangeL c 4 1 = (([0, 1, 2, 3] : List Int).drop c.toNat).map .int :=
  four (P := fun c => rangeL c 4 1 = (([0, 1, 2, 3] : List Int).drop c.toNat).map .int) rfl rfl rfl rfl c h h'
theorem mem_drop4 (c i : Int) (h : 0 ≤ c) (h' : c < 4) : i ∈ ([0, 1, 2, 3] : List Int).drop c.toNat ↔ c ≤ i ∧ i < 4 :=
  four (P := fun c => i ∈ ([0, 1, 2, 3] : List Int).drop c.toNat ↔ c ≤ i ∧ i < 4) (by simp; (and_intros <;> omega)) (by simp; (and_intros <;> omega)) (by simp; (and_intros <;> omega)) (by simp; (and_intros <;> omega)) c h h'
theorem cls_mono {s T : Int} (h : s ≤ T) : cls s ≤ cls T := by
  unfold cls
  split <;> split <;> (try split) <;> (try split) <;> (try split) <;> (try split) <;> omega

section
variable {D : Wd} {P : Params} (hD : D.KF = HK P) {n : Nat} {hp : Hp} {Q : V → Hp → Prop} {L : Lay} (k : L.Ok hp) {d : List (Int × V)} (ok : DOk d)
include hD k ok
theorem s_take_free {has : Bool} {a T s : Int} (ha : has = true → 0 < a ∧ a + 4 < 8192 ∧ mw d (a / 4) = T + 1 ∧ mw d ((a + 4) / 4) = 0 ∧ T % 2 = 0)
    (q0 : ¬(has = true ∧ s ≤ T) → Q (.int 0) (L.put d (frT has a T) hp)) (q1 : has = true → s ≤ T → Q (.int a) (L.put d [0, 0, 0, 0] hp)) : Calls D 84 (n + 8) [.ref L.aH, .int s] (L.put d (frT has a T) hp) Q := by
  refine c_h_take_free hD (n := n + 3) rfl ?_
  simp only [W_h_take_free, W.seq_eq, W.for_eq, W.range_eq, W.args_cons, W.args_nil, W.call_eq, W.c_eq, List.map_cons, List.map_nil, List.cons_append, List.nil_append, W.vs, W.v0]
  have hs := cls_range s
  refine s_list_number hD (n := n + 2) ?_
  rw [wRange2]
  refine ⟨by unfold rangeOk; (and_intros <;> omega), ?_⟩
  rw [range4 _ hs.1 hs.2]
  have mem := fun i => mem_drop4 (cls s) i hs.1 hs.2
  have hin : has = true → s ≤ T → cls T ∈ ([0, 1, 2, 3] : List Int).drop (cls s).toNat := fun _ h => (mem _).mpr ⟨cls_mono h, (cls_range T).2⟩
  have hall : ∀ i ∈ ([0, 1, 2, 3] : List Int).drop (cls s).toNat, 0 ≤ i ∧ i < 4 := fun i h => by have := (mem i).mp h; (and_intros <;> omega)
  generalize ([0, 1, 2, 3] : List Int).drop (cls s).toNat = is at hin hall
  clear mem
  suffices h : ∀ b₂ b₃ b₄ b₅ : Option V, W.forGo (W.one 2) (W_h_take_free_b1 D (n + 3)) (fun _ => True) (is.map .int)
      [some (.ref L.aH), some (.int s), b₂, b₃, b₄, b₅] (L.put d (frT has a T) hp) (sq (W.seq (W.ret (W.c (.int 0))) W.nil) (bodyPost Q)) from h none none none none
  induction is with
  | nil =>
    intro b₂ b₃ b₄ b₅
    simp [-W.seq_eq, W.seq_put]
    exact q0 fun h => by simpa [-W.seq_eq, W.seq_put] using hin h.1 h.2
  | cons i is ih =>
    intro b₂ b₃ b₄ b₅
    have hi := hall i (.head _)
    simp [-W.seq_eq, W.seq_put, k.f_free]
    rw [wIx_list k.atF]
    refine ⟨⟨by simp [frT_len], by simp [frT_len]; (and_intros <;> omega)⟩, _, ints_ix hi.1 (by rw [frT_len]; (and_intros <;> omega)), ?_⟩
    rw [frT_get has a T i hi.1 hi.2]
    refine ⟨2, ?_⟩
    rw [W.whileN_succ]
    by_cases hc : has = true ∧ i = cls T
    · rw [if_pos hc]
      obtain ⟨a1, a2, a3, a4, a5⟩ := ha hc.1
      simp [-W.seq_eq, W.seq_put, k.f_memory, k.mem.o_word, k.o_size_of]
      refine ⟨fun h => by (and_intros <;> omega), fun _ => ?_⟩
      refine s_word hD (n := n + 1) (a := a + 4) k.mem k.atW ok (by (and_intros <;> omega)) a2 ?_
      rw [a4]
      have hsz : sizeP (mw d) a = T := by unfold sizeP; rw [if_pos (by (and_intros <;> omega))]; (and_intros <;> omega)
      refine ⟨k.o_size_of ▸ trivial, ?_⟩
      refine s_size_of hD (n := n) (b := a) k ok (by (and_intros <;> omega)) (by (and_intros <;> omega)) (.inl (by (and_intros <;> omega))) ?_
      rw [hsz]
      simp [-W.seq_eq, W.seq_put, k.f_free]
      refine ⟨fun hle => ?_, fun hlt => ?_⟩
      · rw [wSetItem_list k.atF]
        refine ⟨⟨hi.1, by simp [frT_len]; exact hi.2, by simp [frT_len]⟩, ?_⟩
        have e : ((frT has a T).map V.int).set i.toNat (.int 0) = (([0, 0, 0, 0] : List Int)).map .int := by
          rw [← List.map_set, hc.1, hc.2, frT_clear]
        rw [e, k.setF]
        exact q1 hc.1 hle
      · rw [W.whileN_succ]
        simp [-W.seq_eq, W.seq_put]
        exact ih (fun _ h => by (and_intros <;> omega)) (fun j hj => hall j (.tail _ hj)) _ _ _ _
    · rw [if_neg hc]
      simp [-W.seq_eq, W.seq_put]
      refine ih (fun h1 h2 => ?_) (fun j hj => hall j (.tail _ hj)) _ _ _ _
      rcases List.mem_cons.mp (hin h1 h2) with e | e
      · exact absurd ⟨h1, e.symm⟩ hc
      · exact e
end
end Mine

namespace Mine
open PySem PySem.W PyProof.Rows

theorem range_mem {a b x : Int} (h : V.int x ∈ rangeL a b 4) : a ≤ x ∧ x < b := by
  unfold rangeL at h
  obtain ⟨i, hi, e⟩ := List.mem_map.mp h
  have hi := List.mem_range.mp hi
  unfold rangeN Builtin.Range.rangeSize at hi
  injection e with e
  subst e
  simp at hi
  split at hi
  · (and_intros <;> omega)
  · (and_intros <;> omega)
theorem range_ints (a b : Int) : ∃ xs : List Int, rangeL a b 4 = xs.map .int ∧ (∀ x ∈ xs, a ≤ x ∧ x < b) ∧ (a < b → a ∈ xs) := by
  refine ⟨(List.range (rangeN a b 4)).map fun (i : Nat) => a + i * 4, by unfold rangeL; rw [List.map_map]; rfl, fun x hx => ?_, fun h => ?_⟩
  · obtain ⟨i, hi, e⟩ := List.mem_map.mp hx
    exact range_mem (List.mem_map.mpr ⟨i, hi, by rw [← e]⟩)
  · refine List.mem_map.mpr ⟨0, List.mem_range.mpr ?_, by simp⟩
    unfold rangeN Builtin.Range.rangeSize
    simp [-W.seq_eq, W.seq_put]
    rw [if_pos h]; (and_intros <;> omega)

section
variable {D : Wd} {P : Params} (hD : D.KF = HK P) {n : Nat} {hp : Hp} {Q : V → Hp → Prop} {L : Lay} (k : L.Ok hp) {d : List (Int × V)} (ok : DOk d)
include hD k ok
theorem s_alloc {has : Bool} {a T s c : Int} (ha : has = true → 0 < a ∧ a + T ≤ 8000 ∧ mw d (a / 4) = T + 1 ∧ mw d ((a + 4) / 4) = 0 ∧ T % 16 = 0 ∧ a % 16 = 0 ∧ 0 ≤ T) (h1 : 16 ≤ s) (h2 : s % 16 = 0) (c0 : 0 < c) (c1 : c < 1024) (hc : bsz (mw d (c / 4)) = s)
    (q0 : ¬(has = true ∧ s ≤ T) → Q (.int 0) (L.put d (frT has a T) hp))
    (q1 : has = true → s ≤ T → ∀ d', DOk d' → (∀ j, j < a / 4 → mw d' j = mw d j) → mw d' (a / 4) = c → mw d' ((a + 4) / 4) = 0 → (s < T → mw d' ((a + s) / 4) = T - s + 1 ∧ mw d' ((a + s + 4) / 4) = 0) → Q (.int (a + 8)) (L.put d' (frT (decide (s < T)) (a + s) (T - s)) hp)) :
    Calls D 91 (n + 9) [.ref L.aH, .int c] (L.put d (frT has a T) hp) Q := by
  refine c_h_alloc hD (n := n + 4) rfl ?_
  simp [-W.seq_eq, W.seq_put, W_h_alloc, k.f_memory, k.mem.o_word]
  refine s_word hD (n := n + 2) (a := c) k.mem k.atW ok (by (and_intros <;> omega)) (by (and_intros <;> omega)) ?_
  refine s_block_size hD (n := n + 3) ?_
  rw [hc]
  simp [-W.seq_eq, W.seq_put, k.o_take_free]
  refine s_take_free hD (n := n) (s := s) k ok (fun h => by obtain ⟨a1, a2, a3, a4, a5, a6, a7⟩ := ha h; exact ⟨a1, by (and_intros <;> omega), a3, a4, by (and_intros <;> omega)⟩) (fun h => ?_) (fun h hle => ?_)
  · simp [-W.seq_eq, W.seq_put]
    exact q0 h
  obtain ⟨a1, a2, a3, a4, a5, a6, a7⟩ := ha h
  simp [-W.seq_eq, W.seq_put, k.o_size_of]
  refine ⟨fun h => by (and_intros <;> omega), fun _ => ?_⟩
  have hsz : sizeP (mw d) a = T := by unfold sizeP; rw [if_pos (by (and_intros <;> omega))]; (and_intros <;> omega)
  refine s_size_of hD (n := n + 1) (b := a) k ok (by (and_intros <;> omega)) (by (and_intros <;> omega)) (.inl (by (and_intros <;> omega))) ?_
  rw [hsz]
  -- behind the rest
  have tail : ∀ (d₁ : List (Int × V)) (fr : List Int), fr = frT (decide (s < T)) (a + s) (T - s) → DOk d₁ → (∀ j, j < a / 4 → mw d₁ j = mw d j) → (s < T → mw d₁ ((a + s) / 4) = T - s + 1 ∧ mw d₁ ((a + s + 4) / 4) = 0) →
      W.seq (W.ex (W.meth D 238 "put_word" 221 (n + 4 + 4) (W.attr 108 "memory" (W.v 0)) [(W.v 3), (W.v 1)])) (W.seq (W.for (W.range [(W.bin wAdd (W.v 3) (W.c (.int 4))), (W.bin wAdd (W.v 3) (W.v 2)), (W.c (.int 4))]) (W.one 5) (W_h_alloc_b0 D (n + 4))) (W.seq (W.ret (W.bin wAdd (W.v 3) (W.c (.int 8)))) W.nil))
        [some (.ref L.aH), some (.int c), some (.int s), some (.int a), some (.int (T - s)), none] (L.put d₁ fr hp) (bodyPost Q) := by
    intro d₁ fr hfr ok₁ e1 e2
    simp [-W.seq_eq, W.seq_put, k.f_memory, k.mem.o_put_word]
    refine s_put_word hD (n := n + 2) k.mem k.atW ok₁ (a := a) (by (and_intros <;> omega)) (by (and_intros <;> omega)) ?_
    rw [k.setW]
    simp [-W.seq_eq, W.seq_put]
    obtain ⟨xs, hx1, hx2, hx3⟩ := range_ints (a + 4) (a + s)
    refine ⟨by unfold rangeOk; (and_intros <;> omega), ?_⟩
    rw [hx1]
    have ok₂ : DOk (wr d₁ a c) := ok₁.wr (by (and_intros <;> omega)) (by (and_intros <;> omega))
    have fin : ∀ d', DOk d' → (∀ j, (mw d' j = mw (wr d₁ a c) j ∧ ∀ x ∈ xs, j ≠ x / 4) ∨ (mw d' j = 0 ∧ ∃ x ∈ xs, j = x / 4)) → Q (.int (a + 8)) (L.put d' fr hp) := fun d' okd hj => by
      rw [hfr]
      have far : ∀ j, (j < a / 4 + 1 ∨ (a + s) / 4 ≤ j) → mw d' j = mw (wr d₁ a c) j := fun j hb => by
        rcases hj j with h | ⟨_, x, hx, e⟩
        · exact h.1
        · have := hx2 x hx; (and_intros <;> omega)
      refine q1 h hle d' okd (fun j hlt => ?_) ?_ ?_ (fun hlt => ?_)
      · rw [far j (by (and_intros <;> omega)), mw_wr, if_neg (by (and_intros <;> omega))]; exact e1 j hlt
      · rw [far _ (by (and_intros <;> omega)), mw_wr, if_pos rfl]; (and_intros <;> omega)
      · rcases hj ((a + 4) / 4) with h | h
        · exact absurd rfl (h.2 (a + 4) (hx3 (by (and_intros <;> omega))))
        · exact h.1
      · rw [far _ (by (and_intros <;> omega)), far _ (by (and_intros <;> omega)), mw_wr, if_neg (by (and_intros <;> omega)), mw_wr, if_neg (by (and_intros <;> omega))]; exact e2 hlt
    have go : ∀ (ys : List Int) (d₂ : List (Int × V)) (x : Option V), (∀ y ∈ ys, y ∈ xs) → DOk d₂ → (∀ j, (mw d₂ j = mw (wr d₁ a c) j ∧ ∀ x ∈ xs, x ∈ ys ∨ j ≠ x / 4) ∨ (mw d₂ j = 0 ∧ ∃ x ∈ xs, j = x / 4)) →
        W.forGo (W.one 5) (W_h_alloc_b0 D (n + 4)) (fun _ => True) (ys.map .int) [some (.ref L.aH), some (.int c), some (.int s), some (.int a), some (.int (T - s)), x] (L.put d₂ fr hp) (sq (W.seq (W.ret (W.bin wAdd (W.v 3) (W.c (.int 8)))) W.nil) (bodyPost Q)) := by
      intro ys
      induction ys with
      | nil =>
        intro d₂ x hy okd hj
        simp [-W.seq_eq, W.seq_put]
        refine fin d₂ okd fun j => ?_
        rcases hj j with h | h
        · exact .inl ⟨h.1, fun x hx => (h.2 x hx).resolve_left (by simp)⟩
        · exact .inr h
      | cons y ys ih =>
        intro d₂ x hy okd hj
        have hyx := hx2 y (hy y (.head _))
        simp [-W.seq_eq, W.seq_put, k.f_memory, k.mem.o_put_word]
        refine s_put_word hD (n := n + 2) k.mem k.atW okd (a := y) (by (and_intros <;> omega)) (by (and_intros <;> omega)) ?_
        rw [k.setW]
        simp [-W.seq_eq, W.seq_put]
        refine ih _ _ (fun z hz => hy z (.tail _ hz)) (okd.wr (by (and_intros <;> omega)) (by (and_intros <;> omega))) fun j => ?_
        rw [mw_wr]
        by_cases e : j = y / 4
        · rw [if_pos e]
          exact .inr ⟨rfl, y, hy y (.head _), e⟩
        · rw [if_neg e]
          rcases hj j with h | h
          · refine .inl ⟨h.1, fun x hx => ?_⟩
            rcases h.2 x hx with h | h
            · rcases List.mem_cons.mp h with rfl | h
              · exact .inr e
              · exact .inl h
            · exact .inr h
          · exact .inr h
    exact go xs _ _ (fun y h => h) ok₂ fun j => .inl ⟨rfl, fun x hx => .inl hx⟩
  simp only [W.seq_eq] at tail
  by_cases hT : s < T
  · simp [-W.seq_eq, W.seq_put, k.o_put_free]
    refine ⟨fun _ => ?_, fun h => by (and_intros <;> omega)⟩
    refine s_put_free hD (n := n + 1) k ok (b := a + s) (s := T - s) rfl (by (and_intros <;> omega)) (by (and_intros <;> omega)) ?_
    simp only [exq_none, sq_next, W.nil_eq]
    have hfr : pff [0, 0, 0, 0] (a + s) (T - s) = frT (decide (s < T)) (a + s) (T - s) := by
      unfold pff frT; rw [decide_eq_true hT, if_pos rfl]
    have h0 : ([0, 0, 0, 0] : List Int).getD (cls (T - s)).toNat 0 = 0 := by
      have := cls_range (T - s)
      exact four (P := fun i => ([0, 0, 0, 0] : List Int).getD i.toNat 0 = 0) rfl rfl rfl rfl _ this.1 this.2
    have := tail (pfd d [0, 0, 0, 0] (a + s) (T - s)) _ hfr ((ok.wr (by (and_intros <;> omega)) (by (and_intros <;> omega))).wr (by (and_intros <;> omega)) (by (and_intros <;> omega))) (fun j hj => ?_) (fun _ => ?_)
    · exact this
    · unfold pfd; rw [mw_wr, if_neg (by (and_intros <;> omega)), mw_wr, if_neg (by (and_intros <;> omega))]
    · unfold pfd
      rw [h0, mw_wr, if_neg (by (and_intros <;> omega)), mw_wr, if_pos rfl, mw_wr, if_pos rfl]
      constructor <;> omega
  · simp [-W.seq_eq, W.seq_put]
    refine ⟨fun h => by (and_intros <;> omega), fun _ => ?_⟩
    have hfr : [0, 0, 0, 0] = frT (decide (s < T)) (a + s) (T - s) := by
      unfold frT; rw [decide_eq_false hT, if_neg (by simp)]
    have := tail d _ hfr ok (fun j _ => rfl) (fun h => absurd h hT)
    simpa [-W.seq_eq, W.seq_put] using this
end
end Mine

namespace Mine
open PySem PySem.W PyProof.Rows

noncomputable def Tiles : Int → List Blk → Int → Prop
  | a, [], e => a = e
  | a, b :: r, e => (16 ≤ b.s ∧ b.s % 16 = 0) ∧ Tiles (a + b.s) r e
theorem Tiles.le : ∀ {bs : List Blk} {a e : Int}, Tiles a bs e → a + 16 * bs.length ≤ e
  | [], a, e, h => by have : a = e := h; simp; (and_intros <;> omega)
  | b :: r, a, e, h => by
    have := Tiles.le h.2
    have := h.1
    rw [List.length_cons]; push_cast; (and_intros <;> omega)
theorem Bl.tiles {m : Int → Int} : ∀ {bs : List Blk} {a e : Int}, Bl m a bs e → Tiles a bs e
  | [], a, e, h => h
  | b :: r, a, e, h => ⟨h.1, Bl.tiles h.2.2⟩
noncomputable def frees : Int → List Blk → List (Int × Int)
  | _, [] => []
  | a, b :: r => (if b.t = none then [(a, b.s)] else []) ++ frees (a + b.s) r
/-- the addresses of the blocks -/
noncomputable def addrs : Int → List Blk → List (Int × Blk)
  | _, [] => []
  | a, b :: r => (a, b) :: addrs (a + b.s) r
theorem addrs_at : ∀ {bs : List Blk} {a e : Int}, Tiles a bs e → a % 16 = 0 → ∀ p ∈ addrs a bs, a ≤ p.1 ∧ p.1 + p.2.s ≤ e ∧ p.1 % 16 = 0 ∧ 16 ≤ p.2.s ∧ p.2.s % 16 = 0
  | [], a, e, h, h16, p, hp => by simp [addrs] at hp
  | b :: r, a, e, h, h16, p, hp => by
    have := h.2.le
    have h1 := h.1
    rcases List.mem_cons.mp hp with rfl | hp
    · exact ⟨Int.le_refl _, by show a + b.s ≤ e; (and_intros <;> omega), h16, h1.1, h1.2⟩
    · have := addrs_at h.2 (by (and_intros <;> omega)) p hp
      exact ⟨by (and_intros <;> omega), this.2⟩
theorem frees_addrs : ∀ {bs : List Blk} {a : Int} {p : Int × Int}, p ∈ frees a bs ↔ ∃ b, (p.1, b) ∈ addrs a bs ∧ b.t = none ∧ b.s = p.2
  | [], a, p => by simp [frees, addrs]
  | b :: r, a, p => by
    unfold frees addrs
    rw [List.mem_append, frees_addrs]
    constructor
    · rintro (h | ⟨b', h1, h2⟩)
      · split at h
        · rw [List.mem_singleton.mp h]; exact ⟨b, .head _, by assumption, rfl⟩
        · cases h
      · exact ⟨b', .tail _ h1, h2⟩
    · rintro ⟨b', h1, h2, h3⟩
      rcases List.mem_cons.mp h1 with e | h
      · obtain ⟨e1, e2⟩ := Prod.mk.inj e
        subst e2
        left; rw [if_pos h2]
        exact List.mem_singleton.mpr (Prod.ext e1 h3.symm)
      · exact .inr ⟨b', h, h2, h3⟩
theorem addrs_fun : ∀ {bs : List Blk} {a e : Int}, Tiles a bs e → a % 16 = 0 → (addrs a bs).Pairwise fun p q => p.1 + 16 ≤ q.1
  | [], a, e, h, h16 => List.Pairwise.nil
  | b :: r, a, e, h, h16 => by
    refine List.pairwise_cons.mpr ⟨fun q hq => ?_, addrs_fun h.2 (by have := h.1; (and_intros <;> omega))⟩
    have := addrs_at h.2 (by have := h.1; (and_intros <;> omega)) q hq
    have := h.1
    show a + 16 ≤ q.1; (and_intros <;> omega)
theorem pw_eq {α : Type} {f : α → Int} : ∀ {l : List α}, (l.Pairwise fun p q => f p + 16 ≤ f q) → ∀ {p q : α}, p ∈ l → q ∈ l → f p = f q → p = q
  | [], _, _, _, h, _, _ => by cases h
  | x :: l, h, p, q, hp, hq, e => by
    obtain ⟨h1, h2⟩ := List.pairwise_cons.mp h
    rcases List.mem_cons.mp hp with e1 | hp1
    · rcases List.mem_cons.mp hq with e2 | hq1
      · rw [e1, e2]
      · have := h1 q hq1; rw [e1] at e; (and_intros <;> omega)
    · rcases List.mem_cons.mp hq with e2 | hq1
      · have := h1 p hp1; rw [e2] at e; (and_intros <;> omega)
      · exact pw_eq h2 hp1 hq1 e
theorem frees_pw {bs : List Blk} {a e : Int} (h : Tiles a bs e) (h16 : a % 16 = 0) : (frees a bs).Pairwise fun p q => p.1 + 16 ≤ q.1 := by
  induction bs generalizing a with
  | nil => exact List.Pairwise.nil
  | cons b r ih =>
    unfold frees
    have ih' := ih h.2 (by have := h.1; (and_intros <;> omega))
    split
    · refine List.pairwise_cons.mpr ⟨fun q hq => ?_, ih'⟩
      obtain ⟨b', h1, _⟩ := frees_addrs.mp hq
      have t : a + b.s ≤ q.1 := (addrs_at h.2 (by have := h.1; (and_intros <;> omega)) _ h1).1
      have := h.1
      show a + 16 ≤ q.1
      (and_intros <;> omega)
    · exact ih'
theorem frees_at {bs : List Blk} {a e : Int} (h : Tiles a bs e) (h16 : a % 16 = 0) : ∀ p ∈ frees a bs, a ≤ p.1 ∧ p.1 + p.2 ≤ e ∧ p.1 % 16 = 0 ∧ 16 ≤ p.2 ∧ p.2 % 16 = 0 := fun p hp => by
  obtain ⟨b, h1, h2, h3⟩ := frees_addrs.mp hp
  have := addrs_at h h16 _ h1
  simp only [h3] at this
  exact this
noncomputable def BlkOk (m : Int → Int) (p : Int × Blk) : Prop := match p.2.t with
  | none => m (p.1 / 4) = p.2.s + 1
  | some ck => m (p.1 / 4) = ck.1 ∧ m ((p.1 + 4) / 4) = ck.2 ∧ KOk m ck.1 p.2.s
theorem Bl_iff {m : Int → Int} : ∀ {bs : List Blk} {a e : Int}, Bl m a bs e ↔ Tiles a bs e ∧ ∀ p ∈ addrs a bs, BlkOk m p
  | [], a, e => ⟨fun h => ⟨h, fun p hp => by cases hp⟩, fun h => h.1⟩
  | b :: r, a, e => by
    constructor
    · intro h
      obtain ⟨h1, h2, h3⟩ := h
      obtain ⟨i1, i2⟩ := Bl_iff.mp h3
      refine ⟨⟨h1, i1⟩, fun p hp => ?_⟩
      rcases List.mem_cons.mp hp with rfl | hp
      · exact h2
      · exact i2 p hp
    · rintro ⟨h1, h2⟩
      exact ⟨h1.1, h2 (a, b) (.head _), Bl_iff.mpr ⟨h1.2, fun p hp => h2 p (.tail _ hp)⟩⟩
/-- what a block's words are is kept -/
theorem BlkOk.congr {m m' : Int → Int} {p : Int × Blk} (h : BlkOk m p) (h1 : ∀ j, j < 256 → m' j = m j) (h2 : m' (p.1 / 4) = m (p.1 / 4)) (h3 : p.2.t ≠ none → m' ((p.1 + 4) / 4) = m ((p.1 + 4) / 4)) : BlkOk m' p := by
  obtain ⟨a, s, t⟩ := p
  unfold BlkOk at h ⊢
  cases t with
  | none => simp only at h h2 ⊢; rw [h2]; exact h
  | some ck =>
    simp only at h h2 h3 ⊢
    obtain ⟨t1, t2, k1, k2, k3, k4⟩ := h
    refine ⟨h2.trans t1, (h3 (by simp)).trans t2, k1, k2, k3, ?_⟩
    rw [h1 _ (by (and_intros <;> omega))]; exact k4

noncomputable def Chain (m : Int → Int) : Int → List Int → Prop
  | b, [] => b = 0
  | b, x :: r => b = x ∧ x ≠ 0 ∧ Chain m (m ((x + 4) / 4)) r
theorem Chain.congr {m m' : Int → Int} : ∀ {row : List Int} {b : Int}, Chain m b row → (∀ x ∈ row, m' ((x + 4) / 4) = m ((x + 4) / 4)) → Chain m' b row
  | [], _, h, _ => h
  | x :: r, b, h, e => ⟨h.1, h.2.1, by rw [e x (.head _)]; exact h.2.2.congr fun y hy => e y (.tail _ hy)⟩
noncomputable def rowOf (i : Int) (F : List (Int × Int)) : List Int := (F.filter (fun p => decide (cls p.2 = i))).map (·.1)
theorem mem_rowOf {i : Int} {F : List (Int × Int)} {x : Int} : x ∈ rowOf i F ↔ ∃ s, (x, s) ∈ F ∧ cls s = i := by
  unfold rowOf
  rw [List.mem_map]
  constructor
  · rintro ⟨⟨x', s⟩, h, rfl⟩
    obtain ⟨h1, h2⟩ := List.mem_filter.mp h
    exact ⟨s, h1, by simpa using h2⟩
  · rintro ⟨s, h1, h2⟩
    exact ⟨(x, s), List.mem_filter.mpr ⟨h1, by simpa using h2⟩, rfl⟩
noncomputable def NA : Bool → List Blk → Prop
  | _, [] => True
  | bf, b :: r => (bf = true → b.t ≠ none) ∧ NA b.t.isNone r
structure Good (m : Int → Int) (fr : List Int) (lim : Int) (bs : List Blk) : Prop where
  bl : Bl m 1024 bs lim
  marks : ∀ b ∈ bs, ∀ ck, b.t = some ck → ck.2 = 0
  na : NA false bs
  len : fr.length = 4
  rows : ∀ i, 0 ≤ i → i < 4 → Chain m (fr.getD i.toNat 0) (rowOf i (frees 1024 bs))

/-! what a sweep leaves -/
noncomputable def Blk.kept (b : Blk) : Bool := match b.t with
  | some ck => decide (ck.2 ≠ 0)
  | none => false
noncomputable def Blk.bare (b : Blk) : Blk := ⟨b.s, b.t.map fun ck => (ck.1, 0)⟩
noncomputable def sw : Int → List Blk → List Blk
  | p, [] => if 0 < p then [⟨p, none⟩] else []
  | p, b :: r => if b.kept = true then (if 0 < p then [⟨p, none⟩] else []) ++ (b.bare :: sw 0 r) else sw (p + b.s) r
theorem sw_tiles : ∀ {bs : List Blk} {a e p : Int}, Tiles a bs e → 0 ≤ p → p % 16 = 0 → Tiles (a - p) (sw p bs) e
  | [], a, e, p, h, h0, h1 => by
    unfold sw
    split
    · exact ⟨⟨by show 16 ≤ p; (and_intros <;> omega), h1⟩, by show a - p + p = e; have : a = e := h; (and_intros <;> omega)⟩
    · show a - p = e; have : a = e := h; (and_intros <;> omega)
  | b :: r, a, e, p, h, h0, h1 => by
    unfold sw
    split
    · have i := sw_tiles (p := 0) h.2 (Int.le_refl _) rfl
      rw [Int.sub_zero] at i
      split
      · refine ⟨⟨by show 16 ≤ p; (and_intros <;> omega), h1⟩, h.1, ?_⟩
        have e : a - p + (⟨p, none⟩ : Blk).s + b.bare.s = a + b.s := by show a - p + p + b.s = _; (and_intros <;> omega)
        rw [e]; exact i
      · have : p = 0 := by (and_intros <;> omega)
        subst this
        rw [Int.sub_zero]
        exact ⟨h.1, i⟩
    · have := sw_tiles (p := p + b.s) h.2 (by have := h.1; (and_intros <;> omega)) (by have := h.1; (and_intros <;> omega))
      rwa [show a + b.s - (p + b.s) = a - p by (and_intros <;> omega)] at this
theorem sw_marks : ∀ {bs : List Blk} {p : Int}, ∀ b ∈ sw p bs, ∀ ck, b.t = some ck → ck.2 = 0
  | [], p, b, hb, ck, e => by
    unfold sw at hb
    split at hb
    · rw [List.mem_singleton.mp hb] at e; cases e
    · cases hb
  | b' :: r, p, b, hb, ck, e => by
    unfold sw at hb
    split at hb
    · rcases List.mem_append.mp hb with h | h
      · split at h
        · rw [List.mem_singleton.mp h] at e; cases e
        · cases h
      · rcases List.mem_cons.mp h with rfl | h
        · unfold Blk.bare at e
          simp only [Option.map_eq_some_iff] at e
          obtain ⟨c, _, rfl⟩ := e; rfl
        · exact sw_marks b h ck e
    · exact sw_marks b hb ck e
theorem kept_some {b : Blk} (h : b.kept = true) : ∃ ck, b.t = some ck ∧ ck.2 ≠ 0 := by
  unfold Blk.kept at h
  split at h
  · exact ⟨_, by assumption, by simpa using h⟩
  · cases h
theorem sw_na : ∀ {bs : List Blk} {p : Int}, 0 ≤ p → (∀ b ∈ bs, 0 < b.s) → NA false (sw p bs)
  | [], p, h, _ => by
    unfold sw
    split
    · exact ⟨fun h => (by cases h), trivial⟩
    · trivial
  | b :: r, p, h, hs => by
    unfold sw
    have hr : ∀ b ∈ r, 0 < b.s := fun x hx => hs x (.tail _ hx)
    split
    · rename_i hk
      obtain ⟨ck, e, _⟩ := kept_some hk
      have e' : b.bare.t = some (ck.1, 0) := by unfold Blk.bare; rw [e]; rfl
      have i := sw_na (p := 0) (Int.le_refl _) hr
      have step : ∀ bf, NA bf (b.bare :: sw 0 r) := fun bf => ⟨fun _ => by rw [e']; simp, by rw [e']; exact i⟩
      split
      · exact ⟨fun h => (by cases h), step _⟩
      · exact step _
    · exact sw_na (by have := hs b (.head _); (and_intros <;> omega)) hr
theorem sw_Bl {m m' : Int → Int} (h1 : ∀ j, j < 256 → m' j = m j) : ∀ {bs : List Blk} {a e p : Int}, Bl m a bs e → 0 ≤ p → p % 16 = 0 → (∀ q ∈ frees (a - p) (sw p bs), m' (q.1 / 4) = q.2 + 1) →
    (∀ q ∈ addrs a bs, q.2.kept = true → m' (q.1 / 4) = m (q.1 / 4) ∧ m' ((q.1 + 4) / 4) = 0) → Bl m' (a - p) (sw p bs) e
  | [], a, e, p, h, h0, h16, hf, hk => by
    unfold sw at hf ⊢
    have e0 : a = e := h
    split
    · rename_i hp
      rw [if_pos hp] at hf
      exact ⟨⟨by show 16 ≤ p; (and_intros <;> omega), h16⟩, hf (a - p, p) (by simp [frees]), by show a - p + p = e; (and_intros <;> omega)⟩
    · show a - p = e; (and_intros <;> omega)
  | b :: r, a, e, p, h, h0, h16, hf, hk => by
    unfold sw at hf ⊢
    obtain ⟨hs, ht, hr⟩ := h
    split
    · rename_i hkb
      rw [if_pos hkb] at hf
      obtain ⟨ck, et, _⟩ := kept_some hkb
      have e' : b.bare.t = some (ck.1, 0) := by unfold Blk.bare; rw [et]; rfl
      have hb := hk (a, b) (.head _) hkb
      rw [et] at ht
      have hm : match b.bare.t with
        | none => m' (a / 4) = b.bare.s + 1
        | some ck => m' (a / 4) = ck.1 ∧ m' ((a + 4) / 4) = ck.2 ∧ KOk m' ck.1 b.bare.s := by
        rw [e']
        obtain ⟨t1, t2, k1, k2, k3, k4⟩ := ht
        exact ⟨hb.1.trans t1, hb.2, k1, k2, k3, by rw [h1 _ (by show ck.1 / 4 < 256; (and_intros <;> omega))]; exact k4⟩
      have hk' : ∀ q ∈ addrs (a + b.s) r, q.2.kept = true → m' (q.1 / 4) = m (q.1 / 4) ∧ m' ((q.1 + 4) / 4) = 0 := fun q hq => hk q (.tail _ hq)
      by_cases hp : 0 < p
      · rw [if_pos hp] at hf ⊢
        have ec : a - p + p + b.s = a + b.s := by (and_intros <;> omega)
        have i := sw_Bl h1 (p := 0) hr (Int.le_refl _) rfl (fun q hq => hf q (by
          show q ∈ frees (a - p) (⟨p, none⟩ :: b.bare :: sw 0 r)
          unfold frees
          refine List.mem_append.mpr (.inr ?_)
          unfold frees
          refine List.mem_append.mpr (.inr ?_)
          show q ∈ frees (a - p + p + b.s) (sw 0 r)
          rw [ec]; rwa [Int.sub_zero] at hq)) hk'
        rw [Int.sub_zero] at i
        refine ⟨⟨by show 16 ≤ p; (and_intros <;> omega), h16⟩, hf (a - p, p) (by simp [frees]), hs, ?_, ?_⟩
        · show match b.bare.t with
            | none => m' ((a - p + p) / 4) = b.bare.s + 1
            | some ck => m' ((a - p + p) / 4) = ck.1 ∧ m' ((a - p + p + 4) / 4) = ck.2 ∧ KOk m' ck.1 b.bare.s
          rw [show a - p + p = a by (and_intros <;> omega)]; exact hm
        · show Bl m' (a - p + p + b.s) (sw 0 r) e
          rw [ec]; exact i
      · rw [if_neg hp] at hf ⊢
        have hp0 : p = 0 := by (and_intros <;> omega)
        subst hp0
        rw [Int.sub_zero] at hf ⊢
        have i := sw_Bl h1 (p := 0) hr (Int.le_refl _) rfl (fun q hq => hf q (by
          show q ∈ frees a (b.bare :: sw 0 r)
          unfold frees
          refine List.mem_append.mpr (.inr ?_)
          show q ∈ frees (a + b.s) (sw 0 r)
          rwa [Int.sub_zero] at hq)) hk'
        rw [Int.sub_zero] at i
        exact ⟨hs, hm, i⟩
    · rename_i hkb
      rw [if_neg hkb] at hf
      have e2 : a + b.s - (p + b.s) = a - p := by (and_intros <;> omega)
      have i := sw_Bl h1 (p := p + b.s) hr (by (and_intros <;> omega)) (by (and_intros <;> omega)) (fun q hq => hf q (by rwa [e2] at hq)) (fun q hq => hk q (.tail _ hq))
      rwa [e2] at i
end Mine

namespace Mine
open PySem PySem.W PyProof.Rows

noncomputable def pv (p : Int × Int) : V := .tup [.int p.1, .int p.2]
noncomputable def unmark : Int → List Blk → List (Int × V) → List (Int × V)
  | _, [], d => d
  | a, b :: r, d => unmark (a + b.s) r (if b.kept = true then wr d (a + 4) 0 else d)
theorem unmark_cons (a : Int) (b : Blk) (r : List Blk) (d : List (Int × V)) : unmark a (b :: r) d = unmark (a + b.s) r (if b.kept = true then wr d (a + 4) 0 else d) := rfl
theorem sw_cons (p : Int) (b : Blk) (r : List Blk) : sw p (b :: r) = if b.kept = true then (if 0 < p then [⟨p, none⟩] else []) ++ (b.bare :: sw 0 r) else sw (p + b.s) r := rfl
theorem unmark_spec : ∀ {bs : List Blk} {a e : Int} {d : List (Int × V)}, Tiles a bs e → a % 16 = 0 → 0 ≤ a → e ≤ 8000 → DOk d → DOk (unmark a bs d) ∧
    (∀ j, (∀ q ∈ addrs a bs, q.2.kept = true → j ≠ (q.1 + 4) / 4) → mw (unmark a bs d) j = mw d j) ∧ (∀ q ∈ addrs a bs, q.2.kept = true → mw (unmark a bs d) ((q.1 + 4) / 4) = 0)
  | [], a, e, d, h, h16, h0, he, ok => ⟨ok, fun j _ => rfl, fun q hq => by cases hq⟩
  | b :: r, a, e, d, h, h16, h0, he, ok => by
    have hle := h.le
    have hle2 := h.2.le
    have hs := h.1
    simp only [List.length_cons] at hle
    have ok' : DOk (if b.kept = true then wr d (a + 4) 0 else d) := by
      split
      · exact ok.wr (by (and_intros <;> omega)) (by (and_intros <;> omega))
      · exact ok
    obtain ⟨i1, i2, i3⟩ := unmark_spec h.2 (by (and_intros <;> omega)) (by (and_intros <;> omega)) he ok'
    have far : ∀ q ∈ addrs (a + b.s) r, q.2.kept = true → (a + 4) / 4 ≠ (q.1 + 4) / 4 := fun q hq _ => by
      have := addrs_at h.2 (by (and_intros <;> omega)) q hq; (and_intros <;> omega)
    refine ⟨i1, fun j hj => ?_, fun q hq hk => ?_⟩
    · refine (i2 j fun q hq => hj q (.tail _ hq)).trans ?_
      split
      · rename_i hk
        rw [mw_wr, if_neg (hj (a, b) (.head _) hk)]
      · rfl
    · rcases List.mem_cons.mp hq with rfl | hq
      · refine (i2 _ far).trans ?_
        rw [if_pos hk, mw_wr, if_pos rfl]; rfl
      · exact i3 q hq hk

section
variable {D : Wd} {P : Params} (hD : D.KF = HK P) {n : Nat} {hp : Hp} {L : Lay} (k : L.Ok hp) {d : List (Int × V)} (ok : DOk d) {fr : List Int}
include hD k ok
theorem s_free_runs (hlim : L.lim ≤ 8000) {bs : List Blk} (hb : Bl (mw d) 1024 bs L.lim) {Q : V → Hp → Prop} (q : ∀ cR t, L.put d fr hp cR = none → Q (.tup [.ref cR, .int t]) (L.put (unmark 1024 bs d) fr (hp.set cR (.list ((frees 1024 (sw 0 bs)).map pv))))) :
    Calls D 249 (n + 9) [.ref L.aH] (L.put d fr hp) Q := by
  refine Calls.forget (Q := fun u hp' => ∃ cR t, u = .tup [.ref cR, .int t] ∧ L.put d fr hp cR = none ∧ (L.put (unmark 1024 bs d) fr (hp.set cR (.list ((frees 1024 (sw 0 bs)).map pv)))).le hp') ?main (fun u hp' h => by
    obtain ⟨cR, t, rfl, h, hle⟩ := h
    exact ⟨_, hle, q cR t h⟩)
  case main =>
  refine c_free_runs hD (n := n + 4) rfl ?_
  simp [W_free_runs, k.f_memory, W.iter_eq]
  intro cR hR
  have hR' := Lay.put_none hR
  rw [Lay.put_set hR'.1 hR'.2.1]
  have kR : L.Ok (hp.set cR (.list [])) := k.setNew hR'.2.2
  refine ⟨kR.o_blocks ▸ trivial, ?_⟩
  refine s_blocks hD kR ok (n := n) hlim hb fun c hc => ?_
  have hc' := Lay.put_none hc
  have ncR : c ≠ cR := fun e => by have h3 := hc'.2.2; rw [e, Hp.set_self] at h3; cases h3
  have hcn : hp c = none := by have h3 := hc'.2.2; rwa [Hp.set_ne _ _ ncR] at h3
  refine ⟨_, rfl, _, by rw [Lay.put_ne hc'.1 hc'.2.1, Hp.set_self], ?_⟩
  generalize hU : blocksV 1024 bs = U
  have kk : ∀ x, L.Ok ((hp.set cR (.list x)).set c (.list U)) := fun x => (k.setNew hR'.2.2).setNew (by rw [Hp.set_ne _ _ ncR]; exact hcn)
  have atc : ∀ d x, L.put d fr ((hp.set cR (.list x)).set c (.list U)) c = some (.list U) := fun d x => by rw [Lay.put_ne hc'.1 hc'.2.1, Hp.set_self]
  have atR : ∀ d x, L.put d fr ((hp.set cR (.list x)).set c (.list U)) cR = some (.list x) := fun d x => by rw [Lay.put_ne hR'.1 hR'.2.1, Hp.set_ne _ _ (Ne.symm ncR), Hp.set_self]
  have setR : ∀ d x y, (L.put d fr ((hp.set cR (.list x)).set c (.list U))).set cR (.list y) = L.put d fr ((hp.set cR (.list y)).set c (.list U)) := fun d x y => by
    rw [Lay.put_set hR'.1 hR'.2.1, Hp.set_comm _ _ _ ncR, Hp.set_set]
  have loop : ∀ (bs₁ : List Blk) (a : Int) (d₁ : List (Int × V)) (p : Int) (done : List (Int × Int)) (tot bh : Int) (x5 x6 x7 x8 x9 : Option V), Bl (mw d₁) a bs₁ L.lim → DOk d₁ → a % 16 = 0 → 1024 ≤ a → 0 ≤ p → (0 < p → bh = a) → (p = 0 → bh < a) → done.length + bs₁.length ≤ 1000 →
      unmark a bs₁ d₁ = unmark 1024 bs d → done ++ frees (a - p) (sw p bs₁) = frees 1024 (sw 0 bs) →
      W.forGo (W.many [5, 6, 7]) (W_free_runs_b0 D (n + 4)) (fun hp => hp c = some (.list U)) (blocksV a bs₁) [some (.ref L.aH), some (.ref L.aM), some (.ref cR), some (.int tot), some (.int bh), x5, x6, x7, x8, x9]
        (L.put d₁ fr ((hp.set cR (.list ((done ++ if 0 < p then [(a - p, p)] else []).map pv))).set c (.list U))) (sq (W.seq (W.ret (W.app wTup [(W.v 2), (W.v 3)])) W.nil) (bodyPost fun u hp' => ∃ cR t, u = .tup [.ref cR, .int t] ∧ L.put d fr hp cR = none ∧ (L.put (unmark 1024 bs d) fr (hp.set cR (.list ((frees 1024 (sw 0 bs)).map pv)))).le hp')) := by
    intro bs₁
    induction bs₁ with
    | nil =>
      intro a d₁ p done tot bh x5 x6 x7 x8 x9 hb ok₁ h16 ha hp0 hb1 hb2 hl hu hf
      simp [blocksV, atc]
      refine ⟨hR, ?_⟩
      have e1 : d₁ = unmark 1024 bs d := hu
      have e2 : (if 0 < p then [(a - p, p)] else []) = frees (a - p) (sw p []) := by
        unfold sw
        split <;> simp [frees]
      rw [e2, ← List.map_append, hf, e1, ← Lay.put_set hc'.1 hc'.2.1]
      refine (Hp.le.refl _).new ?_
      rw [Lay.put_ne hc'.1 hc'.2.1, Hp.set_ne _ _ ncR]; exact hcn
    | cons b r ih =>
      intro a d₁ p done tot bh x5 x6 x7 x8 x9 hb ok₁ h16 ha hp0 hb1 hb2 hl hu hf
      have hle := hb.le
      obtain ⟨hs, ht, hr⟩ := hb
      simp only [List.length_cons] at hle hl
      -- what the next turns need
      have h2 : b.kept ≠ true → ∀ tot' y8 y9, (lpq (W.forGo (W.many [5, 6, 7]) (W_free_runs_b0 D (n + 4)) (fun hp => hp c = some (.list U)) (blocksV (a + b.s) r)) (sq (W.seq (W.ret (W.app wTup [(W.v 2), (W.v 3)])) W.nil) (bodyPost fun u hp' => ∃ cR t, u = .tup [.ref cR, .int t] ∧ L.put d fr hp cR = none ∧ (L.put (unmark 1024 bs d) fr (hp.set cR (.list ((frees 1024 (sw 0 bs)).map pv)))).le hp'))) .next
          [some (.ref L.aH), some (.ref L.aM), some (.ref cR), some (.int tot'), some (.int (a + b.s)), some (.int a), some (.int b.s), some (tagV b.t), y8, y9]
          (L.put d₁ fr ((hp.set cR (.list ((done ++ [(a - p, p + b.s)]).map pv))).set c (.list U))) := fun hk tot' y8 y9 => by
        rw [unmark_cons, if_neg hk] at hu
        rw [sw_cons, if_neg hk] at hf
        have e0 : a - p = a + b.s - (p + b.s) := by (and_intros <;> omega)
        have := ih (a + b.s) d₁ (p + b.s) done tot' (a + b.s) (some (.int a)) (some (.int b.s)) (some (tagV b.t)) y8 y9 hr ok₁ (by (and_intros <;> omega)) (by (and_intros <;> omega)) (by (and_intros <;> omega)) (fun _ => rfl) (fun h => by (and_intros <;> omega)) (by (and_intros <;> omega)) hu (by rw [← e0]; exact hf)
        rw [if_pos (by (and_intros <;> omega)), ← e0] at this
        exact this
      have h1 : b.kept = true → Bl (mw (wr d₁ (a + 4) 0)) (a + b.s) r L.lim → (lpq (W.forGo (W.many [5, 6, 7]) (W_free_runs_b0 D (n + 4)) (fun hp => hp c = some (.list U)) (blocksV (a + b.s) r)) (sq (W.seq (W.ret (W.app wTup [(W.v 2), (W.v 3)])) W.nil) (bodyPost fun u hp' => ∃ cR t, u = .tup [.ref cR, .int t] ∧ L.put d fr hp cR = none ∧ (L.put (unmark 1024 bs d) fr (hp.set cR (.list ((frees 1024 (sw 0 bs)).map pv)))).le hp'))) .cont
          [some (.ref L.aH), some (.ref L.aM), some (.ref cR), some (.int tot), some (.int bh), some (.int a), some (.int b.s), some (tagV b.t), x8, x9]
          (L.put (wr d₁ (a + 4) 0) fr ((hp.set cR (.list ((done ++ if 0 < p then [(a - p, p)] else []).map pv))).set c (.list U))) := fun hkt hr' => by
        rw [unmark_cons, if_pos hkt] at hu
        rw [sw_cons, if_pos hkt] at hf
        have hnn : ¬ b.t = none := fun e => by simp [Blk.kept, e] at hkt
        have e1 : (done ++ if 0 < p then [(a - p, p)] else []) ++ frees (a + b.s) (sw 0 r) = frees 1024 (sw 0 bs) := by
          rw [← hf]
          by_cases hpp : 0 < p
          · rw [if_pos hpp, if_pos hpp]
            simp [frees, Blk.bare, hnn]
          · have : p = 0 := by (and_intros <;> omega)
            subst this
            simp [frees, Blk.bare, hnn]
        have hbh : bh < a + b.s := by
          by_cases hpp : 0 < p
          · have := hb1 hpp; (and_intros <;> omega)
          · have := hb2 (by (and_intros <;> omega)); (and_intros <;> omega)
        have := ih (a + b.s) (wr d₁ (a + 4) 0) 0 (done ++ if 0 < p then [(a - p, p)] else []) tot bh (some (.int a)) (some (.int b.s)) (some (tagV b.t)) x8 x9 hr' (ok₁.wr (by (and_intros <;> omega)) (by (and_intros <;> omega))) (by (and_intros <;> omega)) (by (and_intros <;> omega)) (Int.le_refl _) (fun h => by (and_intros <;> omega)) (fun _ => hbh) (by
          rw [List.length_append]
          split <;> simp <;> omega) hu (by rw [Int.sub_zero]; exact e1)
        rw [if_neg (Int.lt_irrefl 0), List.append_nil] at this
        exact this
      simp only [blocksV, W.forGo_cons, atc, true_and, W.many_eq, List.length_cons, List.length_nil, stAll_cons, stAll_nil, st_succ, st_zero]
      generalize lpq (W.forGo (W.many [5, 6, 7]) (W_free_runs_b0 D (n + 4)) (fun hp => hp c = some (.list U)) (blocksV (a + b.s) r)) (sq (W.seq (W.ret (W.app wTup [(W.v 2), (W.v 3)])) W.nil) (bodyPost fun u hp' => ∃ cR t, u = .tup [.ref cR, .int t] ∧ L.put d fr hp cR = none ∧ (L.put (unmark 1024 bs d) fr (hp.set cR (.list ((frees 1024 (sw 0 bs)).map pv)))).le hp')) = KK at h1 h2 ⊢
      clear ih
      -- a free or swept block: joined or new
      have merge : ∀ tot', b.kept ≠ true → W.seq (W.ifs (W.and [(W.t (W.bin wGt (W.app wLen [(W.v 2)]) (W.c (.int 0)))), (W.t (W.bin wEq (W.v 4) (W.v 5)))]) (W.seq (W.asg (W.many [8, 9]) (W.methB isL wPop (W.v 2) [])) (W.seq (W.ex (W.methB isL wAppend (W.v 2) [(W.app wTup [(W.v 8), (W.bin wAdd (W.v 9) (W.v 6))])])) W.nil)) (W.seq (W.ex (W.methB isL wAppend (W.v 2) [(W.app wTup [(W.v 5), (W.v 6)])])) W.nil)) (W.seq (W.asg (W.one 4) (W.bin wAdd (W.v 5) (W.v 6))) W.nil)
          [some (.ref L.aH), some (.ref L.aM), some (.ref cR), some (.int tot'), some (.int bh), some (.int a), some (.int b.s), some (tagV b.t), x8, x9]
          (L.put d₁ fr ((hp.set cR (.list ((done ++ if 0 < p then [(a - p, p)] else []).map pv))).set c (.list U))) KK := by
        intro tot' hk
        replace h2 := h2 hk tot'
        by_cases hpp : 0 < p
        · rw [if_pos hpp]
          simp [-W.seq_eq, W.seq_put]
          rw [wLen_list (atR _ _)]
          simp [-W.seq_eq, W.seq_put]
          refine ⟨by (and_intros <;> omega), fun _ => ?_, fun h => by (and_intros <;> omega)⟩
          rw [hb1 hpp]
          rw [isL_list (atR _ _), wPop_list (atR _ _)]
          refine ⟨trivial, by simp; (and_intros <;> omega), done.map pv, pv (a - p, p), rfl, ?_⟩
          rw [setR]
          simp [-W.seq_eq, W.seq_put, pv]
          rw [isL_list (atR _ _), wAppend_list (atR _ _)]
          refine ⟨trivial, by simp; (and_intros <;> omega), ?_⟩
          rw [setR]
          simp [-W.seq_eq, W.seq_put]
          simpa [-W.seq_eq, W.seq_put, pv] using h2 (some (.int (a - p))) (some (.int p))
        · rw [if_neg hpp, List.append_nil]
          have hp00 : p = 0 := by (and_intros <;> omega)
          have hbh := hb2 hp00
          subst hp00
          have fin : W.ex (W.methB isL wAppend (W.v 2) [(W.app wTup [(W.v 5), (W.v 6)])]) [some (.ref L.aH), some (.ref L.aM), some (.ref cR), some (.int tot'), some (.int bh), some (.int a), some (.int b.s), some (tagV b.t), x8, x9]
              (L.put d₁ fr ((hp.set cR (.list (done.map pv))).set c (.list U))) (sq W.nil (sq (W.seq (W.asg (W.one 4) (W.bin wAdd (W.v 5) (W.v 6))) W.nil) KK)) := by
            simp [-W.seq_eq, W.seq_put]
            rw [isL_list (atR _ _), wAppend_list (atR _ _)]
            refine ⟨trivial, by simp; (and_intros <;> omega), ?_⟩
            rw [setR]
            simp [-W.seq_eq, W.seq_put]
            simpa [-W.seq_eq, W.seq_put, pv] using h2 x8 x9
          have fin' := fin
          simp only [W.ex_eq, W.methB_eq, W.vs, W.v0, W.args_cons, W.args_nil, W.app_eq] at fin'
          simp [-W.seq_eq, W.seq_put]
          rw [wLen_list (atR _ _)]
          simp [-W.seq_eq, W.seq_put]
          refine ⟨by (and_intros <;> omega), fun _ => ⟨fun h => by (and_intros <;> omega), fun _ => ?_⟩, fun _ => ?_⟩
          · simpa [-W.seq_eq, W.seq_put] using fin'
          · simpa [-W.seq_eq, W.seq_put] using fin'
      obtain ⟨s, t⟩ := b
      cases t with
      | none =>
        simp [-W.seq_eq, W.seq_put, tagV]
        have := merge tot (by simp [Blk.kept])
        simpa [-W.seq_eq, W.seq_put, tagV] using this
      | some ck =>
        simp only at ht
        simp [-W.seq_eq, W.seq_put, tagV, k.mem.o_word]
        rw [(kk _).mem.o_word]
        refine ⟨trivial, ?_⟩
        refine s_word hD (n := n + 2) (a := a + 4) (kk _).mem (kk _).atW ok₁ (by (and_intros <;> omega)) (by (and_intros <;> omega)) ?_
        rw [ht.2.1]
        simp [-W.seq_eq, W.seq_put]
        refine ⟨fun hk => ?_, fun hk => ?_⟩
        · rw [(kk _).mem.o_put_word]
          refine ⟨trivial, ?_⟩
          refine s_put_word hD (n := n + 2) (a := a + 4) (kk _).mem (kk _).atW ok₁ (by (and_intros <;> omega)) (by (and_intros <;> omega)) ?_
          rw [(kk _).setW]
          simp [-W.seq_eq, W.seq_put]
          have hs' : 16 ≤ s ∧ s % 16 = 0 := hs
          simpa [-W.seq_eq, W.seq_put, tagV] using h1 (by simp [Blk.kept, hk]) (Bl.congr (by (and_intros <;> omega)) (fun j hj => by rw [mw_wr, if_neg (by (and_intros <;> omega))]) (fun j hj _ => by rw [mw_wr, if_neg (by (and_intros <;> omega))]) hr)
        · rw [W.aug_eq (x := tot) (h := rfl)]
          simp [-W.seq_eq, W.seq_put]
          have := merge (tot + s) (by simp [Blk.kept, hk])
          simpa [-W.seq_eq, W.seq_put, tagV] using this
  have hle := hb.le
  have := loop bs 1024 d 0 [] 0 0 none none none none none hb ok rfl (Int.le_refl _) (Int.le_refl _) (fun h => by (and_intros <;> omega)) (fun _ => by (and_intros <;> omega)) (by simp; (and_intros <;> omega)) rfl (by simp)
  rw [hU] at this
  simpa [-W.seq_eq, W.seq_put] using this
end
end Mine

namespace Mine
open PySem PySem.W PyProof.Rows

noncomputable abbrev nsH (L : Lay) (c : Addr) : List (Str × V) := [("memory", .ref L.aM), ("start", .int 1024), ("limit", .int L.lim), ("free", .ref c)]
theorem rowOf_cons (i : Int) (p : Int × Int) (F : List (Int × Int)) : rowOf i (p :: F) = if cls p.2 = i then p.1 :: rowOf i F else rowOf i F := by
  unfold rowOf
  by_cases h : cls p.2 = i
  · rw [if_pos h, List.filter_cons_of_pos (by simpa [-W.seq_eq, W.seq_put] using h)]; rfl
  · rw [if_neg h, List.filter_cons_of_neg (by simpa [-W.seq_eq, W.seq_put] using h)]
theorem getD_set {fr : List Int} {i j : Nat} {x : Int} (h : i < fr.length) : (fr.set i x).getD j 0 = if j = i then x else fr.getD j 0 := by
  simp only [List.getD]
  by_cases e : j = i
  · subst e; rw [if_pos rfl, List.getElem?_set_self h]; rfl
  · rw [if_neg e, List.getElem?_set_ne (Ne.symm e)]
theorem Chain.head {m : Int → Int} {b : Int} {row : List Int} (h : Chain m b row) : b = 0 ∨ b ∈ row := by
  cases row with
  | nil => exact .inl h
  | cons x r => rw [h.1]; exact .inr (.head _)
/-- the lists of the free blocks told -/
structure Rows (m : Int → Int) (fr : List Int) (S : List (Int × Int)) : Prop where
  len : fr.length = 4
  size : ∀ q ∈ S, m (q.1 / 4) = q.2 + 1
  chain : ∀ i, 0 ≤ i → i < 4 → Chain m (fr.getD i.toNat 0) (rowOf i S)
theorem Rows.nil (m : Int → Int) : Rows m [0, 0, 0, 0] [] :=
  ⟨rfl, fun q h => (by cases h), fun i h h' => four (P := fun i => Chain m (([0, 0, 0, 0] : List Int).getD i.toNat 0) (rowOf i [])) rfl rfl rfl rfl i h h'⟩
theorem Rows.put {d : List (Int × V)} {fr : List Int} {S : List (Int × Int)} (h : Rows (mw d) fr S) {x s : Int} (h0 : 0 < x) (h16 : x % 16 = 0) (hs : 0 ≤ s) (hs' : s < 10000) (hS : ∀ q ∈ S, 0 ≤ q.1 ∧ q.1 < 10000 ∧ q.1 % 16 = 0 ∧ q.1 ≠ x) :
    Rows (mw (pfd d fr x s)) (pff fr x s) ((x, s) :: S) := by
  have hc := cls_range s
  have hl : (cls s).toNat < fr.length := by rw [h.len]; (and_intros <;> omega)
  have hfr : 0 ≤ fr.getD (cls s).toNat 0 ∧ fr.getD (cls s).toNat 0 < 10000 := by
    rcases (h.chain (cls s) hc.1 hc.2).head with e | e
    · rw [e]; exact ⟨Int.le_refl _, by decide⟩
    · obtain ⟨t, ht, _⟩ := mem_rowOf.mp e
      have := hS _ ht
      exact ⟨this.1, this.2.1⟩
  have far : ∀ q ∈ S, mw (pfd d fr x s) (q.1 / 4) = mw d (q.1 / 4) ∧ mw (pfd d fr x s) ((q.1 + 4) / 4) = mw d ((q.1 + 4) / 4) := fun q hq => by
    have := hS q hq
    unfold pfd
    refine ⟨by rw [mw_wr, if_neg (by (and_intros <;> omega)), mw_wr, if_neg (by (and_intros <;> omega))], by rw [mw_wr, if_neg (by (and_intros <;> omega)), mw_wr, if_neg (by (and_intros <;> omega))]⟩
  refine ⟨by unfold pff; rw [List.length_set]; exact h.len, fun q hq => ?_, fun i i0 i1 => ?_⟩
  · rcases List.mem_cons.mp hq with rfl | hq
    · show mw (pfd d fr x s) (x / 4) = s + 1
      unfold pfd
      rw [mw_wr, if_neg (by (and_intros <;> omega)), mw_wr, if_pos rfl]; (and_intros <;> omega)
    · rw [(far q hq).1]; exact h.size q hq
  · have hch : Chain (mw (pfd d fr x s)) (fr.getD i.toNat 0) (rowOf i S) := (h.chain i i0 i1).congr fun y hy => by
      obtain ⟨t, ht, _⟩ := mem_rowOf.mp hy
      exact (far _ ht).2
    rw [rowOf_cons]
    unfold pff
    rw [getD_set hl]
    by_cases e : cls s = i
    · rw [if_pos e, if_pos (by (and_intros <;> omega))]
      refine ⟨rfl, by show x ≠ 0; (and_intros <;> omega), ?_⟩
      have : mw (pfd d fr x s) ((x + 4) / 4) = fr.getD i.toNat 0 := by
        unfold pfd
        rw [mw_wr, if_pos rfl, e]
        rw [e] at hfr
        (and_intros <;> omega)
      show Chain _ (mw (pfd d fr x s) ((x + 4) / 4)) _
      rw [this]; exact hch
    · rw [if_neg e, if_neg (by (and_intros <;> omega))]; exact hch
theorem pfd_far {d : List (Int × V)} {fr : List Int} {x s j : Int} (h1 : j ≠ x / 4) (h2 : j ≠ (x + 4) / 4) : mw (pfd d fr x s) j = mw d j := by
  unfold pfd; rw [mw_wr, if_neg h2, mw_wr, if_neg h1]

theorem frees_cons (a : Int) (b : Blk) (r : List Blk) : frees a (b :: r) = (if b.t = none then [(a, b.s)] else []) ++ frees (a + b.s) r := rfl
theorem sw_apart : ∀ {bs : List Blk} {a e p : Int}, Tiles a bs e → a % 16 = 0 → 0 ≤ p → ∀ q ∈ addrs a bs, q.2.kept = true → ∀ f ∈ frees (a - p) (sw p bs), q.1 ≠ f.1
  | [], a, e, p, h, h16, h0, q, hq, hk, f, hf => by cases hq
  | b :: r, a, e, p, h, h16, h0, q, hq, hk, f, hf => by
    have hs := h.1
    rw [sw_cons] at hf
    have hfr : ∀ f ∈ frees (a + b.s) (sw 0 r), a + b.s ≤ f.1 := fun f hf => by
      have := frees_at (sw_tiles (p := 0) h.2 (Int.le_refl _) rfl) (by (and_intros <;> omega)) f (by rwa [Int.sub_zero])
      (and_intros <;> omega)
    by_cases hkb : b.kept = true
    · rw [if_pos hkb] at hf
      obtain ⟨ck, et, _⟩ := kept_some hkb
      have e' : b.bare.t ≠ none := by unfold Blk.bare; rw [et]; simp
      have hf' : f = (a - p, p) ∧ 0 < p ∨ f ∈ frees (a + b.s) (sw 0 r) := by
        by_cases hp : 0 < p
        · rw [if_pos hp] at hf
          have : frees (a - p) ([⟨p, none⟩] ++ (b.bare :: sw 0 r)) = (a - p, p) :: frees (a - p + p + b.s) (sw 0 r) := by
            show frees (a - p) (⟨p, none⟩ :: b.bare :: sw 0 r) = _
            rw [frees_cons, frees_cons, if_neg e', if_pos rfl]; rfl
          rw [this] at hf
          rcases List.mem_cons.mp hf with h | h
          · exact .inl ⟨h, hp⟩
          · right; rwa [show a - p + p + b.s = a + b.s by (and_intros <;> omega)] at h
        · rw [if_neg hp] at hf
          have hp0 : p = 0 := by (and_intros <;> omega)
          subst hp0
          rw [Int.sub_zero] at hf
          have : frees a ([] ++ (b.bare :: sw 0 r)) = frees (a + b.s) (sw 0 r) := by
            show frees a (b.bare :: sw 0 r) = _
            rw [frees_cons, if_neg e']; rfl
          rw [this] at hf
          exact .inr hf
      rcases List.mem_cons.mp hq with rfl | hq
      · rcases hf' with ⟨rfl, hp⟩ | hf'
        · show a ≠ a - p; (and_intros <;> omega)
        · have := hfr f hf'; show a ≠ f.1; (and_intros <;> omega)
      · have hqa := addrs_at h.2 (by (and_intros <;> omega)) q hq
        rcases hf' with ⟨rfl, hp⟩ | hf'
        · show q.1 ≠ a - p; (and_intros <;> omega)
        · exact sw_apart h.2 (by (and_intros <;> omega)) (Int.le_refl 0) q hq hk f (by rwa [Int.sub_zero])
    · rw [if_neg hkb] at hf
      rcases List.mem_cons.mp hq with rfl | hq
      · exact absurd hk hkb
      · exact sw_apart (p := p + b.s) h.2 (by (and_intros <;> omega)) (by (and_intros <;> omega)) q hq hk f (by rwa [show a + b.s - (p + b.s) = a - p by (and_intros <;> omega)])
theorem range_down (N : Nat) : rangeL ((N : Int) - 1) (-1) (-1) = (List.range N).reverse.map fun (i : Nat) => V.int (i : Int) := by
  have hN : rangeN ((N : Int) - 1) (-1) (-1) = N := by
    unfold rangeN Builtin.Range.rangeSize
    simp [-W.seq_eq, W.seq_put]
    split
    · (and_intros <;> omega)
    · (and_intros <;> omega)
  unfold rangeL
  rw [hN]
  apply List.ext_getElem?
  intro i
  by_cases h : i < N
  · simp [-W.seq_eq, W.seq_put, h]
    (and_intros <;> omega)
  · simp [-W.seq_eq, W.seq_put, h]
theorem range_down_succ (N : Nat) : (List.range (N + 1)).reverse.map (fun (i : Nat) => V.int (i : Int)) = .int (N : Int) :: (List.range N).reverse.map fun (i : Nat) => V.int (i : Int) := by
  rw [List.range_succ, List.reverse_append]; rfl

section
variable {D : Wd} {P : Params} (hD : D.KF = HK P) {n : Nat} {hp : Hp} {L : Lay} (k : L.Ok hp) {d : List (Int × V)} (ok : DOk d) {fr : List Int}
include hD k ok
theorem s_sweep (hlim : L.lim ≤ 8000) {bs : List Blk} (hb : Bl (mw d) 1024 bs L.lim) {Q : V → Hp → Prop}
    (q : ∀ (c : Addr) (hp' : Hp) (d' : List (Int × V)) (fr' : List Int) (t : Int), L.put d fr hp c = none → ({ L with aF := c } : Lay).Ok hp' → (∀ x o, hp x = some o → x ≠ L.dH → x ≠ L.aF → hp' x = some o) → DOk d' →
      Good (mw d') fr' L.lim (sw 0 bs) → (∀ j, j < 256 → mw d' j = mw d j) → Q (.int t) (({ L with aF := c } : Lay).put d' fr' hp')) :
    Calls D 256 (n + 10) [.ref L.aH] (L.put d fr hp) Q := by
  refine c_sweep hD (n := n + 5) rfl ?_
  simp only [W_sweep, W.seq_eq, W.asg_eq, W.call_eq, W.args_cons, W.args_nil, List.map_cons, List.map_nil, List.cons_append, List.nil_append, W.v0]
  refine s_free_runs hD k ok (n := n) hlim hb fun cR t hR => ?_
  have hle := hb.le
  have ht := hb.tiles
  obtain ⟨ok₁, u1, u2⟩ := unmark_spec ht rfl (by (and_intros <;> omega)) hlim ok
  have hst := sw_tiles (p := 0) ht (Int.le_refl _) rfl
  have hf1 := frees_at hst rfl
  have hf2 := frees_pw hst rfl
  have hsl := hst.le
  rw [Int.sub_zero] at hst hf1 hf2 hsl
  have hlenR : (frees 1024 (sw 0 bs)).length ≤ 500 := by
    have : ∀ (bs : List Blk) (a : Int), (frees a bs).length ≤ bs.length := by
      intro bs
      induction bs with
      | nil => intro a; simp [frees]
      | cons b r ih =>
        intro a
        unfold frees
        rw [List.length_append, List.length_cons]
        have := ih (a + b.s)
        split <;> simp <;> omega
    have := this (sw 0 bs) 1024
    (and_intros <;> omega)
  generalize hd1 : unmark 1024 bs d = d₁ at *
  generalize hRR : frees 1024 (sw 0 bs) = R at *
  have hR' := Lay.put_none hR
  rw [W.many_eq]
  refine ⟨rfl, ?_⟩
  have e1 : stAll (some (V.ref L.aH) :: List.replicate (["heap", "runs", "freed", "number"].length - 1) (none : Option V)) [1, 2] [V.ref cR, V.int t] = [some (.ref L.aH), some (.ref cR), some (.int t), none] := rfl
  have e1' : stAll (some (V.ref L.aH) :: List.replicate 3 (none : Option V)) [1, 2] [V.ref cR, V.int t] = [some (.ref L.aH), some (.ref cR), some (.int t), none] := rfl
  rw [e1']
  simp
  intro c0 h0
  rw [wRep_list (Hp.set_self _ _ _)]
  refine ⟨by simp, fun c1 h1 => ?_⟩
  have n10 : c1 ≠ c0 := fun e => by rw [e, Hp.set_self] at h1; cases h1
  rw [Hp.set_ne _ _ n10] at h1
  have p0 := Lay.put_none h0
  have p1 := Lay.put_none h1
  have n0R : c0 ≠ cR := fun e => by have h3 := p0.2.2; rw [e, Hp.set_self] at h3; cases h3
  have n1R : c1 ≠ cR := fun e => by have h3 := p1.2.2; rw [e, Hp.set_self] at h3; cases h3
  have q0 : hp c0 = none := by have h3 := p0.2.2; rwa [Hp.set_ne _ _ n0R] at h3
  have q1 : hp c1 = none := by have h3 := p1.2.2; rwa [Hp.set_ne _ _ n1R] at h3
  have m1 := fun {a : Addr} {o : O} (g : hp a = some o) => Hp.ne_of q1 g
  have m0 := fun {a : Addr} {o : O} (g : hp a = some o) => Hp.ne_of q0 g
  have mR := fun {a : Addr} {o : O} (g : hp a = some o) => Hp.ne_of hR'.2.2 g
  have dHM : L.aM ≠ L.dH := fun e => by have := k.M; rw [e, k.dH] at this; cases this
  have dHH : L.aH ≠ L.dH := fun e => by have := k.H; rw [e, k.dH] at this; cases this
  have dHd : L.dM ≠ L.dH := fun e => by
    have := k.dM
    rw [e, k.dH] at this
    injection this with this
    injection this with this
    injection this with this _
    injection this with this _
    exact absurd this (by decide)
  have hns : (L.put d₁ fr (hp.set cR (.list (R.map pv)))) L.dH = some (.ns (nsH L L.aF)) := (k.setNew hR'.2.2).atdH
  have hin : (L.put d₁ fr (hp.set cR (.list (R.map pv)))) L.aH = some (.inst 108 L.dH) := (k.setNew hR'.2.2).atH
  rw [wSetF_inst (a := L.aH) (dx := L.dH) (fs := nsH L L.aF)
    (by rw [Hp.set_ne _ _ (m1 k.H), Hp.set_ne _ _ (m0 k.H)]; exact hin) (by rw [Hp.set_ne _ _ (m1 k.dH), Hp.set_ne _ _ (m0 k.dH)]; exact hns)]
  refine ⟨by simp, ?_⟩
  have e2 : putF "free" (.ref c1) (nsH L L.aF) = nsH L c1 := rfl
  rw [e2]
  have hp2e : ∃ hp', (((((L.put d₁ fr (hp.set cR (.list (R.map pv)))).set c0 (.list [.int 0])).set c1 (.list [V.int 0, .int 0, .int 0, .int 0])).set L.dH (.ns (nsH L c1))) = ({ L with aF := c1 } : Lay).put d₁ [0, 0, 0, 0] hp') ∧
      ({ L with aF := c1 } : Lay).Ok hp' ∧ (∀ x o, hp x = some o → x ≠ L.dH → x ≠ L.aF → hp' x = some o) ∧ hp' cR = some (.list (R.map pv)) := by
    refine ⟨(((hp.set cR (.list (R.map pv))).set L.aF (.list (fr.map .int))).set c0 (.list [.int 0])).set L.dH (.ns (nsH L c1)), ?_, ?_, ?_, ?_⟩
    · show ((((((hp.set cR (.list (R.map pv))).set L.aW (.dict d₁)).set L.aF (.list (fr.map .int))).set c0 _).set c1 _).set L.dH _) = ((((((hp.set cR (.list (R.map pv))).set L.aF (.list (fr.map .int))).set c0 _).set L.dH _).set L.aW (.dict d₁)).set c1 _)
      rw [Hp.set_comm _ (a := c1) (b := L.dH) _ _ (Ne.symm (m1 k.dH)), Hp.set_comm (hp.set cR (.list (R.map pv))) (a := L.aW) (b := L.aF) _ _ k.n9, Hp.set_comm _ (a := L.aW) (b := c0) _ _ (Ne.symm p0.1), Hp.set_comm _ (a := L.aW) (b := L.dH) _ _ (Ne.symm k.n7)]
      rfl
    · have st : ∀ {a : Addr} {o : O}, hp a = some o → a ≠ L.dH → a ≠ L.aF → ((((hp.set cR (.list (R.map pv))).set L.aF (.list (fr.map .int))).set c0 (.list [.int 0])).set L.dH (.ns (nsH L c1))) a = some o := fun g g1 g2 => by
        rw [Hp.set_ne _ _ g1, Hp.set_ne _ _ (m0 g), Hp.set_ne _ _ g2, Hp.set_ne _ _ (mR g)]; exact g
      exact ⟨st k.M dHM k.n2, st k.dM dHd k.n4, st k.H dHH k.n6, Hp.set_self _ _ _, k.n1, m1 k.M, k.n3, m1 k.dM, k.n5, m1 k.H, k.n7, m1 k.dH, Ne.symm p1.1⟩
    · intro x o g g1 g2
      rw [Hp.set_ne _ _ g1, Hp.set_ne _ _ (m0 g), Hp.set_ne _ _ g2, Hp.set_ne _ _ (mR g)]; exact g
    · rw [Hp.set_ne _ _ (Ne.symm (mR k.dH)), Hp.set_ne _ _ (Ne.symm n0R), Hp.set_ne _ _ hR'.2.1, Hp.set_self]
  obtain ⟨hp', eH, k', hkeep, hcR⟩ := hp2e
  have eH' : ∀ o, o = O.list (List.flatten (List.replicate (4 : Int).toNat [V.int 0])) → (((((L.put d₁ fr (hp.set cR (.list (R.map pv)))).set c0 (.list [.int 0])).set c1 o).set L.dH (.ns (nsH L c1))) = ({ L with aF := c1 } : Lay).put d₁ [0, 0, 0, 0] hp') := fun o ho => by
    rw [ho]; exact eH
  rw [eH' _ rfl]
  have h1n : L.put d fr hp c1 = none := by rw [Lay.put_ne p1.1 p1.2.1]; exact q1
  generalize hL' : ({ L with aF := c1 } : Lay) = L' at *
  have a1 : L'.aH = L.aH := by rw [← hL']
  have hRn := hR'
  have cRW : cR ≠ L'.aW := by rw [← hL']; exact hR'.1
  have cRF : cR ≠ L'.aF := by rw [← hL']; exact Ne.symm n1R
  have atR : ∀ d fr, L'.put d fr hp' cR = some (.list (R.map pv)) := fun d fr => by rw [Lay.put_ne cRW cRF]; exact hcR
  rw [wLen_list (atR _ _)]
  simp [-W.seq_eq, W.seq_put]
  refine ⟨by (and_intros <;> omega), by unfold rangeOk; (and_intros <;> omega), ?_⟩
  rw [range_down]
  have loop : ∀ (N : Nat) (d₂ : List (Int × V)) (fr₂ : List Int) (x : Option V), N ≤ R.length → DOk d₂ → Rows (mw d₂) fr₂ (R.drop N) → (∀ j, (∀ q ∈ R.drop N, j ≠ q.1 / 4 ∧ j ≠ (q.1 + 4) / 4) → mw d₂ j = mw d₁ j) →
      W.forGo (W.one 3) (W_sweep_b0 D (n + 5)) (fun _ => True) ((List.range N).reverse.map fun (i : Nat) => V.int (i : Int)) [some (.ref L.aH), some (.ref cR), some (.int t), x] (L'.put d₂ fr₂ hp') (sq (W.seq (W.ret (W.v 2)) W.nil) (bodyPost Q)) := by
    intro N
    induction N with
    | zero =>
      intro d₂ fr₂ x hN ok₂ hr hj
      simp [-W.seq_eq, W.seq_put]
      rw [List.drop_zero] at hr hj
      have lo : ∀ j, j < 256 → mw d₂ j = mw d j := fun j hjl => by
        rw [hj j (fun p hp => by have := hf1 p hp; (and_intros <;> omega))]
        exact u1 j fun p hp _ => by have := addrs_at ht rfl p hp; (and_intros <;> omega)
      rw [← hL']
      have qq := q c1 hp' d₂ fr₂ t h1n (by rw [hL']; exact k') hkeep ok₂ ?_ lo
      · exact qq
      have frb : ∀ p ∈ addrs 1024 bs, p.2.kept = true → ∀ j, (j = p.1 / 4 ∨ j = (p.1 + 4) / 4) → ∀ q ∈ R, j ≠ q.1 / 4 ∧ j ≠ (q.1 + 4) / 4 := fun p hp hk j hjp q hq => by
        have b1 := addrs_at ht rfl p hp
        have b2 := hf1 q hq
        have : p.1 ≠ q.1 := sw_apart ht rfl (Int.le_refl 0) p hp hk q (by rw [Int.sub_zero, hRR]; exact hq)
        rcases hjp with h | h <;> constructor <;> omega
      refine ⟨?_, sw_marks, sw_na (Int.le_refl _) fun b hb' => ?_, hr.len, fun i i0 i1 => by rw [hRR]; exact hr.chain i i0 i1⟩
      · have := sw_Bl (m := mw d) (m' := mw d₂) (p := 0) lo hb (Int.le_refl _) rfl (fun p hp => hr.size p (by rwa [Int.sub_zero, hRR] at hp)) fun p hp hk => ?_
        · rwa [Int.sub_zero] at this
        · have b1 := addrs_at ht rfl p hp
          rw [hj _ (frb p hp hk _ (.inl rfl)), hj _ (frb p hp hk _ (.inr rfl))]
          exact ⟨u1 _ fun p' hp' _ => by have := addrs_at ht rfl p' hp'; (and_intros <;> omega), u2 p hp hk⟩
      · have : ∀ (bs : List Blk) (a e : Int), Tiles a bs e → ∀ b ∈ bs, 0 < b.s := by
          intro bs
          induction bs with
          | nil => intro a e _ b h; cases h
          | cons b r ih =>
            intro a e h b' hb'
            rcases List.mem_cons.mp hb' with rfl | h'
            · have := h.1; (and_intros <;> omega)
            · exact ih _ _ h.2 b' h'
        exact this _ _ _ ht b hb'
    | succ N ih =>
      intro d₂ fr₂ x hN ok₂ hr hj
      rw [range_down_succ]
      have hget : R[N]? = some R[N] := List.getElem?_eq_getElem (by (and_intros <;> omega))
      have hdrop : R.drop N = R[N] :: R.drop (N + 1) := List.drop_eq_getElem_cons (by (and_intros <;> omega))
      generalize hx : R[N] = p at hget hdrop
      obtain ⟨y, s⟩ := p
      have hmem : (y, s) ∈ R := List.mem_of_getElem? hget
      have hy := hf1 _ hmem
      simp only at hy
      have hgv : (R.map pv)[ixN (R.map pv).length (N : Int)]? = some (pv (y, s)) := by
        unfold ixN; rw [if_neg (by (and_intros <;> omega))]; simp [hget]
      have hb1 : ((R.map pv).length ≤ 100000 ∧ -((R.map pv).length : Int) ≤ (N : Int)) := by simp; (and_intros <;> omega)
      have k2 := k'
      simp only [W.forGo_cons, true_and, W.one_eq, st_succ, st_zero, W_sweep_b0_eq, W.seq_eq, W.ex_eq, W.meth_eq, W.args_cons, W.args_nil, W.bin_eq, W.vs, W.v0, W.c_eq]
      refine ⟨by rw [← a1]; exact k2.o_put_free ▸ trivial, ?_⟩
      rw [wIx_list (atR _ _)]
      refine ⟨hb1, _, hgv, ?_⟩
      unfold pv
      rw [wIx_tup]
      refine ⟨by simp, _, rfl, ?_⟩
      rw [wIx_list (atR _ _)]
      refine ⟨hb1, _, hgv, ?_⟩
      unfold pv
      rw [wIx_tup]
      refine ⟨by simp, _, rfl, ?_⟩
      rw [← a1]
      have hS : ∀ q ∈ R.drop (N + 1), 0 ≤ q.1 ∧ q.1 < 10000 ∧ q.1 % 16 = 0 ∧ q.1 ≠ y := fun q hq => by
        have b := hf1 q (List.mem_of_mem_drop hq)
        have pw : (R.drop N).Pairwise fun p q => p.1 + 16 ≤ q.1 := hf2.sublist (List.drop_sublist _ _)
        rw [hdrop] at pw
        have := (List.pairwise_cons.mp pw).1 q hq
        simp only at this
        (and_intros <;> omega)
      refine s_put_free hD (n := n + 2) k' ok₂ hr.len (b := y) (s := s) (by (and_intros <;> omega)) (by (and_intros <;> omega)) ?_
      simp only [exq_none, sq_next, W.nil_eq, lpq_next]
      rw [a1]
      refine ih (pfd d₂ fr₂ y s) (pff fr₂ y s) _ (by (and_intros <;> omega)) ((ok₂.wr (by (and_intros <;> omega)) (by (and_intros <;> omega))).wr (by (and_intros <;> omega)) (by (and_intros <;> omega))) ?_ fun j hjj => ?_
      · rw [hdrop]
        exact hr.put (by (and_intros <;> omega)) (by (and_intros <;> omega)) (by (and_intros <;> omega)) (by (and_intros <;> omega)) hS
      · rw [hdrop] at hjj
        have := hjj (y, s) (.head _)
        rw [pfd_far this.1 this.2]
        exact hj j fun q hq => hjj q (.tail _ hq)
  exact loop R.length d₁ [0, 0, 0, 0] none (Nat.le_refl _) ok₁ (by rw [List.drop_length]; exact Rows.nil _) fun j _ => rfl
end
end Mine

namespace Mine
open PySem PySem.W PyProof.Rows

structure Hand (hp : Hp) (aP aC : Addr) (cs : List Int) : Prop where
  cells : hp aC = some (.list (cs.map .int))
  short : cs.length ≤ 63
  ne : aP ≠ aC
  at_ : ∃ i x y : Int, hp aP = some (.list [.ref aC, .int i, .int x, .int y]) ∧ 0 ≤ i ∧ i ≤ cs.length ∧ 0 ≤ x ∧ 0 ≤ y
theorem Hand.set {hp : Hp} {aP aC : Addr} {cs : List Int} (h : Hand hp aP aC cs) {i x y : Int} (h1 : 0 ≤ i) (h2 : i ≤ cs.length) (h3 : 0 ≤ x) (h4 : 0 ≤ y) : Hand (hp.set aP (.list [.ref aC, .int i, .int x, .int y])) aP aC cs :=
  ⟨by rw [Hp.set_ne _ _ (Ne.symm h.ne)]; exact h.cells, h.short, h.ne, i, x, y, Hp.set_self _ _ _, h1, h2, h3, h4⟩
theorem Hand.other {hp : Hp} {aP aC : Addr} {cs : List Int} (h : Hand hp aP aC cs) {c : Addr} {o : O} (h1 : c ≠ aP) (h2 : c ≠ aC) : Hand (hp.set c o) aP aC cs :=
  ⟨by rw [Hp.set_ne _ _ (Ne.symm h2)]; exact h.cells, h.short, h.ne, let ⟨i, x, y, g, r⟩ := h.at_; ⟨i, x, y, by rw [Hp.set_ne _ _ (Ne.symm h1)]; exact g, r⟩⟩
theorem Hand.new {hp : Hp} {aP aC : Addr} {cs : List Int} (h : Hand hp aP aC cs) {c : Addr} {o : O} (g : hp c = none) : Hand (hp.set c o) aP aC cs :=
  h.other (fun e => by obtain ⟨i, x, y, q, _⟩ := h.at_; rw [e, q] at g; cases g) (fun e => by rw [e, h.cells] at g; cases g)
theorem Hand.le {hp hp' : Hp} {aP aC : Addr} {cs : List Int} (h : Hand hp aP aC cs) (l : ∀ x o, hp x = some o → (∃ us, o = .list us) → hp' x = some o) : Hand hp' aP aC cs :=
  ⟨l _ _ h.cells ⟨_, rfl⟩, h.short, h.ne, let ⟨i, x, y, g, r⟩ := h.at_; ⟨i, x, y, l _ _ g ⟨_, rfl⟩, r⟩⟩

section
variable {D : Wd} {P : Params} (hD : D.KF = HK P) {n : Nat} {hp : Hp} {Q : V → Hp → Prop}
include hD
theorem s_pick {aP aC : Addr} {cs : List Int} (h : Hand hp aP aC cs) {lim : Int} (l0 : 0 < lim) (l1 : lim < 1000000) (q : ∀ r us, 0 ≤ r → r < lim → Hand (hp.set aP (.list us)) aP aC cs → Q (.int r) (hp.set aP (.list us))) : Calls D 263 (n + 5) [.ref aP, .int lim] hp Q := by
  refine c_law_pick hD rfl ?_
  obtain ⟨i, x, y, g, i0, i1, x0, y0⟩ := h.at_
  simp [W_law_pick]
  rw [wIx_list g]
  refine ⟨by simp, _, rfl, ?_⟩
  have tail : ∀ (fg : Option V) (hp₁ : Hp) (i' x' : Int), hp₁ = hp.set aP (.list [.ref aC, .int i', .int x', .int y]) → 0 ≤ i' → i' ≤ cs.length → 0 ≤ x' →
      W.seq (W.asg (W.one 3) (W.bin wMod (W.bin wIx (W.v 0) (W.c (.int 2))) (W.v 1))) (W.seq (W.setI wSetItem (W.v 0) (W.c (.int 2)) (W.bin wDiv (W.bin wIx (W.v 0) (W.c (.int 2))) (W.v 1))) (W.seq (W.ret (W.v 3)) W.nil))
        [some (.ref aP), some (.int lim), fg, none] hp₁ (bodyPost Q) := by
    intro fg hp₁ i' x' e a1 a2 a3
    subst e
    simp [-W.seq_eq, W.seq_put, W.seq_set]
    rw [wIx_list (Hp.set_self _ _ _)]
    refine ⟨by simp, _, rfl, ?_⟩
    simp [-W.seq_eq, W.seq_put, W.seq_set]
    refine ⟨l0, ?_⟩
    rw [wIx_list (Hp.set_self _ _ _)]
    refine ⟨by simp, _, rfl, ?_⟩
    simp [-W.seq_eq, W.seq_put, W.seq_set]
    refine ⟨l0, by (and_intros <;> omega), ?_⟩
    rw [wSetItem_list (Hp.set_self _ _ _)]
    refine ⟨by simp, ?_⟩
    rw [Hp.set_set]
    exact q (x' % lim) _ (Int.emod_nonneg _ (by (and_intros <;> omega))) (Int.emod_lt_of_pos _ l0) (h.set (x := x' / lim) a1 a2 (Int.ediv_nonneg a3 (by (and_intros <;> omega))) y0)
  have same : hp.set aP (.list [.ref aC, .int i, .int x, .int y]) = hp := by
    funext b
    by_cases e : b = aP
    · subst e; rw [Hp.set_self, g]
    · rw [Hp.set_ne _ _ e]
  simp [-W.seq_eq, W.seq_put, W.seq_set]
  refine ⟨fun hx => ?_, fun hx => ?_⟩
  · rw [wIx_list g]
    refine ⟨by simp, _, rfl, ?_⟩
    rw [wIx_list g]
    refine ⟨by simp, _, rfl, ?_⟩
    rw [wLen_list h.cells]
    refine ⟨by have := h.short; simp; (and_intros <;> omega), ?_⟩
    simp [-W.seq_eq, W.seq_put, W.seq_set]
    refine ⟨fun hi => ?_, fun hi => ?_⟩
    · rw [wIx_list g]
      refine ⟨by simp, _, rfl, ?_⟩
      simp [-W.seq_eq, W.seq_put, W.seq_set]
      rw [wSetItem_list g]
      refine ⟨by simp, ?_⟩
      rw [wIx_list (Hp.set_self _ _ _)]
      refine ⟨by simp, _, rfl, ?_⟩
      simp [-W.seq_eq, W.seq_put, W.seq_set]
      refine ⟨l0, ?_⟩
      exact q _ _ (Int.emod_nonneg _ (by (and_intros <;> omega))) (Int.emod_lt_of_pos _ l0) (h.set (y := y * 48271 % 2147483647) i0 i1 x0 (Int.emod_nonneg _ (by decide)))
    · rw [wIx_list g]
      refine ⟨by simp, _, rfl, ?_⟩
      rw [wIx_list g]
      refine ⟨by simp, _, rfl, ?_⟩
      rw [wIx_list h.cells]
      refine ⟨by have := h.short; simp; (and_intros <;> omega), _, ints_ix i0 (by (and_intros <;> omega)), ?_⟩
      rw [wIx_list g]
      refine ⟨by simp, _, rfl, ?_⟩
      simp [-W.seq_eq, W.seq_put, W.seq_set]
      rw [wSetItem_list g]
      refine ⟨by simp, ?_⟩
      have fin : ∀ z : Int, 0 ≤ z → wSetItem (.ref aP) (.int 2) (.int z) (hp.set aP (.list ([V.ref aC, .int i, .int x, .int y].set (1 : Int).toNat (.int (i + 1))))) fun hp₄ =>
          W.seq (W.asg (W.one 3) (W.bin wMod (W.bin wIx (W.v 0) (W.c (.int 2))) (W.v 1))) (W.seq (W.setI wSetItem (W.v 0) (W.c (.int 2)) (W.bin wDiv (W.bin wIx (W.v 0) (W.c (.int 2))) (W.v 1))) (W.seq (W.ret (W.v 3)) W.nil))
            [some (.ref aP), some (.int lim), some (.int (cs.getD i.toNat 0)), none] hp₄ (bodyPost Q) := fun z hz => by
        rw [wSetItem_list (Hp.set_self _ _ _)]
        refine ⟨by simp, tail _ _ (i + 1) z ?_ (by (and_intros <;> omega)) (by (and_intros <;> omega)) hz⟩
        rw [Hp.set_set]; rfl
      simp only [W.seq_eq, W.asg_eq, W.bin_eq, W.vs, W.v0, W.c_eq] at fin
      refine ⟨fun hc => ?_, fun hc => ?_⟩
      · simpa using fin (cs.getD i.toNat 0) (by simpa [-W.seq_eq, W.seq_put, W.seq_set] using hc)
      · have hneg : cs.getD i.toNat 0 < 0 := by simpa [-W.seq_eq, W.seq_put, W.seq_set] using hc
        simpa using fin (-cs.getD i.toNat 0) (by (and_intros <;> omega))
  · have := tail none hp i x same.symm i0 i1 x0
    simpa using this

theorem s_law_block {w : Int} (q : Q (.int (bsz w)) hp) : Calls D 275 (n + 5) [.int w] hp Q := by
  refine c_law_block hD rfl ?_
  simp [W_law_block]
  have e : -(-(w + 8) / 16) * 16 = bsz w := by unfold bsz; (and_intros <;> omega)
  have e' : -((-(w + 8)) / 16 * 16) = bsz w := by unfold bsz; (and_intros <;> omega)
  first | (rw [e]; exact q) | (rw [e']; exact q) | skip
end

/-! a row told, a row laid -/
section
variable {D : Wd} {P : Params} (hD : D.KF = HK P) {n : Nat} {hp : Hp} {Q : V → Hp → Prop} {L : Lay} (k : L.Ok hp) {d : List (Int × V)} (ok : DOk d) {fr : List Int}
include hD k ok
theorem s_listed (hf : fr.length = 4) {i : Int} (i0 : 0 ≤ i) (i1 : i < 4) {row : List Int} (hc : Chain (mw d) (fr.getD i.toNat 0) row) (hl : row.length < 40) (hr : ∀ x ∈ row, 0 < x ∧ x < 8000)
    (q : ∀ c, L.put d fr hp c = none → Q (.ref c) (L.put d fr (hp.set c (.list (row.map .int))))) : Calls D 289 (n + 7) [.ref L.aH, .int i] (L.put d fr hp) Q := by
  refine c_law_listed hD (n := n + 2) rfl ?_
  simp [-W.seq_eq, W.seq_put, W.seq_set, W_law_listed]
  intro c hc0
  have hc' := Lay.put_none hc0
  rw [Lay.put_set hc'.1 hc'.2.1]
  have kk : ∀ x, L.Ok (hp.set c (.list x)) := fun x => k.setNew hc'.2.2
  have atc : ∀ x, L.put d fr (hp.set c (.list x)) c = some (.list x) := fun x => by rw [Lay.put_ne hc'.1 hc'.2.1, Hp.set_self]
  refine ⟨_, (kk _).f_free, ?_⟩
  rw [wIx_list (kk _).atF]
  refine ⟨⟨by simp [hf], by simp [hf]; (and_intros <;> omega)⟩, _, ints_ix i0 (by rw [hf]; exact i1), ?_⟩
  refine ⟨row.length + 1, ?_⟩
  have loop : ∀ (rest : List Int) (b : Int) (fa : List Int), Chain (mw d) b rest → (∀ x ∈ rest, 0 < x ∧ x < 8000) → fa.length + rest.length < 40 → fa ++ rest = row →
      W.whileN (W.and [(W.t (W.bin wNe (W.v 3) (W.c (.int 0)))), (W.t (W.bin wLt (W.app wLen [(W.v 2)]) (W.c (.int 40))))]) (W_law_listed_b0 D (n + 2)) (rest.length + 1) [some (.ref L.aH), some (.int i), some (.ref c), some (.int b)] (L.put d fr (hp.set c (.list (fa.map .int)))) (sq (W.seq (W.ret (W.v 2)) W.nil) (bodyPost Q)) := by
    intro rest
    induction rest with
    | nil =>
      intro b fa hb hx hl he
      rw [W.whileN_succ]
      have hb0 : b = 0 := hb
      subst hb0
      simp [-W.seq_eq, W.seq_put, W.seq_set]
      rw [List.append_nil] at he
      rw [he]
      exact q c hc0
    | cons x rest ih =>
      intro b fa hb hx hl he
      obtain ⟨rfl, hb1, hb2⟩ := hb
      have h0 := hx b (.head _)
      simp only [List.length_cons] at hl
      rw [W.whileN_succ]
      simp [-W.seq_eq, W.seq_put, W.seq_set, hb1]
      rw [wLen_list (atc _)]
      simp [-W.seq_eq, W.seq_put, W.seq_set]
      refine ⟨by (and_intros <;> omega), fun _ => ?_, fun h => (by (and_intros <;> omega))⟩
      rw [isL_list (atc _), wAppend_list (atc _)]
      refine ⟨trivial, by simp; (and_intros <;> omega), ?_⟩
      rw [Lay.put_set hc'.1 hc'.2.1, Hp.set_set]
      simp [-W.seq_eq, W.seq_put, W.seq_set]
      have e : fa.map V.int ++ [.int b] = (fa ++ [b]).map .int := by simp
      rw [e]
      refine ⟨_, (kk _).f_memory, (kk _).mem.o_word ▸ trivial, ?_⟩
      refine s_word hD (n := n) (a := b + 4) (kk _).mem (kk _).atW ok (by (and_intros <;> omega)) (by (and_intros <;> omega)) ?_
      exact ih _ (fa ++ [b]) hb2 (fun y hy => hx y (.tail _ hy)) (by simp; (and_intros <;> omega)) (by simpa [-W.seq_eq, W.seq_put, W.seq_set] using he)
  exact loop row _ [] hc hr (by simpa [-W.seq_eq, W.seq_put, W.seq_set] using hl) rfl
end

noncomputable def hd0 : List Int → Int
  | [] => 0
  | x :: _ => x
@[simp] theorem hd0_nil : hd0 [] = 0 := rfl
@[simp] theorem hd0_cons (x : Int) (r : List Int) : hd0 (x :: r) = x := rfl
noncomputable def linkP : List (Int × V) → List Int → List (Int × V)
  | d, [] => d
  | d, x :: r => linkP (wr d (x + 4) (hd0 r)) r
theorem linkP_ok : ∀ {spots : List Int} {d : List (Int × V)}, DOk d → (∀ x ∈ spots, 0 < x ∧ x < 8000) → DOk (linkP d spots)
  | [], d, ok, _ => ok
  | x :: r, d, ok, h => by
    have hx := h x (.head _)
    show DOk (linkP (wr d (x + 4) (hd0 r)) r)
    exact linkP_ok (ok.wr (by (and_intros <;> omega)) (by (and_intros <;> omega))) fun y hy => h y (.tail _ hy)
theorem linkP_far : ∀ {spots : List Int} {d : List (Int × V)} {j : Int}, (∀ x ∈ spots, j ≠ (x + 4) / 4) → mw (linkP d spots) j = mw d j
  | [], d, j, _ => rfl
  | x :: r, d, j, h => by
    refine (linkP_far fun y hy => h y (.tail _ hy)).trans ?_
    rw [mw_wr, if_neg (h x (.head _))]
theorem linkP_chain : ∀ {spots : List Int} {d : List (Int × V)}, spots.Nodup → (∀ x ∈ spots, 0 < x ∧ x < 8000 ∧ x % 16 = 0) → Chain (mw (linkP d spots)) (hd0 spots) spots
  | [], d, _, _ => rfl
  | x :: r, d, nd, h => by
    obtain ⟨n1, n2⟩ := List.nodup_cons.mp nd
    have hx := h x (.head _)
    refine ⟨rfl, by (and_intros <;> omega), ?_⟩
    show Chain (mw (linkP (wr d (x + 4) (hd0 r)) r)) (mw (linkP (wr d (x + 4) (hd0 r)) r) ((x + 4) / 4)) r
    rw [linkP_far fun y hy => by
      have := h y (.tail _ hy)
      have : x ≠ y := fun e => n1 (e ▸ hy)
      (and_intros <;> omega)]
    rw [mw_wr, if_pos rfl]
    have : hd0 r % 4294967296 = hd0 r := by
      cases r with
      | nil => rfl
      | cons y r => have := h y (.tail _ (.head _)); show y % _ = y; (and_intros <;> omega)
    rw [this]
    exact linkP_chain n2 fun y hy => h y (.tail _ hy)
theorem range_up (N : Nat) : rangeL 0 (N : Int) 1 = (List.range' 0 N).map fun (i : Nat) => V.int (i : Int) := by
  have hN : rangeN 0 (N : Int) 1 = N := by
    unfold rangeN Builtin.Range.rangeSize
    simp [-W.seq_eq, W.seq_put, W.seq_set]
    split <;> omega
  unfold rangeL
  rw [hN, List.range_eq_range']
  simp [-W.seq_eq, W.seq_put, W.seq_set]
theorem dat_ints (us : List Int) : (us.map V.int).all V.dat = true := by
  induction us with
  | nil => rfl
  | cons x us ih => rw [List.map_cons, List.all_cons, ih]; rfl

section
variable {D : Wd} {P : Params} (hD : D.KF = HK P) {n : Nat} {hp : Hp} {Q : V → Hp → Prop} {L : Lay} (k : L.Ok hp) {d : List (Int × V)} (ok : DOk d) {fr : List Int}
include hD k ok
theorem s_linked (hf : fr.length = 4) {i : Int} (i0 : 0 ≤ i) (i1 : i < 4) {cS : Addr} {spots : List Int} (hS : hp cS = some (.list (spots.map .int))) (n1 : cS ≠ L.aW) (n2 : cS ≠ L.aF) (hl : spots.length < 1000) (hr : ∀ x ∈ spots, 0 < x ∧ x < 8000)
    (q : Q .none (L.put (linkP d spots) (fr.set i.toNat (hd0 spots)) hp)) : Calls D 296 (n + 7) [.ref L.aH, .int i, .ref cS] (L.put d fr hp) Q := by
  refine Calls.forget (Q := fun u hp' => u = .none ∧ (L.put (linkP d spots) (fr.set i.toNat (hd0 spots)) hp).le hp') ?main (fun u hp' h => ⟨_, h.2, by rw [h.1]; exact q⟩)
  case main =>
  refine c_law_linked hD (n := n + 2) rfl ?_
  simp [-W.seq_eq, W.seq_put, W.seq_set, W_law_linked]
  intro c hc
  have hc' := Lay.put_none hc
  have nS : cS ≠ c := Hp.ne_of hc'.2.2 hS
  rw [Lay.put_set hc'.1 hc'.2.1]
  have kk : L.Ok (hp.set c (.list [])) := k.setNew hc'.2.2
  have atS : ∀ d fr, L.put d fr (hp.set c (.list [])) cS = some (.list (spots.map .int)) := fun d fr => by rw [Lay.put_ne n1 n2, Hp.set_ne _ _ nS]; exact hS
  have atc : ∀ d fr, L.put d fr (hp.set c (.list [])) c = some (.list []) := fun d fr => by rw [Lay.put_ne hc'.1 hc'.2.1, Hp.set_self]
  rw [wNe_list (atS _ _) (atc _ _)]
  refine ⟨dat_ints _, rfl, ?_⟩
  rw [eqL_nil]
  have ixb : (((spots.map V.int).length ≤ 100000 ∧ -((spots.map V.int).length : Int) ≤ 0)) := by simp; (and_intros <;> omega)
  have loop : ∀ (m j : Nat) (d₁ : List (Int × V)) (x : Option V), j + m = spots.length → DOk d₁ → linkP d₁ (spots.drop j) = linkP d spots →
      W.forGo (W.one 3) (W_law_linked_b0 D (n + 2)) (fun _ => True) ((List.range' j m).map fun (i : Nat) => V.int (i : Int)) [some (.ref L.aH), some (.int i), some (.ref cS), x] (L.put d₁ (fr.set i.toNat (hd0 spots)) (hp.set c (.list []))) (sq W.nil (bodyPost fun u hp' => u = .none ∧ (L.put (linkP d spots) (fr.set i.toNat (hd0 spots)) hp).le hp')) := by
    intro m
    induction m with
    | zero =>
      intro j d₁ x hj ok₁ hd
      rw [List.drop_eq_nil_of_le (by (and_intros <;> omega))] at hd
      have hd' : d₁ = linkP d spots := hd
      simp [-W.seq_eq, W.seq_put, W.seq_set]
      rw [hd', ← Lay.put_set hc'.1 hc'.2.1]
      refine (Hp.le.refl _).new ?_
      rw [Lay.put_ne hc'.1 hc'.2.1]; exact hc'.2.2
    | succ m ih =>
      intro j d₁ x hj ok₁ hd
      have hlt : j < spots.length := by (and_intros <;> omega)
      rw [List.drop_eq_getElem_cons hlt] at hd
      have hx := hr spots[j] (List.getElem_mem hlt)
      have hg : (spots.map V.int)[ixN (spots.map V.int).length (j : Int)]? = some (.int spots[j]) := by
        unfold ixN; rw [if_neg (by (and_intros <;> omega))]; simp [hlt]
      rw [List.range'_succ, List.map_cons, W.forGo_cons]
      simp [-W.seq_eq, W.seq_put, W.seq_set, kk.f_memory, kk.mem.o_put_word]
      rw [wIx_list (atS _ _)]
      refine ⟨⟨by simp <;> omega, by simp <;> omega⟩, _, hg, ?_⟩
      simp [-W.seq_eq, W.seq_put, W.seq_set]
      rw [wLen_list (atS _ _)]
      simp [-W.seq_eq, W.seq_put, W.seq_set]
      have hnext : spots.drop (j + 1) = [] ∨ ∃ h : j + 1 < spots.length, spots.drop (j + 1) = spots[j + 1] :: spots.drop (j + 1 + 1) := by
        by_cases h : j + 1 < spots.length
        · exact .inr ⟨h, List.drop_eq_getElem_cons h⟩
        · exact .inl (List.drop_eq_nil_of_le (by (and_intros <;> omega)))
      refine ⟨by (and_intros <;> omega), fun h => ?_, fun h => ?_⟩
      · have h' : j + 1 < spots.length := by (and_intros <;> omega)
        have hg2 : (spots.map V.int)[ixN (spots.map V.int).length ((j : Int) + 1)]? = some (.int spots[j + 1]) := by
          unfold ixN; rw [if_neg (by (and_intros <;> omega))]
          have : ((j : Int) + 1).toNat = j + 1 := by (and_intros <;> omega)
          rw [this]; simp [h']
        rw [wIx_list (atS _ _)]
        refine ⟨⟨by simp <;> omega, by simp <;> omega⟩, _, hg2, ?_⟩
        refine s_put_word hD (n := n) (a := spots[j] + 4) kk.mem kk.atW ok₁ (by (and_intros <;> omega)) (by (and_intros <;> omega)) ?_
        rw [kk.setW]
        simp [-W.seq_eq, W.seq_put, W.seq_set]
        refine ih (j + 1) _ _ (by (and_intros <;> omega)) (ok₁.wr (by (and_intros <;> omega)) (by (and_intros <;> omega))) ?_
        rw [← hd]
        show _ = linkP (wr d₁ (spots[j] + 4) (hd0 (spots.drop (j + 1)))) (spots.drop (j + 1))
        rw [List.drop_eq_getElem_cons h']; rfl
      · refine s_put_word hD (n := n) (a := spots[j] + 4) kk.mem kk.atW ok₁ (by (and_intros <;> omega)) (by (and_intros <;> omega)) ?_
        rw [kk.setW]
        simp [-W.seq_eq, W.seq_put, W.seq_set]
        refine ih (j + 1) _ _ (by (and_intros <;> omega)) (ok₁.wr (by (and_intros <;> omega)) (by (and_intros <;> omega))) ?_
        rw [← hd]
        show _ = linkP (wr d₁ (spots[j] + 4) (hd0 (spots.drop (j + 1)))) (spots.drop (j + 1))
        rw [List.drop_eq_nil_of_le (by (and_intros <;> omega))]; rfl
  have behind : wSetItem (.ref L.aF) (.int i) (.int (hd0 spots)) (L.put d fr (hp.set c (.list []))) fun hp₄ =>
      W.seq (W.for (W.range [(W.app wLen [(W.v 2)])]) (W.one 3) (W_law_linked_b0 D (n + 2))) W.nil
        [some (.ref L.aH), some (.int i), some (.ref cS), none] hp₄ (bodyPost fun u hp' => u = .none ∧ (L.put (linkP d spots) (fr.set i.toNat (hd0 spots)) hp).le hp') := by
    rw [wSetItem_list kk.atF]
    refine ⟨⟨i0, by simp [hf]; exact i1, by simp [hf]⟩, ?_⟩
    have e : (fr.map V.int).set i.toNat (.int (hd0 spots)) = (fr.set i.toNat (hd0 spots)).map .int := by rw [List.map_set]
    rw [e, kk.setF]
    simp only [W.seq_eq, W.for_eq, W.range_eq, W.args_cons, W.args_nil, W.app_eq, W.vs, W.v0]
    rw [wLen_list (atS _ _)]
    refine ⟨by simp; (and_intros <;> omega), ?_⟩
    rw [wRange1]
    refine ⟨by unfold rangeOk; simp; (and_intros <;> omega), ?_⟩
    rw [List.length_map, range_up]
    exact loop spots.length 0 d none (by (and_intros <;> omega)) ok rfl
  simp only [W.seq_eq] at behind
  cases spots with
  | nil =>
    simp [-W.seq_eq, W.seq_put, W.seq_set, kk.f_free]
    simpa using behind
  | cons x r =>
    simp [-W.seq_eq, W.seq_put, W.seq_set]
    rw [wIx_list (atS _ _)]
    refine ⟨by simp at ixb ⊢; (and_intros <;> omega), _, rfl, ?_⟩
    simp [-W.seq_eq, W.seq_put, W.seq_set, kk.f_free]
    simpa using behind
end
end Mine

namespace Mine
open PySem PySem.W PyProof.Rows

/-! the walk over told blocks -/
noncomputable def walkF : Int → Bool → List Blk → List (Int × Str)
  | _, _, [] => []
  | a, bf, b :: r => (match b.t with
    | none => if bf = true then [(a, ("not_joined" : Str))] else []
    | some ck => if ck.2 ≠ 0 then [(a, ("marked" : Str))] else []) ++ walkF (a + b.s) b.t.isNone r
noncomputable def lastF : Bool → List Blk → Bool
  | bf, [] => bf
  | _, b :: r => lastF b.t.isNone r
theorem chk_ok {lim b s : Int} (h : 16 ≤ s) (h' : s % 16 = 0) (h2 : b + s ≤ lim) : chkP lim b s = s := by unfold chkP; rw [if_neg (by (and_intros <;> omega))]
theorem told_Bl {m : Int → Int} {b : Blk} {r : List Blk} {a e lim : Int} (h : Bl m a (b :: r) e) (hl : e ≤ lim) : toldP m lim a = b.s := by
  have hle := h.2.2.le
  obtain ⟨hs, ht, -⟩ := h
  obtain ⟨s, t⟩ := b
  simp only at hs ht hle ⊢
  unfold toldP
  cases t with
  | none =>
    simp only at ht
    rw [if_pos (by (and_intros <;> omega)), ht, show s + 1 - 1 = s by (and_intros <;> omega)]
    exact chk_ok hs.1 hs.2 (by (and_intros <;> omega))
  | some ck =>
    simp only at ht
    obtain ⟨t1, -, k1, k2, k3, k4⟩ := ht
    rw [if_neg (by (and_intros <;> omega)), if_neg (by (and_intros <;> omega)), t1, ← k4]
    exact chk_ok hs.1 hs.2 (by (and_intros <;> omega))
theorem walkP_succ (m : Int → Int) (lim : Int) (k : Nat) (a : Int) (bf : Bool) : walkP m lim (k + 1) a bf = if a < lim then
      if toldP m lim a = 0 then ([(a, ("bad_block" : Str))], [])
      else if m (a / 4) % 2 = 1 then
        ((if bf = true then [(a, ("not_joined" : Str))] else []) ++ (walkP m lim k (a + toldP m lim a) true).1, (a, toldP m lim a) :: (walkP m lim k (a + toldP m lim a) true).2)
      else ((if m ((a + 4) / 4) ≠ 0 then [(a, ("marked" : Str))] else []) ++ (walkP m lim k (a + toldP m lim a) false).1, (walkP m lim k (a + toldP m lim a) false).2)
    else ([], []) := rfl
theorem walk_pre {m : Int → Int} {lim : Int} : ∀ {bs : List Blk} (k : Nat) {a e : Int} (bf : Bool), Bl m a bs e → e ≤ lim →
    walkP m lim (bs.length + k) a bf = (walkF a bf bs ++ (walkP m lim k e (lastF bf bs)).1, frees a bs ++ (walkP m lim k e (lastF bf bs)).2)
  | [], k, a, e, bf, h, hl => by
    have : a = e := h
    subst this
    simp [-W.seq_eq, W.seq_put, walkF, frees, lastF]
  | b :: r, k, a, e, bf, h, hl => by
    have ht := told_Bl h hl
    have hle := h.le
    simp only [List.length_cons] at hle
    have h16 := h.1
    have hr := walk_pre k (bf := b.t.isNone) h.2.2 hl
    have hb := h.2.1
    rw [List.length_cons, show r.length + 1 + k = r.length + k + 1 by (and_intros <;> omega)]
    rw [walkP_succ, if_pos (by (and_intros <;> omega)), ht, if_neg (by (and_intros <;> omega))]
    obtain ⟨s, t⟩ := b
    simp only at hr hb h16
    cases t with
    | none =>
      simp only at hb
      rw [if_pos (by (and_intros <;> omega))]
      simp only [Option.isNone_none] at hr
      rw [hr]
      simp [-W.seq_eq, W.seq_put, walkF, frees, lastF]
    | some ck =>
      simp only at hb
      obtain ⟨t1, t2, k1, k2, k3, k4⟩ := hb
      rw [if_neg (by (and_intros <;> omega)), t2]
      simp only [Option.isNone_some] at hr
      rw [hr]
      simp [-W.seq_eq, W.seq_put, walkF, frees, lastF]
theorem walk_end (m : Int → Int) (lim : Int) (k : Nat) (bf : Bool) : walkP m lim k lim bf = ([], []) := by
  cases k with
  | zero => rfl
  | succ k => rw [walkP_succ, if_neg (by (and_intros <;> omega))]
theorem walk_all {m : Int → Int} {lim : Int} {bs : List Blk} (h : Bl m 1024 bs lim) (hl : lim ≤ 2000) : walkP m lim 500 1024 false = (walkF 1024 false bs, frees 1024 bs) := by
  have hle := h.le
  have := walk_pre (lim := lim) (500 - bs.length) false h (Int.le_refl _)
  rw [show bs.length + (500 - bs.length) = 500 by (and_intros <;> omega), walk_end] at this
  simpa [-W.seq_eq, W.seq_put] using this
theorem walk_bad {m : Int → Int} {lim x : Int} {pre : List Blk} (h : Bl m 1024 pre x) (hx : x < lim) (hl : lim ≤ 2000) (h0 : toldP m lim x = 0) : (walkP m lim 500 1024 false).1 = walkF 1024 false pre ++ [(x, ("bad_block" : Str))] := by
  have hle := h.le
  have := walk_pre (lim := lim) (500 - pre.length) false h (by (and_intros <;> omega))
  rw [show pre.length + (500 - pre.length) = 500 by (and_intros <;> omega)] at this
  rw [this]
  obtain ⟨j, hj⟩ : ∃ j, 500 - pre.length = j + 1 := ⟨499 - pre.length, by (and_intros <;> omega)⟩
  rw [hj, walkP_succ, if_pos hx, if_pos h0]
theorem walkF_nil : ∀ {bs : List Blk} {a : Int} {bf : Bool}, NA bf bs → (∀ b ∈ bs, ∀ ck, b.t = some ck → ck.2 = 0) → walkF a bf bs = []
  | [], a, bf, _, _ => rfl
  | b :: r, a, bf, h, hm => by
    have i := walkF_nil (a := a + b.s) h.2 fun b hb => hm b (.tail _ hb)
    have h1 := h.1
    have h2 := hm b (.head _)
    obtain ⟨s, t⟩ := b
    unfold walkF
    simp only at i h1 h2 ⊢
    rw [i]
    cases t with
    | none =>
      cases bf with
      | true => exact absurd rfl (h1 rfl)
      | false => rfl
    | some ck => simp [h2 ck rfl]
theorem bad_faults {m : Int → Int} {lim x : Int} {fr : List Int} {pre : List Blk} (h : Bl m 1024 pre x) (hx : x < lim) (hl : lim ≤ 2000) (h0 : toldP m lim x = 0) (na : NA false pre) (hm : ∀ b ∈ pre, ∀ ck, b.t = some ck → ck.2 = 0) :
    faultsP m lim fr = [(x, ("bad_block" : Str))] := by
  have w := walk_bad h hx hl h0
  rw [walkF_nil na hm] at w
  unfold faultsP
  rw [w]
  rfl
theorem bad_eq (x : Str) (h : (x == "bad_block") = true) : x = "bad_block" := by simpa [-W.seq_eq, W.seq_put] using h
theorem isBad_no {w : List (Int × Str)} (h : ∀ p ∈ w, p.2 ≠ "bad_block") : isBad w = false := by
  unfold isBad
  split
  · rename_i p e
    have := h p (List.mem_of_getLast? e)
    simpa [-W.seq_eq, W.seq_put] using this
  · rfl
theorem walkF_names : ∀ (bs : List Blk) (a : Int) (bf : Bool), ∀ p ∈ walkF a bf bs, p.2 = "not_joined" ∨ p.2 = "marked"
  | [], a, bf, p, h => by cases h
  | b :: r, a, bf, p, h => by
    unfold walkF at h
    rcases List.mem_append.mp h with h | h
    · split at h
      · split at h
        · rw [List.mem_singleton.mp h]; exact .inl rfl
        · cases h
      · split at h
        · rw [List.mem_singleton.mp h]; exact .inr rfl
        · cases h
    · exact walkF_names _ _ _ p h
theorem tiled_faults {m : Int → Int} {lim : Int} {fr : List Int} {bs : List Blk} (h : Bl m 1024 bs lim) (hl : lim ≤ 2000) : faultsP m lim fr = walkF 1024 false bs ++ listP m (frees 1024 bs) fr := by
  unfold faultsP
  rw [walk_all h hl]
  rw [if_neg]
  rw [isBad_no fun p hp => by
    rcases walkF_names _ _ _ p hp with e | e <;> rw [e] <;> decide]
  simp [-W.seq_eq, W.seq_put]

/-! the lists -/
theorem fget_of {F : List (Int × Int)} (hF : F.Pairwise fun p q => p.1 + 16 ≤ q.1) {x s : Int} (h : (x, s) ∈ F) : fget F x = some s := by
  cases e : fget F x with
  | none =>
    unfold fget at e
    rw [Option.map_eq_none_iff, List.find?_eq_none] at e
    have := e (x, s) h
    simp at this
  | some s' =>
    have := fget_mem e
    have := pw_eq (f := fun p : Int × Int => p.1) hF h this rfl
    rw [(Prod.mk.inj this).2]
theorem fget_no {F : List (Int × Int)} {x : Int} (h : ∀ p ∈ F, p.1 ≠ x) : fget F x = none := by
  unfold fget
  rw [Option.map_eq_none_iff, List.find?_eq_none]
  intro p hp
  simpa [-W.seq_eq, W.seq_put] using h p hp
noncomputable def Seg (m : Int → Int) : Int → List Int → Int → Prop
  | b, [], e => b = e
  | b, x :: r, e => b = x ∧ x ≠ 0 ∧ Seg m (m ((x + 4) / 4)) r e
theorem Chain.seg {m : Int → Int} : ∀ {row post : List Int} {b : Int}, Chain m b (row ++ post) → ∃ e, Seg m b row e ∧ Chain m e post
  | [], post, b, h => ⟨b, rfl, h⟩
  | x :: r, post, b, h => by
    obtain ⟨h1, h2, h3⟩ := h
    obtain ⟨e, i, j⟩ := Chain.seg (row := r) h3
    exact ⟨e, ⟨h1, h2, i⟩, j⟩
theorem Seg.congr {m m' : Int → Int} : ∀ {row : List Int} {b e : Int}, Seg m b row e → (∀ x ∈ row, m' ((x + 4) / 4) = m ((x + 4) / 4)) → Seg m' b row e
  | [], _, _, h, _ => h
  | x :: r, b, e, h, k => ⟨h.1, h.2.1, by rw [k x (.head _)]; exact h.2.2.congr fun y hy => k y (.tail _ hy)⟩
section
variable {m : Int → Int} {F : List (Int × Int)} {i : Int}
theorem rowP_seg : ∀ {row : List Int} (k : Nat) {b e : Int} {seen : List Int}, Seg m b row e → (∀ x ∈ row, ∃ s, fget F x = some s ∧ cls s = i) → row.Nodup → (∀ x ∈ row, x ∉ seen) → rowP m F i (row.length + k) b seen = rowP m F i k e (seen ++ row)
  | [], k, b, e, seen, h, _, _, _ => by
    have : b = e := h
    subst this; simp
  | x :: r, k, b, e, seen, h, hF, nd, hs => by
    obtain ⟨rfl, h2, h3⟩ := h
    obtain ⟨s, f1, f2⟩ := hF b (.head _)
    obtain ⟨n1, n2⟩ := List.nodup_cons.mp nd
    have ih := rowP_seg (row := r) k (seen := seen ++ [b]) h3 (fun y hy => hF y (.tail _ hy)) n2 fun y hy => by
      rw [List.mem_append, List.mem_singleton]
      rintro (h | rfl)
      · exact hs y (.tail _ hy) h
      · exact n1 hy
    rw [List.length_cons, show r.length + 1 + k = r.length + k + 1 by (and_intros <;> omega)]
    show (if b = 0 then _ else match fget F b with | none => _ | some s => _) = _
    rw [if_neg h2, f1]
    simp only
    rw [if_neg (hs b (.head _)), if_neg (by simp [f2]), ih]
    simp [-W.seq_eq, W.seq_put]
theorem rowP_zero (k : Nat) (seen : List Int) : rowP m F i (k + 1) 0 seen = ([], seen) := by
  unfold rowP; rw [if_pos rfl]
theorem Chain.toSeg : ∀ {row : List Int} {b : Int}, Chain m b row → Seg m b row 0
  | [], _, h => h
  | _ :: _, _, h => ⟨h.1, h.2.1, h.2.2.toSeg⟩
theorem row_chain {row : List Int} {b : Int} {seen : List Int} (h : Chain m b row) (hF : ∀ x ∈ row, ∃ s, fget F x = some s ∧ cls s = i) (nd : row.Nodup) (hl : row.length < 64) (hs : ∀ x ∈ row, x ∉ seen) : rowP m F i 64 b seen = ([], seen ++ row) := by
  have := rowP_seg (64 - row.length) h.toSeg hF nd hs
  rw [show row.length + (64 - row.length) = 64 by (and_intros <;> omega)] at this
  rw [this, show 64 - row.length = 63 - row.length + 1 by (and_intros <;> omega), rowP_zero]
end
theorem rowsP_gen {m : Int → Int} {F : List (Int × Int)} {fr : List Int} (f : Int → List (Int × Str)) (R : Int → List Int) (h : ∀ i, 0 ≤ i → i < 4 → ∀ seen, (∀ x ∈ R i, x ∉ seen) → rowP m F i 64 (fr.getD i.toNat 0) seen = (f i, seen ++ R i))
    (hd : ∀ i j, i < j → ∀ x ∈ R i, x ∉ R j) : ∀ (is : List Int) (seen : List Int), (∀ i ∈ is, 0 ≤ i ∧ i < 4) → is.Pairwise (· < ·) → (∀ i ∈ is, ∀ x ∈ R i, x ∉ seen) → rowsP m F fr is seen = (is.flatMap f, seen ++ is.flatMap R)
  | [], seen, _, _, _ => by simp [rowsP]
  | i :: is, seen, hi, hp, hs => by
    obtain ⟨p1, p2⟩ := List.pairwise_cons.mp hp
    have hi0 := hi i (.head _)
    have e := h i hi0.1 hi0.2 seen (hs i (.head _))
    have ih := rowsP_gen f R h hd is (seen ++ R i) (fun j hj => hi j (.tail _ hj)) p2 fun j hj x hx => by
      rw [List.mem_append]
      rintro (q | q)
      · exact hs j (.tail _ hj) x hx q
      · exact hd i j (p1 j hj) x q hx
    unfold rowsP
    rw [e, ih]
    simp [-W.seq_eq, W.seq_put]
noncomputable def allR (R : Int → List Int) : List Int := [0, 1, 2, 3].flatMap R
theorem mem_allR {R : Int → List Int} {x : Int} : x ∈ allR R ↔ ∃ i, 0 ≤ i ∧ i < 4 ∧ x ∈ R i := by
  unfold allR
  rw [List.mem_flatMap]
  constructor
  · rintro ⟨i, hi, hx⟩
    refine ⟨i, ?_, ?_, hx⟩ <;> (simp at hi; (and_intros <;> omega))
  · rintro ⟨i, h0, h1, hx⟩
    exact ⟨i, by simp; (and_intros <;> omega), hx⟩
theorem listP_gen {m : Int → Int} {F : List (Int × Int)} {fr : List Int} (f : Int → List (Int × Str)) (R : Int → List Int) (h : ∀ i, 0 ≤ i → i < 4 → ∀ seen, (∀ x ∈ R i, x ∉ seen) → rowP m F i 64 (fr.getD i.toNat 0) seen = (f i, seen ++ R i))
    (hd : ∀ i j, i < j → ∀ x ∈ R i, x ∉ R j) : listP m F fr = [0, 1, 2, 3].flatMap f ++ ((F.map (·.1)).filter (fun b => decide (b ∉ allR R))).map fun b => (b, ("not_listed" : Str)) := by
  unfold listP
  rw [rowsP_gen f R h hd [0, 1, 2, 3] [] (by decide) (by decide) (by simp)]
  rfl
theorem rowOf_nodup {F : List (Int × Int)} (hF : F.Pairwise fun p q => p.1 + 16 ≤ q.1) (i : Int) : (rowOf i F).Pairwise (· < ·) := by
  unfold rowOf
  rw [List.pairwise_map]
  exact (hF.sublist List.filter_sublist).imp fun h => by (and_intros <;> omega)
theorem lt_nodup {l : List Int} (h : l.Pairwise (· < ·)) : l.Nodup := h.imp fun h => by (and_intros <;> omega)
theorem rowOf_len (F : List (Int × Int)) (i : Int) : (rowOf i F).length ≤ F.length := by
  unfold rowOf; rw [List.length_map]; exact List.length_filter_le _ _
theorem rowOf_apart {F : List (Int × Int)} (hF : F.Pairwise fun p q => p.1 + 16 ≤ q.1) {i j : Int} (hij : i ≠ j) {x : Int} (h : x ∈ rowOf i F) : x ∉ rowOf j F := fun h' => by
  obtain ⟨s, h1, h2⟩ := mem_rowOf.mp h
  obtain ⟨s', h3, h4⟩ := mem_rowOf.mp h'
  have := pw_eq (f := fun p : Int × Int => p.1) hF h1 h3 rfl
  rw [(Prod.mk.inj this).2] at h2
  exact hij (h2.symm.trans h4)
theorem rowOf_get {F : List (Int × Int)} (hF : F.Pairwise fun p q => p.1 + 16 ≤ q.1) {i : Int} : ∀ x ∈ rowOf i F, ∃ s, fget F x = some s ∧ cls s = i := fun x h => by
  obtain ⟨s, h1, h2⟩ := mem_rowOf.mp h
  exact ⟨s, fget_of hF h1, h2⟩
theorem key_row {F : List (Int × Int)} {x : Int} (h : x ∈ F.map (·.1)) : ∃ i, 0 ≤ i ∧ i < 4 ∧ x ∈ rowOf i F := by
  obtain ⟨⟨x', s⟩, h1, rfl⟩ := List.mem_map.mp h
  have := cls_range s
  exact ⟨cls s, this.1, this.2, mem_rowOf.mpr ⟨s, h1, rfl⟩⟩
theorem filter_one {l : List Int} (nd : l.Nodup) {x : Int} (hx : x ∈ l) {p : Int → Bool} (hp : ∀ y ∈ l, p y = decide (y = x)) : l.filter p = [x] := by
  induction l with
  | nil => cases hx
  | cons y l ih =>
    obtain ⟨n1, n2⟩ := List.nodup_cons.mp nd
    by_cases e : y = x
    · subst e
      rw [List.filter_cons_of_pos (by rw [hp y (.head _)]; simp)]
      have : l.filter p = [] := List.filter_eq_nil_iff.mpr fun z hz => by
        rw [hp z (.tail _ hz)]
        have : z ≠ y := fun e => n1 (e ▸ hz)
        simpa [-W.seq_eq, W.seq_put] using this
      rw [this]
    · rw [List.filter_cons_of_neg (by rw [hp y (.head _)]; simpa [-W.seq_eq, W.seq_put] using e)]
      rcases List.mem_cons.mp hx with h | h
      · exact absurd h.symm e
      · exact ih n2 h fun z hz => hp z (.tail _ hz)
end Mine

namespace Mine
open PySem PySem.W PyProof.Rows

theorem addrs_split : ∀ {bs : List Blk} {a e x : Int} {b : Blk}, Tiles a bs e → (x, b) ∈ addrs a bs → ∃ pre post, bs = pre ++ b :: post ∧ Tiles a pre x
  | [], a, e, x, b, h, hx => by cases hx
  | b' :: r, a, e, x, b, h, hx => by
    rcases List.mem_cons.mp hx with q | q
    · obtain ⟨rfl, rfl⟩ := Prod.mk.inj q
      exact ⟨[], r, rfl, rfl⟩
    · obtain ⟨pre, post, rfl, t⟩ := addrs_split h.2 q
      exact ⟨b' :: pre, post, rfl, h.1, t⟩
theorem Bl_app {m : Int → Int} : ∀ {pre r : List Blk} {a x e : Int}, Tiles a pre x → (Bl m a (pre ++ r) e ↔ Bl m a pre x ∧ Bl m x r e)
  | [], r, a, x, e, h => by
    have : a = x := h
    subst this
    exact ⟨fun h => ⟨rfl, h⟩, fun h => h.2⟩
  | b :: pre, r, a, x, e, h => by
    have ih := Bl_app (m := m) (r := r) (e := e) h.2
    exact ⟨fun q => ⟨⟨q.1, q.2.1, (ih.mp q.2.2).1⟩, (ih.mp q.2.2).2⟩, fun q => ⟨q.1.1, q.1.2.1, ih.mpr ⟨q.1.2.2, q.2⟩⟩⟩
theorem frees_app : ∀ {pre r : List Blk} {a x : Int}, Tiles a pre x → frees a (pre ++ r) = frees a pre ++ frees x r
  | [], r, a, x, h => by
    have : a = x := h
    subst this; rfl
  | b :: pre, r, a, x, h => by
    show frees a (b :: (pre ++ r)) = _
    rw [frees_cons, frees_app h.2, frees_cons, List.append_assoc]
theorem walkF_app : ∀ {pre r : List Blk} {a x : Int} {bf : Bool}, Tiles a pre x → walkF a bf (pre ++ r) = walkF a bf pre ++ walkF x (lastF bf pre) r
  | [], r, a, x, bf, h => by
    have : a = x := h
    subst this; rfl
  | b :: pre, r, a, x, bf, h => by
    show _ ++ walkF (a + b.s) b.t.isNone (pre ++ r) = (_ ++ walkF (a + b.s) b.t.isNone pre) ++ _
    rw [walkF_app h.2, List.append_assoc]; rfl
theorem NA_app : ∀ {pre r : List Blk} {bf : Bool}, NA bf (pre ++ r) ↔ NA bf pre ∧ NA (lastF bf pre) r
  | [], r, bf => ⟨fun h => ⟨trivial, h⟩, fun h => h.2⟩
  | b :: pre, r, bf => by
    have ih := NA_app (pre := pre) (r := r) (bf := b.t.isNone)
    exact ⟨fun q => ⟨⟨q.1, (ih.mp q.2).1⟩, (ih.mp q.2).2⟩, fun q => ⟨q.1.1, ih.mpr ⟨q.1.2, q.2⟩⟩⟩
theorem frees_len : ∀ (bs : List Blk) (a : Int), (frees a bs).length ≤ bs.length
  | [], a => by simp [frees]
  | b :: r, a => by
    rw [frees_cons, List.length_append, List.length_cons]
    have := frees_len r (a + b.s)
    split <;> simp <;> omega
theorem asc_eq {a b : List Int} (ha : a.Pairwise (· < ·)) (hb : b.Pairwise (· < ·)) (h : ∀ x, x ∈ a ↔ x ∈ b) : a = b :=
  perm_sorted_eq ((List.perm_ext_iff_of_nodup (lt_nodup ha) (lt_nodup hb)).mpr h) (ha.imp fun h => by (and_intros <;> omega)) (hb.imp fun h => by (and_intros <;> omega))

/-- rows that hold free blocks: the others are not listed -/
theorem rows_listP {m : Int → Int} {fr : List Int} {S F : List (Int × Int)} (r : Rows m fr S) (hF : F.Pairwise fun p q => p.1 + 16 ≤ q.1) (hS : ∀ p ∈ S, p ∈ F) (nd : S.Pairwise fun p q => p.1 ≠ q.1) (hl : S.length < 64) :
    listP m F fr = ((F.map (·.1)).filter (fun b => decide (b ∉ S.map (·.1)))).map fun b => (b, ("not_listed" : Str)) := by
  have ndr : ∀ i, (rowOf i S).Nodup := fun i => by
    unfold rowOf List.Nodup
    rw [List.pairwise_map]
    exact nd.sublist List.filter_sublist
  have sub : ∀ i, ∀ x ∈ rowOf i S, x ∈ rowOf i F := fun i x hx => by
    obtain ⟨s, h1, h2⟩ := mem_rowOf.mp hx
    exact mem_rowOf.mpr ⟨s, hS _ h1, h2⟩
  rw [listP_gen (fun _ => []) (fun i => rowOf i S) (fun i i0 i1 seen hs => row_chain (r.chain i i0 i1) (fun x hx => rowOf_get hF x (sub i x hx)) (ndr i) (Nat.lt_of_le_of_lt (rowOf_len S i) hl) hs)
    (fun i j hij x hx hx' => rowOf_apart hF (by (and_intros <;> omega)) (sub i x hx) (sub j x hx'))]
  have e : ∀ b, (b ∉ allR fun i => rowOf i S) ↔ b ∉ S.map (·.1) := fun b => by
    rw [mem_allR]
    constructor
    · intro h h'
      exact h (key_row h')
    · rintro h ⟨i, _, _, hx⟩
      obtain ⟨s, h1, _⟩ := mem_rowOf.mp hx
      exact h (List.mem_map.mpr ⟨_, h1, rfl⟩)
  simp only [e]
  simp [-W.seq_eq, W.seq_put]
section
variable {m : Int → Int} {fr : List Int} {lim : Int} {bs : List Blk} (g : Good m fr lim bs) (hl : lim ≤ 2000)
include g
theorem Good.pw : (frees 1024 bs).Pairwise fun p q => p.1 + 16 ≤ q.1 := frees_pw g.bl.tiles rfl
theorem Good.at_ : ∀ p ∈ frees 1024 bs, 1024 ≤ p.1 ∧ p.1 + p.2 ≤ lim ∧ p.1 % 16 = 0 ∧ 16 ≤ p.2 ∧ p.2 % 16 = 0 := frees_at g.bl.tiles rfl
theorem Good.toRows : Rows m fr (frees 1024 bs) := ⟨g.len, fun q hq => by
  obtain ⟨b, h1, h2, h3⟩ := frees_addrs.mp hq
  have := (Bl_iff.mp g.bl).2 _ h1
  unfold BlkOk at this
  simp only [h2] at this
  rw [← h3]; exact this, g.rows⟩
include hl
theorem Good.flen : (frees 1024 bs).length < 64 := by
  have := g.bl.le
  have := frees_len bs 1024
  (and_intros <;> omega)
theorem good_faults : faultsP m lim fr = [] := by
  rw [tiled_faults g.bl hl, walkF_nil g.na g.marks, rows_listP g.toRows g.pw (fun p h => h) (g.pw.imp fun h => by (and_intros <;> omega)) (g.flen hl)]
  have : ((frees 1024 bs).map (·.1)).filter (fun b => decide (b ∉ (frees 1024 bs).map (·.1))) = [] := List.filter_eq_nil_iff.mpr fun x hx => by simpa [-W.seq_eq, W.seq_put] using hx
  rw [this]; rfl
/-- used and free do not share -/
theorem used_free {x : Int} {b : Blk} (h : (x, b) ∈ addrs 1024 bs) (hb : b.t ≠ none) : ∀ p ∈ frees 1024 bs, p.1 ≠ x := fun p hp e => by
  obtain ⟨b', h1, h2, h3⟩ := frees_addrs.mp hp
  rw [e] at h1
  have := pw_eq (f := fun p : Int × Blk => p.1) (addrs_fun g.bl.tiles rfl) h h1 rfl
  rw [(Prod.mk.inj this).2] at hb
  exact hb h2
/-- links alone are written -/
theorem relinked {m' : Int → Int} (h : ∀ j, (∀ p ∈ frees 1024 bs, j ≠ (p.1 + 4) / 4) → m' j = m j) : Bl m' 1024 bs lim := by
  have := Bl_iff.mp g.bl
  refine Bl_iff.mpr ⟨this.1, fun p hp => (this.2 p hp).congr (fun j hj => h j fun q hq => by have := g.at_ q hq; (and_intros <;> omega)) (h _ fun q hq => ?_) fun ht => h _ fun q hq => ?_⟩
  · have a1 := addrs_at g.bl.tiles rfl p hp
    have a2 := g.at_ q hq
    (and_intros <;> omega)
  · have a1 := addrs_at g.bl.tiles rfl p hp
    have a2 := g.at_ q hq
    have := used_free g hl (x := p.1) (b := p.2) hp ht q hq
    (and_intros <;> omega)
theorem relinked_faults {m' : Int → Int} {fr' : List Int} (h : ∀ j, (∀ p ∈ frees 1024 bs, j ≠ (p.1 + 4) / 4) → m' j = m j) : faultsP m' lim fr' = listP m' (frees 1024 bs) fr' := by
  rw [tiled_faults (relinked g hl h) hl, walkF_nil g.na g.marks]; rfl
theorem form_bad {m' : Int → Int} {fr' : List Int} {x : Int} {b : Blk} (hx : (x, b) ∈ addrs 1024 bs) (h : ∀ j, j ≠ x / 4 → m' j = m j) (h0 : toldP m' lim x = 0) : faultsP m' lim fr' = [(x, ("bad_block" : Str))] := by
  obtain ⟨pre, post, e, t⟩ := addrs_split g.bl.tiles hx
  have a1 := addrs_at g.bl.tiles rfl _ hx
  simp only at a1
  have bl := g.bl
  have na := g.na
  have mk := g.marks
  rw [e] at bl na mk
  have b1 := ((Bl_app t).mp bl).1
  have b2 : Bl m' 1024 pre x := b1.congr rfl (fun j hj => h j (by (and_intros <;> omega))) fun j hj hj' => h j (by (and_intros <;> omega))
  exact bad_faults b2 (by (and_intros <;> omega)) hl h0 (NA_app.mp na).1 fun b hb => mk b (List.mem_append.mpr (.inl hb))
theorem form_mark {m' : Int → Int} {x : Int} {b : Blk} (hx : (x, b) ∈ addrs 1024 bs) (hb : b.t ≠ none) (h : ∀ j, j ≠ (x + 4) / 4 → m' j = m j) (h8 : m' ((x + 4) / 4) = 8) : faultsP m' lim fr = [(x, ("marked" : Str))] := by
  have uf := used_free g hl hx hb
  have rws := g.toRows
  have gat := g.at_
  have gpw := g.pw
  have gfl := g.flen hl
  obtain ⟨pre, post, e, t⟩ := addrs_split g.bl.tiles hx
  have a1 := addrs_at g.bl.tiles rfl _ hx
  simp only at a1
  obtain ⟨ck, hck⟩ := Option.ne_none_iff_exists'.mp hb
  have bl := g.bl
  have na := g.na
  have mk := g.marks
  rw [e] at bl na mk
  obtain ⟨b1, b2⟩ := (Bl_app t).mp bl
  have hp : Bl m' 1024 pre x := b1.congr rfl (fun j hj => h j (by (and_intros <;> omega))) fun j hj hj' => h j (by (and_intros <;> omega))
  have hr : Bl m' (x + b.s) post lim := b2.2.2.congr (by (and_intros <;> omega)) (fun j hj => h j (by (and_intros <;> omega))) fun j hj hj' => h j (by (and_intros <;> omega))
  have ht := b2.2.1
  rw [hck] at ht
  obtain ⟨t1, t2, k1, k2, k3, k4⟩ := ht
  have hb' : Bl m' 1024 (pre ++ ⟨b.s, some (ck.1, 8)⟩ :: post) lim := (Bl_app t).mpr ⟨hp, b2.1, ⟨by rw [h _ (by (and_intros <;> omega))]; exact t1, h8, k1, k2, k3, by rw [h _ (by show ck.1 / 4 ≠ _; (and_intros <;> omega))]; exact k4⟩, hr⟩
  have hfr : frees 1024 (pre ++ ⟨b.s, some (ck.1, 8)⟩ :: post) = frees 1024 bs := by
    rw [e, frees_app t, frees_app t, frees_cons, frees_cons, if_neg hb, if_neg (by simp)]
  have na2 := NA_app.mp na
  have hna : NA false post := by
    have := na2.2.2
    rw [hck] at this; exact this
  rw [tiled_faults hb' hl, walkF_app t, walkF_nil na2.1 fun b hb => mk b (List.mem_append.mpr (.inl hb)), hfr]
  have hw : walkF x (lastF false pre) (⟨b.s, some (ck.1, 8)⟩ :: post) = [(x, ("marked" : Str))] := by
    show [(x, ("marked" : Str))] ++ walkF (x + b.s) false post = _
    rw [walkF_nil hna fun b hb => mk b (List.mem_append.mpr (.inr (.tail _ hb)))]; rfl
  rw [hw]
  have hrw : Rows m' fr (frees 1024 bs) := ⟨rws.len, fun q hq => by
    have := gat q hq
    rw [h _ (by (and_intros <;> omega))]; exact rws.size q hq, fun i i0 i1 => (rws.chain i i0 i1).congr fun y hy => by
    obtain ⟨s, hs, _⟩ := mem_rowOf.mp hy
    have := gat _ hs
    have := uf _ hs
    simp only at this
    exact h _ (by (and_intros <;> omega))⟩
  rw [rows_listP hrw gpw (fun p h => h) (gpw.imp fun h => by (and_intros <;> omega)) gfl]
  have : ((frees 1024 bs).map (·.1)).filter (fun b => decide (b ∉ (frees 1024 bs).map (·.1))) = [] := List.filter_eq_nil_iff.mpr fun x hx => by simpa [-W.seq_eq, W.seq_put] using hx
  rw [this]; rfl
end
end Mine

namespace Mine
open PySem PySem.W PyProof.Rows

theorem rowOf_filter (i x : Int) (F : List (Int × Int)) : rowOf i (F.filter fun p => decide (p.1 ≠ x)) = (rowOf i F).filter fun y => decide (y ≠ x) := by
  induction F with
  | nil => rfl
  | cons p F ih =>
    rw [rowOf_cons]
    by_cases h : p.1 = x
    · rw [List.filter_cons_of_neg (by simpa [-W.seq_eq, W.seq_put] using h), ih]
      split
      · rw [List.filter_cons_of_neg (by simpa [-W.seq_eq, W.seq_put] using h)]
      · rfl
    · rw [List.filter_cons_of_pos (by simpa [-W.seq_eq, W.seq_put] using h), rowOf_cons, ih]
      split
      · rw [List.filter_cons_of_pos (by simpa [-W.seq_eq, W.seq_put] using h)]
      · rfl
theorem filter_none {l : List Int} {S : List Int} (h : ∀ x ∈ l, x ∈ S) : l.filter (fun b => decide (b ∉ S)) = [] := List.filter_eq_nil_iff.mpr fun x hx => by simpa [-W.seq_eq, W.seq_put] using h x hx
theorem flat_one {α : Type} (j : Int) (h0 : 0 ≤ j) (h1 : j < 4) (l : List α) : [0, 1, 2, 3].flatMap (fun i : Int => if i = j then l else []) = l :=
  four (P := fun j => [0, 1, 2, 3].flatMap (fun i : Int => if i = j then l else []) = l) (by simp) (by simp) (by simp) (by simp) j h0 h1

section
variable {d : List (Int × V)} {fr : List Int} {lim : Int} {bs : List Blk} (g : Good (mw d) fr lim bs) (hl : lim ≤ 2000) {x s : Int} (hx : (x, s) ∈ frees 1024 bs)
noncomputable def spotsOf (bs : List Blk) (x s : Int) : List Int := (rowOf (cls s) (frees 1024 bs)).filter fun y => decide (y ≠ x)
include g
theorem Good.flen61 (hl : lim ≤ 2000) : (frees 1024 bs).length ≤ 61 := by
  have := g.bl.le
  have := frees_len bs 1024
  (and_intros <;> omega)
theorem row_at {i y : Int} (h : y ∈ rowOf i (frees 1024 bs)) : 1024 ≤ y ∧ y + 16 ≤ lim ∧ y % 16 = 0 := by
  obtain ⟨t, h1, _⟩ := mem_rowOf.mp h
  have := g.at_ _ h1
  simp only at this; (and_intros <;> omega)
theorem spots_at {y : Int} (h : y ∈ spotsOf bs x s) : 1024 ≤ y ∧ y + 16 ≤ lim ∧ y % 16 = 0 ∧ y ≠ x ∧ y ∈ rowOf (cls s) (frees 1024 bs) := by
  obtain ⟨h1, h2⟩ := List.mem_filter.mp h
  have := row_at g h1
  exact ⟨this.1, this.2.1, this.2.2, by simpa [-W.seq_eq, W.seq_put] using h2, h1⟩
theorem spots_nodup : (spotsOf bs x s).Nodup := lt_nodup ((rowOf_nodup g.pw _).sublist List.filter_sublist)
theorem unlink_far : ∀ j, (∀ p ∈ frees 1024 bs, j ≠ (p.1 + 4) / 4) → mw (linkP d (spotsOf bs x s)) j = mw d j := fun j hj => linkP_far fun y hy => by
  obtain ⟨t, h1, _⟩ := mem_rowOf.mp (spots_at g hy).2.2.2.2
  exact hj _ h1
include hl hx
theorem in_row : x ∈ rowOf (cls s) (frees 1024 bs) := mem_rowOf.mpr ⟨s, hx, rfl⟩
theorem unlink_chain {i : Int} (i0 : 0 ≤ i) (i1 : i < 4) : Chain (mw (linkP d (spotsOf bs x s))) ((fr.set (cls s).toNat (hd0 (spotsOf bs x s))).getD i.toNat 0) ((rowOf i (frees 1024 bs)).filter fun y => decide (y ≠ x)) := by
  have hc := cls_range s
  rw [getD_set (by rw [g.len]; (and_intros <;> omega))]
  by_cases e : i = cls s
  · subst e
    rw [if_pos rfl]
    exact linkP_chain (spots_nodup g) fun y hy => by have := spots_at g hy; (and_intros <;> omega)
  · rw [if_neg (by (and_intros <;> omega))]
    have hn : x ∉ rowOf i (frees 1024 bs) := rowOf_apart g.pw (Ne.symm e) (in_row g hl hx)
    rw [List.filter_eq_self.mpr fun y hy => by
      have : y ≠ x := fun e => hn (e ▸ hy)
      simpa [-W.seq_eq, W.seq_put] using this]
    refine (g.rows i i0 i1).congr fun y hy => linkP_far fun z hz => ?_
    have h1 := spots_at g hz
    have h2 := row_at g hy
    have : y ≠ z := fun q => rowOf_apart g.pw e hy (q ▸ h1.2.2.2.2)
    (and_intros <;> omega)
theorem unlink_rows : Rows (mw (linkP d (spotsOf bs x s))) (fr.set (cls s).toNat (hd0 (spotsOf bs x s))) ((frees 1024 bs).filter fun p => decide (p.1 ≠ x)) := by
  refine ⟨by rw [List.length_set]; exact g.len, fun q hq => ?_, fun i i0 i1 => ?_⟩
  · obtain ⟨h1, _⟩ := List.mem_filter.mp hq
    have := g.at_ _ h1
    rw [linkP_far fun y hy => by have := spots_at g hy; (and_intros <;> omega)]
    exact g.toRows.size q h1
  · rw [rowOf_filter]; exact unlink_chain g hl hx i0 i1
theorem mem_unlinked {p : Int × Int} (hp : p ∈ frees 1024 bs) : p.1 ∈ ((frees 1024 bs).filter fun p => decide (p.1 ≠ x)).map (·.1) ↔ p.1 ≠ x := by
  constructor
  · intro h
    obtain ⟨q, h1, h2⟩ := List.mem_map.mp h
    have := (List.mem_filter.mp h1).2
    rw [← h2]; simpa [-W.seq_eq, W.seq_put] using this
  · intro h
    exact List.mem_map.mpr ⟨p, List.mem_filter.mpr ⟨hp, by simpa [-W.seq_eq, W.seq_put] using h⟩, rfl⟩
theorem form2 : faultsP (mw (linkP d (spotsOf bs x s))) lim (fr.set (cls s).toNat (hd0 (spotsOf bs x s))) = [(x, ("not_listed" : Str))] := by
  rw [relinked_faults g hl (unlink_far g), rows_listP (unlink_rows g hl hx) g.pw (fun p h => (List.mem_filter.mp h).1) ((g.pw.sublist List.filter_sublist).imp fun h => by (and_intros <;> omega)) (Nat.lt_of_le_of_lt (List.length_filter_le _ _) (g.flen hl))]
  have nd : ((frees 1024 bs).map (·.1)).Nodup := by
    unfold List.Nodup
    rw [List.pairwise_map]
    exact g.pw.imp fun h => by (and_intros <;> omega)
  rw [filter_one nd (x := x) (List.mem_map.mpr ⟨_, hx, rfl⟩) fun y hy => ?_]
  · rfl
  · obtain ⟨p, hp, rfl⟩ := List.mem_map.mp hy
    have := mem_unlinked g hl hx hp
    by_cases e : p.1 = x
    · rw [decide_eq_true e, decide_eq_true]
      exact fun h => this.mp h e
    · rw [decide_eq_false e, decide_eq_false]
      exact fun h => h (this.mpr e)

noncomputable def otherOf (s : Int) : Int := (cls s + 1) % 4
theorem form3_chain (j : Int) (hj : j = otherOf s) : Chain (mw (linkP d (spotsOf bs x s))) ((fr.set (cls s).toNat (hd0 (spotsOf bs x s))).getD j.toNat 0) (rowOf j (frees 1024 bs)) := by
  have hc := cls_range s
  unfold otherOf at hj
  have := unlink_chain g hl hx (i := j) (by (and_intros <;> omega)) (by (and_intros <;> omega))
  have hn : x ∉ rowOf j (frees 1024 bs) := rowOf_apart g.pw (by (and_intros <;> omega)) (in_row g hl hx)
  rwa [List.filter_eq_self.mpr fun y hy => by
    have : y ≠ x := fun e => hn (e ▸ hy)
    simpa [-W.seq_eq, W.seq_put] using this] at this
theorem form3 (j : Int) (hj : j = otherOf s) {R : List Int} (hR : R = rowOf j (frees 1024 bs) ++ [x]) :
    faultsP (mw (linkP (linkP d (spotsOf bs x s)) R)) lim ((fr.set (cls s).toNat (hd0 (spotsOf bs x s))).set j.toNat (hd0 R)) = [(x, ("wrong_list" : Str))] := by
  have hc := cls_range s
  unfold otherOf at hj
  have hj0 : 0 ≤ j ∧ j < 4 ∧ j ≠ cls s := by (and_intros <;> omega)
  have hxa := g.at_ _ hx
  simp only at hxa
  have hn : x ∉ rowOf j (frees 1024 bs) := rowOf_apart g.pw (by (and_intros <;> omega)) (in_row g hl hx)
  have inR : ∀ y, y ∈ R ↔ y ∈ rowOf j (frees 1024 bs) ∨ y = x := fun y => by rw [hR]; simp
  have Rat : ∀ y ∈ R, 1024 ≤ y ∧ y + 16 ≤ lim ∧ y % 16 = 0 := fun y hy => by
    rcases (inR y).mp hy with h | h
    · exact row_at g h
    · subst h; (and_intros <;> omega)
  have Rnd : R.Nodup := by
    rw [hR, List.nodup_append]
    exact ⟨lt_nodup (rowOf_nodup g.pw _), by simp, fun a ha b hb e => hn (by rw [← List.mem_singleton.mp hb, ← e]; exact ha)⟩
  have fl := g.flen hl
  have fl61 := g.flen61 hl
  have key : ∀ y ∈ R, ∃ p ∈ frees 1024 bs, p.1 = y := fun y hy => by
    rcases (inR y).mp hy with h | h
    · obtain ⟨t, h1, _⟩ := mem_rowOf.mp h
      exact ⟨_, h1, rfl⟩
    · exact ⟨_, hx, h.symm⟩
  rw [relinked_faults g hl fun k hk => by
    rw [linkP_far fun y hy => by
      obtain ⟨p, h1, rfl⟩ := key y hy
      exact hk _ h1]
    exact unlink_far g k hk]
  have ch : Chain (mw (linkP (linkP d (spotsOf bs x s)) R)) (hd0 R) R := linkP_chain Rnd fun y hy => by have := Rat y hy; (and_intros <;> omega)
  rw [listP_gen (fun i => if i = j then [(x, ("wrong_list" : Str))] else []) (fun i => if i = j then R else (rowOf i (frees 1024 bs)).filter fun y => decide (y ≠ x)) (fun i i0 i1 seen hs => ?_) (fun i i' hii y hy hy' => ?_), flat_one j hj0.1 hj0.2.1, filter_none fun y hy => ?_]
  · rfl
  · rw [mem_allR]
    obtain ⟨i, i0, i1, hi⟩ := key_row hy
    by_cases e : y = x
    · exact ⟨j, hj0.1, hj0.2.1, by rw [if_pos rfl]; exact (inR y).mpr (.inr e)⟩
    · by_cases e2 : i = j
      · exact ⟨j, hj0.1, hj0.2.1, by rw [if_pos rfl]; exact (inR y).mpr (.inl (e2 ▸ hi))⟩
      · exact ⟨i, i0, i1, by rw [if_neg e2]; exact List.mem_filter.mpr ⟨hi, by simpa [-W.seq_eq, W.seq_put] using e⟩⟩
  · rw [getD_set (by rw [List.length_set, g.len]; (and_intros <;> omega))]
    by_cases e : i = j
    · rw [if_pos (by (and_intros <;> omega)), if_pos e, if_pos e]
      rw [if_pos e] at hs
      rw [hR] at ch
      obtain ⟨t, sg, c2⟩ := ch.seg
      rw [← hR] at sg c2
      obtain ⟨rfl, c3, c4⟩ := c2
      have hl2 := rowOf_len (frees 1024 bs) j
      have := rowP_seg (F := frees 1024 bs) (i := i) (64 - (rowOf j (frees 1024 bs)).length) sg (by rw [e]; exact rowOf_get g.pw) (lt_nodup (rowOf_nodup g.pw _)) (fun y hy => hs y ((inR y).mpr (.inl hy)))
      rw [show (rowOf j (frees 1024 bs)).length + (64 - (rowOf j (frees 1024 bs)).length) = 64 by (and_intros <;> omega), hR, ← hR] at this
      rw [this]
      obtain ⟨k, hk⟩ : ∃ k, 64 - (rowOf j (frees 1024 bs)).length = k + 1 + 1 := ⟨62 - (rowOf j (frees 1024 bs)).length, by (and_intros <;> omega)⟩
      have c5 : mw (linkP (linkP d (spotsOf bs t s)) R) ((t + 4) / 4) = 0 := c4
      rw [hk]
      show (if t = 0 then _ else match fget (frees 1024 bs) t with | none => _ | some s => _) = _
      rw [if_neg c3, fget_of g.pw hx]
      simp only
      rw [if_neg (by
        rw [List.mem_append]
        rintro (h | h)
        · exact hs t ((inR t).mpr (.inr rfl)) h
        · exact hn h), c5, rowP_zero, if_pos (by rw [e]; exact Ne.symm hj0.2.2)]
      simp [-W.seq_eq, W.seq_put, hR]
    · rw [if_neg (by (and_intros <;> omega)), if_neg e, if_neg e]
      rw [if_neg e] at hs
      refine row_chain ((unlink_chain g hl hx i0 i1).congr fun y hy => linkP_far fun z hz => ?_) (fun y hy => rowOf_get g.pw y (List.mem_filter.mp hy).1) (lt_nodup ((rowOf_nodup g.pw _).sublist List.filter_sublist)) (Nat.lt_of_le_of_lt (List.length_filter_le _ _) (Nat.lt_of_le_of_lt (rowOf_len _ i) fl)) hs
      obtain ⟨h1, h2⟩ := List.mem_filter.mp hy
      have a1 := row_at g h1
      have a2 := Rat z hz
      have : y ≠ z := fun q => by
        subst q
        rcases (inR y).mp hz with h | h
        · exact rowOf_apart g.pw e h1 h
        · simp [h] at h2
      (and_intros <;> omega)
  · by_cases e : i = j
    · rw [if_pos e] at hy
      rw [if_neg (by (and_intros <;> omega))] at hy'
      obtain ⟨h1, h2⟩ := List.mem_filter.mp hy'
      rcases (inR y).mp hy with h | h
      · exact rowOf_apart g.pw (by (and_intros <;> omega)) h h1
      · simp [h] at h2
    · rw [if_neg e] at hy
      obtain ⟨h1, h2⟩ := List.mem_filter.mp hy
      by_cases e2 : i' = j
      · rw [if_pos e2] at hy'
        rcases (inR y).mp hy' with h | h
        · exact rowOf_apart g.pw e h1 h
        · simp [h] at h2
      · rw [if_neg e2] at hy'
        exact rowOf_apart g.pw (by (and_intros <;> omega)) h1 (List.mem_filter.mp hy').1
end
end Mine

namespace Mine
open PySem PySem.W PyProof.Rows

theorem idx_first {x : Int} : ∀ {pre post : List Int}, x ∉ pre → (pre ++ x :: post).idxOf x = pre.length
  | [], post, _ => by simp
  | y :: pre, post, h => by
    have h1 : y ≠ x := fun e => h (e ▸ .head _)
    have h2 : (y == x) = false := by simpa [-W.seq_eq, W.seq_put] using h1
    rw [List.cons_append, List.idxOf_cons, h2, idx_first fun q => h (.tail _ q)]
    rfl
theorem mem_first {x : Int} : ∀ {l : List Int}, x ∈ l → ∃ pre post, l = pre ++ x :: post ∧ x ∉ pre
  | [], h => by cases h
  | y :: l, h => by
    by_cases e : y = x
    · exact ⟨[], l, by rw [e]; rfl, by simp⟩
    · obtain ⟨pre, post, h1, h2⟩ := mem_first ((List.mem_cons.mp h).resolve_left (Ne.symm e))
      exact ⟨y :: pre, post, by rw [h1]; rfl, by simp [h2, Ne.symm e]⟩
section
variable {d : List (Int × V)} {fr : List Int} {lim : Int} {bs : List Blk} (g : Good (mw d) fr lim bs) (hl : lim ≤ 2000) {x s : Int} (hx : (x, s) ∈ frees 1024 bs)
noncomputable def lostOf (bs : List Blk) (x s : Int) : List Int := (rowOf (cls s) (frees 1024 bs)).drop ((rowOf (cls s) (frees 1024 bs)).idxOf x + 1)
include g
theorem keys_asc : ((frees 1024 bs).map (·.1)).Pairwise (· < ·) := by
  rw [List.pairwise_map]
  exact g.pw.imp fun h => by (and_intros <;> omega)
/-- those keys that a row lost -/
theorem keys_filter {p : List Int} (hp : p.Pairwise (· < ·)) (hk : ∀ y ∈ p, y ∈ (frees 1024 bs).map (·.1)) {S : List Int} (h : ∀ y ∈ (frees 1024 bs).map (·.1), y ∉ S ↔ y ∈ p) : ((frees 1024 bs).map (·.1)).filter (fun b => decide (b ∉ S)) = p := by
  refine asc_eq ((keys_asc g).sublist List.filter_sublist) hp fun y => ?_
  rw [List.mem_filter]
  constructor
  · rintro ⟨h1, h2⟩
    exact (h y h1).mp (by simpa [-W.seq_eq, W.seq_put] using h2)
  · intro hy
    exact ⟨hk y hy, by simpa [-W.seq_eq, W.seq_put] using (h y (hk y hy)).mpr hy⟩
theorem row_key {i y : Int} (h : y ∈ rowOf i (frees 1024 bs)) : y ∈ (frees 1024 bs).map (·.1) := by
  obtain ⟨t, h1, _⟩ := mem_rowOf.mp h
  exact List.mem_map.mpr ⟨_, h1, rfl⟩
include hl hx
theorem form4 : faultsP (mw (wr d (x + 4) x)) lim fr = (x, ("listed_twice" : Str)) :: (lostOf bs x s).map fun b => (b, ("not_listed" : Str)) := by
  have hc := cls_range s
  have hxa := g.at_ _ hx
  simp only at hxa
  have fl61 := g.flen61 hl
  have asc := rowOf_nodup g.pw (cls s)
  have far : ∀ j, j ≠ (x + 4) / 4 → mw (wr d (x + 4) x) j = mw d j := fun j hj => by rw [mw_wr, if_neg hj]
  rw [relinked_faults g hl fun j hj => far j (hj _ hx)]
  -- the row parted at x
  have hin := in_row g hl hx
  obtain ⟨pre, post, hrow, hnp⟩ : ∃ pre post, rowOf (cls s) (frees 1024 bs) = pre ++ x :: post ∧ x ∉ pre := mem_first hin
  have hlost : lostOf bs x s = post := by
    unfold lostOf
    rw [hrow, idx_first hnp]
    simp [-W.seq_eq, W.seq_put]
  rw [hlost]
  have nd := lt_nodup asc
  rw [hrow] at asc nd
  have inrow : ∀ y, y ∈ rowOf (cls s) (frees 1024 bs) ↔ y ∈ pre ∨ y = x ∨ y ∈ post := fun y => by rw [hrow]; simp
  have hpost : ∀ y ∈ post, y ∉ pre ∧ y ≠ x := fun y hy => by
    obtain ⟨_, n2, n3⟩ := List.nodup_append.mp nd
    exact ⟨fun h => n3 y h y (.tail _ hy) rfl, fun e => (List.nodup_cons.mp n2).1 (e ▸ hy)⟩
  have ch := g.rows (cls s) hc.1 hc.2
  rw [hrow] at ch
  have ch2 : pre ++ x :: post = (pre ++ [x]) ++ post := by simp
  obtain ⟨t, sg, c2⟩ := ch.seg (row := pre)
  obtain ⟨rfl, c3, -⟩ := c2
  have hlen : pre.length + 1 + post.length ≤ 61 := by
    have := rowOf_len (frees 1024 bs) (cls s)
    rw [hrow] at this
    simp at this; (and_intros <;> omega)
  rw [listP_gen (fun i => if i = cls s then [(t, ("listed_twice" : Str))] else []) (fun i => if i = cls s then pre ++ [t] else rowOf i (frees 1024 bs)) (fun i i0 i1 seen hs => ?_) (fun i i' hii y hy hy' => ?_), flat_one _ hc.1 hc.2, keys_filter g (p := post) ?_ ?_ ?_]
  · rfl
  · obtain ⟨_, n2, _⟩ := List.pairwise_append.mp asc
    exact (List.pairwise_cons.mp n2).2
  · exact fun y hy => row_key g ((inrow y).mpr (.inr (.inr hy)))
  · intro y hy
    rw [mem_allR]
    constructor
    · intro h
      obtain ⟨i, i0, i1, hi⟩ := key_row hy
      by_cases e : i = cls s
      · subst e
        rcases (inrow y).mp hi with q | q | q
        · exact absurd ⟨cls s, i0, i1, by rw [if_pos rfl]; exact List.mem_append.mpr (.inl q)⟩ h
        · exact absurd ⟨cls s, i0, i1, by rw [if_pos rfl]; simp [q]⟩ h
        · exact q
      · exact absurd ⟨i, i0, i1, by rw [if_neg e]; exact hi⟩ h
    · rintro hp ⟨i, i0, i1, hi⟩
      by_cases e : i = cls s
      · rw [if_pos e] at hi
        rcases List.mem_append.mp hi with q | q
        · exact (hpost y hp).1 q
        · exact (hpost y hp).2 (List.mem_singleton.mp q)
      · rw [if_neg e] at hi
        exact rowOf_apart g.pw e hi ((inrow y).mpr (.inr (.inr hp)))
  · by_cases e : i = cls s
    · subst e
      rw [if_pos rfl, if_pos rfl]
      rw [if_pos rfl] at hs
      have sg2 : Seg (mw (wr d (t + 4) t)) (fr.getD (cls s).toNat 0) pre t := sg.congr fun y hy => far _ (by
        have := row_at g ((inrow y).mpr (.inl hy))
        have : y ≠ t := fun q => hnp (q ▸ hy)
        (and_intros <;> omega))
      have := rowP_seg (F := frees 1024 bs) (i := cls s) (64 - pre.length) sg2 (fun y hy => rowOf_get g.pw y ((inrow y).mpr (.inl hy))) (List.nodup_append.mp nd).1 (fun y hy => hs y (List.mem_append.mpr (.inl hy)))
      rw [show pre.length + (64 - pre.length) = 64 by (and_intros <;> omega)] at this
      rw [this]
      obtain ⟨k, hk⟩ : ∃ k, 64 - pre.length = k + 1 + 1 := ⟨62 - pre.length, by (and_intros <;> omega)⟩
      have back : mw (wr d (t + 4) t) ((t + 4) / 4) = t := by rw [mw_wr, if_pos rfl]; (and_intros <;> omega)
      have hns : t ∉ seen ++ pre := by
        rw [List.mem_append]
        rintro (h | h)
        · exact hs t (by simp) h
        · exact hnp h
      rw [hk]
      show (if t = 0 then _ else match fget (frees 1024 bs) t with | none => _ | some s => _) = _
      rw [if_neg c3, fget_of g.pw hx]
      simp only
      rw [if_neg hns, back, if_neg (by simp)]
      have e2 : rowP (mw (wr d (t + 4) t)) (frees 1024 bs) (cls s) (k + 1) t (seen ++ pre ++ [t]) = ([(t, ("listed_twice" : Str))], seen ++ pre ++ [t]) := by
        show (if t = 0 then _ else match fget (frees 1024 bs) t with | none => _ | some s => _) = _
        rw [if_neg c3, fget_of g.pw hx]
        simp only
        rw [if_pos (by simp)]
      rw [e2]
      simp [-W.seq_eq, W.seq_put]
    · rw [if_neg e, if_neg e]
      rw [if_neg e] at hs
      refine row_chain ((g.rows i i0 i1).congr fun y hy => far _ ?_) (rowOf_get g.pw) (lt_nodup (rowOf_nodup g.pw _)) (Nat.lt_of_le_of_lt (rowOf_len _ i) (g.flen hl)) hs
      have := row_at g hy
      have : y ≠ t := fun q => rowOf_apart g.pw e hy (q ▸ hin)
      (and_intros <;> omega)
  · by_cases e : i = cls s
    · rw [if_pos e] at hy
      rw [if_neg (by (and_intros <;> omega))] at hy'
      have : y ∈ rowOf (cls s) (frees 1024 bs) := (inrow y).mpr (by
        rcases List.mem_append.mp hy with q | q
        · exact .inl q
        · exact .inr (.inl (List.mem_singleton.mp q)))
      exact rowOf_apart g.pw (by (and_intros <;> omega)) this hy'
    · rw [if_neg e] at hy
      by_cases e2 : i' = cls s
      · rw [if_pos e2] at hy'
        have : y ∈ rowOf (cls s) (frees 1024 bs) := (inrow y).mpr (by
          rcases List.mem_append.mp hy' with q | q
          · exact .inl q
          · exact .inr (.inl (List.mem_singleton.mp q)))
        exact rowOf_apart g.pw e hy this
      · rw [if_neg e2] at hy'
        exact rowOf_apart g.pw (by (and_intros <;> omega)) hy hy'
theorem form5 {t : Int} {b : Blk} (ht : (t, b) ∈ addrs 1024 bs) (hb : b.t ≠ none) : faultsP (mw d) lim (fr.set (cls s).toNat t) = (t, ("not_free" : Str)) :: (rowOf (cls s) (frees 1024 bs)).map fun b => (b, ("not_listed" : Str)) := by
  have hc := cls_range s
  have hta := addrs_at g.bl.tiles rfl _ ht
  simp only at hta
  rw [relinked_faults g hl fun j hj => rfl]
  rw [listP_gen (fun i => if i = cls s then [(t, ("not_free" : Str))] else []) (fun i => if i = cls s then [] else rowOf i (frees 1024 bs)) (fun i i0 i1 seen hs => ?_) (fun i i' hii y hy hy' => ?_), flat_one _ hc.1 hc.2, keys_filter g (p := rowOf (cls s) (frees 1024 bs)) (rowOf_nodup g.pw _) (fun y hy => row_key g hy) ?_]
  · rfl
  · intro y hy
    rw [mem_allR]
    constructor
    · intro h
      obtain ⟨i, i0, i1, hi⟩ := key_row hy
      by_cases e : i = cls s
      · exact e ▸ hi
      · exact absurd ⟨i, i0, i1, by rw [if_neg e]; exact hi⟩ h
    · rintro hp ⟨i, i0, i1, hi⟩
      by_cases e : i = cls s
      · rw [if_pos e] at hi; cases hi
      · rw [if_neg e] at hi
        exact rowOf_apart g.pw e hi hp
  · rw [getD_set (by rw [g.len]; (and_intros <;> omega))]
    by_cases e : i = cls s
    · subst e
      rw [if_pos rfl, if_pos rfl, if_pos rfl]
      show (if t = 0 then _ else match fget (frees 1024 bs) t with | none => _ | some s => _) = _
      rw [if_neg (by (and_intros <;> omega)), fget_no (used_free g hl ht hb)]
      simp [-W.seq_eq, W.seq_put]
    · rw [if_neg (by (and_intros <;> omega)), if_neg e, if_neg e]
      rw [if_neg e] at hs
      exact row_chain (g.rows i i0 i1) (rowOf_get g.pw) (lt_nodup (rowOf_nodup g.pw _)) (Nat.lt_of_le_of_lt (rowOf_len _ i) (g.flen hl)) hs
  · by_cases e : i = cls s
    · rw [if_pos e] at hy; cases hy
    · rw [if_neg e] at hy
      by_cases e2 : i' = cls s
      · rw [if_pos e2] at hy'; cases hy'
      · rw [if_neg e2] at hy'
        exact rowOf_apart g.pw (by (and_intros <;> omega)) hy hy'
theorem form6 (h16 : 16 < s) {d₁ : List (Int × V)} {fr₁ : List Int} (e1 : d₁ = linkP d (spotsOf bs x s)) (e2 : fr₁ = fr.set (cls s).toNat (hd0 (spotsOf bs x s))) :
    faultsP (mw (pfd (pfd d₁ fr₁ x 16) (pff fr₁ x 16) (x + 16) (s - 16))) lim (pff (pff fr₁ x 16) (x + 16) (s - 16)) = [(x + 16, ("not_joined" : Str))] := by
  have hxa := g.at_ _ hx
  simp only at hxa
  have fl61 := g.flen61 hl
  have rw1 := unlink_rows g hl hx
  have bl1 := relinked g hl (unlink_far (x := x) (s := s) g)
  rw [← e1, ← e2] at rw1
  rw [← e1] at bl1
  obtain ⟨b, hb1, hb2, hb3⟩ := frees_addrs.mp hx
  obtain ⟨pre, post, e, t⟩ := addrs_split g.bl.tiles hb1
  simp only at hb3 t
  have na := g.na
  have mk := g.marks
  have hF : frees 1024 bs = frees 1024 pre ++ (x, s) :: frees (x + s) post := by
    rw [e, frees_app t, frees_cons, if_pos hb2, hb3]; rfl
  have tl := g.bl.tiles
  rw [e] at bl1 na mk tl
  obtain ⟨b1, b2⟩ := (Bl_app t).mp bl1
  have b3 := b2.2.2
  rw [hb3] at b3
  have tpost := b3.tiles
  have n1 := NA_app.mp na
  have hlast : lastF false pre = false := by
    cases h : lastF false pre with
    | false => rfl
    | true => rw [h] at n1; exact absurd hb2 (n1.2.1 rfl)
  have npost : NA true post := by have := n1.2.2; rwa [hb2] at this
  have apre := frees_at t (by decide)
  have apost := frees_at tpost (by (and_intros <;> omega))
  -- the parted block
  have t6 : Tiles 1024 (pre ++ (⟨16, none⟩ : Blk) :: ⟨s - 16, none⟩ :: post) lim := by
    have app : ∀ {pre r : List Blk} {a x e : Int}, Tiles a pre x → Tiles x r e → Tiles a (pre ++ r) e := by
      intro pre
      induction pre with
      | nil => intro r a x e h h'; have : a = x := h; subst this; exact h'
      | cons b p ih => intro r a x e h h'; exact ⟨h.1, ih h.2 h'⟩
    refine app t ⟨⟨by decide, by decide⟩, ⟨by show 16 ≤ s - 16; (and_intros <;> omega), by show (s - 16) % 16 = 0; (and_intros <;> omega)⟩, ?_⟩
    show Tiles (x + 16 + (s - 16)) post lim
    rw [show x + 16 + (s - 16) = x + s by (and_intros <;> omega)]; exact tpost
  have hF6 : frees 1024 (pre ++ (⟨16, none⟩ : Blk) :: ⟨s - 16, none⟩ :: post) = frees 1024 pre ++ (x, 16) :: (x + 16, s - 16) :: frees (x + s) post := by
    rw [frees_app t, frees_cons, if_pos rfl, frees_cons, if_pos rfl]
    show _ ++ ((x, 16) :: (x + 16, s - 16) :: frees (x + 16 + (s - 16)) post) = _
    rw [show x + 16 + (s - 16) = x + s by (and_intros <;> omega)]
  have pw6 := frees_pw t6 rfl
  have memF : ∀ q, q ∈ (frees 1024 bs).filter (fun p => decide (p.1 ≠ x)) ↔ q ∈ frees 1024 pre ∨ q ∈ frees (x + s) post := fun q => by
    rw [List.mem_filter, hF, List.mem_append, List.mem_cons]
    constructor
    · rintro ⟨h | h | h, h2⟩
      · exact .inl h
      · rw [h] at h2; simp at h2
      · exact .inr h
    · rintro (h | h)
      · have := apre q h
        exact ⟨.inl h, by simp; (and_intros <;> omega)⟩
      · have := apost q h
        exact ⟨.inr (.inr h), by simp; (and_intros <;> omega)⟩
  have far1 : ∀ q ∈ (frees 1024 bs).filter (fun p => decide (p.1 ≠ x)), 1024 ≤ q.1 ∧ q.1 < 10000 ∧ q.1 % 16 = 0 ∧ q.1 ≠ x ∧ q.1 ≠ x + 16 := fun q hq => by
    rcases (memF q).mp hq with h | h
    · have := apre q h; (and_intros <;> omega)
    · have := apost q h; (and_intros <;> omega)
  have r2 := rw1.put (x := x) (s := 16) (by (and_intros <;> omega)) hxa.2.2.1 (by (and_intros <;> omega)) (by (and_intros <;> omega)) fun q hq => by have := far1 q hq; (and_intros <;> omega)
  have r3 := r2.put (x := x + 16) (s := s - 16) (by (and_intros <;> omega)) (by (and_intros <;> omega)) (by (and_intros <;> omega)) (by (and_intros <;> omega)) fun q hq => by
    rcases List.mem_cons.mp hq with rfl | h
    · show 0 ≤ x ∧ x < 10000 ∧ x % 16 = 0 ∧ x ≠ x + 16; (and_intros <;> omega)
    · have := far1 q h; (and_intros <;> omega)
  have keep : ∀ j, (j < x / 4 ∨ (x + s) / 4 ≤ j) → mw (pfd (pfd d₁ fr₁ x 16) (pff fr₁ x 16) (x + 16) (s - 16)) j = mw d₁ j := fun j hj => by
    rw [pfd_far (by (and_intros <;> omega)) (by (and_intros <;> omega)), pfd_far (by (and_intros <;> omega)) (by (and_intros <;> omega))]
  have bl6 : Bl (mw (pfd (pfd d₁ fr₁ x 16) (pff fr₁ x 16) (x + 16) (s - 16))) 1024 (pre ++ (⟨16, none⟩ : Blk) :: ⟨s - 16, none⟩ :: post) lim := by
    refine (Bl_app t).mpr ⟨b1.congr rfl (fun j hj => keep j (by (and_intros <;> omega))) fun j hj hj' => keep j (by (and_intros <;> omega)), ⟨by decide, by decide⟩, ?_, ⟨by show 16 ≤ s - 16; (and_intros <;> omega), by show (s - 16) % 16 = 0; (and_intros <;> omega)⟩, ?_, ?_⟩
    · exact r3.size (x, 16) (.tail _ (.head _))
    · exact r3.size (x + 16, s - 16) (.head _)
    · show Bl _ (x + 16 + (s - 16)) post lim
      rw [show x + 16 + (s - 16) = x + s by (and_intros <;> omega)]
      exact b3.congr (by (and_intros <;> omega)) (fun j hj => keep j (by (and_intros <;> omega))) fun j hj hj' => keep j (by (and_intros <;> omega))
  generalize hm : mw (pfd (pfd d₁ fr₁ x 16) (pff fr₁ x 16) (x + 16) (s - 16)) = m' at *
  rw [tiled_faults bl6 hl, walkF_app t, walkF_nil n1.1 fun b hb => mk b (List.mem_append.mpr (.inl hb)), hlast]
  have hw : walkF x false ((⟨16, none⟩ : Blk) :: ⟨s - 16, none⟩ :: post) = [(x + 16, ("not_joined" : Str))] := by
    show [] ++ ([(x + 16, ("not_joined" : Str))] ++ walkF (x + 16 + (s - 16)) true post) = _
    rw [walkF_nil npost fun b hb => mk b (List.mem_append.mpr (.inr (.tail _ hb)))]; rfl
  have hS : ∀ p ∈ (x + 16, s - 16) :: (x, (16 : Int)) :: (frees 1024 bs).filter (fun p => decide (p.1 ≠ x)), p ∈ frees 1024 (pre ++ (⟨16, none⟩ : Blk) :: ⟨s - 16, none⟩ :: post) := fun p hp => by
    rw [hF6, List.mem_append, List.mem_cons, List.mem_cons]
    rcases List.mem_cons.mp hp with h | h
    · exact .inr (.inr (.inl h))
    rcases List.mem_cons.mp h with h | h
    · exact .inr (.inl h)
    · rcases (memF p).mp h with h | h
      · exact .inl h
      · exact .inr (.inr (.inr h))
  have hnd : ((x + 16, s - 16) :: (x, (16 : Int)) :: (frees 1024 bs).filter (fun p => decide (p.1 ≠ x))).Pairwise fun p q => p.1 ≠ q.1 := by
    refine List.pairwise_cons.mpr ⟨fun q hq => ?_, List.pairwise_cons.mpr ⟨fun q hq => ?_, (g.pw.sublist List.filter_sublist).imp fun h => by (and_intros <;> omega)⟩⟩
    · rcases List.mem_cons.mp hq with rfl | h
      · show x + 16 ≠ x; (and_intros <;> omega)
      · have := far1 q h; show x + 16 ≠ q.1; (and_intros <;> omega)
    · have := far1 q hq; show x ≠ q.1; (and_intros <;> omega)
  have hlen : ((x + 16, s - 16) :: (x, (16 : Int)) :: (frees 1024 bs).filter (fun p => decide (p.1 ≠ x))).length < 64 := by
    have := List.length_filter_le (fun p : Int × Int => decide (p.1 ≠ x)) (frees 1024 bs)
    simp only [List.length_cons]; (and_intros <;> omega)
  rw [hw, rows_listP r3 pw6 hS hnd hlen, filter_none fun y hy => ?_]
  · rfl
  · obtain ⟨q, hq, rfl⟩ := List.mem_map.mp hy
    rw [hF6, List.mem_append, List.mem_cons, List.mem_cons] at hq
    refine List.mem_map.mpr ⟨q, ?_, rfl⟩
    rcases hq with h | h | h | h
    · exact .tail _ (.tail _ ((memF q).mpr (.inl h)))
    · exact .tail _ (h ▸ .head _)
    · exact h ▸ .head _
    · exact .tail _ (.tail _ ((memF q).mpr (.inr h)))
end
end Mine

namespace Mine
open PySem PySem.W PyProof.Rows

structure Bx (L : Lay) (hp : Hp) (aP aC : Addr) (cs : List Int) : Prop where
  k : L.Ok hp
  hand : Hand hp aP aC cs
  pW : aP ≠ L.aW
  pF : aP ≠ L.aF
  cW : aC ≠ L.aW
  cF : aC ≠ L.aF
section
variable {L : Lay} {hp : Hp} {aP aC : Addr} {cs : List Int} (b : Bx L hp aP aC cs) {d : List (Int × V)} {fr : List Int} {c : Addr} {o : O}
include b
theorem Bx.atP : ∃ us, hp aP = some (.list us) := let ⟨_, _, _, g, _⟩ := b.hand.at_; ⟨_, g⟩
theorem Bx.new (h : L.put d fr hp c = none) : Bx L (hp.set c o) aP aC cs := ⟨b.k.setNew (Lay.put_none h).2.2, b.hand.new (Lay.put_none h).2.2, b.pW, b.pF, b.cW, b.cF⟩
theorem Bx.pick {us : List V} (h : Hand (hp.set aP (.list us)) aP aC cs) : Bx L (hp.set aP (.list us)) aP aC cs :=
  ⟨by obtain ⟨_, g⟩ := b.atP; exact b.k.setList g, h, b.pW, b.pF, b.cW, b.cF⟩
end
structure Lst (L : Lay) (hp : Hp) (aP : Addr) (c : Addr) (us : List V) : Prop where
  at_ : hp c = some (.list us)
  nP : c ≠ aP
  nW : c ≠ L.aW
  nF : c ≠ L.aF
section
variable {L : Lay} {hp : Hp} {aP aC : Addr} {cs : List Int} {d : List (Int × V)} {fr : List Int} {c c' : Addr} {o : O} {us : List V}
theorem Lst.get (t : Lst L hp aP c us) : L.put d fr hp c = some (.list us) := by rw [Lay.put_ne t.nW t.nF]; exact t.at_
theorem Lst.new (t : Lst L hp aP c us) (h : L.put d fr hp c' = none) : Lst L (hp.set c' o) aP c us :=
  ⟨by rw [Hp.set_ne _ _ (Hp.ne_of (Lay.put_none h).2.2 t.at_)]; exact t.at_, t.nP, t.nW, t.nF⟩
theorem Lst.pick (t : Lst L hp aP c us) : Lst L (hp.set aP o) aP c us := ⟨by rw [Hp.set_ne _ _ t.nP]; exact t.at_, t.nP, t.nW, t.nF⟩
theorem Lst.mk' (b : Bx L hp aP aC cs) (h : L.put d fr hp c = none) : Lst L (hp.set c (.list us)) aP c us :=
  have q := Lay.put_none h
  ⟨Hp.set_self _ _ _, fun e => by obtain ⟨_, g⟩ := b.atP; exact Hp.ne_of q.2.2 g e.symm, q.1, q.2.1⟩
end
noncomputable def useds : Int → List Blk → List (Int × Int)
  | _, [] => []
  | a, b :: r => (if b.t = none then [] else [(a, b.s)]) ++ useds (a + b.s) r
theorem useds_addrs : ∀ {bs : List Blk} {a : Int} {p : Int × Int}, p ∈ useds a bs → ∃ b, (p.1, b) ∈ addrs a bs ∧ b.t ≠ none ∧ b.s = p.2
  | [], a, p, h => by cases h
  | b :: r, a, p, h => by
    unfold useds at h
    rcases List.mem_append.mp h with h | h
    · split at h
      · cases h
      · rw [List.mem_singleton.mp h]; exact ⟨b, .head _, by assumption, rfl⟩
    · obtain ⟨b', h1, h2⟩ := useds_addrs h
      exact ⟨b', .tail _ h1, h2⟩
theorem useds_len : ∀ (bs : List Blk) (a : Int), (useds a bs).length ≤ bs.length
  | [], a => by simp [useds]
  | b :: r, a => by
    show ((if b.t = none then [] else [(a, b.s)]) ++ useds (a + b.s) r).length ≤ _
    rw [List.length_append, List.length_cons]
    have := useds_len r (a + b.s)
    split <;> simp <;> omega
theorem dat_pv (us : List (Int × Int)) : (us.map pv).all V.dat = true := by
  induction us with
  | nil => rfl
  | cons x us ih => rw [List.map_cons, List.all_cons, ih]; rfl
theorem pairs_ix {us : List (Int × Int)} {r : Int} (h0 : 0 ≤ r) (h1 : r < us.length) : ∃ p ∈ us, (us.map pv)[ixN (us.map pv).length r]? = some (pv p) := by
  unfold ixN
  rw [if_neg (by (and_intros <;> omega))]
  have : r.toNat < us.length := by (and_intros <;> omega)
  exact ⟨us[r.toNat], List.getElem_mem this, by simp [this]⟩
theorem intsOf_map : ∀ us : List Int, intsOf (us.map .int) = some us
  | [] => rfl
  | x :: us => by
    show (intsOf (us.map .int)).map (x :: ·) = _
    rw [intsOf_map us]; rfl
theorem compF {P : Hp → Prop} {H : Hp} {x : Int} {K : List V → Hp → Prop} (hP : P H) : ∀ (us : List Int) (acc : List V) (z : Option V), acc.length + us.length ≤ 10000 → K (acc ++ (us.filter fun y => decide (y ≠ x)).map .int) H →
    W.compGo (W.one 0) (W.t (W.bin wNe (W.v 0) (W.v 1))) (W.v 0) P (us.map .int) [z, some (.int x)] H acc K
  | [], acc, z, _, q => by simpa [-W.seq_eq, W.seq_put, hP] using q
  | y :: us, acc, z, hl, q => by
    simp only [List.length_cons] at hl
    rw [List.map_cons, W.compGo_cons]
    refine ⟨hP, ?_⟩
    simp [-W.seq_eq, W.seq_put]
    refine ⟨fun h => ⟨by (and_intros <;> omega), ?_⟩, fun h => ?_⟩
    · refine compF hP us _ _ (by simp; (and_intros <;> omega)) ?_
      rw [List.filter_cons_of_pos (by simpa [-W.seq_eq, W.seq_put] using h)] at q
      simpa [-W.seq_eq, W.seq_put] using q
    · refine compF hP us _ _ (by (and_intros <;> omega)) ?_
      rw [List.filter_cons_of_neg (by simpa [-W.seq_eq, W.seq_put] using h)] at q
      exact q
theorem compN {P : Hp → Prop} {H : Hp} {K : List V → Hp → Prop} (hP : P H) : ∀ (us : List Int) (acc : List V) (z : Option V), acc.length + us.length ≤ 10000 → K (acc ++ us.map fun b => fv (b, "not_listed")) H →
    W.compGo (W.one 0) W.yes (W.app wTup [(W.v 0), (W.c (.str "not_listed"))]) P (us.map .int) [z] H acc K
  | [], acc, z, _, q => by simpa [-W.seq_eq, W.seq_put, hP] using q
  | y :: us, acc, z, hl, q => by
    simp only [List.length_cons] at hl
    rw [List.map_cons, W.compGo_cons]
    refine ⟨hP, ?_⟩
    simp [-W.seq_eq, W.seq_put]
    refine ⟨by (and_intros <;> omega), ?_⟩
    refine compN hP us _ _ (by simp; (and_intros <;> omega)) ?_
    simpa [-W.seq_eq, W.seq_put, fv] using q
section
variable {D : Wd} {P : Params} (hD : D.KF = HK P) {n : Nat} {hp : Hp} {Q : V → Hp → Prop} {L : Lay} {d : List (Int × V)} {fr : List Int} {aP aC : Addr} {cs : List Int}
include hD
theorem b_pick (b : Bx L hp aP aC cs) {lim : Int} (l0 : 0 < lim) (l1 : lim < 1000000) (q : ∀ r us, 0 ≤ r → r < lim → Bx L (hp.set aP (.list us)) aP aC cs → Q (.int r) (L.put d fr (hp.set aP (.list us)))) : Calls D 263 (n + 5) [.ref aP, .int lim] (L.put d fr hp) Q := by
  have hH : Hand (L.put d fr hp) aP aC cs := ⟨by rw [Lay.put_ne b.cW b.cF]; exact b.hand.cells, b.hand.short, b.hand.ne, let ⟨i, x, y, g, r⟩ := b.hand.at_; ⟨i, x, y, by rw [Lay.put_ne b.pW b.pF]; exact g, r⟩⟩
  refine s_pick hD hH l0 l1 fun r us h0 h1 h => ?_
  rw [Lay.put_set b.pW b.pF]
  refine q r us h0 h1 (b.pick ?_)
  exact ⟨by rw [Hp.set_ne _ _ (Ne.symm b.hand.ne)]; exact b.hand.cells, b.hand.short, b.hand.ne, let ⟨i, x, y, g, r⟩ := h.at_; ⟨i, x, y, by rw [Hp.set_self] at g ⊢; exact g, r⟩⟩
end
end Mine

namespace Mine
open PySem PySem.W PyProof.Rows

noncomputable def SP (L : Lay) (Q : V → Hp → Prop) : Prop := ∀ c d' fr' hp' flt, L.Ok hp' → DOk d' → fr'.length = 4 → faultsP (mw d') L.lim fr' = flt → hp' c = some (.list (flt.map fv)) → c ≠ L.aW → c ≠ L.aF → Q (.ref c) (L.put d' fr' hp')
theorem sp_end {L : Lay} {Q : V → Hp → Prop} (q : SP L Q) {hp : Hp} (k : L.Ok hp) {d : List (Int × V)} (ok : DOk d) {fr : List Int} (hf : fr.length = 4) {flt : List (Int × Str)} (h : faultsP (mw d) L.lim fr = flt) {us : List V} (hu : us = flt.map fv) {c : Addr} (hc : L.put d fr hp c = none) :
    Q (.ref c) ((L.put d fr hp).set c (.list us)) := by
  have h' := Lay.put_none hc
  rw [Lay.put_set h'.1 h'.2.1, hu]
  exact q c d fr _ flt (k.setNew h'.2.2) ok hf h (Hp.set_self _ _ _) h'.1 h'.2.1
theorem told_three {m : Int → Int} {lim x v : Int} (hx : x < lim) (e : m (x / 4) = v) (h : v = 0 ∨ v = 6 ∨ v = 2000) : toldP m lim x = 0 := by
  unfold toldP
  rw [e, if_neg (by (and_intros <;> omega)), if_pos (by (and_intros <;> omega))]
theorem told_odd {m : Int → Int} {lim x v : Int} (hx : 1024 ≤ x) (hl : lim ≤ 2000) (e : m (x / 4) = v) (h : v = 1 ∨ v = 9 ∨ v = 4001) : toldP m lim x = 0 := by
  unfold toldP
  rw [e, if_pos (by (and_intros <;> omega))]
  unfold chkP
  rw [if_pos (by (and_intros <;> omega))]
theorem three_ix {a b c r : Int} (h0 : 0 ≤ r) (h1 : r < 3) : ∃ v : Int, [V.int a, .int b, .int c][ixN [V.int a, .int b, .int c].length r]? = some (.int v) ∧ (v = a ∨ v = b ∨ v = c) := by
  have : r = 0 ∨ r = 1 ∨ r = 2 := by (and_intros <;> omega)
  rcases this with rfl | rfl | rfl
  · exact ⟨a, rfl, .inl rfl⟩
  · exact ⟨b, rfl, .inr (.inl rfl)⟩
  · exact ⟨c, rfl, .inr (.inr rfl)⟩

section
variable {D : Wd} {P : Params} (hD : D.KF = HK P) {n : Nat} {hp : Hp} {Q : V → Hp → Prop} {L : Lay} {d : List (Int × V)} {fr : List Int} {aP aC : Addr} {cs : List Int} {bs : List Blk} {cT cB cR : Addr}
  (b : Bx L hp aP aC cs) (ok : DOk d) (g : Good (mw d) fr L.lim bs) (hl : L.lim ≤ 2000) (q : SP L Q) {K : Fl → Loc → Hp → Prop} (hK : ∀ v loc H, Q v H → K (.ret v) loc H)
include hD b ok g hl q hK
theorem sp_A (tT : Lst L hp aP cT ((useds 1024 bs).map pv)) (form : Int) (x4 x5 x6 x7 x8 x9 : Option V) :
    (W.seq (W.ifs (W.t (W.bin wEq (W.v 3) (W.app wList []))) (W.seq (W.ret (W.app wList [])) W.nil) W.nil) (W.seq (W.asg (W.one 5) (W.bin wIx (W.bin wIx (W.v 3) (W.call D 263 (n + 3 + 4) [(W.v 0), (W.app wLen [(W.v 3)])])) (W.c (.int 0)))) (W.seq (W.ifs (W.t (W.bin wEq (W.v 2) (W.c (.int 0)))) (W.seq (W.ex (W.meth D 238 "put_word" 221 (n + 3 + 4) (W.attr 108 "memory" (W.v 1)) [(W.bin wAdd (W.v 5) (W.c (.int 4))), (W.c (.int 8))])) (W.seq (W.ret (W.app wList [(W.app wTup [(W.v 5), (W.c (.str "marked"))])])) W.nil)) W.nil) (W.seq (W.ex (W.meth D 238 "put_word" 221 (n + 3 + 4) (W.attr 108 "memory" (W.v 1)) [(W.v 5), (W.bin wIx (W.app wList [(W.c (.int 0)), (W.c (.int 6)), (W.c (.int 2000))]) (W.call D 263 (n + 3 + 4) [(W.v 0), (W.c (.int 3))]))])) (W.seq (W.ret (W.app wList [(W.app wTup [(W.v 5), (W.c (.str "bad_block"))])])) W.nil))))) [some (.ref aP), some (.ref L.aH), some (.int form), some (.ref cT), x4, x5, x6, x7, x8, x9] (L.put d fr hp) K := by
  have hlen := useds_len bs 1024
  have hble := g.bl.le
  simp [-W.seq_eq, W.seq_put]
  intro c0 hc0
  have p0 := Lay.put_none hc0
  rw [Lay.put_set p0.1 p0.2.1]
  have b0 := b.new (o := .list []) hc0
  have t0 := tT.new (o := .list []) hc0
  rw [wEq_list t0.get (Lst.mk' b hc0).get]
  refine ⟨dat_pv _, rfl, ?_⟩
  rw [eqL_nil]
  simp [-W.seq_eq, W.seq_put]
  refine ⟨fun he c1 hc1 => hK _ _ _ (sp_end q b0.k ok g.len (flt := []) (good_faults g hl) rfl hc1), fun hne => ?_⟩
  rw [wLen_list t0.get]
  simp [-W.seq_eq, W.seq_put]
  refine ⟨by (and_intros <;> omega), ?_⟩
  have hpos : (0 : Int) < (useds 1024 bs).length := by
    have : (useds 1024 bs).length ≠ 0 := fun e => hne (List.eq_nil_of_length_eq_zero e)
    (and_intros <;> omega)
  refine b_pick hD (n := n + 2) b0 hpos (by (and_intros <;> omega)) fun r us r0 r1 b1 => ?_
  have t1 := t0.pick (o := .list us)
  obtain ⟨p, hp1, hp2⟩ := pairs_ix r0 r1
  obtain ⟨bk, hb1, hb2, hb3⟩ := useds_addrs hp1
  have ha := addrs_at g.bl.tiles rfl _ hb1
  simp only at ha
  rw [wIx_list t1.get]
  refine ⟨by simp; (and_intros <;> omega), _, hp2, ?_⟩
  unfold pv
  rw [wIx_tup]
  refine ⟨by simp, _, rfl, ?_⟩
  simp [-W.seq_eq, W.seq_put]
  refine ⟨fun h0 => ?_, fun h0 => ?_⟩
  · rw [b1.k.f_memory]
    refine ⟨_, rfl, b1.k.mem.o_put_word ▸ trivial, ?_⟩
    refine s_put_word hD (n := n + 1) (a := p.1 + 4) b1.k.mem b1.k.atW ok (by (and_intros <;> omega)) (by (and_intros <;> omega)) ?_
    rw [b1.k.setW]
    simp [-W.seq_eq, W.seq_put]
    intro c hc
    refine hK _ _ _ (sp_end q b1.k (ok.wr (by (and_intros <;> omega)) (by (and_intros <;> omega))) g.len (flt := [(p.1, "marked")]) ?_ rfl hc)
    exact form_mark g hl hb1 hb2 (fun j hj => by rw [mw_wr, if_neg hj]) (by rw [mw_wr, if_pos rfl]; rfl)
  · rw [b1.k.f_memory]
    refine ⟨_, rfl, b1.k.mem.o_put_word ▸ trivial, fun c2 hc2 => ?_⟩
    have p2 := Lay.put_none hc2
    rw [Lay.put_set p2.1 p2.2.1]
    have b2 := b1.new (o := .list [.int 0, .int 6, .int 2000]) hc2
    refine b_pick hD (n := n + 2) b2 (by decide) (by decide) fun r2 us2 r20 r21 b3 => ?_
    have t2 := (Lst.mk' b1 hc2 (us := [.int 0, .int 6, .int 2000])).pick (o := .list us2)
    obtain ⟨v, hv1, hv2⟩ := three_ix (a := 0) (b := 6) (c := 2000) r20 r21
    rw [wIx_list t2.get]
    refine ⟨by simp; (and_intros <;> omega), _, hv1, ?_⟩
    refine s_put_word hD (n := n + 1) (a := p.1) b3.k.mem b3.k.atW ok (by (and_intros <;> omega)) (by (and_intros <;> omega)) ?_
    rw [b3.k.setW]
    simp [-W.seq_eq, W.seq_put]
    intro c hc
    refine hK _ _ _ (sp_end q b3.k (ok.wr (by (and_intros <;> omega)) (by (and_intros <;> omega))) g.len (flt := [(p.1, "bad_block")]) ?_ rfl hc)
    refine form_bad g hl hb1 (fun j hj => by rw [mw_wr, if_neg hj]) (told_three (v := v) (by (and_intros <;> omega)) (by rw [mw_wr, if_pos rfl]; (and_intros <;> omega)) hv2)

theorem sp_2 {x s : Int} (hx : (x, s) ∈ frees 1024 bs) (tR : Lst L hp aP cR ((rowOf (cls s) (frees 1024 bs)).map .int)) (x0 x2 x3 x4 x9 : Option V) :
    (W.seq (W.ex (W.call D 296 (n + 3 + 4) [(W.v 1), (W.v 7), (W.comp (W.iter (W.v 8)) 1 [5] (W.one 0) (W.t (W.bin wNe (W.v 0) (W.v 1))) (W.v 0))])) (W.seq (W.ret (W.app wList [(W.app wTup [(W.v 5), (W.c (.str "not_listed"))])])) W.nil)) [x0, some (.ref L.aH), x2, x3, x4, some (.int x), some (.int s), some (.int (cls s)), some (.ref cR), x9] (L.put d fr hp) K := by
  have fl := g.flen61 hl
  have rl := rowOf_len (frees 1024 bs) (cls s)
  have hc := cls_range s
  simp [-W.seq_eq, W.seq_put, W.iter_eq, inner_eq]
  refine ⟨_, tR.get, ?_⟩
  refine compF (x := x) tR.get _ [] none (by simp; (and_intros <;> omega)) ?_
  have eSL : ([] : List V) ++ ((rowOf (cls s) (frees 1024 bs)).filter fun y => decide (y ≠ x)).map V.int = (spotsOf bs x s).map V.int := rfl
  rw [eSL]
  intro c hc0
  have p0 := Lay.put_none hc0
  rw [Lay.put_set p0.1 p0.2.1]
  have b0 := b.new (o := .list ((spotsOf bs x s).map .int)) hc0
  refine s_linked hD (n := n) (spots := spotsOf bs x s) b0.k ok g.len hc.1 hc.2 (Hp.set_self _ _ _) p0.1 p0.2.1 ?_ (fun y hy => by have := spots_at g hy; (and_intros <;> omega)) ?_
  · have := List.length_filter_le (fun y => decide (y ≠ x)) (rowOf (cls s) (frees 1024 bs))
    unfold spotsOf; (and_intros <;> omega)
  simp [-W.seq_eq, W.seq_put]
  intro c1 hc1
  refine hK _ _ _ (sp_end q b0.k (linkP_ok ok fun y hy => by have := spots_at g hy; (and_intros <;> omega)) (by rw [List.length_set]; exact g.len) (form2 g hl hx) rfl hc1)

theorem sp_7 {x s : Int} (hx : (x, s) ∈ frees 1024 bs) (x2 x3 x4 x6 x7 x8 x9 : Option V) :
    (W.seq (W.ex (W.meth D 238 "put_word" 221 (n + 3 + 4) (W.attr 108 "memory" (W.v 1)) [(W.v 5), (W.bin wIx (W.app wList [(W.c (.int 1)), (W.c (.int 9)), (W.c (.int 4001))]) (W.call D 263 (n + 3 + 4) [(W.v 0), (W.c (.int 3))]))])) (W.seq (W.ret (W.app wList [(W.app wTup [(W.v 5), (W.c (.str "bad_block"))])])) W.nil)) [some (.ref aP), some (.ref L.aH), x2, x3, x4, some (.int x), x6, x7, x8, x9] (L.put d fr hp) K := by
  have hxa := g.at_ _ hx
  simp only at hxa
  obtain ⟨bk, hb1, hb2, hb3⟩ := frees_addrs.mp hx
  simp [-W.seq_eq, W.seq_put]
  rw [b.k.f_memory]
  refine ⟨_, rfl, b.k.mem.o_put_word ▸ trivial, fun c2 hc2 => ?_⟩
  have p2 := Lay.put_none hc2
  rw [Lay.put_set p2.1 p2.2.1]
  have b2 := b.new (o := .list [.int 1, .int 9, .int 4001]) hc2
  refine b_pick hD (n := n + 2) b2 (by decide) (by decide) fun r2 us2 r20 r21 b3 => ?_
  have t2 := (Lst.mk' b hc2 (us := [.int 1, .int 9, .int 4001])).pick (o := .list us2)
  obtain ⟨v, hv1, hv2⟩ := three_ix (a := 1) (b := 9) (c := 4001) r20 r21
  rw [wIx_list t2.get]
  refine ⟨by simp; (and_intros <;> omega), _, hv1, ?_⟩
  refine s_put_word hD (n := n + 1) (a := x) b3.k.mem b3.k.atW ok (by (and_intros <;> omega)) (by (and_intros <;> omega)) ?_
  rw [b3.k.setW]
  simp [-W.seq_eq, W.seq_put]
  intro c hc
  refine hK _ _ _ (sp_end q b3.k (ok.wr (by (and_intros <;> omega)) (by (and_intros <;> omega))) g.len (flt := [(x, "bad_block")]) ?_ rfl hc)
  exact form_bad g hl hb1 (fun j hj => by rw [mw_wr, if_neg hj]) (told_odd (v := v) hxa.1 hl (by rw [mw_wr, if_pos rfl]; (and_intros <;> omega)) hv2)
end
end Mine

namespace Mine
open PySem PySem.W PyProof.Rows

section
variable {D : Wd} {P : Params} (hD : D.KF = HK P) {n : Nat} {hp : Hp} {Q : V → Hp → Prop} {L : Lay} {d : List (Int × V)} {fr : List Int} {aP aC : Addr} {cs : List Int} {bs : List Blk} {cT cB cR : Addr}
  (b : Bx L hp aP aC cs) (ok : DOk d) (g : Good (mw d) fr L.lim bs) (hl : L.lim ≤ 2000) (q : SP L Q) {K : Fl → Loc → Hp → Prop} (hK : ∀ v loc H, Q v H → K (.ret v) loc H)
include hD b ok g hl q hK
theorem sp_3 (hl2 : L.lim ≤ 1400) {x s : Int} (hx : (x, s) ∈ frees 1024 bs) (tR : Lst L hp aP cR ((rowOf (cls s) (frees 1024 bs)).map .int)) (x0 x2 x3 x4 x9 : Option V) :
    (W.seq (W.asg (W.one 9) (W.bin wMod (W.bin wAdd (W.v 7) (W.c (.int 1))) (W.c (.int 4)))) (W.seq (W.ex (W.call D 296 (n + 3 + 4) [(W.v 1), (W.v 7), (W.comp (W.iter (W.v 8)) 1 [5] (W.one 0) (W.t (W.bin wNe (W.v 0) (W.v 1))) (W.v 0))])) (W.seq (W.ex (W.call D 296 (n + 3 + 4) [(W.v 1), (W.v 9), (W.bin wAdd (W.call D 289 (n + 3 + 4) [(W.v 1), (W.v 9)]) (W.app wList [(W.v 5)]))])) (W.seq (W.ret (W.app wList [(W.app wTup [(W.v 5), (W.c (.str "wrong_list"))])])) W.nil)))) [x0, some (.ref L.aH), x2, x3, x4, some (.int x), some (.int s), some (.int (cls s)), some (.ref cR), x9] (L.put d fr hp) K := by
  have fl := g.flen61 hl
  have rl := rowOf_len (frees 1024 bs) (cls s)
  have hc := cls_range s
  have hxa := g.at_ _ hx
  simp only at hxa
  have hble := g.bl.le
  simp [-W.seq_eq, W.seq_put, W.iter_eq, inner_eq]
  refine ⟨_, tR.get, ?_⟩
  refine compF (x := x) tR.get _ [] none (by simp; (and_intros <;> omega)) ?_
  have eSL : ([] : List V) ++ ((rowOf (cls s) (frees 1024 bs)).filter fun y => decide (y ≠ x)).map V.int = (spotsOf bs x s).map V.int := rfl
  rw [eSL]
  intro c hc0
  have p0 := Lay.put_none hc0
  rw [Lay.put_set p0.1 p0.2.1]
  have b0 := b.new (o := .list ((spotsOf bs x s).map .int)) hc0
  refine s_linked hD (n := n) (spots := spotsOf bs x s) b0.k ok g.len hc.1 hc.2 (Hp.set_self _ _ _) p0.1 p0.2.1 ?_ (fun y hy => by have := spots_at g hy; (and_intros <;> omega)) ?_
  · have := List.length_filter_le (fun y => decide (y ≠ x)) (rowOf (cls s) (frees 1024 bs))
    unfold spotsOf; (and_intros <;> omega)
  have ok1 : DOk (linkP d (spotsOf bs x s)) := linkP_ok ok fun y hy => by have := spots_at g hy; (and_intros <;> omega)
  have ho : otherOf s = (cls s + 1) % 4 := rfl
  simp only [exq_none, sq_next, W.nil_eq, W.seq_eq, W.ex_eq, W.call_eq, W.args_cons, W.args_nil, W.vs, W.v0, W.bin_eq]
  rw [← ho]
  have hrl := rowOf_len (frees 1024 bs) (otherOf s)
  refine s_listed hD (n := n) b0.k ok1 (by rw [List.length_set]; exact g.len) (i := otherOf s) (by (and_intros <;> omega)) (by (and_intros <;> omega)) (form3_chain g hl hx _ rfl) ?_ (fun y hy => by have := row_at g hy; (and_intros <;> omega)) fun c1 hc1 => ?_
  · have := frees_len bs 1024
    (and_intros <;> omega)
  have p1 := Lay.put_none hc1
  have b1 := b0.new (o := .list ((rowOf (otherOf s) (frees 1024 bs)).map .int)) hc1
  simp only [W.app_eq, W.args_cons, W.args_nil, W.vs, W.v0, wList_eq]
  refine ⟨by simp, fun c2 hc2 => ?_⟩
  have p2 := Lay.put_none hc2
  rw [Lay.put_set p2.1 p2.2.1]
  have b2 := b1.new (o := .list [.int x]) hc2
  rw [wAdd_list (((Lst.mk' b0 hc1 (us := (rowOf (otherOf s) (frees 1024 bs)).map .int)).new (o := .list [.int x]) hc2).get) (Lst.mk' b1 hc2 (us := [.int x])).get]
  refine ⟨by simp; (and_intros <;> omega), fun c3 hc3 => ?_⟩
  have p3 := Lay.put_none hc3
  rw [Lay.put_set p3.1 p3.2.1]
  have eR : (rowOf (otherOf s) (frees 1024 bs)).map V.int ++ [.int x] = (rowOf (otherOf s) (frees 1024 bs) ++ [x]).map .int := by simp
  rw [eR]
  have Rat : ∀ y ∈ rowOf (otherOf s) (frees 1024 bs) ++ [x], 0 < y ∧ y < 8000 := fun y hy => by
    rcases List.mem_append.mp hy with h | h
    · have := row_at g h; (and_intros <;> omega)
    · rw [List.mem_singleton.mp h]; (and_intros <;> omega)
  have hRl : (rowOf (otherOf s) (frees 1024 bs) ++ [x]).length < 1000 := by simp; (and_intros <;> omega)
  generalize hRR : rowOf (otherOf s) (frees 1024 bs) ++ [x] = RR at *
  have b3 := b2.new (o := .list (RR.map .int)) hc3
  refine s_linked hD (n := n) (spots := RR) b3.k ok1 (by rw [List.length_set]; exact g.len) (i := otherOf s) (by (and_intros <;> omega)) (by (and_intros <;> omega)) (Hp.set_self _ _ _) p3.1 p3.2.1 hRl Rat ?_
  simp [-W.seq_eq, W.seq_put]
  intro c4 hc4
  exact hK _ _ _ (sp_end q b3.k (linkP_ok ok1 Rat) (by rw [List.length_set, List.length_set]; exact g.len) (form3 g hl hx _ rfl hRR.symm) rfl hc4)

theorem sp_4 {x s : Int} (hx : (x, s) ∈ frees 1024 bs) (tR : Lst L hp aP cR ((rowOf (cls s) (frees 1024 bs)).map .int)) (x0 x2 x3 x4 x9 : Option V) :
    (W.seq (W.ex (W.meth D 238 "put_word" 221 (n + 3 + 4) (W.attr 108 "memory" (W.v 1)) [(W.bin wAdd (W.v 5) (W.c (.int 4))), (W.v 5)])) (W.seq (W.ret (W.bin wAdd (W.app wList [(W.app wTup [(W.v 5), (W.c (.str "listed_twice"))])]) (W.comp (W.iter (W.app wSorted [(W.from (W.v 8) (W.bin wAdd (W.methB isL wIndex (W.v 8) [(W.v 5)]) (W.c (.int 1))))])) 1 [] (W.one 0) W.yes (W.app wTup [(W.v 0), (W.c (.str "not_listed"))])))) W.nil)) [x0, some (.ref L.aH), x2, x3, x4, some (.int x), some (.int s), some (.int (cls s)), some (.ref cR), x9] (L.put d fr hp) K := by
  have fl := g.flen61 hl
  have rl := rowOf_len (frees 1024 bs) (cls s)
  have hxa := g.at_ _ hx
  simp only at hxa
  simp [-W.seq_eq, W.seq_put]
  rw [b.k.f_memory]
  refine ⟨_, rfl, b.k.mem.o_put_word ▸ trivial, ?_⟩
  refine s_put_word hD (n := n + 1) (a := x + 4) b.k.mem b.k.atW ok (by (and_intros <;> omega)) (by (and_intros <;> omega)) ?_
  rw [b.k.setW]
  have ok1 : DOk (wr d (x + 4) x) := ok.wr (by (and_intros <;> omega)) (by (and_intros <;> omega))
  simp [-W.seq_eq, W.seq_put, W.iter_eq, inner_eq, W.from_eq]
  intro c1 hc1
  have p1 := Lay.put_none hc1
  rw [Lay.put_set p1.1 p1.2.1]
  have b1 := b.new (o := .list [.tup [.int x, .str "listed_twice"]]) hc1
  have t1 := tR.new (o := .list [.tup [.int x, .str "listed_twice"]]) hc1
  have a1 := Lst.mk' b hc1 (us := [.tup [.int x, .str "listed_twice"]])
  rw [isL_list t1.get, wIndex_list t1.get]
  refine ⟨trivial, by simp; (and_intros <;> omega), _, intsOf_map _, in_row g hl hx, ?_⟩
  simp [-W.seq_eq, W.seq_put]
  refine ⟨_, t1.get, ⟨by (and_intros <;> omega), by simp; (and_intros <;> omega)⟩, fun c2 hc2 => ?_⟩
  have p2 := Lay.put_none hc2
  rw [Lay.put_set p2.1 p2.2.1]
  have e2 : ((rowOf (cls s) (frees 1024 bs)).map V.int).drop ((rowOf (cls s) (frees 1024 bs)).idxOf x + 1) = (lostOf bs x s).map .int := by
    unfold lostOf
    rw [List.map_drop]
  rw [e2]
  have b2 := b1.new (o := .list ((lostOf bs x s).map .int)) hc2
  have a2 := a1.new (o := .list ((lostOf bs x s).map .int)) hc2
  have hll : (lostOf bs x s).length ≤ 61 := by
    unfold lostOf; rw [List.length_drop]; (and_intros <;> omega)
  have asc : (lostOf bs x s).Pairwise (· < ·) := (rowOf_nodup g.pw _).sublist (List.drop_sublist _ _)
  rw [wSorted_list (Lst.mk' b1 hc2 (us := (lostOf bs x s).map .int)).get]
  refine ⟨by simp; (and_intros <;> omega), _, intsOf_map _, fun ns hp1 hp2 c3 hc3 => ?_⟩
  have hns : ns = lostOf bs x s := perm_sorted_eq hp1 hp2 (asc.imp fun h => by (and_intros <;> omega))
  subst hns
  have p3 := Lay.put_none hc3
  rw [Lay.put_set p3.1 p3.2.1]
  have b3 := b2.new (o := .list ((lostOf bs x s).map .int)) hc3
  have a3 := a2.new (o := .list ((lostOf bs x s).map .int)) hc3
  have s3 := Lst.mk' b2 hc3 (us := (lostOf bs x s).map .int)
  refine ⟨_, rfl, _, s3.get, ?_⟩
  refine compN s3.get _ [] none (by simp; (and_intros <;> omega)) ?_
  intro c4 hc4
  have p4 := Lay.put_none hc4
  rw [Lay.put_set p4.1 p4.2.1]
  have b4 := b3.new (o := .list ([] ++ (lostOf bs x s).map fun b => fv (b, "not_listed"))) hc4
  have a4 := a3.new (o := .list ([] ++ (lostOf bs x s).map fun b => fv (b, "not_listed"))) hc4
  rw [wAdd_list a4.get (Lst.mk' b3 hc4 (us := ([] ++ (lostOf bs x s).map fun b => fv (b, "not_listed")))).get]
  refine ⟨by simp; (and_intros <;> omega), fun c5 hc5 => ?_⟩
  refine hK _ _ _ (sp_end q b4.k ok1 g.len (form4 g hl hx) ?_ hc5)
  simp [-W.seq_eq, W.seq_put, fv]

theorem sp_5 {x s : Int} (hx : (x, s) ∈ frees 1024 bs) (tR : Lst L hp aP cR ((rowOf (cls s) (frees 1024 bs)).map .int)) (tT : Lst L hp aP cT ((useds 1024 bs).map pv)) (hne : useds 1024 bs ≠ []) (x0 x2 x4 x5 x6 x9 : Option V) :
    (W.seq (W.setI wSetItem (W.attr 108 "free" (W.v 1)) (W.v 7) (W.bin wIx (W.bin wIx (W.v 3) (W.c (.int 0))) (W.c (.int 0)))) (W.seq (W.ret (W.bin wAdd (W.app wList [(W.app wTup [(W.bin wIx (W.bin wIx (W.v 3) (W.c (.int 0))) (W.c (.int 0))), (W.c (.str "not_free"))])]) (W.comp (W.iter (W.app wSorted [(W.v 8)])) 1 [] (W.one 0) W.yes (W.app wTup [(W.v 0), (W.c (.str "not_listed"))])))) W.nil)) [x0, some (.ref L.aH), x2, some (.ref cT), x4, x5, x6, some (.int (cls s)), some (.ref cR), x9] (L.put d fr hp) K := by
  have fl := g.flen61 hl
  have rl := rowOf_len (frees 1024 bs) (cls s)
  have hc := cls_range s
  have hlen := useds_len bs 1024
  have hble := g.bl.le
  obtain ⟨p, hp1, hp2⟩ := pairs_ix (us := useds 1024 bs) (r := 0) (Int.le_refl _) (by
    have : (useds 1024 bs).length ≠ 0 := fun e => hne (List.eq_nil_of_length_eq_zero e)
    (and_intros <;> omega))
  obtain ⟨bk, hb1, hb2, hb3⟩ := useds_addrs hp1
  have ixb : (((useds 1024 bs).map pv).length ≤ 100000 ∧ -(((useds 1024 bs).map pv).length : Int) ≤ 0) := by simp; (and_intros <;> omega)
  have ev : ∀ (H : Hp) (Q' : V → Hp → Prop), Lst L H aP cT ((useds 1024 bs).map pv) → ∀ fr', Q' (.int p.1) (L.put d fr' H) → wIx (.ref cT) (.int 0) (L.put d fr' H) fun u h₁ => wIx u (.int 0) h₁ Q' := fun H Q' t fr' h => by
    rw [wIx_list t.get]
    refine ⟨ixb, _, hp2, ?_⟩
    unfold pv
    rw [wIx_tup]
    exact ⟨by simp, _, rfl, h⟩
  simp [-W.seq_eq, W.seq_put]
  refine ev hp _ tT fr ?_
  refine ⟨_, b.k.f_free, ?_⟩
  rw [wSetItem_list b.k.atF]
  refine ⟨⟨hc.1, by simp [g.len]; exact hc.2, by simp [g.len]⟩, ?_⟩
  have e : (fr.map V.int).set (cls s).toNat (.int p.1) = (fr.set (cls s).toNat p.1).map .int := by rw [List.map_set]
  rw [e, b.k.setF]
  simp [-W.seq_eq, W.seq_put, W.iter_eq, inner_eq]
  refine ev hp _ tT _ ?_
  intro c1 hc1
  have p1 := Lay.put_none hc1
  rw [Lay.put_set p1.1 p1.2.1]
  have b1 := b.new (o := .list [.tup [.int p.1, .str "not_free"]]) hc1
  have t1 := tR.new (o := .list [.tup [.int p.1, .str "not_free"]]) hc1
  have a1 := Lst.mk' b hc1 (us := [.tup [.int p.1, .str "not_free"]])
  rw [wSorted_list t1.get]
  refine ⟨by simp; (and_intros <;> omega), _, intsOf_map _, fun ns hp1 hp2 c3 hc3 => ?_⟩
  have hns : ns = rowOf (cls s) (frees 1024 bs) := perm_sorted_eq hp1 hp2 ((rowOf_nodup g.pw _).imp fun h => by (and_intros <;> omega))
  subst hns
  have p3 := Lay.put_none hc3
  rw [Lay.put_set p3.1 p3.2.1]
  have b3 := b1.new (o := .list ((rowOf (cls s) (frees 1024 bs)).map .int)) hc3
  have a3 := a1.new (o := .list ((rowOf (cls s) (frees 1024 bs)).map .int)) hc3
  have s3 := Lst.mk' b1 hc3 (us := (rowOf (cls s) (frees 1024 bs)).map .int)
  refine ⟨_, rfl, _, s3.get, ?_⟩
  refine compN s3.get _ [] none (by simp; (and_intros <;> omega)) ?_
  intro c4 hc4
  have p4 := Lay.put_none hc4
  rw [Lay.put_set p4.1 p4.2.1]
  have b4 := b3.new (o := .list ([] ++ (rowOf (cls s) (frees 1024 bs)).map fun b => fv (b, "not_listed"))) hc4
  have a4 := a3.new (o := .list ([] ++ (rowOf (cls s) (frees 1024 bs)).map fun b => fv (b, "not_listed"))) hc4
  rw [wAdd_list a4.get (Lst.mk' b3 hc4 (us := ([] ++ (rowOf (cls s) (frees 1024 bs)).map fun b => fv (b, "not_listed")))).get]
  refine ⟨by simp; (and_intros <;> omega), fun c5 hc5 => ?_⟩
  refine hK _ _ _ (sp_end q b4.k ok (by rw [List.length_set]; exact g.len) (form5 g hl hx hb1 hb2) ?_ hc5)
  simp [-W.seq_eq, W.seq_put, fv]

theorem sp_6 {x s : Int} (hx : (x, s) ∈ frees 1024 bs) (h16 : 16 < s) (tR : Lst L hp aP cR ((rowOf (cls s) (frees 1024 bs)).map .int)) (x0 x2 x3 x4 x9 : Option V) :
    (W.seq (W.ex (W.call D 296 (n + 3 + 4) [(W.v 1), (W.v 7), (W.comp (W.iter (W.v 8)) 1 [5] (W.one 0) (W.t (W.bin wNe (W.v 0) (W.v 1))) (W.v 0))])) (W.seq (W.ex (W.meth D 108 "put_free" 56 (n + 3 + 4) (W.v 1) [(W.v 5), (W.c (.int 16))])) (W.seq (W.ex (W.meth D 108 "put_free" 56 (n + 3 + 4) (W.v 1) [(W.bin wAdd (W.v 5) (W.c (.int 16))), (W.bin wSub (W.v 6) (W.c (.int 16)))])) (W.seq (W.ret (W.app wList [(W.app wTup [(W.bin wAdd (W.v 5) (W.c (.int 16))), (W.c (.str "not_joined"))])])) W.nil)))) [x0, some (.ref L.aH), x2, x3, x4, some (.int x), some (.int s), some (.int (cls s)), some (.ref cR), x9] (L.put d fr hp) K := by
  have fl := g.flen61 hl
  have rl := rowOf_len (frees 1024 bs) (cls s)
  have hc := cls_range s
  have hxa := g.at_ _ hx
  simp only at hxa
  simp [-W.seq_eq, W.seq_put, W.iter_eq, inner_eq]
  refine ⟨_, tR.get, ?_⟩
  refine compF (x := x) tR.get _ [] none (by simp; (and_intros <;> omega)) ?_
  have eSL : ([] : List V) ++ ((rowOf (cls s) (frees 1024 bs)).filter fun y => decide (y ≠ x)).map V.int = (spotsOf bs x s).map V.int := rfl
  rw [eSL]
  intro c hc0
  have p0 := Lay.put_none hc0
  rw [Lay.put_set p0.1 p0.2.1]
  have b0 := b.new (o := .list ((spotsOf bs x s).map .int)) hc0
  refine s_linked hD (n := n) (spots := spotsOf bs x s) b0.k ok g.len hc.1 hc.2 (Hp.set_self _ _ _) p0.1 p0.2.1 ?_ (fun y hy => by have := spots_at g hy; (and_intros <;> omega)) ?_
  · have := List.length_filter_le (fun y => decide (y ≠ x)) (rowOf (cls s) (frees 1024 bs))
    unfold spotsOf; (and_intros <;> omega)
  have ok1 : DOk (linkP d (spotsOf bs x s)) := linkP_ok ok fun y hy => by have := spots_at g hy; (and_intros <;> omega)
  have l1 : (fr.set (cls s).toNat (hd0 (spotsOf bs x s))).length = 4 := by rw [List.length_set]; exact g.len
  simp [-W.seq_eq, W.seq_put, b0.k.o_put_free]
  refine s_put_free hD (n := n) b0.k ok1 l1 (b := x) (s := 16) (by (and_intros <;> omega)) (by (and_intros <;> omega)) ?_
  have ok2 : DOk (pfd (linkP d (spotsOf bs x s)) (fr.set (cls s).toNat (hd0 (spotsOf bs x s))) x 16) := (ok1.wr (by (and_intros <;> omega)) (by (and_intros <;> omega))).wr (by (and_intros <;> omega)) (by (and_intros <;> omega))
  simp [-W.seq_eq, W.seq_put]
  refine ⟨b0.k.o_put_free ▸ trivial, ?_⟩
  refine s_put_free hD (n := n) b0.k ok2 (by unfold pff; rw [List.length_set]; exact l1) (b := x + 16) (s := s - 16) (by (and_intros <;> omega)) (by (and_intros <;> omega)) ?_
  simp [-W.seq_eq, W.seq_put]
  intro c1 hc1
  exact hK _ _ _ (sp_end q b0.k ((ok2.wr (by (and_intros <;> omega)) (by (and_intros <;> omega))).wr (by (and_intros <;> omega)) (by (and_intros <;> omega))) (by unfold pff; rw [List.length_set, List.length_set]; exact l1) (form6 g hl hx h16 rfl rfl) rfl hc1)
end
end Mine

namespace Mine
open PySem PySem.W PyProof.Rows

section
variable {D : Wd} {P : Params} (hD : D.KF = HK P) {n : Nat} {hp : Hp} {Q : V → Hp → Prop} {L : Lay} {d : List (Int × V)} {fr : List Int} {aP aC : Addr} {cs : List Int} {bs : List Blk} {cT cB cR : Addr}
  (b : Bx L hp aP aC cs) (ok : DOk d) (g : Good (mw d) fr L.lim bs) (hl2 : L.lim ≤ 1400) (q : SP L Q)
include hD b ok g hl2 q
theorem sp_B6 {x s : Int} (hx : (x, s) ∈ frees 1024 bs) (tR : Lst L hp aP cR ((rowOf (cls s) (frees 1024 bs)).map .int)) (form : Int) (x3 x4 x9 : Option V) :
    (W.seq (W.ifs (W.and [(W.t (W.bin wEq (W.v 2) (W.c (.int 6)))), (W.t (W.bin wGt (W.v 6) (W.c (.int 16))))]) (W.seq (W.ex (W.call D 296 (n + 3 + 4) [(W.v 1), (W.v 7), (W.comp (W.iter (W.v 8)) 1 [5] (W.one 0) (W.t (W.bin wNe (W.v 0) (W.v 1))) (W.v 0))])) (W.seq (W.ex (W.meth D 108 "put_free" 56 (n + 3 + 4) (W.v 1) [(W.v 5), (W.c (.int 16))])) (W.seq (W.ex (W.meth D 108 "put_free" 56 (n + 3 + 4) (W.v 1) [(W.bin wAdd (W.v 5) (W.c (.int 16))), (W.bin wSub (W.v 6) (W.c (.int 16)))])) (W.seq (W.ret (W.app wList [(W.app wTup [(W.bin wAdd (W.v 5) (W.c (.int 16))), (W.c (.str "not_joined"))])])) W.nil)))) W.nil) (W.seq (W.ex (W.meth D 238 "put_word" 221 (n + 3 + 4) (W.attr 108 "memory" (W.v 1)) [(W.v 5), (W.bin wIx (W.app wList [(W.c (.int 1)), (W.c (.int 9)), (W.c (.int 4001))]) (W.call D 263 (n + 3 + 4) [(W.v 0), (W.c (.int 3))]))])) (W.seq (W.ret (W.app wList [(W.app wTup [(W.v 5), (W.c (.str "bad_block"))])])) W.nil))) [some (.ref aP), some (.ref L.aH), some (.int form), x3, x4, some (.int x), some (.int s), some (.int (cls s)), some (.ref cR), x9] (L.put d fr hp) (bodyPost Q) := by
  have hl : L.lim ≤ 2000 := by (and_intros <;> omega)
  have s7 := sp_7 hD (n := n) b ok g hl q (K := bodyPost Q) (fun _ _ _ h => h) hx (some (.int form)) x3 x4 (some (.int s)) (some (.int (cls s))) (some (.ref cR)) x9
  have s6 := fun h16 => sp_6 hD (n := n) b ok g hl q (K := sq ((W.seq (W.ex (W.meth D 238 "put_word" 221 (n + 3 + 4) (W.attr 108 "memory" (W.v 1)) [(W.v 5), (W.bin wIx (W.app wList [(W.c (.int 1)), (W.c (.int 9)), (W.c (.int 4001))]) (W.call D 263 (n + 3 + 4) [(W.v 0), (W.c (.int 3))]))])) (W.seq (W.ret (W.app wList [(W.app wTup [(W.v 5), (W.c (.str "bad_block"))])])) W.nil))) (bodyPost Q)) (fun _ _ _ h => h) hx h16 tR (some (.ref aP)) (some (.int form)) x3 x4 x9
  rw [W.seq_eq, W.ifs_eq]
  generalize (W.seq (W.ex (W.call D 296 (n + 3 + 4) [(W.v 1), (W.v 7), (W.comp (W.iter (W.v 8)) 1 [5] (W.one 0) (W.t (W.bin wNe (W.v 0) (W.v 1))) (W.v 0))])) (W.seq (W.ex (W.meth D 108 "put_free" 56 (n + 3 + 4) (W.v 1) [(W.v 5), (W.c (.int 16))])) (W.seq (W.ex (W.meth D 108 "put_free" 56 (n + 3 + 4) (W.v 1) [(W.bin wAdd (W.v 5) (W.c (.int 16))), (W.bin wSub (W.v 6) (W.c (.int 16)))])) (W.seq (W.ret (W.app wList [(W.app wTup [(W.bin wAdd (W.v 5) (W.c (.int 16))), (W.c (.str "not_joined"))])])) W.nil)))) = X6 at s6 ⊢
  generalize (W.seq (W.ex (W.meth D 238 "put_word" 221 (n + 3 + 4) (W.attr 108 "memory" (W.v 1)) [(W.v 5), (W.bin wIx (W.app wList [(W.c (.int 1)), (W.c (.int 9)), (W.c (.int 4001))]) (W.call D 263 (n + 3 + 4) [(W.v 0), (W.c (.int 3))]))])) (W.seq (W.ret (W.app wList [(W.app wTup [(W.v 5), (W.c (.str "bad_block"))])])) W.nil)) = X7 at s6 s7 ⊢
  simp [-W.seq_eq, W.seq_put]
  exact ⟨fun _ => ⟨fun h => s6 h, fun _ => s7⟩, fun _ => s7⟩
theorem sp_B5 {x s : Int} (hx : (x, s) ∈ frees 1024 bs) (tR : Lst L hp aP cR ((rowOf (cls s) (frees 1024 bs)).map .int)) (tT : Lst L hp aP cT ((useds 1024 bs).map pv)) (form : Int) (x4 x9 : Option V) :
    (W.seq (W.ifs (W.and [(W.t (W.bin wEq (W.v 2) (W.c (.int 5)))), (W.t (W.bin wNe (W.v 3) (W.app wList [])))]) (W.seq (W.setI wSetItem (W.attr 108 "free" (W.v 1)) (W.v 7) (W.bin wIx (W.bin wIx (W.v 3) (W.c (.int 0))) (W.c (.int 0)))) (W.seq (W.ret (W.bin wAdd (W.app wList [(W.app wTup [(W.bin wIx (W.bin wIx (W.v 3) (W.c (.int 0))) (W.c (.int 0))), (W.c (.str "not_free"))])]) (W.comp (W.iter (W.app wSorted [(W.v 8)])) 1 [] (W.one 0) W.yes (W.app wTup [(W.v 0), (W.c (.str "not_listed"))])))) W.nil)) W.nil) (W.seq (W.ifs (W.and [(W.t (W.bin wEq (W.v 2) (W.c (.int 6)))), (W.t (W.bin wGt (W.v 6) (W.c (.int 16))))]) (W.seq (W.ex (W.call D 296 (n + 3 + 4) [(W.v 1), (W.v 7), (W.comp (W.iter (W.v 8)) 1 [5] (W.one 0) (W.t (W.bin wNe (W.v 0) (W.v 1))) (W.v 0))])) (W.seq (W.ex (W.meth D 108 "put_free" 56 (n + 3 + 4) (W.v 1) [(W.v 5), (W.c (.int 16))])) (W.seq (W.ex (W.meth D 108 "put_free" 56 (n + 3 + 4) (W.v 1) [(W.bin wAdd (W.v 5) (W.c (.int 16))), (W.bin wSub (W.v 6) (W.c (.int 16)))])) (W.seq (W.ret (W.app wList [(W.app wTup [(W.bin wAdd (W.v 5) (W.c (.int 16))), (W.c (.str "not_joined"))])])) W.nil)))) W.nil) (W.seq (W.ex (W.meth D 238 "put_word" 221 (n + 3 + 4) (W.attr 108 "memory" (W.v 1)) [(W.v 5), (W.bin wIx (W.app wList [(W.c (.int 1)), (W.c (.int 9)), (W.c (.int 4001))]) (W.call D 263 (n + 3 + 4) [(W.v 0), (W.c (.int 3))]))])) (W.seq (W.ret (W.app wList [(W.app wTup [(W.v 5), (W.c (.str "bad_block"))])])) W.nil)))) [some (.ref aP), some (.ref L.aH), some (.int form), some (.ref cT), x4, some (.int x), some (.int s), some (.int (cls s)), some (.ref cR), x9] (L.put d fr hp) (bodyPost Q) := by
  have hl : L.lim ≤ 2000 := by (and_intros <;> omega)
  have s6 := sp_B6 hD (n := n) b ok g hl2 q hx tR form (some (.ref cT)) x4 x9
  have s6' : ∀ c, L.put d fr hp c = none → _ := fun c hc => sp_B6 hD (n := n) (b.new (o := .list []) hc) ok g hl2 q hx (tR.new (o := .list []) hc) form (some (.ref cT)) x4 x9
  have s5' := fun hne c (hc : L.put d fr hp c = none) => sp_5 hD (b.new (o := .list []) hc) ok g hl q (K := sq ((W.seq (W.ifs (W.and [(W.t (W.bin wEq (W.v 2) (W.c (.int 6)))), (W.t (W.bin wGt (W.v 6) (W.c (.int 16))))]) (W.seq (W.ex (W.call D 296 (n + 3 + 4) [(W.v 1), (W.v 7), (W.comp (W.iter (W.v 8)) 1 [5] (W.one 0) (W.t (W.bin wNe (W.v 0) (W.v 1))) (W.v 0))])) (W.seq (W.ex (W.meth D 108 "put_free" 56 (n + 3 + 4) (W.v 1) [(W.v 5), (W.c (.int 16))])) (W.seq (W.ex (W.meth D 108 "put_free" 56 (n + 3 + 4) (W.v 1) [(W.bin wAdd (W.v 5) (W.c (.int 16))), (W.bin wSub (W.v 6) (W.c (.int 16)))])) (W.seq (W.ret (W.app wList [(W.app wTup [(W.bin wAdd (W.v 5) (W.c (.int 16))), (W.c (.str "not_joined"))])])) W.nil)))) W.nil) (W.seq (W.ex (W.meth D 238 "put_word" 221 (n + 3 + 4) (W.attr 108 "memory" (W.v 1)) [(W.v 5), (W.bin wIx (W.app wList [(W.c (.int 1)), (W.c (.int 9)), (W.c (.int 4001))]) (W.call D 263 (n + 3 + 4) [(W.v 0), (W.c (.int 3))]))])) (W.seq (W.ret (W.app wList [(W.app wTup [(W.v 5), (W.c (.str "bad_block"))])])) W.nil)))) (bodyPost Q)) (fun _ _ _ h => h) hx (tR.new (o := .list []) hc) (tT.new (o := .list []) hc) hne (some (.ref aP)) (some (.int form)) x4 (some (.int x)) (some (.int s)) x9
  rw [W.seq_eq, W.ifs_eq]
  generalize (W.seq (W.setI wSetItem (W.attr 108 "free" (W.v 1)) (W.v 7) (W.bin wIx (W.bin wIx (W.v 3) (W.c (.int 0))) (W.c (.int 0)))) (W.seq (W.ret (W.bin wAdd (W.app wList [(W.app wTup [(W.bin wIx (W.bin wIx (W.v 3) (W.c (.int 0))) (W.c (.int 0))), (W.c (.str "not_free"))])]) (W.comp (W.iter (W.app wSorted [(W.v 8)])) 1 [] (W.one 0) W.yes (W.app wTup [(W.v 0), (W.c (.str "not_listed"))])))) W.nil)) = X5 at s5' ⊢
  generalize (W.seq (W.ifs (W.and [(W.t (W.bin wEq (W.v 2) (W.c (.int 6)))), (W.t (W.bin wGt (W.v 6) (W.c (.int 16))))]) (W.seq (W.ex (W.call D 296 (n + 3 + 4) [(W.v 1), (W.v 7), (W.comp (W.iter (W.v 8)) 1 [5] (W.one 0) (W.t (W.bin wNe (W.v 0) (W.v 1))) (W.v 0))])) (W.seq (W.ex (W.meth D 108 "put_free" 56 (n + 3 + 4) (W.v 1) [(W.v 5), (W.c (.int 16))])) (W.seq (W.ex (W.meth D 108 "put_free" 56 (n + 3 + 4) (W.v 1) [(W.bin wAdd (W.v 5) (W.c (.int 16))), (W.bin wSub (W.v 6) (W.c (.int 16)))])) (W.seq (W.ret (W.app wList [(W.app wTup [(W.bin wAdd (W.v 5) (W.c (.int 16))), (W.c (.str "not_joined"))])])) W.nil)))) W.nil) (W.seq (W.ex (W.meth D 238 "put_word" 221 (n + 3 + 4) (W.attr 108 "memory" (W.v 1)) [(W.v 5), (W.bin wIx (W.app wList [(W.c (.int 1)), (W.c (.int 9)), (W.c (.int 4001))]) (W.call D 263 (n + 3 + 4) [(W.v 0), (W.c (.int 3))]))])) (W.seq (W.ret (W.app wList [(W.app wTup [(W.v 5), (W.c (.str "bad_block"))])])) W.nil))) = X6 at s5' s6 s6' ⊢
  simp [-W.seq_eq, W.seq_put]
  refine ⟨fun _ c hc => ?_, fun _ => s6⟩
  have p0 := Lay.put_none hc
  rw [Lay.put_set p0.1 p0.2.1]
  rw [wNe_list (tT.new (o := .list []) hc).get (Lst.mk' b hc).get]
  refine ⟨dat_pv _, rfl, ?_⟩
  rw [eqL_nil]
  simp [-W.seq_eq, W.seq_put]
  exact ⟨fun h => s5' h c hc, fun _ => s6' c hc⟩
theorem sp_B {x s : Int} (hx : (x, s) ∈ frees 1024 bs) (tR : Lst L hp aP cR ((rowOf (cls s) (frees 1024 bs)).map .int)) (tT : Lst L hp aP cT ((useds 1024 bs).map pv)) (form : Int) (x4 x9 : Option V) :
    (W.seq (W.ifs (W.t (W.bin wEq (W.v 2) (W.c (.int 2)))) (W.seq (W.ex (W.call D 296 (n + 3 + 4) [(W.v 1), (W.v 7), (W.comp (W.iter (W.v 8)) 1 [5] (W.one 0) (W.t (W.bin wNe (W.v 0) (W.v 1))) (W.v 0))])) (W.seq (W.ret (W.app wList [(W.app wTup [(W.v 5), (W.c (.str "not_listed"))])])) W.nil)) W.nil) (W.seq (W.ifs (W.t (W.bin wEq (W.v 2) (W.c (.int 3)))) (W.seq (W.asg (W.one 9) (W.bin wMod (W.bin wAdd (W.v 7) (W.c (.int 1))) (W.c (.int 4)))) (W.seq (W.ex (W.call D 296 (n + 3 + 4) [(W.v 1), (W.v 7), (W.comp (W.iter (W.v 8)) 1 [5] (W.one 0) (W.t (W.bin wNe (W.v 0) (W.v 1))) (W.v 0))])) (W.seq (W.ex (W.call D 296 (n + 3 + 4) [(W.v 1), (W.v 9), (W.bin wAdd (W.call D 289 (n + 3 + 4) [(W.v 1), (W.v 9)]) (W.app wList [(W.v 5)]))])) (W.seq (W.ret (W.app wList [(W.app wTup [(W.v 5), (W.c (.str "wrong_list"))])])) W.nil)))) W.nil) (W.seq (W.ifs (W.t (W.bin wEq (W.v 2) (W.c (.int 4)))) (W.seq (W.ex (W.meth D 238 "put_word" 221 (n + 3 + 4) (W.attr 108 "memory" (W.v 1)) [(W.bin wAdd (W.v 5) (W.c (.int 4))), (W.v 5)])) (W.seq (W.ret (W.bin wAdd (W.app wList [(W.app wTup [(W.v 5), (W.c (.str "listed_twice"))])]) (W.comp (W.iter (W.app wSorted [(W.from (W.v 8) (W.bin wAdd (W.methB isL wIndex (W.v 8) [(W.v 5)]) (W.c (.int 1))))])) 1 [] (W.one 0) W.yes (W.app wTup [(W.v 0), (W.c (.str "not_listed"))])))) W.nil)) W.nil) (W.seq (W.ifs (W.and [(W.t (W.bin wEq (W.v 2) (W.c (.int 5)))), (W.t (W.bin wNe (W.v 3) (W.app wList [])))]) (W.seq (W.setI wSetItem (W.attr 108 "free" (W.v 1)) (W.v 7) (W.bin wIx (W.bin wIx (W.v 3) (W.c (.int 0))) (W.c (.int 0)))) (W.seq (W.ret (W.bin wAdd (W.app wList [(W.app wTup [(W.bin wIx (W.bin wIx (W.v 3) (W.c (.int 0))) (W.c (.int 0))), (W.c (.str "not_free"))])]) (W.comp (W.iter (W.app wSorted [(W.v 8)])) 1 [] (W.one 0) W.yes (W.app wTup [(W.v 0), (W.c (.str "not_listed"))])))) W.nil)) W.nil) (W.seq (W.ifs (W.and [(W.t (W.bin wEq (W.v 2) (W.c (.int 6)))), (W.t (W.bin wGt (W.v 6) (W.c (.int 16))))]) (W.seq (W.ex (W.call D 296 (n + 3 + 4) [(W.v 1), (W.v 7), (W.comp (W.iter (W.v 8)) 1 [5] (W.one 0) (W.t (W.bin wNe (W.v 0) (W.v 1))) (W.v 0))])) (W.seq (W.ex (W.meth D 108 "put_free" 56 (n + 3 + 4) (W.v 1) [(W.v 5), (W.c (.int 16))])) (W.seq (W.ex (W.meth D 108 "put_free" 56 (n + 3 + 4) (W.v 1) [(W.bin wAdd (W.v 5) (W.c (.int 16))), (W.bin wSub (W.v 6) (W.c (.int 16)))])) (W.seq (W.ret (W.app wList [(W.app wTup [(W.bin wAdd (W.v 5) (W.c (.int 16))), (W.c (.str "not_joined"))])])) W.nil)))) W.nil) (W.seq (W.ex (W.meth D 238 "put_word" 221 (n + 3 + 4) (W.attr 108 "memory" (W.v 1)) [(W.v 5), (W.bin wIx (W.app wList [(W.c (.int 1)), (W.c (.int 9)), (W.c (.int 4001))]) (W.call D 263 (n + 3 + 4) [(W.v 0), (W.c (.int 3))]))])) (W.seq (W.ret (W.app wList [(W.app wTup [(W.v 5), (W.c (.str "bad_block"))])])) W.nil))))))) [some (.ref aP), some (.ref L.aH), some (.int form), some (.ref cT), x4, some (.int x), some (.int s), some (.int (cls s)), some (.ref cR), x9] (L.put d fr hp) (bodyPost Q) := by
  have hl : L.lim ≤ 2000 := by (and_intros <;> omega)
  have s2 := fun K hK => sp_2 hD (n := n) (K := K) b ok g hl q hK hx tR (some (.ref aP)) (some (.int form)) (some (.ref cT)) x4 x9
  have s3 := fun K hK => sp_3 hD (n := n) (K := K) b ok g hl q hK hl2 hx tR (some (.ref aP)) (some (.int form)) (some (.ref cT)) x4 x9
  have s4 := fun K hK => sp_4 hD (n := n) (K := K) b ok g hl q hK hx tR (some (.ref aP)) (some (.int form)) (some (.ref cT)) x4 x9
  have s5 := sp_B5 hD (n := n) b ok g hl2 q hx tR tT form x4 x9
  generalize (W.seq (W.ex (W.call D 296 (n + 3 + 4) [(W.v 1), (W.v 7), (W.comp (W.iter (W.v 8)) 1 [5] (W.one 0) (W.t (W.bin wNe (W.v 0) (W.v 1))) (W.v 0))])) (W.seq (W.ret (W.app wList [(W.app wTup [(W.v 5), (W.c (.str "not_listed"))])])) W.nil)) = X2 at s2 ⊢
  generalize (W.seq (W.asg (W.one 9) (W.bin wMod (W.bin wAdd (W.v 7) (W.c (.int 1))) (W.c (.int 4)))) (W.seq (W.ex (W.call D 296 (n + 3 + 4) [(W.v 1), (W.v 7), (W.comp (W.iter (W.v 8)) 1 [5] (W.one 0) (W.t (W.bin wNe (W.v 0) (W.v 1))) (W.v 0))])) (W.seq (W.ex (W.call D 296 (n + 3 + 4) [(W.v 1), (W.v 9), (W.bin wAdd (W.call D 289 (n + 3 + 4) [(W.v 1), (W.v 9)]) (W.app wList [(W.v 5)]))])) (W.seq (W.ret (W.app wList [(W.app wTup [(W.v 5), (W.c (.str "wrong_list"))])])) W.nil)))) = X3 at s3 ⊢
  generalize (W.seq (W.ex (W.meth D 238 "put_word" 221 (n + 3 + 4) (W.attr 108 "memory" (W.v 1)) [(W.bin wAdd (W.v 5) (W.c (.int 4))), (W.v 5)])) (W.seq (W.ret (W.bin wAdd (W.app wList [(W.app wTup [(W.v 5), (W.c (.str "listed_twice"))])]) (W.comp (W.iter (W.app wSorted [(W.from (W.v 8) (W.bin wAdd (W.methB isL wIndex (W.v 8) [(W.v 5)]) (W.c (.int 1))))])) 1 [] (W.one 0) W.yes (W.app wTup [(W.v 0), (W.c (.str "not_listed"))])))) W.nil)) = X4 at s4 ⊢
  generalize (W.seq (W.ifs (W.and [(W.t (W.bin wEq (W.v 2) (W.c (.int 5)))), (W.t (W.bin wNe (W.v 3) (W.app wList [])))]) (W.seq (W.setI wSetItem (W.attr 108 "free" (W.v 1)) (W.v 7) (W.bin wIx (W.bin wIx (W.v 3) (W.c (.int 0))) (W.c (.int 0)))) (W.seq (W.ret (W.bin wAdd (W.app wList [(W.app wTup [(W.bin wIx (W.bin wIx (W.v 3) (W.c (.int 0))) (W.c (.int 0))), (W.c (.str "not_free"))])]) (W.comp (W.iter (W.app wSorted [(W.v 8)])) 1 [] (W.one 0) W.yes (W.app wTup [(W.v 0), (W.c (.str "not_listed"))])))) W.nil)) W.nil) (W.seq (W.ifs (W.and [(W.t (W.bin wEq (W.v 2) (W.c (.int 6)))), (W.t (W.bin wGt (W.v 6) (W.c (.int 16))))]) (W.seq (W.ex (W.call D 296 (n + 3 + 4) [(W.v 1), (W.v 7), (W.comp (W.iter (W.v 8)) 1 [5] (W.one 0) (W.t (W.bin wNe (W.v 0) (W.v 1))) (W.v 0))])) (W.seq (W.ex (W.meth D 108 "put_free" 56 (n + 3 + 4) (W.v 1) [(W.v 5), (W.c (.int 16))])) (W.seq (W.ex (W.meth D 108 "put_free" 56 (n + 3 + 4) (W.v 1) [(W.bin wAdd (W.v 5) (W.c (.int 16))), (W.bin wSub (W.v 6) (W.c (.int 16)))])) (W.seq (W.ret (W.app wList [(W.app wTup [(W.bin wAdd (W.v 5) (W.c (.int 16))), (W.c (.str "not_joined"))])])) W.nil)))) W.nil) (W.seq (W.ex (W.meth D 238 "put_word" 221 (n + 3 + 4) (W.attr 108 "memory" (W.v 1)) [(W.v 5), (W.bin wIx (W.app wList [(W.c (.int 1)), (W.c (.int 9)), (W.c (.int 4001))]) (W.call D 263 (n + 3 + 4) [(W.v 0), (W.c (.int 3))]))])) (W.seq (W.ret (W.app wList [(W.app wTup [(W.v 5), (W.c (.str "bad_block"))])])) W.nil)))) = X5 at s5 ⊢
  simp [-W.seq_eq, W.seq_put]
  refine ⟨fun _ => s2 _ fun _ _ _ h => h, fun _ => ⟨fun _ => s3 _ fun _ _ _ h => h, fun _ => ⟨fun _ => s4 _ fun _ _ _ h => h, fun _ => s5⟩⟩⟩
theorem s_spoiled (tT : Lst L hp aP cT ((useds 1024 bs).map pv)) (tB : Lst L hp aP cB ((frees 1024 bs).map pv)) (form : Int) : Calls D 301 (n + 8) [.ref aP, .ref L.aH, .int form, .ref cT, .ref cB] (L.put d fr hp) Q := by
  have hl : L.lim ≤ 2000 := by (and_intros <;> omega)
  have fl := g.flen61 hl
  have hble := g.bl.le
  refine c_law_spoiled hD (n := n + 3) rfl ?_
  have sA := fun K hK => sp_A hD (n := n) (K := K) b ok g hl q hK tT form (some (.ref cB)) none none none none none
  have sA' := fun K hK c (hc : L.put d fr hp c = none) => sp_A hD (n := n) (K := K) (b.new (o := .list []) hc) ok g hl q hK (tT.new (o := .list []) hc) form (some (.ref cB)) none none none none none
  have sB : ∀ c, L.put d fr hp c = none → frees 1024 bs ≠ [] → (W.seq (W.asg (W.many [5, 6]) (W.bin wIx (W.v 4) (W.call D 263 (n + 3 + 4) [(W.v 0), (W.app wLen [(W.v 4)])]))) (W.seq (W.asg (W.one 7) (W.call D 35 (n + 3 + 4) [(W.v 6)])) (W.seq (W.asg (W.one 8) (W.call D 289 (n + 3 + 4) [(W.v 1), (W.v 7)])) (W.seq (W.ifs (W.t (W.bin wEq (W.v 2) (W.c (.int 2)))) (W.seq (W.ex (W.call D 296 (n + 3 + 4) [(W.v 1), (W.v 7), (W.comp (W.iter (W.v 8)) 1 [5] (W.one 0) (W.t (W.bin wNe (W.v 0) (W.v 1))) (W.v 0))])) (W.seq (W.ret (W.app wList [(W.app wTup [(W.v 5), (W.c (.str "not_listed"))])])) W.nil)) W.nil) (W.seq (W.ifs (W.t (W.bin wEq (W.v 2) (W.c (.int 3)))) (W.seq (W.asg (W.one 9) (W.bin wMod (W.bin wAdd (W.v 7) (W.c (.int 1))) (W.c (.int 4)))) (W.seq (W.ex (W.call D 296 (n + 3 + 4) [(W.v 1), (W.v 7), (W.comp (W.iter (W.v 8)) 1 [5] (W.one 0) (W.t (W.bin wNe (W.v 0) (W.v 1))) (W.v 0))])) (W.seq (W.ex (W.call D 296 (n + 3 + 4) [(W.v 1), (W.v 9), (W.bin wAdd (W.call D 289 (n + 3 + 4) [(W.v 1), (W.v 9)]) (W.app wList [(W.v 5)]))])) (W.seq (W.ret (W.app wList [(W.app wTup [(W.v 5), (W.c (.str "wrong_list"))])])) W.nil)))) W.nil) (W.seq (W.ifs (W.t (W.bin wEq (W.v 2) (W.c (.int 4)))) (W.seq (W.ex (W.meth D 238 "put_word" 221 (n + 3 + 4) (W.attr 108 "memory" (W.v 1)) [(W.bin wAdd (W.v 5) (W.c (.int 4))), (W.v 5)])) (W.seq (W.ret (W.bin wAdd (W.app wList [(W.app wTup [(W.v 5), (W.c (.str "listed_twice"))])]) (W.comp (W.iter (W.app wSorted [(W.from (W.v 8) (W.bin wAdd (W.methB isL wIndex (W.v 8) [(W.v 5)]) (W.c (.int 1))))])) 1 [] (W.one 0) W.yes (W.app wTup [(W.v 0), (W.c (.str "not_listed"))])))) W.nil)) W.nil) (W.seq (W.ifs (W.and [(W.t (W.bin wEq (W.v 2) (W.c (.int 5)))), (W.t (W.bin wNe (W.v 3) (W.app wList [])))]) (W.seq (W.setI wSetItem (W.attr 108 "free" (W.v 1)) (W.v 7) (W.bin wIx (W.bin wIx (W.v 3) (W.c (.int 0))) (W.c (.int 0)))) (W.seq (W.ret (W.bin wAdd (W.app wList [(W.app wTup [(W.bin wIx (W.bin wIx (W.v 3) (W.c (.int 0))) (W.c (.int 0))), (W.c (.str "not_free"))])]) (W.comp (W.iter (W.app wSorted [(W.v 8)])) 1 [] (W.one 0) W.yes (W.app wTup [(W.v 0), (W.c (.str "not_listed"))])))) W.nil)) W.nil) (W.seq (W.ifs (W.and [(W.t (W.bin wEq (W.v 2) (W.c (.int 6)))), (W.t (W.bin wGt (W.v 6) (W.c (.int 16))))]) (W.seq (W.ex (W.call D 296 (n + 3 + 4) [(W.v 1), (W.v 7), (W.comp (W.iter (W.v 8)) 1 [5] (W.one 0) (W.t (W.bin wNe (W.v 0) (W.v 1))) (W.v 0))])) (W.seq (W.ex (W.meth D 108 "put_free" 56 (n + 3 + 4) (W.v 1) [(W.v 5), (W.c (.int 16))])) (W.seq (W.ex (W.meth D 108 "put_free" 56 (n + 3 + 4) (W.v 1) [(W.bin wAdd (W.v 5) (W.c (.int 16))), (W.bin wSub (W.v 6) (W.c (.int 16)))])) (W.seq (W.ret (W.app wList [(W.app wTup [(W.bin wAdd (W.v 5) (W.c (.int 16))), (W.c (.str "not_joined"))])])) W.nil)))) W.nil) (W.seq (W.ex (W.meth D 238 "put_word" 221 (n + 3 + 4) (W.attr 108 "memory" (W.v 1)) [(W.v 5), (W.bin wIx (W.app wList [(W.c (.int 1)), (W.c (.int 9)), (W.c (.int 4001))]) (W.call D 263 (n + 3 + 4) [(W.v 0), (W.c (.int 3))]))])) (W.seq (W.ret (W.app wList [(W.app wTup [(W.v 5), (W.c (.str "bad_block"))])])) W.nil)))))))))) [some (.ref aP), some (.ref L.aH), some (.int form), some (.ref cT), some (.ref cB), none, none, none, none, none] (L.put d fr (hp.set c (.list []))) (bodyPost Q) := by
    intro c hc hne
    have b0 := b.new (o := .list []) hc
    have tT0 := tT.new (o := .list []) hc
    have tB0 := tB.new (o := .list []) hc
    have sB2 := fun (hp : Hp) (b : Bx L hp aP aC cs) (tT : Lst L hp aP cT ((useds 1024 bs).map pv)) (cR : Addr) (x s : Int) (tR : Lst L hp aP cR ((rowOf (cls s) (frees 1024 bs)).map .int)) (hx : (x, s) ∈ frees 1024 bs) => sp_B hD (n := n) (hp := hp) (cR := cR) (x := x) (s := s) b ok g hl2 q hx tR tT form (some (.ref cB)) none
    generalize (W.seq (W.ifs (W.t (W.bin wEq (W.v 2) (W.c (.int 2)))) (W.seq (W.ex (W.call D 296 (n + 3 + 4) [(W.v 1), (W.v 7), (W.comp (W.iter (W.v 8)) 1 [5] (W.one 0) (W.t (W.bin wNe (W.v 0) (W.v 1))) (W.v 0))])) (W.seq (W.ret (W.app wList [(W.app wTup [(W.v 5), (W.c (.str "not_listed"))])])) W.nil)) W.nil) (W.seq (W.ifs (W.t (W.bin wEq (W.v 2) (W.c (.int 3)))) (W.seq (W.asg (W.one 9) (W.bin wMod (W.bin wAdd (W.v 7) (W.c (.int 1))) (W.c (.int 4)))) (W.seq (W.ex (W.call D 296 (n + 3 + 4) [(W.v 1), (W.v 7), (W.comp (W.iter (W.v 8)) 1 [5] (W.one 0) (W.t (W.bin wNe (W.v 0) (W.v 1))) (W.v 0))])) (W.seq (W.ex (W.call D 296 (n + 3 + 4) [(W.v 1), (W.v 9), (W.bin wAdd (W.call D 289 (n + 3 + 4) [(W.v 1), (W.v 9)]) (W.app wList [(W.v 5)]))])) (W.seq (W.ret (W.app wList [(W.app wTup [(W.v 5), (W.c (.str "wrong_list"))])])) W.nil)))) W.nil) (W.seq (W.ifs (W.t (W.bin wEq (W.v 2) (W.c (.int 4)))) (W.seq (W.ex (W.meth D 238 "put_word" 221 (n + 3 + 4) (W.attr 108 "memory" (W.v 1)) [(W.bin wAdd (W.v 5) (W.c (.int 4))), (W.v 5)])) (W.seq (W.ret (W.bin wAdd (W.app wList [(W.app wTup [(W.v 5), (W.c (.str "listed_twice"))])]) (W.comp (W.iter (W.app wSorted [(W.from (W.v 8) (W.bin wAdd (W.methB isL wIndex (W.v 8) [(W.v 5)]) (W.c (.int 1))))])) 1 [] (W.one 0) W.yes (W.app wTup [(W.v 0), (W.c (.str "not_listed"))])))) W.nil)) W.nil) (W.seq (W.ifs (W.and [(W.t (W.bin wEq (W.v 2) (W.c (.int 5)))), (W.t (W.bin wNe (W.v 3) (W.app wList [])))]) (W.seq (W.setI wSetItem (W.attr 108 "free" (W.v 1)) (W.v 7) (W.bin wIx (W.bin wIx (W.v 3) (W.c (.int 0))) (W.c (.int 0)))) (W.seq (W.ret (W.bin wAdd (W.app wList [(W.app wTup [(W.bin wIx (W.bin wIx (W.v 3) (W.c (.int 0))) (W.c (.int 0))), (W.c (.str "not_free"))])]) (W.comp (W.iter (W.app wSorted [(W.v 8)])) 1 [] (W.one 0) W.yes (W.app wTup [(W.v 0), (W.c (.str "not_listed"))])))) W.nil)) W.nil) (W.seq (W.ifs (W.and [(W.t (W.bin wEq (W.v 2) (W.c (.int 6)))), (W.t (W.bin wGt (W.v 6) (W.c (.int 16))))]) (W.seq (W.ex (W.call D 296 (n + 3 + 4) [(W.v 1), (W.v 7), (W.comp (W.iter (W.v 8)) 1 [5] (W.one 0) (W.t (W.bin wNe (W.v 0) (W.v 1))) (W.v 0))])) (W.seq (W.ex (W.meth D 108 "put_free" 56 (n + 3 + 4) (W.v 1) [(W.v 5), (W.c (.int 16))])) (W.seq (W.ex (W.meth D 108 "put_free" 56 (n + 3 + 4) (W.v 1) [(W.bin wAdd (W.v 5) (W.c (.int 16))), (W.bin wSub (W.v 6) (W.c (.int 16)))])) (W.seq (W.ret (W.app wList [(W.app wTup [(W.bin wAdd (W.v 5) (W.c (.int 16))), (W.c (.str "not_joined"))])])) W.nil)))) W.nil) (W.seq (W.ex (W.meth D 238 "put_word" 221 (n + 3 + 4) (W.attr 108 "memory" (W.v 1)) [(W.v 5), (W.bin wIx (W.app wList [(W.c (.int 1)), (W.c (.int 9)), (W.c (.int 4001))]) (W.call D 263 (n + 3 + 4) [(W.v 0), (W.c (.int 3))]))])) (W.seq (W.ret (W.app wList [(W.app wTup [(W.v 5), (W.c (.str "bad_block"))])])) W.nil))))))) = X at sB2 ⊢
    simp [-W.seq_eq, W.seq_put]
    rw [wLen_list tB0.get]
    refine ⟨by simp; (and_intros <;> omega), ?_⟩
    have hpos : (0 : Int) < ((frees 1024 bs).map pv).length := by
      have : (frees 1024 bs).length ≠ 0 := fun e => hne (List.eq_nil_of_length_eq_zero e)
      simp; (and_intros <;> omega)
    refine b_pick hD (n := n + 2) b0 hpos (by simp; (and_intros <;> omega)) fun r us r0 r1 b1 => ?_
    have tT1 := tT0.pick (o := .list us)
    have tB1 := tB0.pick (o := .list us)
    obtain ⟨⟨x, s⟩, hx, hp2⟩ := pairs_ix r0 (by simpa [-W.seq_eq, W.seq_put] using r1)
    have hc := cls_range s
    rw [wIx_list tB1.get]
    refine ⟨by simp; (and_intros <;> omega), _, hp2, ?_⟩
    unfold pv
    simp [-W.seq_eq, W.seq_put]
    refine s_list_number hD (n := n + 2) ?_
    have hrl := rowOf_len (frees 1024 bs) (cls s)
    have hfb := frees_len bs 1024
    refine s_listed hD (n := n) b1.k ok g.len hc.1 hc.2 (g.rows _ hc.1 hc.2) (by (and_intros <;> omega)) (fun y hy => by have := row_at g hy; (and_intros <;> omega)) fun c2 hc2 => ?_
    exact sB2 _ (b1.new hc2) (tT1.new hc2) c2 x s (Lst.mk' b1 hc2) hx
  unfold W_law_spoiled
  generalize (W.seq (W.ifs (W.t (W.bin wEq (W.v 3) (W.app wList []))) (W.seq (W.ret (W.app wList [])) W.nil) W.nil) (W.seq (W.asg (W.one 5) (W.bin wIx (W.bin wIx (W.v 3) (W.call D 263 (n + 3 + 4) [(W.v 0), (W.app wLen [(W.v 3)])])) (W.c (.int 0)))) (W.seq (W.ifs (W.t (W.bin wEq (W.v 2) (W.c (.int 0)))) (W.seq (W.ex (W.meth D 238 "put_word" 221 (n + 3 + 4) (W.attr 108 "memory" (W.v 1)) [(W.bin wAdd (W.v 5) (W.c (.int 4))), (W.c (.int 8))])) (W.seq (W.ret (W.app wList [(W.app wTup [(W.v 5), (W.c (.str "marked"))])])) W.nil)) W.nil) (W.seq (W.ex (W.meth D 238 "put_word" 221 (n + 3 + 4) (W.attr 108 "memory" (W.v 1)) [(W.v 5), (W.bin wIx (W.app wList [(W.c (.int 0)), (W.c (.int 6)), (W.c (.int 2000))]) (W.call D 263 (n + 3 + 4) [(W.v 0), (W.c (.int 3))]))])) (W.seq (W.ret (W.app wList [(W.app wTup [(W.v 5), (W.c (.str "bad_block"))])])) W.nil))))) = XA at sA sA' ⊢
  generalize (W.seq (W.asg (W.many [5, 6]) (W.bin wIx (W.v 4) (W.call D 263 (n + 3 + 4) [(W.v 0), (W.app wLen [(W.v 4)])]))) (W.seq (W.asg (W.one 7) (W.call D 35 (n + 3 + 4) [(W.v 6)])) (W.seq (W.asg (W.one 8) (W.call D 289 (n + 3 + 4) [(W.v 1), (W.v 7)])) (W.seq (W.ifs (W.t (W.bin wEq (W.v 2) (W.c (.int 2)))) (W.seq (W.ex (W.call D 296 (n + 3 + 4) [(W.v 1), (W.v 7), (W.comp (W.iter (W.v 8)) 1 [5] (W.one 0) (W.t (W.bin wNe (W.v 0) (W.v 1))) (W.v 0))])) (W.seq (W.ret (W.app wList [(W.app wTup [(W.v 5), (W.c (.str "not_listed"))])])) W.nil)) W.nil) (W.seq (W.ifs (W.t (W.bin wEq (W.v 2) (W.c (.int 3)))) (W.seq (W.asg (W.one 9) (W.bin wMod (W.bin wAdd (W.v 7) (W.c (.int 1))) (W.c (.int 4)))) (W.seq (W.ex (W.call D 296 (n + 3 + 4) [(W.v 1), (W.v 7), (W.comp (W.iter (W.v 8)) 1 [5] (W.one 0) (W.t (W.bin wNe (W.v 0) (W.v 1))) (W.v 0))])) (W.seq (W.ex (W.call D 296 (n + 3 + 4) [(W.v 1), (W.v 9), (W.bin wAdd (W.call D 289 (n + 3 + 4) [(W.v 1), (W.v 9)]) (W.app wList [(W.v 5)]))])) (W.seq (W.ret (W.app wList [(W.app wTup [(W.v 5), (W.c (.str "wrong_list"))])])) W.nil)))) W.nil) (W.seq (W.ifs (W.t (W.bin wEq (W.v 2) (W.c (.int 4)))) (W.seq (W.ex (W.meth D 238 "put_word" 221 (n + 3 + 4) (W.attr 108 "memory" (W.v 1)) [(W.bin wAdd (W.v 5) (W.c (.int 4))), (W.v 5)])) (W.seq (W.ret (W.bin wAdd (W.app wList [(W.app wTup [(W.v 5), (W.c (.str "listed_twice"))])]) (W.comp (W.iter (W.app wSorted [(W.from (W.v 8) (W.bin wAdd (W.methB isL wIndex (W.v 8) [(W.v 5)]) (W.c (.int 1))))])) 1 [] (W.one 0) W.yes (W.app wTup [(W.v 0), (W.c (.str "not_listed"))])))) W.nil)) W.nil) (W.seq (W.ifs (W.and [(W.t (W.bin wEq (W.v 2) (W.c (.int 5)))), (W.t (W.bin wNe (W.v 3) (W.app wList [])))]) (W.seq (W.setI wSetItem (W.attr 108 "free" (W.v 1)) (W.v 7) (W.bin wIx (W.bin wIx (W.v 3) (W.c (.int 0))) (W.c (.int 0)))) (W.seq (W.ret (W.bin wAdd (W.app wList [(W.app wTup [(W.bin wIx (W.bin wIx (W.v 3) (W.c (.int 0))) (W.c (.int 0))), (W.c (.str "not_free"))])]) (W.comp (W.iter (W.app wSorted [(W.v 8)])) 1 [] (W.one 0) W.yes (W.app wTup [(W.v 0), (W.c (.str "not_listed"))])))) W.nil)) W.nil) (W.seq (W.ifs (W.and [(W.t (W.bin wEq (W.v 2) (W.c (.int 6)))), (W.t (W.bin wGt (W.v 6) (W.c (.int 16))))]) (W.seq (W.ex (W.call D 296 (n + 3 + 4) [(W.v 1), (W.v 7), (W.comp (W.iter (W.v 8)) 1 [5] (W.one 0) (W.t (W.bin wNe (W.v 0) (W.v 1))) (W.v 0))])) (W.seq (W.ex (W.meth D 108 "put_free" 56 (n + 3 + 4) (W.v 1) [(W.v 5), (W.c (.int 16))])) (W.seq (W.ex (W.meth D 108 "put_free" 56 (n + 3 + 4) (W.v 1) [(W.bin wAdd (W.v 5) (W.c (.int 16))), (W.bin wSub (W.v 6) (W.c (.int 16)))])) (W.seq (W.ret (W.app wList [(W.app wTup [(W.bin wAdd (W.v 5) (W.c (.int 16))), (W.c (.str "not_joined"))])])) W.nil)))) W.nil) (W.seq (W.ex (W.meth D 238 "put_word" 221 (n + 3 + 4) (W.attr 108 "memory" (W.v 1)) [(W.v 5), (W.bin wIx (W.app wList [(W.c (.int 1)), (W.c (.int 9)), (W.c (.int 4001))]) (W.call D 263 (n + 3 + 4) [(W.v 0), (W.c (.int 3))]))])) (W.seq (W.ret (W.app wList [(W.app wTup [(W.v 5), (W.c (.str "bad_block"))])])) W.nil)))))))))) = XB at sB ⊢
  simp [-W.seq_eq, W.seq_put]
  refine ⟨fun _ c hc => ?_, fun _ => sA _ fun _ _ _ h => h⟩
  have p0 := Lay.put_none hc
  rw [Lay.put_set p0.1 p0.2.1]
  rw [wEq_list (tB.new (o := .list []) hc).get (Lst.mk' b hc).get]
  refine ⟨dat_pv _, rfl, ?_⟩
  rw [eqL_nil]
  simp [-W.seq_eq, W.seq_put]
  exact ⟨fun h => sB c hc h, fun _ => sA' _ (fun _ _ _ h => h) c hc⟩
end
end Mine

namespace Mine
open PySem PySem.W PyProof.Rows

theorem Hp.set_same {hp : Hp} {a : Addr} {o : O} (h : hp a = some o) : hp.set a o = hp := by
  funext b
  by_cases e : b = a
  · subst e; rw [Hp.set_self, h]
  · rw [Hp.set_ne _ _ e]
section
variable {D : Wd} {P : Params} (hD : D.KF = HK P) {n : Nat} {H hp : Hp} {Q : V → Hp → Prop}
include hD
theorem s_mem_init {x dx : Addr} (hx : H x = none) (hdx : H dx = none) (ne : x ≠ dx) (q : ∀ c, H c = none → c ≠ x → c ≠ dx → Q .none (((H.set dx (.ns [("size", .int 8192), ("words", .ref c)])).set x (.inst 238 dx)).set c (.dict []))) :
    Calls D 200 (n + 5) [.ref x, .int 8192] ((H.set dx (.ns [])).set x (.inst 238 dx)) Q := by
  refine c_Memory_init hD rfl ?_
  simp [W_Memory_init]
  rw [wSetF_inst (a := x) (dx := dx) (fs := []) (Hp.set_self _ _ _) (by rw [Hp.set_ne _ _ (Ne.symm ne), Hp.set_self])]
  refine ⟨by simp, fun c hc => ?_⟩
  have n1 : c ≠ dx := fun e => by rw [e, Hp.set_self] at hc; cases hc
  rw [Hp.set_ne _ _ n1] at hc
  have n2 : c ≠ x := fun e => by rw [e, Hp.set_self] at hc; cases hc
  rw [Hp.set_ne _ _ n2, Hp.set_ne _ _ n1] at hc
  have e1 : putF "size" (.int 8192) [] = ([("size", .int 8192)] : List (Str × V)) := rfl
  rw [e1, wSetF_inst (a := x) (dx := dx) (fs := [("size", .int 8192)]) (by rw [Hp.set_ne _ _ (Ne.symm n2), Hp.set_ne _ _ ne, Hp.set_self]) (by rw [Hp.set_ne _ _ (Ne.symm n1), Hp.set_self])]
  refine ⟨by simp, ?_⟩
  have e2 : putF "words" (.ref c) ([("size", .int 8192)] : List (Str × V)) = ([("size", .int 8192), ("words", .ref c)] : List (Str × V)) := rfl
  rw [e2]
  have := q c hc n2 n1
  rw [Hp.set_comm _ (a := c) (b := dx) _ _ n1, Hp.set_set, Hp.set_comm _ (a := x) (b := dx) _ _ ne, Hp.set_set]
  exact this

theorem s_heap_init {aM dM aW x dx : Addr} {d : List (Int × V)} {lim : Int} (m : MemAt hp aM dM aW) (nM : aM ≠ aW) (nD : dM ≠ aW) (ok : DOk d) (hl : 1024 < lim) (hx : (hp.set aW (.dict d)) x = none) (hdx : (hp.set aW (.dict d)) dx = none) (ne : x ≠ dx)
    (q : ∀ c hp', ({ aM := aM, dM := dM, aW := aW, aH := x, dH := dx, aF := c, lim := lim } : Lay).Ok hp' → hp c = none → c ≠ aW → (∀ y o, hp y = some o → hp' y = some o) →
      Q .none (({ aM := aM, dM := dM, aW := aW, aH := x, dH := dx, aF := c, lim := lim } : Lay).put (pfd d [0, 0, 0, 0] 1024 (lim - 1024)) (pff [0, 0, 0, 0] 1024 (lim - 1024)) hp')) :
    Calls D 49 (n + 8) [.ref x, .ref aM, .int 1024, .int lim] (((hp.set aW (.dict d)).set dx (.ns [])).set x (.inst 108 dx)) Q := by
  have xW : x ≠ aW := fun e => by rw [e, Hp.set_self] at hx; cases hx
  have dW : dx ≠ aW := fun e => by rw [e, Hp.set_self] at hdx; cases hdx
  rw [Hp.set_ne _ _ xW] at hx
  rw [Hp.set_ne _ _ dW] at hdx
  refine c_Heap_init hD (n := n + 3) rfl ?_
  simp [W_Heap_init]
  have st : ∀ fs fs' : List (Str × V), (((hp.set aW (.dict d)).set dx (.ns fs)).set x (.inst 108 dx)).set dx (.ns fs') = ((hp.set aW (.dict d)).set dx (.ns fs')).set x (.inst 108 dx) := fun fs fs' => by
    rw [Hp.set_comm _ (a := x) (b := dx) _ _ ne, Hp.set_set]
  have ax : ∀ fs : List (Str × V), (((hp.set aW (.dict d)).set dx (.ns fs)).set x (.inst 108 dx)) x = some (.inst 108 dx) := fun fs => Hp.set_self _ _ _
  have adx : ∀ fs : List (Str × V), (((hp.set aW (.dict d)).set dx (.ns fs)).set x (.inst 108 dx)) dx = some (.ns fs) := fun fs => by rw [Hp.set_ne _ _ (Ne.symm ne), Hp.set_self]
  rw [wSetF_inst (ax _) (adx _)]
  refine ⟨by simp, ?_⟩
  rw [st, wSetF_inst (ax _) (adx _)]
  refine ⟨by show (1 : Nat) < 100; decide, ?_⟩
  rw [st, wSetF_inst (ax _) (adx _)]
  refine ⟨by show (2 : Nat) < 100; decide, ?_⟩
  rw [st]
  have e3 : putF "limit" (.int lim) (putF "start" (.int 1024) (putF "memory" (.ref aM) ([] : List (Str × V)))) = ([("memory", .ref aM), ("start", .int 1024), ("limit", .int lim)] : List (Str × V)) := rfl
  rw [e3]
  intro c0 h0
  rw [wRep_list (Hp.set_self _ _ _)]
  refine ⟨by simp, fun c1 h1 => ?_⟩
  have n10 : c1 ≠ c0 := fun e => by rw [e, Hp.set_self] at h1; cases h1
  rw [Hp.set_ne _ _ n10] at h1
  have away : ∀ {c : Addr} {fs : List (Str × V)}, (((hp.set aW (.dict d)).set dx (.ns fs)).set x (.inst 108 dx)) c = none → c ≠ x ∧ c ≠ dx ∧ c ≠ aW ∧ hp c = none := fun {c fs} h => by
    have a1 : c ≠ x := fun e => by rw [e, Hp.set_self] at h; cases h
    rw [Hp.set_ne _ _ a1] at h
    have a2 : c ≠ dx := fun e => by rw [e, Hp.set_self] at h; cases h
    rw [Hp.set_ne _ _ a2] at h
    have a3 : c ≠ aW := fun e => by rw [e, Hp.set_self] at h; cases h
    rw [Hp.set_ne _ _ a3] at h
    exact ⟨a1, a2, a3, h⟩
  obtain ⟨u1, u2, u3, u4⟩ := away h0
  obtain ⟨v1, v2, v3, v4⟩ := away h1
  have ix : ∀ o1 o2 : O, (((((hp.set aW (.dict d)).set dx (.ns [("memory", .ref aM), ("start", .int 1024), ("limit", .int lim)])).set x (.inst 108 dx)).set c0 o1).set c1 o2) x = some (.inst 108 dx) := fun o1 o2 => by
    rw [Hp.set_ne _ _ (Ne.symm v1), Hp.set_ne _ _ (Ne.symm u1)]; exact ax _
  have idx : ∀ o1 o2 : O, (((((hp.set aW (.dict d)).set dx (.ns [("memory", .ref aM), ("start", .int 1024), ("limit", .int lim)])).set x (.inst 108 dx)).set c0 o1).set c1 o2) dx = some (.ns [("memory", .ref aM), ("start", .int 1024), ("limit", .int lim)]) := fun o1 o2 => by
    rw [Hp.set_ne _ _ (Ne.symm v2), Hp.set_ne _ _ (Ne.symm u2)]; exact adx _
  rw [wSetF_inst (ix _ _) (idx _ _)]
  refine ⟨by simp, ?_⟩
  have e4 : putF "free" (.ref c1) ([("memory", .ref aM), ("start", .int 1024), ("limit", .int lim)] : List (Str × V)) = ([("memory", .ref aM), ("start", .int 1024), ("limit", .int lim), ("free", .ref c1)] : List (Str × V)) := rfl
  rw [e4]
  have mM := m.M
  have mD := m.dM
  have mx : aM ≠ x := Hp.ne_of hx mM
  have mdx : aM ≠ dx := Hp.ne_of hdx mM
  have dmx : dM ≠ x := Hp.ne_of hx mD
  have dmdx : dM ≠ dx := Hp.ne_of hdx mD
  have k' : ({ aM := aM, dM := dM, aW := aW, aH := x, dH := dx, aF := c1, lim := lim } : Lay).Ok (((hp.set dx (.ns [("memory", .ref aM), ("start", .int 1024), ("limit", .int lim), ("free", .ref c1)])).set x (.inst 108 dx)).set c0 (.list [.int 0])) := by
    have s : ∀ {y : Addr} {o : O}, hp y = some o → (((hp.set dx (.ns [("memory", .ref aM), ("start", .int 1024), ("limit", .int lim), ("free", .ref c1)])).set x (.inst 108 dx)).set c0 (.list [.int 0])) y = some o := fun {y o} g => by
      rw [Hp.set_ne _ _ (Hp.ne_of u4 g), Hp.set_ne _ _ (Hp.ne_of hx g), Hp.set_ne _ _ (Hp.ne_of hdx g)]; exact g
    exact ⟨s mM, s mD, by rw [Hp.set_ne _ _ (Ne.symm u1)]; exact Hp.set_self _ _ _, by rw [Hp.set_ne _ _ (Ne.symm u2), Hp.set_ne _ _ (Ne.symm ne)]; exact Hp.set_self _ _ _, nM, Hp.ne_of v4 mM, nD, Hp.ne_of v4 mD, xW, Ne.symm v1, dW, Ne.symm v2, Ne.symm v3⟩
  have hq := q c1 _ k' v4 v3 (fun y o g => by rw [Hp.set_ne _ _ (Hp.ne_of u4 g), Hp.set_ne _ _ (Hp.ne_of hx g), Hp.set_ne _ _ (Hp.ne_of hdx g)]; exact g)
  have eH : (((((hp.set aW (.dict d)).set dx (.ns [("memory", .ref aM), ("start", .int 1024), ("limit", .int lim)])).set x (.inst 108 dx)).set c0 (.list [.int 0])).set c1 (.list [.int 0, .int 0, .int 0, .int 0])).set dx (.ns [("memory", .ref aM), ("start", .int 1024), ("limit", .int lim), ("free", .ref c1)]) =
      ({ aM := aM, dM := dM, aW := aW, aH := x, dH := dx, aF := c1, lim := lim } : Lay).put d [0, 0, 0, 0] (((hp.set dx (.ns [("memory", .ref aM), ("start", .int 1024), ("limit", .int lim), ("free", .ref c1)])).set x (.inst 108 dx)).set c0 (.list [.int 0])) := by
    show _ = ((((hp.set dx _).set x _).set c0 _).set aW (.dict d)).set c1 (.list [.int 0, .int 0, .int 0, .int 0])
    rw [Hp.set_comm _ (a := c1) (b := dx) _ _ v2, Hp.set_comm _ (a := c0) (b := dx) _ _ u2, st, Hp.set_comm hp (a := aW) (b := dx) _ _ (Ne.symm dW), Hp.set_comm _ (a := aW) (b := x) _ _ (Ne.symm xW), Hp.set_comm _ (a := aW) (b := c0) _ _ (Ne.symm u3)]
  have eH' : ∀ o, o = O.list (List.flatten (List.replicate (4 : Int).toNat [V.int 0])) → (((((hp.set aW (.dict d)).set dx (.ns [("memory", .ref aM), ("start", .int 1024), ("limit", .int lim)])).set x (.inst 108 dx)).set c0 (.list [.int 0])).set c1 o).set dx (.ns [("memory", .ref aM), ("start", .int 1024), ("limit", .int lim), ("free", .ref c1)]) =
      ({ aM := aM, dM := dM, aW := aW, aH := x, dH := dx, aF := c1, lim := lim } : Lay).put d [0, 0, 0, 0] (((hp.set dx (.ns [("memory", .ref aM), ("start", .int 1024), ("limit", .int lim), ("free", .ref c1)])).set x (.inst 108 dx)).set c0 (.list [.int 0])) := fun o ho => by rw [ho]; exact eH
  rw [eH' _ rfl]
  refine ⟨fun _ => ⟨k'.o_put_free ▸ trivial, ?_⟩, fun h => by (and_intros <;> omega)⟩
  refine s_put_free hD (n := n) k' ok rfl (b := 1024) (s := lim - 1024) (by (and_intros <;> omega)) (by (and_intros <;> omega)) ?_
  simpa [-W.seq_eq, W.seq_put, W.seq_set] using hq
end
end Mine

namespace Mine
open PySem PySem.W PyProof.Rows

/-- a memory before there is a heap over it -/
structure Mx (hp : Hp) (aM dM aW aP aC : Addr) (cs : List Int) : Prop where
  atM : hp aM = some (.inst 238 dM)
  atD : hp dM = some (.ns [("size", .int 8192), ("words", .ref aW)])
  hand : Hand hp aP aC cs
  nM : aM ≠ aW
  nD : dM ≠ aW
  nP : aP ≠ aW
  nC : aC ≠ aW
structure ML (hp : Hp) (aW aP aC c : Addr) (us : List V) : Prop where
  at_ : hp c = some (.list us)
  nP : c ≠ aP
  nW : c ≠ aW
  nC : c ≠ aC
section
variable {hp : Hp} {aM dM aW aP aC c c' : Addr} {cs : List Int} {d d' : List (Int × V)} {o : O} {us us' : List V}
theorem Mx.P (m : Mx hp aM dM aW aP aC cs) : ∃ us, hp aP = some (.list us) := let ⟨_, _, _, g, _⟩ := m.hand.at_; ⟨_, g⟩
theorem Mx.mem (m : Mx hp aM dM aW aP aC cs) : MemAt (hp.set aW (.dict d)) aM dM aW := ⟨by rw [Hp.set_ne _ _ m.nM]; exact m.atM, by rw [Hp.set_ne _ _ m.nD]; exact m.atD⟩
theorem none_of (h : (hp.set aW (.dict d)) c = none) : c ≠ aW ∧ hp c = none := by
  have a : c ≠ aW := fun e => by rw [e, Hp.set_self] at h; cases h
  exact ⟨a, by rwa [Hp.set_ne _ _ a] at h⟩
theorem Mx.new (m : Mx hp aM dM aW aP aC cs) (h : (hp.set aW (.dict d)) c = none) : Mx (hp.set c o) aM dM aW aP aC cs := by
  have q := none_of h
  exact ⟨by rw [Hp.set_ne _ _ (Hp.ne_of q.2 m.atM)]; exact m.atM, by rw [Hp.set_ne _ _ (Hp.ne_of q.2 m.atD)]; exact m.atD, m.hand.new q.2, m.nM, m.nD, m.nP, m.nC⟩
theorem Mx.pick (m : Mx hp aM dM aW aP aC cs) (h : Hand (hp.set aP (.list us)) aP aC cs) : Mx (hp.set aP (.list us)) aM dM aW aP aC cs := by
  obtain ⟨vs, g⟩ := m.P
  exact ⟨by rw [Hp.set_ne _ _ (fun e => by have := m.atM; rw [e, g] at this; cases this)]; exact m.atM, by rw [Hp.set_ne _ _ (fun e => by have := m.atD; rw [e, g] at this; cases this)]; exact m.atD, h, m.nM, m.nD, m.nP, m.nC⟩
theorem Mx.lst (m : Mx hp aM dM aW aP aC cs) (h : hp c = some (.list us)) (n1 : c ≠ aP) (n2 : c ≠ aC) : Mx (hp.set c (.list us')) aM dM aW aP aC cs :=
  ⟨by rw [Hp.set_ne _ _ (fun e => by have := m.atM; rw [e, h] at this; cases this)]; exact m.atM, by rw [Hp.set_ne _ _ (fun e => by have := m.atD; rw [e, h] at this; cases this)]; exact m.atD, m.hand.other n1 n2, m.nM, m.nD, m.nP, m.nC⟩
theorem ML.get (t : ML hp aW aP aC c us) : (hp.set aW (.dict d)) c = some (.list us) := by rw [Hp.set_ne _ _ t.nW]; exact t.at_
theorem ML.new (t : ML hp aW aP aC c us) (h : (hp.set aW (.dict d)) c' = none) : ML (hp.set c' o) aW aP aC c us := ⟨by rw [Hp.set_ne _ _ (Hp.ne_of (none_of h).2 t.at_)]; exact t.at_, t.nP, t.nW, t.nC⟩
theorem ML.pick (t : ML hp aW aP aC c us) : ML (hp.set aP o) aW aP aC c us := ⟨by rw [Hp.set_ne _ _ t.nP]; exact t.at_, t.nP, t.nW, t.nC⟩
theorem ML.mk' (m : Mx hp aM dM aW aP aC cs) (h : (hp.set aW (.dict d)) c = none) : ML (hp.set c (.list us)) aW aP aC c us :=
  ⟨Hp.set_self _ _ _, fun e => by obtain ⟨_, g⟩ := m.P; exact Hp.ne_of (none_of h).2 g e.symm, (none_of h).1, Ne.symm (Hp.ne_of (none_of h).2 m.hand.cells)⟩
end
structure KindsOk (m : Int → Int) (j : Nat) (ks : List V) : Prop where
  len : ks.length = j
  at_ : ∀ (i : Nat) (u : V), ks[i]? = some u → ∃ (w : Int) (o : Addr), u = .tup [.int (64 + 96 * i), .int w, .ref o] ∧ m (16 + 24 * i) = w ∧ 0 ≤ w ∧ w ≤ 44 ∧ w % 4 = 0
theorem KindsOk.congr {m m' : Int → Int} {j : Nat} {ks : List V} (h : KindsOk m j ks) (e : ∀ i : Nat, i < j → m' (16 + 24 * i) = m (16 + 24 * i)) : KindsOk m' j ks :=
  ⟨h.len, fun i u hu => by
    obtain ⟨w, o, a1, a2, a3⟩ := h.at_ i u hu
    have : i < ks.length := (List.getElem?_eq_some_iff.mp hu).1
    exact ⟨w, o, a1, (e i (by rw [← h.len]; exact this)).trans a2, a3⟩⟩
theorem KindsOk.snoc {m : Int → Int} {j : Nat} {ks : List V} (h : KindsOk m j ks) {w : Int} {o : Addr} (e : m (16 + 24 * j) = w) (h0 : 0 ≤ w) (h1 : w ≤ 44) (h2 : w % 4 = 0) : KindsOk m (j + 1) (ks ++ [.tup [.int (64 + 96 * j), .int w, .ref o]]) :=
  ⟨by simp [h.len], fun i u hu => by
    by_cases hi : i < j
    · rw [List.getElem?_append_left (by rw [h.len]; exact hi)] at hu
      exact h.at_ i u hu
    · rw [List.getElem?_append_right (by rw [h.len]; (and_intros <;> omega)), h.len] at hu
      have : i - j = 0 := by
        cases e : i - j with
        | zero => rfl
        | succ k => rw [e] at hu; simp at hu
      rw [this] at hu
      simp at hu
      have : i = j := by (and_intros <;> omega)
      subst this
      exact ⟨w, o, hu.symm, e, h0, h1, h2⟩⟩

section
variable {D : Wd} {P : Params} (hD : D.KF = HK P) {n : Nat} {hp : Hp} {Q : V → Hp → Prop} {aM dM aW aP aC cK : Addr} {cs : List Int}
include hD
theorem m_pick {d : List (Int × V)} (m : Mx hp aM dM aW aP aC cs) {lim : Int} (l0 : 0 < lim) (l1 : lim < 1000000) (q : ∀ r us, 0 ≤ r → r < lim → Mx (hp.set aP (.list us)) aM dM aW aP aC cs → Q (.int r) ((hp.set aP (.list us)).set aW (.dict d))) : Calls D 263 (n + 5) [.ref aP, .int lim] (hp.set aW (.dict d)) Q := by
  have hH : Hand (hp.set aW (.dict d)) aP aC cs := m.hand.other (Ne.symm m.nP) (Ne.symm m.nC)
  refine s_pick hD hH l0 l1 fun r us h0 h1 h => ?_
  rw [Hp.set_comm _ (a := aW) (b := aP) _ _ (Ne.symm m.nP)]
  refine q r us h0 h1 (m.pick ?_)
  exact ⟨by rw [Hp.set_ne _ _ (Ne.symm m.hand.ne)]; exact m.hand.cells, m.hand.short, m.hand.ne, let ⟨i, x, y, g, r⟩ := h.at_; ⟨i, x, y, by rw [Hp.set_self] at g ⊢; exact g, r⟩⟩
/-- the offsets: whatever is picked -/
theorem compO {d : List (Int × V)} {K : List V → Hp → Prop} : ∀ (ns : List Int) (hp : Hp) (acc : List Int) (z : Option V), Mx hp aM dM aW aP aC cs → acc.length + ns.length ≤ 100 → (∀ (acc' : List Int) (us' : List V), acc'.length ≤ acc.length + ns.length → Mx (hp.set aP (.list us')) aM dM aW aP aC cs → K (acc'.map .int) ((hp.set aP (.list us')).set aW (.dict d))) →
    W.compGo (W.one 0) (W.t (W.bin wEq (W.call D 263 (n + 5) [(W.v 1), (W.c (.int 2))]) (W.c (.int 0)))) (W.bin wMulL (W.c (.int 4)) (W.v 0)) (fun _ => True) (ns.map .int) [z, some (.ref aP)] (hp.set aW (.dict d)) (acc.map .int) K
  | [], hp, acc, z, m, hl, q => by
    simp [-W.seq_eq, W.seq_put, W.seq_set]
    obtain ⟨us, g⟩ := m.P
    have e := Hp.set_same g
    have := q acc us (by simp) (by rw [e]; exact m)
    rwa [e] at this
  | y :: ns, hp, acc, z, m, hl, q => by
    simp only [List.length_cons] at hl
    rw [List.map_cons, W.compGo_cons]
    refine ⟨trivial, ?_⟩
    simp [-W.seq_eq, W.seq_put, W.seq_set]
    refine m_pick hD m (by decide) (by decide) fun r us r0 r1 m1 => ?_
    simp [-W.seq_eq, W.seq_put, W.seq_set]
    refine ⟨fun _ => ⟨by (and_intros <;> omega), ?_⟩, fun _ => ?_⟩
    · have := compO ns _ (acc ++ [4 * y]) (some (.int y)) m1 (by simp; (and_intros <;> omega)) fun acc' us' ha m2 => by
        rw [Hp.set_set] at m2 ⊢
        exact q acc' us' (by simp at ha ⊢; (and_intros <;> omega)) m2
      simpa [-W.seq_eq, W.seq_put, W.seq_set] using this
    · refine compO ns _ acc (some (.int y)) m1 (by (and_intros <;> omega)) fun acc' us' ha m2 => ?_
      rw [Hp.set_set] at m2 ⊢
      exact q acc' us' (by simp at ha ⊢; (and_intros <;> omega)) m2
theorem s_law_area (h : Hand hp aP aC cs) {room : Int} (r0 : 4 ≤ room) (r1 : room ≤ 23)
    (q : ∀ (L : Lay) (hp' : Hp) (d : List (Int × V)) (ks : List V) (cK : Addr), L.lim = 1024 + 16 * room → Bx L hp' aP aC cs → DOk d → mw d 256 = L.lim - 1024 + 1 → mw d 257 = 0 → Lst L hp' aP cK ks → KindsOk (mw d) ks.length ks → 1 ≤ ks.length → ks.length ≤ 4 →
      Q (.tup [.ref L.aH, .ref cK]) (L.put d (frT true 1024 (L.lim - 1024)) hp')) : Calls D 268 (n + 10) [.ref aP, .int room] hp Q := by
  refine c_law_area hD (n := n + 5) rfl ?_
  simp [W_law_area]
  intro aM dM h1 h2 n1
  refine s_mem_init hD (n := n + 3) h1 h2 n1 fun aW h3 n2 n3 => ?_
  simp only [true_and]
  have m0 : Mx ((hp.set dM (.ns [("size", .int 8192), ("words", .ref aW)])).set aM (.inst 238 dM)) aM dM aW aP aC cs :=
    ⟨Hp.set_self _ _ _, by rw [Hp.set_ne _ _ (Ne.symm n1), Hp.set_self], ((h.new h2).new (by rw [Hp.set_ne _ _ n1]; exact h1)), Ne.symm n2, Ne.symm n3, by obtain ⟨_, _, _, g, _⟩ := h.at_; exact Hp.ne_of h3 g, Hp.ne_of h3 h.cells⟩
  generalize ((hp.set dM (.ns [("size", .int 8192), ("words", .ref aW)])).set aM (.inst 238 dM)) = hp1 at m0 ⊢
  intro cK hK
  rw [Hp.set_comm _ (a := aW) (b := cK) _ _ (Ne.symm (none_of hK).1)]
  have m1 := m0.new (o := .list []) hK
  have t1 := ML.mk' m0 hK (us := [])
  refine m_pick hD (n := n + 4) m1 (by decide) (by decide) fun r us a0 a1 m2 => ?_
  have t2 := t1.pick (o := .list us)
  simp [-W.seq_eq, W.seq_put, W.seq_set]
  refine ⟨by unfold rangeOk; (and_intros <;> omega), ?_⟩
  obtain ⟨N, hN⟩ : ∃ N : Nat, (1 + r) = (N : Int) := ⟨(1 + r).toNat, by (and_intros <;> omega)⟩
  rw [hN, range_up]
  have hN1 : 1 ≤ N := by (and_intros <;> omega)
  have hN4 : N ≤ 4 := by (and_intros <;> omega)
  generalize (hp1.set cK (.list [])).set aP (.list us) = hp2 at m2 t2 ⊢
  clear hN
  -- the kinds
  have loop : ∀ (k j : Nat) (hp : Hp) (d : List (Int × V)) (ks : List V) (x4 x5 x6 x7 x8 : Option V), j + k = N → Mx hp aM dM aW aP aC cs → ML hp aW aP aC cK ks → KindsOk (mw d) j ks → DOk d → 
      W.forGo (W.one 4) (W_law_area_b1 D (n + 5)) (fun _ => True) ((List.range' j k).map fun (i : Nat) => V.int (i : Int)) [some (.ref aP), some (.int room), some (.ref aM), some (.ref cK), x4, x5, x6, x7, x8] (hp.set aW (.dict d)) (sq (W.seq (W.ret (W.app wTup [(W.new D 108 49 (n + 5 + 3) [(W.v 2), (W.c (.int 1024)), (W.bin wAdd (W.c (.int 1024)) (W.bin wMulL (W.c (.int 16)) (W.v 1)))]), (W.v 3)])) W.nil) (bodyPost Q)) := by
    intro k
    induction k with
    | zero =>
      intro j hp d ks x4 x5 x6 x7 x8 hj m t hk ok
      simp [-W.seq_eq, W.seq_put, W.seq_set]
      intro x dx hx hdx ne
      refine s_heap_init hD (n := n) (aW := aW) ⟨m.atM, m.atD⟩ m.nM m.nD ok (by (and_intros <;> omega)) hx hdx ne fun c hp' k' hc hcW hkeep => ?_
      refine ⟨rfl, ?_⟩
      obtain ⟨vs, g⟩ := m.P
      have q' := q ({ aM := aM, dM := dM, aW := aW, aH := x, dH := dx, aF := c, lim := 1024 + 16 * room } : Lay) hp' (pfd d [0, 0, 0, 0] 1024 (1024 + 16 * room - 1024)) ks cK rfl
        ⟨k', m.hand.le fun y o gy _ => hkeep y o gy, m.nP, Hp.ne_of hc g, m.nC, Hp.ne_of hc m.hand.cells⟩ ((ok.wr (by (and_intros <;> omega)) (by (and_intros <;> omega))).wr (by (and_intros <;> omega)) (by (and_intros <;> omega)))
        (by unfold pfd; rw [mw_wr, if_neg (by decide), mw_wr, if_pos (by decide)]; show (1024 + 16 * room - 1024 + 1) % 4294967296 = 1024 + 16 * room - 1024 + 1; (and_intros <;> omega))
        (by
          have hc := cls_range (1024 + 16 * room - 1024)
          have h0 : ([0, 0, 0, 0] : List Int).getD (cls (1024 + 16 * room - 1024)).toNat 0 = 0 := four (P := fun i => ([0, 0, 0, 0] : List Int).getD i.toNat 0 = 0) rfl rfl rfl rfl _ hc.1 hc.2
          unfold pfd; rw [h0, mw_wr, if_pos (by decide)]; rfl)
        ⟨hkeep _ _ t.at_, t.nP, t.nW, Hp.ne_of hc t.at_⟩
        (by
          rw [hk.len]
          exact hk.congr fun i hi => pfd_far (by (and_intros <;> omega)) (by (and_intros <;> omega))) (by rw [hk.len]; (and_intros <;> omega)) (by rw [hk.len]; (and_intros <;> omega))
      have e : pff [0, 0, 0, 0] 1024 (1024 + 16 * room - 1024) = frT true 1024 (1024 + 16 * room - 1024) := by unfold pff frT; rw [if_pos rfl]
      rw [e]
      exact q'
    | succ k ih =>
      intro j hp d ks x4 x5 x6 x7 x8 hj m t hk ok
      rw [List.range'_succ, List.map_cons, W.forGo_cons]
      simp [-W.seq_eq, W.seq_put, W.seq_set]
      refine m_pick hD (n := n + 4) m (by decide) (by decide) fun r us a0 a1 m1 => ?_
      have t1 := t.pick (o := .list us)
      simp [-W.seq_eq, W.seq_put, W.seq_set]
      -- offsets
      obtain ⟨M, hM⟩ : ∃ M : Nat, r = (M : Int) := ⟨r.toNat, by (and_intros <;> omega)⟩
      refine ⟨by unfold rangeOk; (and_intros <;> omega), ?_⟩
      rw [hM, range_up]
      have ei : (List.range' 0 M).map (fun (i : Nat) => V.int (i : Int)) = ((List.range' 0 M).map fun (i : Nat) => (i : Int)).map .int := by rw [List.map_map]; rfl
      rw [ei, inner_eq]
      refine compO hD (n := n + 4) (d := d) ((List.range' 0 M).map fun (i : Nat) => (i : Int)) _ [] none m1 (by simp; (and_intros <;> omega)) fun acc us' hacc m2 => ?_
      intro co hco
      have p := none_of hco
      have hal : acc.length ≤ 11 := by simp at hacc; (and_intros <;> omega)
      have t2 := t1.pick (o := .list us')
      have m3 := m2.new (o := .list (acc.map .int)) hco
      have t3 := t2.new (o := .list (acc.map .int)) hco
      have tO := ML.mk' m2 hco (us := acc.map .int)
      rw [Hp.set_comm _ (a := aW) (b := co) _ _ (Ne.symm p.1)]
      have nKo : cK ≠ co := fun e => by
        have h1 := t2.at_
        rw [e] at h1
        have h2 := p.2
        rw [h1] at h2
        cases h2
      generalize (((hp.set aP (.list us)).set aP (.list us')).set co (.list (acc.map .int))) = hpB at m3 t3 tO ⊢
      refine ⟨m3.mem.o_put_word ▸ trivial, ?_⟩
      rw [← hM]
      refine s_put_word hD (n := n + 3) (a := 64 + 96 * (j : Int)) m3.mem (Hp.set_self _ _ _) ok (by (and_intros <;> omega)) (by (and_intros <;> omega)) ?_
      rw [Hp.set_set]
      have ok1 : DOk (wr d (64 + 96 * (j : Int)) (4 * r)) := ok.wr (by (and_intros <;> omega)) (by (and_intros <;> omega))
      have hk1 : KindsOk (mw (wr d (64 + 96 * (j : Int)) (4 * r))) j ks := hk.congr fun i hi => by rw [mw_wr, if_neg (by (and_intros <;> omega))]
      have hw1 : mw (wr d (64 + 96 * (j : Int)) (4 * r)) (16 + 24 * j) = 4 * r := by rw [mw_wr, if_pos (by (and_intros <;> omega))]; (and_intros <;> omega)
      generalize wr d (64 + 96 * (j : Int)) (4 * r) = d1 at ok1 hk1 hw1 ⊢
      simp [-W.seq_eq, W.seq_put, W.seq_set]
      rw [wLen_list tO.get]
      refine ⟨by simp; (and_intros <;> omega), ?_⟩
      simp [-W.seq_eq, W.seq_put, W.seq_set]
      refine ⟨by unfold rangeOk; (and_intros <;> omega), ?_⟩
      rw [range_up]
      have inner : ∀ (k2 j2 : Nat) (d2 : List (Int × V)) (x : Option V), j2 + k2 = acc.length → DOk d2 → (∀ i, i < 21 + 24 * (j : Int) → mw d2 i = mw d1 i) →
          W.forGo (W.one 8) (W_law_area_b0 D (n + 5)) (fun _ => True) ((List.range' j2 k2).map fun (i : Nat) => V.int (i : Int)) [some (.ref aP), some (.int room), some (.ref aM), some (.ref cK), some (.int (j : Int)), some (.int (4 * r)), some (.ref co), some (.int (64 + 96 * (j : Int))), x] (hpB.set aW (.dict d2)) (sq ((W.seq (W.ex (W.meth D 238 "put_word" 221 (n + 5 + 4) (W.v 2) [(W.bin wAdd (W.bin wAdd (W.v 7) (W.c (.int 20))) (W.bin wMulL (W.c (.int 4)) (W.app wLen [(W.v 6)]))), (W.bin wSub (W.bin wPow (W.c (.int 2)) (W.c (.int 32))) (W.c (.int 1)))])) (W.seq (W.ex (W.methB isL wAppend (W.v 3) [(W.app wTup [(W.v 7), (W.v 5), (W.v 6)])])) W.nil))) (lpq (W.forGo (W.one 4) (W_law_area_b1 D (n + 5)) (fun _ => True) ((List.range' (j + 1) k).map fun (i : Nat) => V.int (i : Int))) (sq (W.seq (W.ret (W.app wTup [(W.new D 108 49 (n + 5 + 3) [(W.v 2), (W.c (.int 1024)), (W.bin wAdd (W.c (.int 1024)) (W.bin wMulL (W.c (.int 16)) (W.v 1)))]), (W.v 3)])) W.nil) (bodyPost Q)))) := by
        intro k2
        induction k2 with
        | zero =>
          intro j2 d2 x hj2 ok2 e2
          simp [-W.seq_eq, W.seq_put, W.seq_set]
          refine ⟨m3.mem.o_put_word ▸ trivial, ?_⟩
          rw [wLen_list tO.get]
          refine ⟨by simp; (and_intros <;> omega), ?_⟩
          simp [-W.seq_eq, W.seq_put, W.seq_set]
          refine s_put_word hD (n := n + 3) (a := 64 + 96 * (j : Int) + 20 + 4 * (acc.length : Int)) m3.mem (Hp.set_self _ _ _) ok2 (by (and_intros <;> omega)) (by (and_intros <;> omega)) ?_
          rw [Hp.set_set]
          simp [-W.seq_eq, W.seq_put, W.seq_set]
          rw [isL_list t3.get, wAppend_list t3.get]
          refine ⟨trivial, by rw [hk.len]; (and_intros <;> omega), ?_⟩
          rw [Hp.set_comm _ (a := aW) (b := cK) _ _ (Ne.symm t3.nW)]
          refine ih (j + 1) _ _ (ks ++ [.tup [.int (64 + 96 * (j : Int)), .int (4 * r), .ref co]]) _ _ _ _ _ (by (and_intros <;> omega)) (m3.lst t3.at_ t3.nP t3.nC) ⟨Hp.set_self _ _ _, t3.nP, t3.nW, t3.nC⟩ ?_ (ok2.wr (by (and_intros <;> omega)) (by (and_intros <;> omega)))
          refine KindsOk.snoc (hk1.congr fun i hi => by rw [mw_wr, if_neg (by (and_intros <;> omega))]; exact e2 _ (by (and_intros <;> omega))) ?_ (by (and_intros <;> omega)) (by (and_intros <;> omega)) (by (and_intros <;> omega))
          rw [mw_wr, if_neg (by (and_intros <;> omega)), e2 _ (by (and_intros <;> omega))]; exact hw1
        | succ k2 ih2 =>
          intro j2 d2 x hj2 ok2 e2
          rw [List.range'_succ, List.map_cons, W.forGo_cons]
          simp [-W.seq_eq, W.seq_put, W.seq_set]
          refine ⟨m3.mem.o_put_word ▸ trivial, ?_⟩
          rw [wIx_list tO.get]
          refine ⟨⟨by simp <;> omega, by simp <;> omega⟩, _, ints_ix (by (and_intros <;> omega)) (by (and_intros <;> omega)), ?_⟩
          refine s_put_word hD (n := n + 3) (a := 64 + 96 * (j : Int) + 20 + 4 * (j2 : Int)) m3.mem (Hp.set_self _ _ _) ok2 (by (and_intros <;> omega)) (by (and_intros <;> omega)) ?_
          rw [Hp.set_set]
          simp [-W.seq_eq, W.seq_put, W.seq_set]
          refine ih2 (j2 + 1) _ _ (by (and_intros <;> omega)) (ok2.wr (by (and_intros <;> omega)) (by (and_intros <;> omega))) fun i hi => ?_
          rw [mw_wr, if_neg (by (and_intros <;> omega))]; exact e2 i hi
      exact inner acc.length 0 d1 x8 (by (and_intros <;> omega)) ok1 fun _ _ => rfl
  exact loop N 0 hp2 [] [] none none none none none (by (and_intros <;> omega)) m2 t2 ⟨rfl, fun i u hu => by simp at hu⟩ DOk.nil
end
end Mine

namespace Mine
open PySem PySem.W PyProof.Rows

structure Fresh (m : Int → Int) (us : List Blk) (a lim : Int) : Prop where
  bl : Bl m 1024 us a
  used : ∀ b ∈ us, ∃ c, b.t = some (c, 0)
  le : a ≤ lim
  al : lim % 16 = 0
  tail : a < lim → m (a / 4) = lim - a + 1 ∧ m ((a + 4) / 4) = 0
noncomputable def tailB (a lim : Int) : List Blk := if a < lim then [⟨lim - a, none⟩] else []
theorem tiles16 : ∀ {bs : List Blk} {a e : Int}, Tiles a bs e → a % 16 = 0 → e % 16 = 0
  | [], a, e, h, h16 => by have : a = e := h; (and_intros <;> omega)
  | b :: r, a, e, h, h16 => tiles16 h.2 (by have := h.1; (and_intros <;> omega))
theorem frees_used : ∀ {us : List Blk} {a : Int}, (∀ b ∈ us, ∃ c, b.t = some (c, 0)) → frees a us = []
  | [], _, _ => rfl
  | b :: r, a, h => by
    obtain ⟨c, e⟩ := h b (.head _)
    rw [frees_cons, if_neg (by rw [e]; simp), frees_used fun b hb => h b (.tail _ hb)]; rfl
theorem na_used {a lim : Int} : ∀ {us : List Blk}, (∀ b ∈ us, ∃ c, b.t = some (c, 0)) → NA false (us ++ tailB a lim)
  | [], _ => by
    unfold tailB
    split
    · exact ⟨fun h => (by cases h), trivial⟩
    · trivial
  | b :: r, h => by
    obtain ⟨c, e⟩ := h b (.head _)
    refine ⟨fun h => (by cases h), ?_⟩
    rw [e]
    exact na_used fun b hb => h b (.tail _ hb)
theorem Fresh.good {m : Int → Int} {us : List Blk} {a lim : Int} (f : Fresh m us a lim) : Good m (frT (decide (a < lim)) a (lim - a)) lim (us ++ tailB a lim) := by
  have t := f.bl.tiles
  have a16 := tiles16 t rfl
  have hle := f.bl.le
  have hF : frees 1024 (us ++ tailB a lim) = if a < lim then [(a, lim - a)] else [] := by
    rw [frees_app t, frees_used f.used]
    unfold tailB
    split <;> simp [frees]
  refine ⟨(Bl_app t).mpr ⟨f.bl, ?_⟩, fun b hb ck e => ?_, na_used f.used, frT_len _ _ _, fun i i0 i1 => ?_⟩
  · unfold tailB
    split
    · rename_i h
      have := f.tail h
      have := f.al
      exact ⟨⟨by show 16 ≤ lim - a; (and_intros <;> omega), by show (lim - a) % 16 = 0; (and_intros <;> omega)⟩, (f.tail h).1, by show a + (lim - a) = lim; (and_intros <;> omega)⟩
    · have := f.le
      show a = lim; (and_intros <;> omega)
  · rcases List.mem_append.mp hb with h | h
    · obtain ⟨c, e'⟩ := f.used b h
      rw [e'] at e; cases e; rfl
    · unfold tailB at h
      split at h
      · rw [List.mem_singleton.mp h] at e; cases e
      · cases h
  · rw [hF, frT_get _ _ _ _ i0 i1]
    by_cases h : a < lim
    · rw [decide_eq_true h, if_pos h, rowOf_cons]
      by_cases e : i = cls (lim - a)
      · rw [if_pos ⟨rfl, e⟩, if_pos e.symm]
        exact ⟨rfl, by show a ≠ 0; (and_intros <;> omega), (f.tail h).2⟩
      · rw [if_neg fun q => e q.2, if_neg (Ne.symm e)]; rfl
    · rw [decide_eq_false h, if_neg (by simp), if_neg h]; rfl
noncomputable def RecOk (r : V) (p : Int × Int) : Prop := ∃ (c w : Int) (o : Addr), r = .tup [.int (p.1 + 8), .tup [.int c, .int w, .ref o]] ∧ bsz w = p.2
noncomputable def Recs : List V → List (Int × Int) → Prop
  | [], [] => True
  | r :: rs, p :: ps => RecOk r p ∧ Recs rs ps
  | _, _ => False
theorem Recs.snoc : ∀ {rs : List V} {ps : List (Int × Int)} {r : V} {p : Int × Int}, Recs rs ps → RecOk r p → Recs (rs ++ [r]) (ps ++ [p])
  | [], [], _, _, _, h => ⟨h, trivial⟩
  | r :: rs, p :: ps, _, _, h, h' => ⟨h.1, h.2.snoc h'⟩
  | [], _ :: _, _, _, h, _ => h.elim
  | _ :: _, [], _, _, h, _ => h.elim
theorem Recs.length : ∀ {rs : List V} {ps : List (Int × Int)}, Recs rs ps → rs.length = ps.length
  | [], [], _ => rfl
  | r :: rs, p :: ps, h => by rw [List.length_cons, List.length_cons, h.2.length]
  | [], _ :: _, h => h.elim
  | _ :: _, [], h => h.elim
theorem useds_app : ∀ {pre r : List Blk} {a x : Int}, Tiles a pre x → useds a (pre ++ r) = useds a pre ++ useds x r
  | [], r, a, x, h => by
    have : a = x := h
    subst this; rfl
  | b :: pre, r, a, x, h => by
    show (if b.t = none then [] else [(a, b.s)]) ++ useds (a + b.s) (pre ++ r) = ((if b.t = none then [] else [(a, b.s)]) ++ useds (a + b.s) pre) ++ useds x r
    rw [useds_app h.2, List.append_assoc]
theorem bsz_small {w : Int} (h0 : 0 ≤ w) (h1 : w ≤ 44) : 16 ≤ bsz w ∧ bsz w % 16 = 0 := by unfold bsz; (and_intros <;> omega)

section
variable {D : Wd} {P : Params} (hD : D.KF = HK P) {n : Nat} {hp : Hp} {Q : V → Hp → Prop} {L : Lay} {d : List (Int × V)} {aP aC cK : Addr} {cs : List Int} {ks : List V}
include hD
theorem s_law_made (b : Bx L hp aP aC cs) (ok : DOk d) (tK : Lst L hp aP cK ks) (hk : KindsOk (mw d) ks.length ks) (k1 : 1 ≤ ks.length) (k4 : ks.length ≤ 4) (hl : L.lim ≤ 1400) (f : Fresh (mw d) [] 1024 L.lim) {most : Int} (m0 : 0 ≤ most) (m1 : most ≤ 12)
    (q : ∀ (hp' : Hp) (d' : List (Int × V)) (us : List Blk) (a : Int) (rs : List V) (cR : Addr), Bx L hp' aP aC cs → DOk d' → Fresh (mw d') us a L.lim → Lst L hp' aP cR rs → Recs rs (useds 1024 us) → rs.length ≤ 12 → Q (.ref cR) (L.put d' (frT (decide (a < L.lim)) a (L.lim - a)) hp')) :
    Calls D 282 (n + 10) [.ref aP, .ref L.aH, .ref cK, .int most] (L.put d (frT (decide ((1024 : Int) < L.lim)) 1024 (L.lim - 1024)) hp) Q := by
  refine c_law_made hD (n := n + 5) rfl ?_
  simp [-W.seq_eq, W.seq_put, W_law_made]
  intro cR hcR
  have p0 := Lay.put_none hcR
  rw [Lay.put_set p0.1 p0.2.1]
  refine ⟨by unfold rangeOk; (and_intros <;> omega), ?_⟩
  have hvl : (rangeL 0 most 1).length ≤ 12 := by
    obtain ⟨N, hN⟩ : ∃ N : Nat, most = (N : Int) := ⟨most.toNat, by (and_intros <;> omega)⟩
    rw [hN, range_up]; simp; (and_intros <;> omega)
  have loop : ∀ (vs : List V) (hp : Hp) (d : List (Int × V)) (us : List Blk) (a : Int) (rs : List V) (x5 x6 x7 : Option V), Bx L hp aP aC cs → DOk d → Lst L hp aP cK ks → Lst L hp aP cR rs → cR ≠ aC → KindsOk (mw d) ks.length ks → Fresh (mw d) us a L.lim → Recs rs (useds 1024 us) → rs.length + vs.length ≤ 12 → cK ≠ cR →
      W.forGo (W.one 5) (W_law_made_b0 D (n + 5)) (fun _ => True) vs [some (.ref aP), some (.ref L.aH), some (.ref cK), some (.int most), some (.ref cR), x5, x6, x7] (L.put d (frT (decide (a < L.lim)) a (L.lim - a)) hp) (sq (W.seq (W.ret (W.v 4)) W.nil) (bodyPost Q)) := by
    intro vs
    induction vs with
    | nil =>
      intro hp d us a rs x5 x6 x7 b ok tK tR ncC hk f hr hl2 nKR
      simp [-W.seq_eq, W.seq_put]
      exact q hp d us a rs cR b ok f tR hr (by simpa [-W.seq_eq, W.seq_put] using hl2)
    | cons v vs ih =>
      intro hp d us a rs x5 x6 x7 b ok tK tR ncC hk f hr hl2 nKR
      simp only [List.length_cons] at hl2
      have a16 := tiles16 f.bl.tiles rfl
      have hle := f.bl.le
      have fle := f.le
      have fal := f.al
      simp [-W.seq_eq, W.seq_put]
      rw [wLen_list tK.get]
      refine ⟨by (and_intros <;> omega), ?_⟩
      refine b_pick hD (n := n + 4) b (by (and_intros <;> omega)) (by (and_intros <;> omega)) fun r us' r0 r1 b1 => ?_
      have tK1 := tK.pick (o := .list us')
      have tR1 := tR.pick (o := .list us')
      rw [wIx_list tK1.get]
      have hrn : r.toNat < ks.length := by (and_intros <;> omega)
      have hg : ks[ixN ks.length r]? = some ks[r.toNat] := by
        unfold ixN; rw [if_neg (by (and_intros <;> omega))]; exact List.getElem?_eq_getElem hrn
      obtain ⟨w, o, e1, e2, w0, w1, w2⟩ := hk.at_ r.toNat _ (List.getElem?_eq_getElem hrn)
      have hb := bsz_small w0 w1
      have hcs : mw d ((64 + 96 * ((r.toNat : Nat) : Int)) / 4) = w := by
        rw [show (64 + 96 * ((r.toNat : Nat) : Int)) / 4 = 16 + 24 * ((r.toNat : Nat) : Int) by (and_intros <;> omega)]; exact e2
      have hc0 : 0 < 64 + 96 * ((r.toNat : Nat) : Int) ∧ 64 + 96 * ((r.toNat : Nat) : Int) < 1024 ∧ (64 + 96 * ((r.toNat : Nat) : Int)) % 4 = 0 := by (and_intros <;> omega)
      generalize 64 + 96 * ((r.toNat : Nat) : Int) = c at e1 hcs hc0
      refine ⟨⟨by (and_intros <;> omega), by (and_intros <;> omega)⟩, _, hg, ?_⟩
      rw [e1]
      refine ⟨b1.k.o_alloc ▸ trivial, ?_⟩
      simp [-W.seq_eq, W.seq_put]
      refine ⟨_, rfl, ?_⟩
      have hcs' : bsz (mw d (c / 4)) = bsz w := by rw [hcs]
      generalize hs : bsz w = s at hb hcs'
      refine s_alloc hD (n := n) (s := s) (c := c) b1.k ok (fun h => ?_) hb.1 hb.2 hc0.1 hc0.2.1 hcs' (fun _ => ?_) (fun h hsT d' okd h1 h2 h3 h4 => ?_)
      · have h' : a < L.lim := by simpa [-W.seq_eq, W.seq_put] using h
        have := f.tail h'
        exact ⟨by (and_intros <;> omega), by (and_intros <;> omega), this.1, this.2, by (and_intros <;> omega), a16, by (and_intros <;> omega)⟩
      · simp [-W.seq_eq, W.seq_put]
        exact ih _ d us a rs _ _ _ b1 ok tK1 tR1 ncC hk f hr (by (and_intros <;> omega)) nKR
      · have h' : a < L.lim := by simpa [-W.seq_eq, W.seq_put] using h
        have efr : frT (decide (s < L.lim - a)) (a + s) (L.lim - a - s) = frT (decide (a + s < L.lim)) (a + s) (L.lim - (a + s)) := by
          have e1 : decide (s < L.lim - a) = decide (a + s < L.lim) := by
            by_cases h : a + s < L.lim
            · rw [decide_eq_true h, decide_eq_true (by (and_intros <;> omega))]
            · rw [decide_eq_false h, decide_eq_false (by (and_intros <;> omega))]
          rw [e1, show L.lim - a - s = L.lim - (a + s) by (and_intros <;> omega)]
        rw [efr]
        simp [-W.seq_eq, W.seq_put]
        refine ⟨fun _ => ?_, fun h => (by (and_intros <;> omega))⟩
        rw [isL_list tR1.get, wAppend_list tR1.get]
        refine ⟨trivial, by (and_intros <;> omega), ?_⟩
        rw [Lay.put_set tR1.nW tR1.nF]
        simp [-W.seq_eq, W.seq_put]
        have b2 : Bx L ((hp.set aP (.list us')).set cR (.list (rs ++ [.tup [.int (a + 8), .tup [.int c, .int w, .ref o]]]))) aP aC cs := ⟨b1.k.setList tR1.at_, b1.hand.other tR1.nP ncC, b1.pW, b1.pF, b1.cW, b1.cF⟩
        refine ih _ d' (us ++ [⟨s, some (c, 0)⟩]) (a + s) (rs ++ [.tup [.int (a + 8), .tup [.int c, .int w, .ref o]]]) _ _ _ b2 okd ⟨by rw [Hp.set_ne _ _ nKR]; exact tK1.at_, tK1.nP, tK1.nW, tK1.nF⟩ ⟨Hp.set_self _ _ _, tR1.nP, tR1.nW, tR1.nF⟩ ncC (hk.congr fun i hi => h1 _ (by (and_intros <;> omega))) ?_ ?_ (by simp; (and_intros <;> omega)) nKR
        · refine ⟨(Bl_app f.bl.tiles).mpr ⟨f.bl.congr rfl (fun j hj => h1 j (by (and_intros <;> omega))) fun j _ hj => h1 j hj, ⟨hb.1, hb.2⟩, ⟨h2, h3, hc0.1, hc0.2.1, hc0.2.2, ?_⟩, rfl⟩, fun x hx => ?_, by (and_intros <;> omega), fal, fun h => ?_⟩
          · show s = bsz (mw d' (c / 4))
            rw [h1 _ (by (and_intros <;> omega))]; exact hcs'.symm
          · rcases List.mem_append.mp hx with h | h
            · exact f.used x h
            · rw [List.mem_singleton.mp h]; exact ⟨c, rfl⟩
          · have := h4 (by (and_intros <;> omega))
            exact ⟨by rw [this.1]; (and_intros <;> omega), this.2⟩
        · rw [useds_app f.bl.tiles]
          exact hr.snoc ⟨c, w, o, rfl, hs⟩
  exact loop _ _ d [] 1024 [] none none none (b.new hcR) ok (tK.new hcR) (Lst.mk' b hcR) (Ne.symm (Hp.ne_of p0.2.2 b.hand.cells)) hk f trivial (by simpa [-W.seq_eq, W.seq_put] using hvl) (Hp.ne_of p0.2.2 tK.at_)
end
end Mine

namespace Mine
open PySem PySem.W PyProof.Rows

noncomputable def namesL : List Str := ["bad_block", "not_joined", "marked", "not_free", "listed_twice", "wrong_list", "not_listed"]
/-- what a fault may be -/
noncomputable def FOk (p : Int × Str) : Prop := p.2 ∈ namesL ∧ (1024 ≤ p.1 ∨ p.2 = "not_free")
theorem n_bad : ("bad_block" : Str) ∈ namesL := .head _
theorem n_joined : ("not_joined" : Str) ∈ namesL := .tail _ (.head _)
theorem n_marked : ("marked" : Str) ∈ namesL := .tail _ (.tail _ (.head _))
theorem n_free : ("not_free" : Str) ∈ namesL := .tail _ (.tail _ (.tail _ (.head _)))
theorem n_twice : ("listed_twice" : Str) ∈ namesL := .tail _ (.tail _ (.tail _ (.tail _ (.head _))))
theorem n_wrong : ("wrong_list" : Str) ∈ namesL := .tail _ (.tail _ (.tail _ (.tail _ (.tail _ (.head _)))))
theorem n_listed : ("not_listed" : Str) ∈ namesL := .tail _ (.tail _ (.tail _ (.tail _ (.tail _ (.tail _ (.head _))))))
theorem walk_FOk (m : Int → Int) (lim : Int) : ∀ (k : Nat) (a : Int) (bf : Bool), 1024 ≤ a → ∀ p ∈ (walkP m lim k a bf).1, FOk p
  | 0, a, bf, h, p, hp => by cases hp
  | k + 1, a, bf, h, p, hp => by
    rw [walkP_succ] at hp
    split at hp
    · split at hp
      · rw [List.mem_singleton.mp hp]; exact ⟨n_bad, .inl h⟩
      · rename_i h0
        have tc := (toldP_cases m lim a).resolve_left h0
        split at hp
        · rcases List.mem_append.mp hp with q | q
          · split at q
            · rw [List.mem_singleton.mp q]; exact ⟨n_joined, .inl h⟩
            · cases q
          · exact walk_FOk m lim k _ _ (by (and_intros <;> omega)) p q
        · rcases List.mem_append.mp hp with q | q
          · split at q
            · rw [List.mem_singleton.mp q]; exact ⟨n_marked, .inl h⟩
            · cases q
          · exact walk_FOk m lim k _ _ (by (and_intros <;> omega)) p q
    · cases hp
theorem row_FOk {m : Int → Int} {F : List (Int × Int)} (hF : ∀ p ∈ F, 1024 ≤ p.1) (i : Int) : ∀ (k : Nat) (b : Int) (seen : List Int), ∀ p ∈ (rowP m F i k b seen).1, FOk p
  | 0, b, seen, p, hp => by cases hp
  | k + 1, b, seen, p, hp => by
    unfold rowP at hp
    split at hp
    · cases hp
    · split at hp
      · rw [List.mem_singleton.mp hp]; exact ⟨n_free, .inr rfl⟩
      · rename_i s hs
        have := hF _ (fget_mem hs)
        split at hp
        · rw [List.mem_singleton.mp hp]; exact ⟨n_twice, .inl this⟩
        · rcases List.mem_append.mp hp with q | q
          · split at q
            · rw [List.mem_singleton.mp q]; exact ⟨n_wrong, .inl this⟩
            · cases q
          · exact row_FOk hF i k _ _ p q
theorem rows_FOk {m : Int → Int} {F : List (Int × Int)} {fr : List Int} (hF : ∀ p ∈ F, 1024 ≤ p.1) : ∀ (is seen : List Int), ∀ p ∈ (rowsP m F fr is seen).1, FOk p
  | [], seen, p, hp => by cases hp
  | i :: is, seen, p, hp => by
    unfold rowsP at hp
    rcases List.mem_append.mp hp with q | q
    · exact row_FOk hF i 64 _ _ p q
    · exact rows_FOk hF is _ p q
theorem faults_FOk (m : Int → Int) (lim : Int) (fr : List Int) : ∀ p ∈ faultsP m lim fr, FOk p := fun p hp => by
  unfold faultsP at hp
  split at hp
  · exact walk_FOk m lim 500 1024 false (Int.le_refl _) p hp
  · have wk := walk_keys m lim 500 1024 false
    rcases List.mem_append.mp hp with q | q
    · exact walk_FOk m lim 500 1024 false (Int.le_refl _) p q
    · unfold listP at q
      rcases List.mem_append.mp q with r | r
      · exact rows_FOk (fun p hp => (wk.1 p hp).1) _ _ p r
      · obtain ⟨x, hx, rfl⟩ := List.mem_map.mp r
        obtain ⟨y, hy, rfl⟩ := List.mem_map.mp (List.mem_filter.mp hx).1
        exact ⟨n_listed, .inl (wk.1 y hy).1⟩
theorem dat_names : ∀ x ∈ namesL, V.sc (.str x) = true := by
  intro x hx
  unfold namesL at hx
  simp only [List.mem_cons, List.not_mem_nil, or_false] at hx
  rcases hx with rfl | rfl | rfl | rfl | rfl | rfl | rfl <;> decide +kernel
theorem dat_fv {l : List (Int × Str)} (h : ∀ p ∈ l, p.2 ∈ namesL) : (l.map fv).all V.dat = true := by
  induction l with
  | nil => rfl
  | cons p l ih =>
    rw [List.map_cons, List.all_cons, ih fun q hq => h q (.tail _ hq), Bool.and_true]
    have := dat_names _ (h p (.head _))
    show (V.sc (.int p.1) && (V.sc (.str p.2) && true)) = true
    rw [this]; rfl
theorem faults_len (m : Int → Int) (lim : Int) (fr : List Int) (h : 1024 ≤ lim) (hl : lim ≤ 2000) : (faultsP m lim fr).length ≤ 2000 := by
  have wl := walk_len m lim 500 1024 false
  have wk := walk_keys m lim 500 1024 false
  have w3 := wk.2.2 (by (and_intros <;> omega))
  have ll := listP_len m (walkP m lim 500 1024 false).2 fr
  unfold faultsP
  split
  · (and_intros <;> omega)
  · rw [List.length_append]; (and_intros <;> omega)

/-! the sums -/
theorem used_sum : ∀ (bs : List Blk) (a : Int), usedP bs = ((useds a bs).map (·.2)).sum
  | [], a => rfl
  | b :: r, a => by
    show (if b.t = none then 0 else b.s) + usedP r = (((if b.t = none then [] else [(a, b.s)]) ++ useds (a + b.s) r).map (·.2)).sum
    rw [used_sum r (a + b.s), List.map_append, List.sum_append]
    split <;> simp
theorem larg_max : ∀ (bs : List Blk) (a x : Int), largP x bs = lmax x ((frees a bs).map (·.2))
  | [], a, x => rfl
  | b :: r, a, x => by
    show largP (if b.t = none then (if b.s > x then b.s else x) else x) r = _
    rw [larg_max r (a + b.s), frees_cons]
    split
    · rename_i h; simp [lmax]
    · rename_i h; simp

/-! records marked and swept -/
theorem recs_keys : ∀ {rs : List V} {ps : List (Int × Int)}, Recs rs ps → pairKeys rs = some (ps.map fun p => p.1 + 8)
  | [], [], _ => rfl
  | r :: rs, p :: ps, h => by
    obtain ⟨⟨c, w, o, rfl, _⟩, h2⟩ := h
    show (pairKeys rs).map ((p.1 + 8) :: ·) = _
    rw [recs_keys h2]; rfl
  | [], _ :: _, h => h.elim
  | _ :: _, [], h => h.elim
theorem useds_cons (a : Int) (b : Blk) (r : List Blk) : useds a (b :: r) = (if b.t = none then [] else [(a, b.s)]) ++ useds (a + b.s) r := rfl
theorem useds_pw {bs : List Blk} {a e : Int} (h : Tiles a bs e) (h16 : a % 16 = 0) : (useds a bs).Pairwise fun p q => p.1 + 16 ≤ q.1 := by
  induction bs generalizing a with
  | nil => exact List.Pairwise.nil
  | cons b r ih =>
    rw [useds_cons]
    have ih' := ih h.2 (by have := h.1; (and_intros <;> omega))
    split
    · exact ih'
    · refine List.pairwise_cons.mpr ⟨fun q hq => ?_, ih'⟩
      obtain ⟨b', h1, _⟩ := useds_addrs hq
      have t : a + b.s ≤ q.1 := (addrs_at h.2 (by have := h.1; (and_intros <;> omega)) _ h1).1
      have := h.1
      show a + 16 ≤ q.1
      (and_intros <;> omega)
noncomputable def keptL : Int → List Blk → List (Int × Int)
  | _, [] => []
  | a, b :: r => (if b.kept = true then [(a, b.s)] else []) ++ keptL (a + b.s) r
theorem sw_useds : ∀ {bs : List Blk} {a p : Int}, 0 ≤ p → (∀ b ∈ bs, 0 < b.s) → useds (a - p) (sw p bs) = keptL a bs
  | [], a, p, h, _ => by
    unfold sw
    split
    · rfl
    · rfl
  | b :: r, a, p, h, hs => by
    have hb := hs b (.head _)
    have hr : ∀ b ∈ r, 0 < b.s := fun x hx => hs x (.tail _ hx)
    rw [sw_cons]
    show _ = (if b.kept = true then [(a, b.s)] else []) ++ keptL (a + b.s) r
    by_cases hk : b.kept = true
    · obtain ⟨ck, e, _⟩ := kept_some hk
      have e' : b.bare.t ≠ none := by unfold Blk.bare; rw [e]; simp
      have i := sw_useds (a := a + b.s) (Int.le_refl 0) hr
      rw [Int.sub_zero] at i
      rw [if_pos hk, if_pos hk]
      by_cases hp : 0 < p
      · rw [if_pos hp]
        show useds (a - p) (⟨p, none⟩ :: b.bare :: sw 0 r) = _
        rw [useds_cons, useds_cons, if_pos rfl, if_neg e']
        show [] ++ ([(a - p + p, b.s)] ++ useds (a - p + p + b.s) (sw 0 r)) = _
        rw [show a - p + p = a by (and_intros <;> omega), i]; rfl
      · rw [if_neg hp, show p = 0 by (and_intros <;> omega), Int.sub_zero]
        show useds a (b.bare :: sw 0 r) = _
        rw [useds_cons, if_neg e']
        show [(a, b.s)] ++ useds (a + b.s) (sw 0 r) = _
        rw [i]
    · rw [if_neg hk, if_neg hk]
      have := sw_useds (a := a + b.s) (p := p + b.s) (by (and_intros <;> omega)) hr
      rw [show a + b.s - (p + b.s) = a - p by (and_intros <;> omega)] at this
      rw [this]; rfl
/-- the blocks whose records are kept, marked -/
noncomputable def mark (X : List Int) : Int → List Blk → List Blk
  | _, [] => []
  | a, b :: r => ⟨b.s, if a ∈ X then b.t.map fun ck => (ck.1, 4) else b.t⟩ :: mark X (a + b.s) r
theorem mark_Bl {m m' : Int → Int} {X : List Int} (lo : ∀ j, j < 256 → m' j = m j) (hX : ∀ x ∈ X, x % 16 = 0 ∧ m' ((x + 4) / 4) = 4) (far : ∀ j, (∀ x ∈ X, j ≠ (x + 4) / 4) → m' j = m j) :
    ∀ {bs : List Blk} {a e : Int}, a % 16 = 0 → Bl m a bs e → (∀ q ∈ addrs a bs, q.1 ∈ X → q.2.t ≠ none) → Bl m' a (mark X a bs) e
  | [], a, e, h16, h, _ => h
  | b :: r, a, e, h16, h, hn => by
    obtain ⟨hs, ht, hr⟩ := h
    have i := mark_Bl lo hX far (by (and_intros <;> omega)) hr fun q hq => hn q (.tail _ hq)
    have f1 : m' (a / 4) = m (a / 4) := far _ fun x hx => by have := hX x hx; (and_intros <;> omega)
    refine ⟨hs, ?_, i⟩
    by_cases e : a ∈ X
    · have hb := hn (a, b) (.head _) e
      obtain ⟨ck, hck⟩ := Option.ne_none_iff_exists'.mp hb
      simp only at hck
      rw [hck] at ht
      obtain ⟨t1, t2, k1, k2, k3, k4⟩ := ht
      simp only [if_pos e, hck, Option.map_some]
      exact ⟨f1.trans t1, (hX a e).2, k1, k2, k3, by rw [lo _ (by show ck.1 / 4 < 256; (and_intros <;> omega))]; exact k4⟩
    · simp only [if_neg e]
      have f2 : m' ((a + 4) / 4) = m ((a + 4) / 4) := far _ fun x hx => by
        have := hX x hx
        have : a ≠ x := fun q => e (q ▸ hx)
        (and_intros <;> omega)
      have := BlkOk.congr (p := (a, b)) ht lo f1 fun _ => f2
      exact this
theorem mark_kept {X : List Int} : ∀ {bs : List Blk} {a : Int}, (∀ b ∈ bs, ∀ ck, b.t = some ck → ck.2 = 0) → keptL a (mark X a bs) = (useds a bs).filter fun p => decide (p.1 ∈ X)
  | [], a, _ => rfl
  | b :: r, a, h => by
    have i := mark_kept (X := X) (a := a + b.s) fun b hb => h b (.tail _ hb)
    have hb := h b (.head _)
    show (if (⟨b.s, if a ∈ X then b.t.map fun ck => (ck.1, 4) else b.t⟩ : Blk).kept = true then [(a, b.s)] else []) ++ keptL (a + b.s) (mark X (a + b.s) r) = _
    rw [i, useds_cons, List.filter_append]
    congr 1
    unfold Blk.kept
    cases ht : b.t with
    | none => simp
    | some ck =>
      have h0 := hb ck ht
      by_cases e : a ∈ X
      · simp [-W.seq_eq, W.seq_put, e]
      · simp [-W.seq_eq, W.seq_put, e, h0]
theorem sub_filter {ps' ps : List (Int × Int)} (h : ps'.Sublist ps) (pw : ps.Pairwise fun p q => p.1 + 16 ≤ q.1) : ps.filter (fun p => decide (p.1 ∈ ps'.map (·.1))) = ps' := by
  induction h with
  | slnil => rfl
  | @cons l1 l2 a h ih =>
    obtain ⟨p1, p2⟩ := List.pairwise_cons.mp pw
    rw [List.filter_cons_of_neg, ih p2]
    have : a.1 ∉ l1.map (·.1) := fun hm => by
      obtain ⟨q, hq, e⟩ := List.mem_map.mp hm
      have := p1 q (h.subset hq)
      (and_intros <;> omega)
    simpa [-W.seq_eq, W.seq_put] using this
  | @cons_cons l1 l2 a h ih =>
    obtain ⟨p1, p2⟩ := List.pairwise_cons.mp pw
    rw [List.filter_cons_of_pos (by simp)]
    congr 1
    rw [← ih p2]
    refine List.filter_congr fun q hq => ?_
    have : q.1 ≠ a.1 := by have := p1 q hq; (and_intros <;> omega)
    rw [ih p2]
    simp [-W.seq_eq, W.seq_put, this]
end Mine

namespace Mine
open PySem PySem.W PyProof.Rows

section
variable {D : Wd} {P : Params} (hD : D.KF = HK P) {n : Nat} {PP : Hp → Prop} {H : Hp} {K : List V → Hp → Prop} (hP : PP H)
include hP
theorem compB : ∀ (bs : List Blk) (a : Int) (acc : List V) (z0 z1 z2 : Option V), acc.length + bs.length ≤ 10000 → K (acc ++ (frees a bs).map pv) H →
    W.compGo (W.many [0, 1, 2]) (W.t (W.bin wIs (W.v 2) (W.c .none))) (W.app wTup [(W.v 0), (W.v 1)]) PP (blocksV a bs) [z0, z1, z2] H acc K
  | [], a, acc, z0, z1, z2, _, q => by simpa [-W.seq_eq, W.seq_put, blocksV, hP, frees] using q
  | b :: r, a, acc, z0, z1, z2, hl, q => by
    simp only [List.length_cons] at hl
    unfold blocksV
    rw [W.compGo_cons]
    refine ⟨hP, ?_⟩
    obtain ⟨s, t⟩ := b
    rw [frees_cons] at q
    cases t with
    | none =>
      simp [-W.seq_eq, W.seq_put, tagV]
      refine ⟨by (and_intros <;> omega), compB r _ _ _ _ _ (by simp; (and_intros <;> omega)) ?_⟩
      simpa [-W.seq_eq, W.seq_put, pv] using q
    | some ck =>
      simp [-W.seq_eq, W.seq_put, tagV]
      refine compB r _ _ _ _ _ (by (and_intros <;> omega)) ?_
      simpa [-W.seq_eq, W.seq_put] using q
theorem compS : ∀ (ps : List (Int × Int)) (acc : List V) (z0 z1 : Option V), acc.length + ps.length ≤ 10000 → K (acc ++ (ps.map (·.2)).map .int) H →
    W.compGo (W.many [0, 1]) W.yes (W.v 1) PP (ps.map pv) [z0, z1] H acc K
  | [], acc, z0, z1, _, q => by simpa [-W.seq_eq, W.seq_put, hP] using q
  | p :: ps, acc, z0, z1, hl, q => by
    simp only [List.length_cons] at hl
    rw [List.map_cons, W.compGo_cons]
    refine ⟨hP, ?_⟩
    simp [-W.seq_eq, W.seq_put, pv]
    refine ⟨by (and_intros <;> omega), compS ps _ _ _ (by simp; (and_intros <;> omega)) ?_⟩
    simpa [-W.seq_eq, W.seq_put] using q
theorem compU : ∀ (fl : List (Int × Str)) (acc : List V) (z0 : Option V), acc.length + fl.length ≤ 10000 → K (acc ++ fl.map fv) H →
    W.compGo (W.one 0) W.yes (W.app wTuple [(W.v 0)]) PP (fl.map fv) [z0] H acc K
  | [], acc, z0, _, q => by simpa [-W.seq_eq, W.seq_put, hP] using q
  | p :: fl, acc, z0, hl, q => by
    simp only [List.length_cons] at hl
    rw [List.map_cons, W.compGo_cons]
    refine ⟨hP, ?_⟩
    have e : fv p = .tup [.int p.1, .str p.2] := rfl
    rw [e]
    simp [-W.seq_eq, W.seq_put]
    refine ⟨by (and_intros <;> omega), compU fl _ _ (by simp; (and_intros <;> omega)) ?_⟩
    simpa [-W.seq_eq, W.seq_put, fv] using q
theorem compC {aH cN : Addr} (h1 : fld H 108 "start" (.ref aH) = some (.int 1024)) (h2 : H cN = some (.list (namesL.map .str))) : ∀ (fl : List (Int × Str)) (acc : List V) (z0 z1 : Option V), (∀ p ∈ fl, FOk p) → (∃ k, acc = List.replicate k (.bool true)) → acc.length + fl.length ≤ 10000 → (∀ k, K (List.replicate k (.bool true)) H) →
    W.compGo (W.many [0, 1]) W.yes (W.or2 (W.and2 (W.bin wLe (W.bin wSub (W.attr 108 "start" (W.v 3)) (W.c (.int 64))) (W.v 0)) (W.bin wIn (W.v 1) (W.v 2))) (W.bin wEq (W.v 1) (W.c (.str "not_free")))) PP (fl.map fv) [z0, z1, some (.ref cN), some (.ref aH)] H acc K
  | [], acc, z0, z1, _, ⟨k, e⟩, _, q => by subst e; simpa [-W.seq_eq, W.seq_put, hP] using q k
  | p :: fl, acc, z0, z1, hf, ⟨k, e⟩, hl, q => by
    simp only [List.length_cons] at hl
    have hp := hf p (.head _)
    have ih := fun z0 z1 => compC (aH := aH) (cN := cN) h1 h2 fl (acc ++ [.bool true]) z0 z1 (fun p hp => hf p (.tail _ hp)) ⟨k + 1, by rw [e, List.replicate_succ']⟩ (by simp; (and_intros <;> omega)) q
    rw [List.map_cons, W.compGo_cons]
    refine ⟨hP, ?_⟩
    have e0 : fv p = .tup [.int p.1, .str p.2] := rfl
    rw [e0]
    simp [-W.seq_eq, W.seq_put, W.or2_eq, W.and2_eq]
    rw [h1]
    have hin : ∃ ys, strsOf (namesL.map V.str) = some ys ∧ ys.any (· == p.2) = true := by
      have : ∀ l : List Str, strsOf (l.map .str) = some l := by
        intro l
        induction l with
        | nil => rfl
        | cons x l ih => show (strsOf (l.map .str)).map (x :: ·) = _; rw [ih]; rfl
      exact ⟨namesL, this _, List.any_eq_true.mpr ⟨p.2, hp.1, by simp⟩⟩
    obtain ⟨ys, hy1, hy2⟩ := hin
    refine ⟨_, rfl, ?_⟩
    by_cases h : (1024 : Int) - 64 ≤ p.1
    · refine .inr ⟨by rw [decide_eq_true h], ?_⟩
      rw [wIn_list h2]
      exact ⟨ys, hy1, .inr ⟨by rw [hy2], by (and_intros <;> omega), ih _ _⟩⟩
    · refine .inl ⟨by rw [decide_eq_false h], by (and_intros <;> omega), ?_⟩
      have hn : p.2 = "not_free" := hp.2.resolve_left (by (and_intros <;> omega))
      have hb : (p.2 == Str.ofString "not_free") = true := by rw [hn]; simp
      rw [hb]
      exact ih _ _
end
section
variable {D : Wd} {P : Params} (hD : D.KF = HK P) {n : Nat} {PP : Hp → Prop} {H : Hp} {K : List V → Hp → Prop} (hP : PP H)
include hD hP
theorem compR : ∀ (rs : List V) (ps : List (Int × Int)) (acc : List V) (z0 z1 : Option V), Recs rs ps → acc.length + rs.length ≤ 10000 → K (acc ++ ps.map pv) H →
    W.compGo (W.many [0, 1]) W.yes (W.app wTup [(W.bin wSub (W.v 0) (W.c (.int 8))), (W.call D 275 (n + 5) [(W.bin wIx (W.v 1) (W.c (.int 1)))])]) PP rs [z0, z1] H acc K
  | [], [], acc, z0, z1, _, _, q => by simpa [-W.seq_eq, W.seq_put, hP] using q
  | r :: rs, p :: ps, acc, z0, z1, h, hl, q => by
    simp only [List.length_cons] at hl
    obtain ⟨⟨c, w, o, rfl, hw⟩, h2⟩ := h
    rw [W.compGo_cons]
    refine ⟨hP, ?_⟩
    simp [-W.seq_eq, W.seq_put]
    refine ⟨_, rfl, ?_⟩
    refine s_law_block hD ?_
    refine ⟨by (and_intros <;> omega), compR rs ps _ _ _ h2 (by simp; (and_intros <;> omega)) ?_⟩
    rw [hw]
    simpa [-W.seq_eq, W.seq_put, pv] using q
  | [], _ :: _, _, _, _, h, _, _ => h.elim
  | _ :: _, [], _, _, _, h, _, _ => h.elim
end
end Mine

namespace Mine
open PySem PySem.W PyProof.Rows

theorem eight_ix {v0 v1 v2 v3 v4 v5 v6 v7 r : Int} (h0 : 0 ≤ r) (h1 : r < 8) : ∃ v : Int, [V.int v0, .int v1, .int v2, .int v3, .int v4, .int v5, .int v6, .int v7][ixN [V.int v0, .int v1, .int v2, .int v3, .int v4, .int v5, .int v6, .int v7].length r]? = some (.int v) := by
  obtain ⟨k, rfl⟩ := Int.eq_ofNat_of_zero_le h0
  have hk : k < 8 := Int.ofNat_lt.mp h1
  exact match k, hk with
  | 0, _ => ⟨v0, rfl⟩
  | 1, _ => ⟨v1, rfl⟩
  | 2, _ => ⟨v2, rfl⟩
  | 3, _ => ⟨v3, rfl⟩
  | 4, _ => ⟨v4, rfl⟩
  | 5, _ => ⟨v5, rfl⟩
  | 6, _ => ⟨v6, rfl⟩
  | 7, _ => ⟨v7, rfl⟩
theorem bools_true (k : Nat) : boolsOf (List.replicate k (.bool true)) = some (List.replicate k true) := by
  induction k with
  | zero => rfl
  | succ k ih =>
    rw [List.replicate_succ, List.replicate_succ]
    show (boolsOf (List.replicate k (.bool true))).map (true :: ·) = _
    rw [ih]; rfl

section
variable {D : Wd} {P : Params} (hD : D.KF = HK P) {n : Nat} {hp : Hp} {L : Lay} {d : List (Int × V)} {fr : List Int} {aP aC : Addr} {cs : List Int} {bs : List Blk} {cT cB cR : Addr}
include hD
theorem l_form (b : Bx L hp aP aC cs) (ok : DOk d) (g : Good (mw d) fr L.lim bs) (hl2 : L.lim ≤ 1400) {K : Fl → Loc → Hp → Prop} (hK : ∀ loc H, K (.ret (.bool true)) loc H) (tT : Lst L hp aP cT ((useds 1024 bs).map pv)) (tB : Lst L hp aP cB ((frees 1024 bs).map pv)) (form : Int) (x0 x1 x4 x5 x6 x7 x11 x12 x13 : Option V) :
    (W.seq (W.asg (W.one 11) (W.call D 301 (n + 6 + 4) [(W.v 2), (W.v 3), (W.v 10), (W.v 8), (W.v 9)])) (W.seq (W.ret (W.bin wEq (W.comp (W.iter (W.call D 140 (n + 6 + 4) [(W.v 3)])) 1 [] (W.one 0) W.yes (W.app wTuple [(W.v 0)])) (W.v 11))) W.nil)) [x0, x1, some (.ref aP), some (.ref L.aH), x4, x5, x6, x7, some (.ref cT), some (.ref cB), some (.int form), x11, x12, x13] (L.put d fr hp) K := by
  have hble := g.bl.le
  simp [W.iter_eq, inner_eq]
  refine s_spoiled hD (n := n + 2) b ok g hl2 (fun c d' fr' hp' flt k' ok' l4 hfl hc n1 n2 => ?_) tT tB form
  have hlim : 1024 ≤ L.lim ∧ L.lim ≤ 2000 := by (and_intros <;> omega)
  refine s_heap_faults hD (n := n + 1) ok' k' hlim l4 fun c2 hc2 => ?_
  have p2 := Lay.put_none hc2
  rw [hfl]
  have hlen := faults_len (mw d') L.lim fr' hlim.1 hlim.2
  have hnm : ∀ p ∈ flt, p.2 ∈ namesL := fun p hp => by rw [← hfl] at hp; exact (faults_FOk _ _ _ p hp).1
  rw [hfl] at hlen
  have at2 : L.put d' fr' (hp'.set c2 (.list (flt.map fv))) c2 = some (.list (flt.map fv)) := by rw [Lay.put_ne p2.1 p2.2.1, Hp.set_self]
  refine ⟨_, rfl, _, at2, ?_⟩
  refine compU at2 flt [] none (by simp; (and_intros <;> omega)) ?_
  intro c3 hc3
  have p3 := Lay.put_none hc3
  have n2' : c ≠ c2 := Hp.ne_of p2.2.2 hc
  have atc : L.put d' fr' (hp'.set c2 (.list (flt.map fv))) c = some (.list (flt.map fv)) := by rw [Lay.put_ne n1 n2, Hp.set_ne _ _ n2']; exact hc
  have n3 : c ≠ c3 := Hp.ne_of hc3 atc
  rw [wEq_list (Hp.set_self _ _ _) (by rw [Hp.set_ne _ _ n3]; exact atc)]
  have hd := dat_fv hnm
  refine ⟨by simpa [-W.seq_eq, W.seq_put] using hd, hd, ?_⟩
  have e : eqL ([] ++ flt.map fv) (flt.map fv) = true := eqL_self hd
  rw [e]
  exact hK _ _

theorem l_named (b : Bx L hp aP aC cs) (ok : DOk d) (l4 : fr.length = 4) (hlim : 1024 ≤ L.lim ∧ L.lim ≤ 2000) {K : Fl → Loc → Hp → Prop} (hK : ∀ loc H, K (.ret (.bool true)) loc H) (x0 x1 x4 x5 x6 x7 x8 x9 x10 x11 x12 x13 : Option V) :
    (W.seq (W.asg (W.one 13) (W.app wList [(W.c (.str "bad_block")), (W.c (.str "not_joined")), (W.c (.str "marked")), (W.c (.str "not_free")), (W.c (.str "listed_twice")), (W.c (.str "wrong_list")), (W.c (.str "not_listed"))])) (W.seq (W.ret (W.bin wNotIn (W.c (.bool false)) (W.comp (W.iter (W.call D 140 (n + 6 + 4) [(W.v 3)])) 2 [13, 3] (W.many [0, 1]) W.yes (W.or2 (W.and2 (W.bin wLe (W.bin wSub (W.attr 108 "start" (W.v 3)) (W.c (.int 64))) (W.v 0)) (W.bin wIn (W.v 1) (W.v 2))) (W.bin wEq (W.v 1) (W.c (.str "not_free"))))))) W.nil)) [x0, x1, some (.ref aP), some (.ref L.aH), x4, x5, x6, x7, x8, x9, x10, x11, x12, x13] (L.put d fr hp) K := by
  have sC := fun (H : Hp) (K : List V → Hp → Prop) (PP : Hp → Prop) (hP : PP H) h1 cN h2 fl hf hl hq => compC (PP := PP) (H := H) (K := K) hP (aH := L.aH) (cN := cN) h1 h2 fl [] none none hf ⟨0, rfl⟩ hl hq
  generalize hX : (W.or2 (W.and2 (W.bin wLe (W.bin wSub (W.attr 108 "start" (W.v 3)) (W.c (.int 64))) (W.v 0)) (W.bin wIn (W.v 1) (W.v 2))) (W.bin wEq (W.v 1) (W.c (.str "not_free")))) = X at sC ⊢
  clear hX
  simp [W.iter_eq, inner_eq]
  intro cN hN
  have p0 := Lay.put_none hN
  rw [Lay.put_set p0.1 p0.2.1]
  have b0 := b.new (o := .list (namesL.map .str)) hN
  have t0 := Lst.mk' b hN (us := namesL.map .str)
  refine s_heap_faults hD (n := n + 1) ok b0.k hlim l4 fun c2 hc2 => ?_
  have p2 := Lay.put_none hc2
  have hlen := faults_len (mw d) L.lim fr hlim.1 hlim.2
  have b2 := b0.new (o := .list ((faultsP (mw d) L.lim fr).map fv)) hc2
  have t2 := t0.new (o := .list ((faultsP (mw d) L.lim fr).map fv)) hc2
  have a2 := Lst.mk' b0 hc2 (us := (faultsP (mw d) L.lim fr).map fv)
  refine ⟨_, rfl, _, a2.get, ?_⟩
  refine sC _ _ _ a2.get b2.k.f_start cN t2.get _ (faults_FOk _ _ _) (by simp; (and_intros <;> omega)) fun k => ?_
  intro c3 hc3
  rw [wNotIn_list (Hp.set_self _ _ _)]
  refine ⟨_, bools_true k, ?_⟩
  have e : ((List.replicate k true).any fun x => x == false) = false := List.any_eq_false.mpr fun x hx => by rw [(List.mem_replicate.mp hx).2]; simp
  rw [e]
  exact hK _ _

theorem l_scrib (b : Bx L hp aP aC cs) (ok : DOk d) (l4 : fr.length = 4) (hlim : 1088 ≤ L.lim ∧ L.lim ≤ 1400) {K : Fl → Loc → Hp → Prop} (hK : ∀ loc H, K (.ret (.bool true)) loc H) (x0 x1 x4 x5 x6 x7 x8 x9 x10 x11 x12 x13 : Option V) :
    (W.seq (W.for (W.range [(W.bin wAdd (W.c (.int 1)) (W.call D 263 (n + 6 + 4) [(W.v 2), (W.c (.int 6))]))]) (W.one 12) (W_law_b0 D (n + 6))) (W.seq (W.asg (W.one 13) (W.app wList [(W.c (.str "bad_block")), (W.c (.str "not_joined")), (W.c (.str "marked")), (W.c (.str "not_free")), (W.c (.str "listed_twice")), (W.c (.str "wrong_list")), (W.c (.str "not_listed"))])) (W.seq (W.ret (W.bin wNotIn (W.c (.bool false)) (W.comp (W.iter (W.call D 140 (n + 6 + 4) [(W.v 3)])) 2 [13, 3] (W.many [0, 1]) W.yes (W.or2 (W.and2 (W.bin wLe (W.bin wSub (W.attr 108 "start" (W.v 3)) (W.c (.int 64))) (W.v 0)) (W.bin wIn (W.v 1) (W.v 2))) (W.bin wEq (W.v 1) (W.c (.str "not_free"))))))) W.nil))) [x0, x1, some (.ref aP), some (.ref L.aH), x4, x5, x6, x7, x8, x9, x10, x11, x12, x13] (L.put d fr hp) K := by
  have sN := fun (hp : Hp) (d : List (Int × V)) (b : Bx L hp aP aC cs) (ok : DOk d) x12 => l_named hD (n := n) b ok l4 (by (and_intros <;> omega)) hK x0 x1 x4 x5 x6 x7 x8 x9 x10 x11 x12 x13
  generalize (W.seq (W.asg (W.one 13) (W.app wList [(W.c (.str "bad_block")), (W.c (.str "not_joined")), (W.c (.str "marked")), (W.c (.str "not_free")), (W.c (.str "listed_twice")), (W.c (.str "wrong_list")), (W.c (.str "not_listed"))])) (W.seq (W.ret (W.bin wNotIn (W.c (.bool false)) (W.comp (W.iter (W.call D 140 (n + 6 + 4) [(W.v 3)])) 2 [13, 3] (W.many [0, 1]) W.yes (W.or2 (W.and2 (W.bin wLe (W.bin wSub (W.attr 108 "start" (W.v 3)) (W.c (.int 64))) (W.v 0)) (W.bin wIn (W.v 1) (W.v 2))) (W.bin wEq (W.v 1) (W.c (.str "not_free"))))))) W.nil)) = X at sN ⊢
  rw [W.seq_eq, W.for_eq]
  have loop : ∀ (vs : List V) (hp : Hp) (d : List (Int × V)) (x12 : Option V), Bx L hp aP aC cs → DOk d → W.forGo (W.one 12) (W_law_b0 D (n + 6)) (fun _ => True) vs [x0, x1, some (.ref aP), some (.ref L.aH), x4, x5, x6, x7, x8, x9, x10, x11, x12, x13] (L.put d fr hp) (sq X K) := by
    intro vs
    induction vs with
    | nil =>
      intro hp d x12 b ok
      simp [-W.seq_eq, W.seq_put]
      exact sN hp d b ok x12
    | cons v vs ih =>
      intro hp d x12 b ok
      simp [-W.seq_eq, W.seq_put]
      rw [b.k.f_memory]
      refine ⟨_, rfl, b.k.mem.o_put_word ▸ trivial, ?_⟩
      rw [b.k.f_start, b.k.f_limit]
      simp [-W.seq_eq, W.seq_put]
      refine b_pick hD (n := n + 5) b (by (and_intros <;> omega)) (by (and_intros <;> omega)) fun r us r0 r1 b1 => ?_
      simp [-W.seq_eq, W.seq_put]
      intro c hc
      have p0 := Lay.put_none hc
      rw [Lay.put_set p0.1 p0.2.1]
      refine b_pick hD (n := n + 5) (b1.new hc) (by decide) (by decide) fun r2 us2 r20 r21 b3 => ?_
      rw [wIx_list ((Lst.mk' b1 hc).pick.get)]
      obtain ⟨w, hw⟩ := eight_ix (v0 := 0) (v1 := 1) (v2 := 17) (v3 := 33) (v4 := 64) (v5 := 1024) (v6 := 1040) (v7 := 4294967295) r20 r21
      refine ⟨by simp; (and_intros <;> omega), _, hw, ?_⟩
      refine s_put_word hD (n := n + 4) (a := 1024 + 4 * r) b3.k.mem b3.k.atW ok (by (and_intros <;> omega)) (by (and_intros <;> omega)) ?_
      rw [b3.k.setW]
      simp [-W.seq_eq, W.seq_put]
      exact ih _ _ _ b3 (ok.wr (by (and_intros <;> omega)) (by (and_intros <;> omega)))
  simp [-W.seq_eq, W.seq_put]
  refine b_pick hD (n := n + 5) b (by decide) (by decide) fun r us r0 r1 b1 => ?_
  simp [-W.seq_eq, W.seq_put]
  refine ⟨by unfold rangeOk; (and_intros <;> omega), ?_⟩
  exact loop _ _ _ _ b1 ok
end
end Mine

namespace Mine
open PySem PySem.W PyProof.Rows

section
variable {D : Wd} {P : Params} (hD : D.KF = HK P) {n : Nat} {hp : Hp} {L : Lay} {d : List (Int × V)} {fr : List Int} {aP aC : Addr} {cs : List Int} {bs : List Blk} {cR : Addr} {rs : List V}
include hD
theorem l_tail (b : Bx L hp aP aC cs) (ok : DOk d) (g : Good (mw d) fr L.lim bs) (hlim : 1088 ≤ L.lim ∧ L.lim ≤ 1400) {K : Fl → Loc → Hp → Prop} (hK : ∀ loc H, K (.ret (.bool true)) loc H) (tR : Lst L hp aP cR rs) (hr : Recs rs (useds 1024 bs)) (x0 x1 x4 x6 x7 x8 x9 x10 x11 x12 x13 : Option V) :
    (W.seq (W.asg (W.one 8) (W.comp (W.iter (W.app wSortedP [(W.v 5)])) 2 [] (W.many [0, 1]) W.yes (W.app wTup [(W.bin wSub (W.v 0) (W.c (.int 8))), (W.call D 275 (n + 6 + 4) [(W.bin wIx (W.v 1) (W.c (.int 1)))])]))) (W.seq (W.asg (W.one 9) (W.comp (W.iter (W.meth D 108 "blocks" 98 (n + 6 + 4) (W.v 3) [])) 3 [] (W.many [0, 1, 2]) (W.t (W.bin wIs (W.v 2) (W.c .none))) (W.app wTup [(W.v 0), (W.v 1)]))) (W.seq (W.ifs (W.or [(W.t (W.bin wNe (W.call D 140 (n + 6 + 4) [(W.v 3)]) (W.app wList []))), (W.t (W.bin wNe (W.call D 147 (n + 6 + 4) [(W.v 3)]) (W.app wSum [(W.comp (W.iter (W.v 8)) 2 [] (W.many [0, 1]) W.yes (W.v 1))])))]) (W.seq (W.ret (W.c (.bool false))) W.nil) W.nil) (W.seq (W.ifs (W.t (W.bin wNe (W.call D 154 (n + 6 + 4) [(W.v 3)]) (W.app wMax [(W.bin wAdd (W.app wList [(W.c (.int 0))]) (W.comp (W.iter (W.v 9)) 2 [] (W.many [0, 1]) W.yes (W.v 1)))]))) (W.seq (W.ret (W.c (.bool false))) W.nil) W.nil) (W.seq (W.asg (W.one 10) (W.call D 263 (n + 6 + 4) [(W.v 2), (W.c (.int 10))])) (W.seq (W.ifs (W.t (W.bin wLt (W.v 10) (W.c (.int 8)))) (W.seq (W.asg (W.one 11) (W.call D 301 (n + 6 + 4) [(W.v 2), (W.v 3), (W.v 10), (W.v 8), (W.v 9)])) (W.seq (W.ret (W.bin wEq (W.comp (W.iter (W.call D 140 (n + 6 + 4) [(W.v 3)])) 1 [] (W.one 0) W.yes (W.app wTuple [(W.v 0)])) (W.v 11))) W.nil)) W.nil) (W.seq (W.for (W.range [(W.bin wAdd (W.c (.int 1)) (W.call D 263 (n + 6 + 4) [(W.v 2), (W.c (.int 6))]))]) (W.one 12) (W_law_b0 D (n + 6))) (W.seq (W.asg (W.one 13) (W.app wList [(W.c (.str "bad_block")), (W.c (.str "not_joined")), (W.c (.str "marked")), (W.c (.str "not_free")), (W.c (.str "listed_twice")), (W.c (.str "wrong_list")), (W.c (.str "not_listed"))])) (W.seq (W.ret (W.bin wNotIn (W.c (.bool false)) (W.comp (W.iter (W.call D 140 (n + 6 + 4) [(W.v 3)])) 2 [13, 3] (W.many [0, 1]) W.yes (W.or2 (W.and2 (W.bin wLe (W.bin wSub (W.attr 108 "start" (W.v 3)) (W.c (.int 64))) (W.v 0)) (W.bin wIn (W.v 1) (W.v 2))) (W.bin wEq (W.v 1) (W.c (.str "not_free"))))))) W.nil))))))))) [x0, x1, some (.ref aP), some (.ref L.aH), x4, some (.ref cR), x6, x7, x8, x9, x10, x11, x12, x13] (L.put d fr hp) K := by
  have hl : L.lim ≤ 2000 := by (and_intros <;> omega)
  have hble := g.bl.le
  have hul := useds_len bs 1024
  have hfl := frees_len bs 1024
  have hrl := hr.length
  have sF := fun (K : Fl → Loc → Hp → Prop) hK (hp : Hp) (b : Bx L hp aP aC cs) cT cB tT tB form => l_form hD (n := n) (hp := hp) (K := K) (cT := cT) (cB := cB) b ok g (by (and_intros <;> omega)) hK tT tB form x0 x1 x4 (some (.ref cR)) x6 x7 x11 x12 x13
  have sS := fun (hp : Hp) (b : Bx L hp aP aC cs) x8 x9 x10 => l_scrib hD (n := n) (hp := hp) (K := K) b ok g.len hlim hK x0 x1 x4 (some (.ref cR)) x6 x7 x8 x9 x10 x11 x12 x13
  generalize (W.seq (W.asg (W.one 11) (W.call D 301 (n + 6 + 4) [(W.v 2), (W.v 3), (W.v 10), (W.v 8), (W.v 9)])) (W.seq (W.ret (W.bin wEq (W.comp (W.iter (W.call D 140 (n + 6 + 4) [(W.v 3)])) 1 [] (W.one 0) W.yes (W.app wTuple [(W.v 0)])) (W.v 11))) W.nil)) = XF at sF ⊢
  generalize (W.seq (W.for (W.range [(W.bin wAdd (W.c (.int 1)) (W.call D 263 (n + 6 + 4) [(W.v 2), (W.c (.int 6))]))]) (W.one 12) (W_law_b0 D (n + 6))) (W.seq (W.asg (W.one 13) (W.app wList [(W.c (.str "bad_block")), (W.c (.str "not_joined")), (W.c (.str "marked")), (W.c (.str "not_free")), (W.c (.str "listed_twice")), (W.c (.str "wrong_list")), (W.c (.str "not_listed"))])) (W.seq (W.ret (W.bin wNotIn (W.c (.bool false)) (W.comp (W.iter (W.call D 140 (n + 6 + 4) [(W.v 3)])) 2 [13, 3] (W.many [0, 1]) W.yes (W.or2 (W.and2 (W.bin wLe (W.bin wSub (W.attr 108 "start" (W.v 3)) (W.c (.int 64))) (W.v 0)) (W.bin wIn (W.v 1) (W.v 2))) (W.bin wEq (W.v 1) (W.c (.str "not_free"))))))) W.nil))) = XS at sS ⊢
  simp [-W.seq_eq, W.seq_put, W.iter_eq, inner_eq]
  -- the taken rows
  rw [wSortedP_list tR.get]
  refine ⟨by (and_intros <;> omega), _, recs_keys hr, ?_, fun c hc => ?_⟩
  · rw [List.pairwise_map]
    exact (useds_pw g.bl.tiles rfl).imp fun h => by (and_intros <;> omega)
  have p0 := Lay.put_none hc
  rw [Lay.put_set p0.1 p0.2.1]
  have b0 := b.new (o := .list rs) hc
  have t0 := Lst.mk' b hc (us := rs)
  refine ⟨_, rfl, _, t0.get, ?_⟩
  refine compR hD (n := n + 5) t0.get rs (useds 1024 bs) [] none none hr (by simp; (and_intros <;> omega)) ?_
  intro cT hT
  have p1 := Lay.put_none hT
  rw [Lay.put_set p1.1 p1.2.1, List.nil_append]
  have b1 := b0.new (o := .list ((useds 1024 bs).map pv)) hT
  have tT := Lst.mk' b0 hT (us := (useds 1024 bs).map pv)
  generalize (hp.set c (.list rs)).set cT (.list ((useds 1024 bs).map pv)) = hp1 at b1 tT ⊢
  simp [-W.seq_eq, W.seq_put, W.iter_eq, inner_eq]
  -- the bare ones
  refine ⟨b1.k.o_blocks ▸ trivial, ?_⟩
  refine s_blocks hD b1.k ok (n := n + 2) (by (and_intros <;> omega)) g.bl fun c2 hc2 => ?_
  have p2 := Lay.put_none hc2
  have b2 := b1.new (o := .list (blocksV 1024 bs)) hc2
  have tT2 := tT.new (o := .list (blocksV 1024 bs)) hc2
  have t2 := Lst.mk' b1 hc2 (us := blocksV 1024 bs)
  refine ⟨_, rfl, _, t2.get, ?_⟩
  refine compB t2.get bs 1024 [] none none none (by simp; (and_intros <;> omega)) ?_
  intro cB hB
  have p3 := Lay.put_none hB
  rw [Lay.put_set p3.1 p3.2.1, List.nil_append]
  have b3 := b2.new (o := .list ((frees 1024 bs).map pv)) hB
  have tT3 := tT2.new (o := .list ((frees 1024 bs).map pv)) hB
  have tB3 := Lst.mk' b2 hB (us := (frees 1024 bs).map pv)
  generalize (hp1.set c2 (.list (blocksV 1024 bs))).set cB (.list ((frees 1024 bs).map pv)) = hp3 at b3 tT3 tB3 ⊢
  simp [-W.seq_eq, W.seq_put, W.iter_eq, inner_eq]
  -- no fault
  refine s_heap_faults hD (n := n + 1) ok b3.k (by (and_intros <;> omega)) g.len fun c4 hc4 => ?_
  have p4 := Lay.put_none hc4
  rw [good_faults g hl]
  have b4 := b3.new (o := .list []) hc4
  have tT4 := tT3.new (o := .list []) hc4
  have tB4 := tB3.new (o := .list []) hc4
  have t4 := Lst.mk' b3 hc4 (us := [])
  simp only [List.map_nil]
  intro c5 hc5
  have p5 := Lay.put_none hc5
  rw [Lay.put_set p5.1 p5.2.1]
  have b5 := b4.new (o := .list []) hc5
  have tT5 := tT4.new (o := .list []) hc5
  have tB5 := tB4.new (o := .list []) hc5
  rw [wNe_list (t4.new (o := .list []) hc5).get (Lst.mk' b4 hc5 (us := [])).get]
  refine ⟨rfl, rfl, ?_⟩
  rw [eqL_nil]
  simp [-W.seq_eq, W.seq_put, W.iter_eq, inner_eq]
  generalize (hp3.set c4 (.list [])).set c5 (.list []) = hp5 at b5 tT5 tB5 ⊢
  -- the used bytes
  refine s_used_bytes hD (n := n + 1) b5.k ok (by (and_intros <;> omega)) g.bl ?_
  refine ⟨_, tT5.get, ?_⟩
  refine compS tT5.get (useds 1024 bs) [] none none (by simp; (and_intros <;> omega)) ?_
  intro c6 hc6
  have p6 := Lay.put_none hc6
  rw [Lay.put_set p6.1 p6.2.1, List.nil_append]
  have b6 := b5.new (o := .list (((useds 1024 bs).map (·.2)).map .int)) hc6
  have tT6 := tT5.new (o := .list (((useds 1024 bs).map (·.2)).map .int)) hc6
  have tB6 := tB5.new (o := .list (((useds 1024 bs).map (·.2)).map .int)) hc6
  rw [wSum_list (Lst.mk' b5 hc6 (us := ((useds 1024 bs).map (·.2)).map .int)).get]
  refine ⟨_, intsOf_map _, ?_⟩
  rw [used_sum bs 1024]
  generalize hp5.set c6 (.list (((useds 1024 bs).map (·.2)).map .int)) = hp6 at b6 tT6 tB6 ⊢
  simp [-W.seq_eq, W.seq_put, W.iter_eq, inner_eq]
  -- the largest
  refine s_largest_free hD (n := n + 1) b6.k ok (by (and_intros <;> omega)) g.bl ?_
  intro c7 hc7
  have p7 := Lay.put_none hc7
  rw [Lay.put_set p7.1 p7.2.1]
  have b7 := b6.new (o := .list [.int 0]) hc7
  have tT7 := tT6.new (o := .list [.int 0]) hc7
  have tB7 := tB6.new (o := .list [.int 0]) hc7
  have t7 := Lst.mk' b6 hc7 (us := [.int 0])
  refine ⟨_, tB7.get, ?_⟩
  refine compS tB7.get (frees 1024 bs) [] none none (by simp; (and_intros <;> omega)) ?_
  intro c8 hc8
  have p8 := Lay.put_none hc8
  rw [Lay.put_set p8.1 p8.2.1, List.nil_append]
  have b8 := b7.new (o := .list (((frees 1024 bs).map (·.2)).map .int)) hc8
  have tT8 := tT7.new (o := .list (((frees 1024 bs).map (·.2)).map .int)) hc8
  have tB8 := tB7.new (o := .list (((frees 1024 bs).map (·.2)).map .int)) hc8
  rw [wAdd_list (t7.new (o := .list (((frees 1024 bs).map (·.2)).map .int)) hc8).get (Lst.mk' b7 hc8 (us := ((frees 1024 bs).map (·.2)).map .int)).get]
  refine ⟨by simp; (and_intros <;> omega), fun c9 hc9 => ?_⟩
  have p9 := Lay.put_none hc9
  rw [Lay.put_set p9.1 p9.2.1]
  have e9 : ([.int 0] : List V) ++ ((frees 1024 bs).map (·.2)).map .int = (0 :: (frees 1024 bs).map (·.2)).map .int := rfl
  rw [e9]
  have b9 := b8.new (o := .list ((0 :: (frees 1024 bs).map (·.2)).map .int)) hc9
  have tT9 := tT8.new (o := .list ((0 :: (frees 1024 bs).map (·.2)).map .int)) hc9
  have tB9 := tB8.new (o := .list ((0 :: (frees 1024 bs).map (·.2)).map .int)) hc9
  rw [wMax_list (Lst.mk' b8 hc9 (us := (0 :: (frees 1024 bs).map (·.2)).map .int)).get]
  refine ⟨_, _, intsOf_map _, ?_⟩
  rw [larg_max bs 1024 0]
  generalize ((hp6.set c7 (.list [.int 0])).set c8 (.list (((frees 1024 bs).map (·.2)).map .int))).set c9 (.list ((0 :: (frees 1024 bs).map (·.2)).map .int)) = hp9 at b9 tT9 tB9 ⊢
  simp [-W.seq_eq, W.seq_put, W.iter_eq, inner_eq]
  -- the form
  refine b_pick hD (n := n + 5) b9 (by decide) (by decide) fun r us r0 r1 b10 => ?_
  have tT10 := tT9.pick (o := .list us)
  have tB10 := tB9.pick (o := .list us)
  refine ⟨fun _ => sF (sq XS K) (fun loc H => hK loc H) _ b10 cT cB tT10 tB10 r, fun _ => sS _ b10 _ _ _⟩
end
end Mine

namespace Mine
open PySem PySem.W PyProof.Rows

noncomputable def markW : List (Int × V) → List (Int × Int) → List (Int × V)
  | d, [] => d
  | d, p :: ps => markW (wr d (p.1 + 4) 4) ps
theorem markW_far : ∀ {ps : List (Int × Int)} {d : List (Int × V)} {j : Int}, (∀ p ∈ ps, j ≠ (p.1 + 4) / 4) → mw (markW d ps) j = mw d j
  | [], d, j, _ => rfl
  | p :: ps, d, j, h => by
    refine (markW_far fun q hq => h q (.tail _ hq)).trans ?_
    rw [mw_wr, if_neg (h p (.head _))]
theorem markW_at : ∀ {ps : List (Int × Int)} {d : List (Int × V)} {j : Int}, (∃ p ∈ ps, j = (p.1 + 4) / 4) → mw (markW d ps) j = 4
  | [], d, j, h => by obtain ⟨p, hp, _⟩ := h; cases hp
  | p :: ps, d, j, h => by
    show mw (markW (wr d (p.1 + 4) 4) ps) j = 4
    by_cases e : ∃ q ∈ ps, j = (q.1 + 4) / 4
    · exact markW_at e
    · rw [markW_far fun q hq h' => e ⟨q, hq, h'⟩]
      obtain ⟨q, hq, hj⟩ := h
      rcases List.mem_cons.mp hq with rfl | hq
      · rw [mw_wr, if_pos hj]; rfl
      · exact absurd ⟨q, hq, hj⟩ e

section
variable {D : Wd} {P : Params} (hD : D.KF = HK P) {n : Nat} {hp : Hp} {L : Lay} {d : List (Int × V)} {fr : List Int} {aP aC : Addr} {cs : List Int} {bs : List Blk} {cR : Addr} {rs : List V}
include hD
theorem compK {K : List V → Hp → Prop} : ∀ (rs2 : List V) (ps2 : List (Int × Int)) (hp : Hp) (acc : List V) (pacc : List (Int × Int)) (z : Option V), Bx L hp aP aC cs → Lst L hp aP cR rs → Recs rs2 ps2 → Recs acc pacc → acc.length + rs2.length ≤ 1000 →
    (∀ acc' s us', Recs acc' (pacc ++ s) → s.Sublist ps2 → Bx L (hp.set aP (.list us')) aP aC cs → K acc' (L.put d fr (hp.set aP (.list us')))) →
    W.compGo (W.one 0) (W.t (W.bin wEq (W.call D 263 (n + 5) [(W.v 1), (W.c (.int 2))]) (W.c (.int 0)))) (W.v 0) (fun hp => hp cR = some (.list rs)) rs2 [z, some (.ref aP)] (L.put d fr hp) acc K
  | [], [], hp, acc, pacc, z, b, t, _, hacc, hl, q => by
    simp only [W.compGo_nil]
    obtain ⟨us, g⟩ := b.atP
    have e := Hp.set_same g
    have := q acc [] us (by simpa [-W.seq_eq, W.seq_put, W.seq_set] using hacc) (List.Sublist.refl _) (by rw [e]; exact b)
    rw [e] at this
    exact ⟨t.get, this⟩
  | r :: rs2, p :: ps2, hp, acc, pacc, z, b, t, h, hacc, hl, q => by
    simp only [List.length_cons] at hl
    rw [W.compGo_cons]
    refine ⟨t.get, ?_⟩
    simp [-W.seq_eq, W.seq_put, W.seq_set]
    refine b_pick hD b (by decide) (by decide) fun x us r0 r1 b1 => ?_
    simp [-W.seq_eq, W.seq_put, W.seq_set]
    have t1 := t.pick (o := .list us)
    refine ⟨fun _ => ⟨by (and_intros <;> omega), ?_⟩, fun _ => ?_⟩
    · refine compK rs2 ps2 _ (acc ++ [r]) (pacc ++ [p]) (some r) b1 t1 h.2 (hacc.snoc h.1) (by simp; (and_intros <;> omega)) fun acc' s us' h1 h2 b2 => ?_
      rw [Hp.set_set] at b2 ⊢
      exact q acc' (p :: s) us' (by simpa [-W.seq_eq, W.seq_put, W.seq_set] using h1) (h2.cons_cons p) b2
    · refine compK rs2 ps2 _ acc pacc (some r) b1 t1 h.2 hacc (by (and_intros <;> omega)) fun acc' s us' h1 h2 b2 => ?_
      rw [Hp.set_set] at b2 ⊢
      exact q acc' s us' h1 (h2.cons p) b2
  | [], _ :: _, _, _, _, _, _, _, h, _, _, _ => h.elim
  | _ :: _, [], _, _, _, _, _, _, h, _, _, _ => h.elim

theorem l_swept (b : Bx L hp aP aC cs) (ok : DOk d) {us : List Blk} {a : Int} (f : Fresh (mw d) us a L.lim) (hlim : 1088 ≤ L.lim ∧ L.lim ≤ 1400) (tR : Lst L hp aP cR rs) (hr : Recs rs (useds 1024 us)) (hl : rs.length ≤ 12)
    {K : Fl → Loc → Hp → Prop} (x0 x1 x4 x6 x7 x8 x9 x10 x11 x12 x13 : Option V)
    (hK : ∀ (L' : Lay) (hp' : Hp) (d' : List (Int × V)) (fr' : List Int) (bs' : List Blk) (cR' : Addr) (rs' : List V) (x6 x7 : Option V), L'.lim = L.lim → L'.aH = L.aH → Bx L' hp' aP aC cs → DOk d' → Good (mw d') fr' L'.lim bs' → Lst L' hp' aP cR' rs' → Recs rs' (useds 1024 bs') →
      K .next [x0, x1, some (.ref aP), some (.ref L.aH), x4, some (.ref cR'), x6, x7, x8, x9, x10, x11, x12, x13] (L'.put d' fr' hp')) :
    (W.seq (W.asg (W.one 5) (W.comp (W.iter (W.v 5)) 1 [2] (W.one 0) (W.t (W.bin wEq (W.call D 263 (n + 6 + 4) [(W.v 1), (W.c (.int 2))]) (W.c (.int 0)))) (W.v 0))) (W.seq (W.for (W.iter (W.v 5)) (W.many [6, 7]) (W_law_b1 D (n + 6))) (W.seq (W.ex (W.call D 256 (n + 6 + 4) [(W.v 3)])) W.nil))) [x0, x1, some (.ref aP), some (.ref L.aH), x4, some (.ref cR), x6, x7, x8, x9, x10, x11, x12, x13] (L.put d (frT (decide (a < L.lim)) a (L.lim - a)) hp) K := by
  have g := f.good
  have t := f.bl.tiles
  have hU : useds 1024 (us ++ tailB a L.lim) = useds 1024 us := by
    rw [useds_app t]
    have : useds a (tailB a L.lim) = [] := by unfold tailB; split <;> rfl
    rw [this, List.append_nil]
  rw [← hU] at hr
  have hUp := useds_pw g.bl.tiles rfl
  have hUa : ∀ p ∈ useds 1024 (us ++ tailB a L.lim), 1024 ≤ p.1 ∧ p.1 + 16 ≤ L.lim ∧ p.1 % 16 = 0 := fun p hp => by
    obtain ⟨bk, h1, _, _⟩ := useds_addrs hp
    have := addrs_at g.bl.tiles rfl _ h1
    simp only at this; (and_intros <;> omega)
  generalize frT (decide (a < L.lim)) a (L.lim - a) = fr at g ⊢
  generalize us ++ tailB a L.lim = bs at g hr hUp hUa
  simp [-W.seq_eq, W.seq_put, W.seq_set, W.iter_eq, inner_eq]
  refine ⟨_, tR.get, ?_⟩
  refine compK hD (n := n + 5) rs (useds 1024 bs) hp [] [] none b tR hr trivial (by simp; (and_intros <;> omega)) fun rs' s us' hr' hs b1 => ?_
  rw [List.nil_append] at hr'
  intro c hc
  have p0 := Lay.put_none hc
  rw [Lay.put_set p0.1 p0.2.1]
  have b2 := b1.new (o := .list rs') hc
  have t2 := Lst.mk' b1 hc (us := rs')
  generalize (hp.set aP (.list us')).set c (.list rs') = hp2 at b2 t2 ⊢
  have hsa : ∀ p ∈ s, 1024 ≤ p.1 ∧ p.1 + 16 ≤ L.lim ∧ p.1 % 16 = 0 := fun p hp => hUa p (hs.subset hp)
  have loop : ∀ (rs2 : List V) (ps2 : List (Int × Int)) (d2 : List (Int × V)) (x6 x7 : Option V), Recs rs2 ps2 → (∀ p ∈ ps2, p ∈ s) → DOk d2 → markW d2 ps2 = markW d s →
      W.forGo (W.many [6, 7]) (W_law_b1 D (n + 6)) (fun hp => hp c = some (.list rs')) rs2 [x0, x1, some (.ref aP), some (.ref L.aH), x4, some (.ref c), x6, x7, x8, x9, x10, x11, x12, x13] (L.put d2 fr hp2) (sq (W.seq (W.ex (W.call D 256 (n + 6 + 4) [(W.v 3)])) W.nil) K) := by
    intro rs2
    induction rs2 with
    | nil =>
      intro ps2 d2 x6 x7 h hin ok2 hm
      cases ps2 with
      | cons => exact h.elim
      | nil =>
        have hm' : d2 = markW d s := hm
        subst hm'
        simp only [W.forGo_nil]
        refine ⟨t2.get, ?_⟩
        simp [-W.seq_eq, W.seq_put, W.seq_set]
        have hX : ∀ x ∈ s.map (·.1), x % 16 = 0 ∧ mw (markW d s) ((x + 4) / 4) = 4 := fun x hx => by
          obtain ⟨p, hp, rfl⟩ := List.mem_map.mp hx
          exact ⟨(hsa p hp).2.2, markW_at ⟨p, hp, rfl⟩⟩
        have far : ∀ j, (∀ x ∈ s.map (·.1), j ≠ (x + 4) / 4) → mw (markW d s) j = mw d j := fun j hj => markW_far fun p hp => hj _ (List.mem_map.mpr ⟨p, hp, rfl⟩)
        have lo : ∀ j, j < 256 → mw (markW d s) j = mw d j := fun j hj => markW_far fun p hp => by have := hsa p hp; (and_intros <;> omega)
        have hB : Bl (mw (markW d s)) 1024 (mark (s.map (·.1)) 1024 bs) L.lim := mark_Bl lo hX far rfl g.bl fun q hq hx => by
          obtain ⟨p, hp, e⟩ := List.mem_map.mp hx
          obtain ⟨bk, h1, h2, h3⟩ := useds_addrs (hs.subset hp)
          have := pw_eq (f := fun p : Int × Blk => p.1) (addrs_fun g.bl.tiles rfl) h1 hq e
          rw [← this]; exact h2
        have hU2 : useds 1024 (sw 0 (mark (s.map (·.1)) 1024 bs)) = s := by
          have tt := hB.tiles
          have pos : ∀ (bs : List Blk) (a e : Int), Tiles a bs e → ∀ b ∈ bs, 0 < b.s := by
            intro bs
            induction bs with
            | nil => intro a e _ b h; cases h
            | cons b r ih =>
              intro a e h b' hb'
              rcases List.mem_cons.mp hb' with rfl | h'
              · have := h.1; (and_intros <;> omega)
              · exact ih _ _ h.2 b' h'
          have := sw_useds (a := 1024) (p := 0) (Int.le_refl _) (pos _ _ _ tt)
          rw [Int.sub_zero] at this
          rw [this, mark_kept g.marks]
          exact sub_filter hs hUp
        refine s_sweep hD (n := n) b2.k ok2 (by (and_intros <;> omega)) hB fun c3 hp' d' fr' tt h1 k' keep ok' good lo' => ?_
        show K .next _ _
        have p3 := Lay.put_none h1
        have keep' : ∀ {x : Addr} {us : List V}, hp2 x = some (.list us) → x ≠ L.aF → hp' x = some (.list us) := fun {x us} e n => keep x _ e (fun q => by rw [q, b2.k.dH] at e; cases e) n
        obtain ⟨i, xx, y, hh, hrest⟩ := b2.hand.at_
        refine hK _ hp' d' fr' _ c rs' x6 x7 rfl rfl ⟨k', ⟨keep' b2.hand.cells b2.cF, b2.hand.short, b2.hand.ne, i, xx, y, keep' hh b2.pF, hrest⟩, b2.pW, Hp.ne_of p3.2.2 hh, b2.cW, Hp.ne_of p3.2.2 b2.hand.cells⟩ ok' good ⟨keep' t2.at_ t2.nF, t2.nP, t2.nW, Hp.ne_of p3.2.2 t2.at_⟩ (by rw [hU2]; exact hr')
    | cons r rs2 ih =>
      intro ps2 d2 x6 x7 h hin ok2 hm
      cases ps2 with
      | nil => exact h.elim
      | cons p ps2 =>
        obtain ⟨⟨cc, w, o, rfl, hw⟩, h2⟩ := h
        have hpa := hsa p (hin p (.head _))
        rw [W.forGo_cons]
        refine ⟨t2.get, ?_⟩
        simp [-W.seq_eq, W.seq_put, W.seq_set]
        rw [b2.k.f_memory]
        refine ⟨_, rfl, b2.k.mem.o_put_word ▸ trivial, ?_⟩
        have e4 : p.1 + 8 - 4 = p.1 + 4 := by (and_intros <;> omega)
        rw [e4]
        refine s_put_word hD (n := n + 4) (a := p.1 + 4) b2.k.mem b2.k.atW ok2 (by (and_intros <;> omega)) (by (and_intros <;> omega)) ?_
        rw [b2.k.setW]
        simp [-W.seq_eq, W.seq_put, W.seq_set]
        exact ih ps2 _ _ _ h2 (fun q hq => hin q (.tail _ hq)) (ok2.wr (by (and_intros <;> omega)) (by (and_intros <;> omega))) hm
  exact loop rs' s d _ _ hr' (fun p hp => hp) ok rfl

theorem s_law {sl : Addr} {svs : List Value} {sns : List Int} (hsl : D.s₁.heap.IsList sl svs.toArray) (hsi : IntsAre svs sns) (hsz : sns.length ≤ sizeLine) : Calls D 306 (n + 11) [.ref sl] (fun _ => none) (fun u _ => u = .bool true) := by
  refine c_law hD (n := n + 6) hsl hsi hsz rfl ?_
  have hK : ∀ (loc : Loc) (H : Hp), bodyPost (fun u _ => u = .bool true) (.ret (.bool true)) loc H := fun _ _ => rfl
  have hcl : (sns.take 63).length ≤ 63 := by rw [List.length_take]; (and_intros <;> omega)
  have sT := fun (aP aC : Addr) (cs : List Int) (L : Lay) hp d fr bs cR rs b ok g hlim tR hr x0 x1 x4 x6 x7 x8 x9 x10 x11 x12 x13 => l_tail hD (n := n) (L := L) (hp := hp) (d := d) (fr := fr) (bs := bs) (aP := aP) (aC := aC) (cs := cs) (cR := cR) (rs := rs) b ok g hlim hK tR hr x0 x1 x4 x6 x7 x8 x9 x10 x11 x12 x13
  have sW := fun (aP aC : Addr) (cs : List Int) (L : Lay) hp d us a cR rs b ok f hlim tR hr hl K x0 x1 x4 x6 x7 x8 x9 x10 x11 x12 x13 => l_swept hD (n := n) (L := L) (hp := hp) (d := d) (us := us) (a := a) (aP := aP) (aC := aC) (cs := cs) (cR := cR) (rs := rs) b ok f hlim tR hr hl (K := K) x0 x1 x4 x6 x7 x8 x9 x10 x11 x12 x13
  unfold W_law
  generalize (W.seq (W.asg (W.one 5) (W.comp (W.iter (W.v 5)) 1 [2] (W.one 0) (W.t (W.bin wEq (W.call D 263 (n + 6 + 4) [(W.v 1), (W.c (.int 2))]) (W.c (.int 0)))) (W.v 0))) (W.seq (W.for (W.iter (W.v 5)) (W.many [6, 7]) (W_law_b1 D (n + 6))) (W.seq (W.ex (W.call D 256 (n + 6 + 4) [(W.v 3)])) W.nil))) = XW at sW ⊢
  generalize (W.seq (W.asg (W.one 8) (W.comp (W.iter (W.app wSortedP [(W.v 5)])) 2 [] (W.many [0, 1]) W.yes (W.app wTup [(W.bin wSub (W.v 0) (W.c (.int 8))), (W.call D 275 (n + 6 + 4) [(W.bin wIx (W.v 1) (W.c (.int 1)))])]))) (W.seq (W.asg (W.one 9) (W.comp (W.iter (W.meth D 108 "blocks" 98 (n + 6 + 4) (W.v 3) [])) 3 [] (W.many [0, 1, 2]) (W.t (W.bin wIs (W.v 2) (W.c .none))) (W.app wTup [(W.v 0), (W.v 1)]))) (W.seq (W.ifs (W.or [(W.t (W.bin wNe (W.call D 140 (n + 6 + 4) [(W.v 3)]) (W.app wList []))), (W.t (W.bin wNe (W.call D 147 (n + 6 + 4) [(W.v 3)]) (W.app wSum [(W.comp (W.iter (W.v 8)) 2 [] (W.many [0, 1]) W.yes (W.v 1))])))]) (W.seq (W.ret (W.c (.bool false))) W.nil) W.nil) (W.seq (W.ifs (W.t (W.bin wNe (W.call D 154 (n + 6 + 4) [(W.v 3)]) (W.app wMax [(W.bin wAdd (W.app wList [(W.c (.int 0))]) (W.comp (W.iter (W.v 9)) 2 [] (W.many [0, 1]) W.yes (W.v 1)))]))) (W.seq (W.ret (W.c (.bool false))) W.nil) W.nil) (W.seq (W.asg (W.one 10) (W.call D 263 (n + 6 + 4) [(W.v 2), (W.c (.int 10))])) (W.seq (W.ifs (W.t (W.bin wLt (W.v 10) (W.c (.int 8)))) (W.seq (W.asg (W.one 11) (W.call D 301 (n + 6 + 4) [(W.v 2), (W.v 3), (W.v 10), (W.v 8), (W.v 9)])) (W.seq (W.ret (W.bin wEq (W.comp (W.iter (W.call D 140 (n + 6 + 4) [(W.v 3)])) 1 [] (W.one 0) W.yes (W.app wTuple [(W.v 0)])) (W.v 11))) W.nil)) W.nil) (W.seq (W.for (W.range [(W.bin wAdd (W.c (.int 1)) (W.call D 263 (n + 6 + 4) [(W.v 2), (W.c (.int 6))]))]) (W.one 12) (W_law_b0 D (n + 6))) (W.seq (W.asg (W.one 13) (W.app wList [(W.c (.str "bad_block")), (W.c (.str "not_joined")), (W.c (.str "marked")), (W.c (.str "not_free")), (W.c (.str "listed_twice")), (W.c (.str "wrong_list")), (W.c (.str "not_listed"))])) (W.seq (W.ret (W.bin wNotIn (W.c (.bool false)) (W.comp (W.iter (W.call D 140 (n + 6 + 4) [(W.v 3)])) 2 [13, 3] (W.many [0, 1]) W.yes (W.or2 (W.and2 (W.bin wLe (W.bin wSub (W.attr 108 "start" (W.v 3)) (W.c (.int 64))) (W.v 0)) (W.bin wIn (W.v 1) (W.v 2))) (W.bin wEq (W.v 1) (W.c (.str "not_free"))))))) W.nil))))))))) = XT at sT ⊢
  generalize hcs : sns.take 63 = cs at hcl
  rw [W.seq_eq]
  simp [-W.seq_eq, W.seq_put, W.seq_set, W.upto_eq]
  intro aC
  rw [show List.take 63 (sns.map V.int) = cs.map V.int by rw [← hcs, List.map_take]]
  rw [wSum_list (Hp.set_self _ _ _)]
  refine ⟨_, intsOf_map _, ?_⟩
  simp [-W.seq_eq, W.seq_put, W.seq_set]
  intro aP hP
  have nPC : aP ≠ aC := fun e => by rw [e, Hp.set_self] at hP; cases hP
  have hand0 : Hand ((Hp.set (fun _ => none) aC (.list (cs.map .int))).set aP (.list [.ref aC, .int 0, .int 0, .int (cs.sum % 100003 * 7)])) aP aC cs :=
    ⟨by rw [Hp.set_ne _ _ (Ne.symm nPC), Hp.set_self], hcl, nPC, 0, 0, _, Hp.set_self _ _ _, Int.le_refl _, by (and_intros <;> omega), Int.le_refl _, by have := Int.emod_nonneg cs.sum (b := 100003) (by decide); (and_intros <;> omega)⟩
  generalize (Hp.set (fun _ => none) aC (.list (cs.map .int))).set aP (.list [.ref aC, .int 0, .int 0, .int (cs.sum % 100003 * 7)]) = hp0 at hand0 ⊢
  refine s_pick hD (n := n + 5) hand0 (by decide) (by decide) fun r us r0 r1 hand1 => ?_
  simp [-W.seq_eq, W.seq_put, W.seq_set]
  refine s_law_area hD (n := n) hand1 (room := 4 + r) (by (and_intros <;> omega)) (by (and_intros <;> omega)) fun L hp1 d1 ks cK hlm b1 ok1 e1 e2 tK hk k1 k4 => ?_
  simp [-W.seq_eq, W.seq_put, W.seq_set]
  refine b_pick hD (n := n + 5) b1 (by decide) (by decide) fun r2 us2 r20 r21 b2 => ?_
  have f1 : Fresh (mw d1) [] 1024 L.lim := ⟨rfl, fun x hx => (by cases hx), by (and_intros <;> omega), by (and_intros <;> omega), fun _ => ⟨e1, e2⟩⟩
  have ed : frT true 1024 (L.lim - 1024) = frT (decide ((1024 : Int) < L.lim)) 1024 (L.lim - 1024) := by rw [decide_eq_true (by (and_intros <;> omega) : (1024 : Int) < L.lim)]
  rw [ed]
  have hlim : 1088 ≤ L.lim ∧ L.lim ≤ 1400 := by (and_intros <;> omega)
  refine s_law_made hD (n := n) b2 ok1 tK.pick hk k1 k4 hlim.2 f1 (most := r2) r20 (by (and_intros <;> omega)) fun hp3 d3 bu a rs cR b3 ok3 f3 tR hr hl => ?_
  refine b_pick hD (n := n + 5) b3 (by decide) (by decide) fun r4 us4 r40 r41 b4 => ?_
  simp [-W.seq_eq, W.seq_put, W.seq_set]
  refine ⟨fun _ => ?_, fun _ => ?_⟩
  · refine sW aP aC cs L _ d3 bu a cR rs b4 ok3 f3 hlim tR.pick hr hl _ _ _ _ _ _ _ _ _ _ _ _ fun L' hp' d' fr' bs' cR' rs' x6 x7 g1 g2 b' ok' good' tR' hr' => ?_
    rw [← g2]
    exact sT aP aC cs L' hp' d' fr' bs' cR' rs' b' ok' good' (by (and_intros <;> omega)) tR' hr' _ _ _ _ _ _ _ _ _ _ _
  · have hU : useds 1024 (bu ++ tailB a L.lim) = useds 1024 bu := by
      rw [useds_app f3.bl.tiles]
      have : useds a (tailB a L.lim) = [] := by unfold tailB; split <;> rfl
      rw [this, List.append_nil]
    exact sT aP aC cs L _ d3 _ (bu ++ tailB a L.lim) cR rs b4 ok3 f3.good hlim tR.pick (by rw [hU]; exact hr) _ _ _ _ _ _ _ _ _ _ _
end
end Mine

set_option maxRecDepth 100000
set_option maxHeartbeats 0
namespace Mine
open PySem PySem.W PyProof.Rows PySem.Calls
theorem left_of {p q : Program} {loose : List Str} {Xt : Shared → Bool} {α : Type} {Yf : Shared → α} {Ya : World → α} {N : Nat} {H0 : Params → Heap} {gs : Array GenState} {d : Drawn} {k : Nat}
    (open_ : ∀ w : World, (fencedOpening treeTable p w N).map (fun s => (s.heap, s.gens, s.drawn, s.toks)) = some (H0 w.params, gs, d, k))
    (run : ∀ (w : World) (os : OsState), (topFrom treeTable p w N ⟨H0 w.params, gs, d, k, os⟩).map (fun s => (openSeen q loose (importedModules p.main.body) Xt true s, Yf s)) = some (openGood q loose, Ya w)) : LeftO p q loose Xt Yf Ya N := by
  intro w
  obtain ⟨⟨h, gs', d', k', os⟩, e, e'⟩ := Option.map_eq_some_iff.mp (open_ w)
  simp only [Prod.mk.injEq] at e'
  obtain ⟨rfl, rfl, rfl, rfl⟩ := e'
  unfold openEnds
  rw [e]
  exact run w os
noncomputable def qv : Program := { PySem.Challenge.pw_nu0333_01 with main := { PySem.Challenge.pw_nu0333_01.main with body := [kTop 32] } }
noncomputable def qLoose : List Str := [Str.ofString "_wall", Str.ofString "GRAIN", Str.ofString "HEADER", Str.ofString "LISTS", Str.ofString "block_size", Str.ofString "list_number", Str.ofString "Heap", Str.ofString "told_size", Str.ofString "walk_faults", Str.ofString "list_faults", Str.ofString "heap_faults", Str.ofString "used_bytes", Str.ofString "largest_free", Str.ofString "YardError", Str.ofString "TrapError", Str.ofString "WORD", Str.ofString "Memory", Str.ofString "free_runs", Str.ofString "sweep", Str.ofString "_law_pick", Str.ofString "_law_area", Str.ofString "_law_block", Str.ofString "_law_made", Str.ofString "_law_listed", Str.ofString "_law_linked", Str.ofString "_law_spoiled"]
theorem hkAs_ok (P : Params) : hkAs = (HK P).map (·.1) := by kernel_rfl
noncomputable def hk : Hook := kHook HK hkAs hkAs_ok
noncomputable def qXt (s : Shared) : Bool := xlAt qv [] s && recOk [] s
noncomputable def qObs (s : Shared) : List (Option Obj) := hkAs.map s.heap.get?
noncomputable def qVal (w : World) : List (Option Obj) := (HK w.params).map fun p => some p.2
theorem open0 : ∀ w : World, (fencedOpening treeTable PySem.Challenge.pw_nu0333_01 w 4144).map (fun s => (s.heap, s.gens, s.drawn, s.toks)) = some (boot_heap w.params, Array.mk [], boot_drawn, boot_toks) :=
  boot_open (p := PySem.Challenge.pw_nu0333_01) (N := 4144) rfl rfl (fun s => by kernel_rfl)
theorem run0 : ∀ (w : World) (os : OsState), (topFrom treeTable PySem.Challenge.pw_nu0333_01 w 4144 ⟨boot_heap w.params, Array.mk [], boot_drawn, boot_toks, os⟩).map (fun s => (openSeen qv qLoose (importedModules PySem.Challenge.pw_nu0333_01.main.body) qXt true s, qObs s)) = some (openGood qv qLoose, qVal w) := by
  intro w os; kernel_rfl
theorem left3 : LeftO PySem.Challenge.pw_nu0333_01 qv qLoose qXt qObs qVal 4144 := left_of open0 run0
end Mine

namespace Mine
open PySem PySem.W PyProof.Rows PySem.Calls
theorem post_true (a : List WData) : PySem.Challenge.rw_nu0333_01.row.claim.post a (WData.bool true) a = true := by
  refine postW_of (X := true) ?_ ?_ rfl
  · first | rfl | decide
  · show WTm.value _ (.eq .res (.lit (.bool true))) _ = _
    simp [WTm.value]
    first | rfl | decide | decide +kernel | simp [PySem.W.same]
theorem said0 : PySem.Challenge.rw_nu0333_01.wellSaid = true := by kernel_rfl
theorem ok0 : (chainsOk qv && opensWell PySem.Challenge.pw_nu0333_01 && (PySem.W.frees (OpenRow.toRowW (OpenLaw.row PySem.Challenge.rw_nu0333_01)) && (OpenRow.toRowW (OpenLaw.row PySem.Challenge.rw_nu0333_01)).within.isEmpty)) = true := by kernel_rfl
theorem bare0 : PySem.Challenge.pw_nu0333_01.bare := ⟨rfl, rfl, rfl, rfl, rfl, by decide +kernel⟩
theorem prom0 : (OpenRow.toRowW (OpenLaw.row PySem.Challenge.rw_nu0333_01)).promised := by w_witness2
set_option maxRecDepth 100000 in
set_option maxHeartbeats 8000000 in
theorem law_holds : PySem.Challenge.rw_nu0333_01.Holds := by
  refine holds_law said0 fun said => ?_
  refine holds_open (r := OpenLaw.row PySem.Challenge.rw_nu0333_01) (q := qv) (loose := qLoose) (Xt := qXt) (XP := XL qv []) (Yf := qObs) (Ya := qVal) (YP := Hook.says hk) (N := 4144) left3 (Hook.of hk) (Hook.keeps hk) (fun s e => xl_of s (Bool.and_eq_true_iff.mp e).1) XL.keeps (by rfl) (by rfl) (by rfl) (fun s e => recFacts_of (Bool.and_eq_true_iff.mp e).2) (by rfl) said ok0 bare0 prom0 ?hc
  case hc =>
    intro w s₀ s₁ mg mb G Y fa o pm cd doc dV kV ho hd' hcd hD hmg hg args vals as hpre hlay hrd hwl hlo
    have KX := kIn_of Y
    refine Ground.open G ?_
    intro T B D TE TW
    wrow_args hpre hlay hrd hwl hlo
    all_goals (
      first | refine callC_kw (enter_call ?_) | refine enter_call ?_)
    rename_i sns _ _ _ _ _ _ _ sl svs _ hL _ _ _ hI _ hcond _
    have efa : fa = 306 := by
      have e : nsIn (HK w.params) mainGlobals "law" = some (some (.ref 306)) := by rfl
      have e1 := mg_of KX (topRead_of T).g e
      have e2 := hmg
      have : mg "law" = some (.ref fa) := e2
      rw [e1] at this
      cases this; rfl
    subst efa
    let DD : Wd := ⟨PySem.Challenge.rw_nu0333_01.row.prog, w, HK w.params, s₁, mg, mb, qv, looseW qv qLoose, KX, topRead_of T⟩
    have hlen : sns.length ≤ sizeLine := by
      have : sns.length ≤ 63 := by omega
      rw [sizeLine_eq]; omega
    have C := s_law (D := DD) (P := w.params) (n := 0) rfl hL hI hlen
    have S : Sim DD (fun a => (s₁.heap.get? a).isSome = true) (fun _ => none) s₁ := ⟨fun b o e => ⟨e, by show (s₁.heap.get? b).isSome = true; rw [e]; rfl⟩, fun a h => h, fun a o e => (by cases e), rfl, rfl⟩
    have AO : AOk callerA 11 := by
      refine ⟨rfl, ?_, ?_⟩
      · show 1 + claimMargin + 11 < recursionLimit
        decide
      · show 4 + 20 * 11 < cLine
        decide
    refine codeAny_mono (C callerA _ s₁ [.ref sl] AO S (.one rfl)) fun res s' h => ?_
    obtain ⟨v, u, hp', e, r, S', E, hu⟩ := h
    subst e hu
    unfold Rel at r; subst r
    exact ⟨.inl ⟨.bool true, .bool true, [], rfl, fun _ => rfl, .bool true, post_true _, fun _ => ⟨List.nodup_nil, fun a h => (by cases h)⟩⟩, OldK.of_keep fun b o e => (S'.base b o e).1, S'.os, AllBare.of_eq (S'.gens.trans hg)⟩
end Mine

theorem PySem.Challenge.cw_nu0333_01_holds : PySem.Challenge.rw_nu0333_01.Holds := by
  exact Mine.law_holds
